import PyProof.Rows.All
import Wide.All
import OpenK.AllK
import Wide.FinOn
import HandS.ForMost
import HandS.ForExc
import HandS.Flow
import HandS.IsInst
import HandS.Wide
import KE.KeyNested
import HandS.TupAny
import HandS.Style
import KE.IntBitsLaws
import HandS.NoneIn
import HandS.StrMore
import HandS.RaiseMore
import PyProof.ListStr
import HandS.More
import HandS.Conv
import HandS.HeadHook2
import HandS.HeadEnd
import HandS.Head0
import HandS.Head1
import HandS.Head2
import HandS.Ends
import KE.IntTextLaws
import PyProof.DictRoadsH
import KE.KDictPairs
import KE.KDictWalk
import KE.DataCmp
import KE.SortData
import HandS.DictTup
import HandS.SetTxt0
import HandS.SetFor
import HandS.TupSets
import KE.KRevSl
import HandS.Zip
import PyProof.Rows.Digits
import PyProof.ReprReads
import PyProof.StrLawsRepr
import PyProof.ReprText
import KE.KEqDict
import HandS.Finally
import HandS.SortInts
import KE.GoesEnum
import PyProof.Rows.SeqMore
import KE.GoesMore
import KE.GoesZip
import HandS.TupLen
import KE.KDictDisplayH
import HandS.TupMul
import HandS.ExcInit
import HandS.ExcOwn
import HandS.ExcIs
import HandS.ExcField
import HandS.ClsMeth
import HandS.WordsExc
import KE.KExcIs
import KE.KDictSum
import KE.KDictCopyH
import PySem.Challenge.RW_roundless_k24_whole_unlike_forms_part
import KE.KStateDown
import HandS.HeadHook1
set_option Elab.async false
set_option linter.all false
set_option maxRecDepth 100000
set_option maxHeartbeats 4000000
/-! Data layer, first part: data, results, mirrors of expressions and statements (plain Lean). -/
namespace DL
open PySem PySem.Spec PyProof.Rows L2
/-- a thing as data: what is never changed stands as a whole, what may be changed stands by its number in the store -/
inductive D where
  | non | bl (b : Bool) | int (i : Int) | str (x : Str)
  | tup (xs : List D) | lst (xs : List D) | dct (kvs : List (D × D)) | dcn (kvs : List (D × D))
  | ptr (k : Nat) | fn (x : Str) | ty (n : String) | lck (d : D) | tux (xs : List D) | exc (c : Str) (fs : List (D × D)) | dc0 (d : D)
  deriving Inhabited
abbrev Sl := List (Option D)
abbrev Sto := List D
inductive Res (A : Type) where
  | ok (a : A) (S : Sto)
  | err (c : Str) (fs : List (Str × D)) (S : Sto)
  | stuck
abbrev RE := Sl → Sto → Res D
abbrev RB := Sl → Sto → Res Bool
abbrev RA := Sl → Sto → Res (List D)
abbrev RG := D → Sl → Sto → Res Sl
abbrev Mir := List D → Sto → Res D
inductive Out where
  | nx (δ : Sl) (S : Sto) | rt (d : D) (S : Sto) | bk (δ : Sl) (S : Sto) | ct (δ : Sl) (S : Sto)
  | err (c : Str) (fs : List (Str × D)) (δ : Sl) (S : Sto) | stuck
abbrev RS := Sl → Sto → Out
def Res.bind {A B : Type} (r : Res A) (f : A → Sto → Res B) : Res B := match r with
  | .ok a S => f a S
  | .err c fs S => .err c fs S
  | .stuck => .stuck
def Res.out (δ : Sl) {A : Type} (r : Res A) (f : A → Sto → Out) : Out := match r with
  | .ok a S => f a S
  | .err c fs S => .err c fs δ S
  | .stuck => .stuck
def Res.lift {A : Type} (o : Option A) (S : Sto) : Res A := match o with
  | some a => .ok a S
  | none => .stuck
def deref (S : Sto) : D → D
  | .ptr k => match S.getD k .non with
    | .non => .ptr k
    | .lck d => d
    | d => d
  | d => d
/-! expressions -/
def rVar (i : Nat) : RE := fun δ S => match δ[i]? with
  | some (some d) => .ok d S
  | _ => .stuck
def rC (d : D) : RE := fun _ S => .ok d S
def rUn (g : Sto → D → Option D) (a : RE) : RE := fun δ S => (a δ S).bind fun x S1 => .lift (g S1 x) S1
def rBin (g : Sto → D → D → Option D) (a b : RE) : RE := fun δ S => (a δ S).bind fun x S1 => (b δ S1).bind fun y S2 => .lift (g S2 x y) S2
def rAs (g : Sto → List D → Option D) (a : RA) : RE := fun δ S => (a δ S).bind fun x S1 => .lift (g S1 x) S1
def rNil : RA := fun _ S => .ok [] S
def rCons (a : RE) (b : RA) : RA := fun δ S => (a δ S).bind fun x S1 => (b δ S1).bind fun ys S2 => .ok (x :: ys) S2
def rCall (m : Mir) (a : RA) : RE := fun δ S => (a δ S).bind m
def rIf (c : RB) (a b : RE) : RE := fun δ S => (c δ S).bind fun k S1 => if k then a δ S1 else b δ S1
def rOwn (a : RE) : RE := fun δ S => (a δ S).bind fun d S1 => .ok (.ptr S1.length) (S1 ++ [d])
def rTup (a : RA) : RE := fun δ S => (a δ S).bind fun xs S1 => if xs.length ≤ sizeLine then .ok (.tup xs) S1 else .stuck
def rLst (a : RA) : RE := fun δ S => (a δ S).bind fun xs S1 => if xs.length ≤ sizeLine then .ok (.lst xs) S1 else .stuck
def truth (S : Sto) (d : D) : Option Bool := match deref S d with
  | .non => some false
  | .bl b => some b
  | .int i => some (i != 0)
  | .str y => if y.length ≤ sizeLine then some ((y.length : Int) != 0) else none
  | .tup xs => some (!xs.isEmpty)
  | .lst xs => some (!xs.isEmpty)
  | _ => none
/-! tests -/
def bTru (a : RE) : RB := fun δ S => (a δ S).bind fun x S1 => .lift (truth S1 x) S1
def bAnd (a b : RB) : RB := fun δ S => (a δ S).bind fun k S1 => if k then b δ S1 else .ok false S1
def bOr (a b : RB) : RB := fun δ S => (a δ S).bind fun k S1 => if k then .ok true S1 else b δ S1
def bNot (a : RB) : RB := fun δ S => (a δ S).bind fun k S1 => .ok (!k) S1
/-! and, or, not as values -/
def rAnd (a b : RE) : RE := fun δ S => (a δ S).bind fun x S1 => (Res.lift (truth S1 x) S1).bind fun k S2 => if k then b δ S2 else .ok x S2
def rOr (a b : RE) : RE := fun δ S => (a δ S).bind fun x S1 => (Res.lift (truth S1 x) S1).bind fun k S2 => if k then .ok x S2 else b δ S2
def rNot (a : RE) : RE := fun δ S => (a δ S).bind fun x S1 => (Res.lift (truth S1 x) S1).bind fun k S2 => .ok (.bl (!k)) S2
/-! targets -/
def gName (i : Nat) : RG := fun d δ S => if i < δ.length then .ok (δ.set i (some d)) S else .stuck
def gNil : List D → Sl → Sto → Res Sl := fun ds δ S => match ds with
  | [] => .ok δ S
  | _ => .stuck
def gCons (g : RG) (u : List D → Sl → Sto → Res Sl) : List D → Sl → Sto → Res Sl := fun ds δ S => match ds with
  | d :: r => (g d δ S).bind fun δ1 S1 => u r δ1 S1
  | [] => .stuck
def gTup (u : List D → Sl → Sto → Res Sl) : RG := fun d δ S => match deref S d with
  | .tup ds => u ds δ S
  | .tux ds => u ds δ S
  | _ => .stuck
/-! statements -/
def sNext : RS := fun δ S => .nx δ S
def sSeq (a b : RS) : RS := fun δ S => match a δ S with
  | .nx δ1 S1 => b δ1 S1
  | o => o
def sAsg (e : RE) (g : RG) : RS := fun δ S => (e δ S).out δ fun d S1 => (g d δ S1).out δ fun δ1 S2 => .nx δ1 S2
def sExpr (e : RE) : RS := fun δ S => (e δ S).out δ fun _ S1 => .nx δ S1
def sRet (e : RE) : RS := fun δ S => (e δ S).out δ fun d S1 => .rt d S1
def sIf (c : RB) (a b : RS) : RS := fun δ S => (c δ S).out δ fun k S1 => if k then a δ S1 else b δ S1
def sBreak : RS := fun δ S => .bk δ S
def sCont : RS := fun δ S => .ct δ S
def sNever : RS := fun _ _ => .stuck
def forL (g : RG) (b : RS) : List D → RS
  | [], δ, S => .nx δ S
  | x :: xs, δ, S => (g x δ S).out δ fun δ1 S1 => match b δ1 S1 with
    | .nx δ2 S2 => forL g b xs δ2 S2
    | .ct δ2 S2 => forL g b xs δ2 S2
    | .bk δ2 S2 => .nx δ2 S2
    | o => o
def sFor (it : RA) (g : RG) (b : RS) : RS := fun δ S => (it δ S).out δ fun xs S1 => forL g b xs δ S1
def whileL (c : RB) (b : RS) : Nat → RS
  | 0, _, _ => .stuck
  | n + 1, δ, S => (c δ S).out δ fun k S1 => if k then (match b δ S1 with
    | .nx δ2 S2 => whileL c b n δ2 S2
    | .ct δ2 S2 => whileL c b n δ2 S2
    | .bk δ2 S2 => .nx δ2 S2
    | o => o) else .nx δ S1
def sWhile (fuel : Sl → Sto → Nat) (c : RB) (b : RS) : RS := fun δ S => whileL c b (fuel δ S) δ S
/-- the turns of a list comprehension; δ: the slots without its own names -/
def lcL (g : RG) (t : RB) (e : RE) : List D → Sl → Sto → Res (List D)
  | [], _, S => .ok [] S
  | x :: xs, δ, S => (g x δ S).bind fun δ1 S1 => (t δ1 S1).bind fun k S2 =>
    if k then (e δ1 S2).bind fun y S3 => (lcL g t e xs δ S3).bind fun ys S4 => .ok (y :: ys) S4 else lcL g t e xs δ S2
def wipeD (δ : Sl) : List Nat → Sl
  | [] => δ
  | v :: vs => (wipeD δ vs).set v none
def noErr {A : Type} (r : Res A) : Res A := match r with
  | .err _ _ _ => .stuck
  | r => r
def bYes : RB := fun _ S => .ok true S
def rLc (it : RA) (g : RG) (vs : List Nat) (t : RB) (e : RE) : RE := fun δ S => (it δ S).bind fun xs S1 =>
  (noErr (lcL g t e xs (wipeD δ vs) S1)).bind fun ys S2 => if ys.length ≤ sizeLine then .ok (.lst ys) S2 else .stuck
/-! keys of any depth -/
mutual
def keyN : D → Option NestedKey
  | .non => some .none
  | .bl b => some (.num (if b = true then 1 else 0))
  | .int i => some (.num i)
  | .str x => some (.text x)
  | .tup xs => (keyNs xs).map .tup
  | _ => none
def keyNs : List D → Option (List NestedKey)
  | [] => some []
  | d :: r => match keyN d, keyNs r with
    | some k, some ks => some (k :: ks)
    | _, _ => none
end
/-- a tuple that may be a key -/
def isKeyN (d : D) : Bool := match d with
  | .tup _ => (match keyN d with
    | some k => decide (k.depth ≤ 8)
    | none => false)
  | _ => false
def eqN (a b : D) : Bool := match keyN a, keyN b with
  | some x, some y => NestedKey.beq x y
  | _, _ => false
def lookN : List (D × D) → D → Option D
  | [], _ => none
  | (k, v) :: r, q => if eqN k q then some v else lookN r q
def replN : List (D × D) → D → D → List (D × D)
  | [], _, _ => []
  | (k, v) :: r, q, y => if eqN k q then (k, y) :: replN r q y else (k, v) :: replN r q y
def putN (kvs : List (D × D)) (q y : D) : List (D × D) := if (lookN kvs q).isSome then replN kvs q y else kvs ++ [(q, y)]
def mergeN (kvs more : List (D × D)) : List (D × D) := more.foldl (fun acc kv => putN acc kv.1 kv.2) kvs
/-! ghost steps -/
mutual
/-- nothing in it stands in the store from n on -/
def D.closed (n : Nat) : D → Bool
  | .ptr k => decide (k < n)
  | .tup xs => closedL n xs
  | .lst xs => closedL n xs
  | .dct kvs => closedK n kvs
  | .dcn kvs => closedK n kvs
  | .lck d => D.closed n d
  | .tux xs => closedL n xs
  | .exc _ fs => closedK n fs
  | .dc0 d => D.closed n d
  | _ => true
def closedL (n : Nat) : List D → Bool
  | [] => true
  | d :: r => D.closed n d && closedL n r
def closedK (n : Nat) : List (D × D) → Bool
  | [] => true
  | (k, v) :: r => D.closed n k && D.closed n v && closedK n r
end
/-- a thing of the store that is neither gone nor locked -/
def D.open : D → Bool
  | .non => false
  | .lck _ => false
  | _ => true
def D.owned : D → Bool
  | .lst _ => true
  | .dct _ => true
  | .dcn _ => true
  | _ => false
/-- a thing that a def made and gives away, to be changed further -/
def giveD (n : Nat) (d : D) (S1 : Sto) : Res D := match d with
  | .ptr k => (match S1[k]? with
    | some u => if u.owned && D.closed n u && decide (n ≤ k) && closedL n (S1.take n) then .ok (.ptr n) (S1.take n ++ [u]) else .stuck
    | none => .stuck)
  | _ => .stuck
/-- a def: n slots, its body; what it made itself in the store goes -/
def mDef (n : Nat) (b : RS) : Mir := fun ds S => match b (ds.map some ++ List.replicate (n - ds.length) none) S with
  | .rt d S1 => if D.closed S.length d && closedL S.length (S1.take S.length) then .ok d (S1.take S.length) else giveD S.length d S1
  | .nx _ S1 => if closedL S.length (S1.take S.length) then .ok .non (S1.take S.length) else .stuck
  | .err c fs _ S1 => if closedL S.length (fs.map (·.2)) && closedL S.length (S1.take S.length) then .err c fs (S1.take S.length) else .stuck
  | _ => .stuck
end DL
set_option Elab.async false
set_option linter.all false
set_option maxRecDepth 100000
set_option maxHeartbeats 4000000
set_option autoImplicit false
/-! Data layer: tuples that are made, known to the object. -/
namespace DL
open PySem PySem.Spec PyProof.Rows L2
abbrev Fg := PySem.W.Frag
/-- a tuple without a dict of its own -/
def PlT (K : Fg) (F : Hp) (a : Addr) (xs : List V) : Prop := SqT K F a xs ∧ ((∃ o, F a = some (.frz o (.tup xs)) ∧ o.dict = none) ∨ ∃ o, K.lookup a = some o ∧ o.dict = none)
/-- a tuple that is made at a new place -/
def TLays (H : Hp) (xs : List V) (Q : VK) : Prop := ∀ p, H p = none → ∀ o : Obj, o.dict = none → Q (.ref p) (upd H p (.frz o (.tup xs)))
def tupObj (us : Array Value) : Obj := { cls := .type "tuple", data := .seq us }
theorem tup_frz {P : Program} {w : World} {H : Hp} {h : Heap} {us : List Value} {xs : List V} (z : xs.length ≤ sizeLine) (r : Vals xs us) : ObjOk P w H (h.push (tupObj us.toArray)) h.objs.size (.frz (tupObj us.toArray) (.tup xs)) :=
  ⟨Heap.get?_push_size _ rfl, z, us, r, ⟨_, Heap.get?_push_size _ rfl, rfl, _, rfl⟩⟩
section
variable {X : Cx} {es : List Expr} {pos : Pos} {t : TA}
def tTupP (t : TA) : TE := fun σ H Q => t σ H fun xs H1 => xs.length ≤ sizeLine ∧ TLays H1 xs Q
theorem pe_tupP {x1} (h : PA X es t) : PE X (.Tuple es x1 pos) (tTupP t) := by
  refine ⟨fun pins s σ H Q I hq => ?_⟩
  refine wpAny_Tuple_spliced (thn (h.run pos pins s σ H _ I hq) fun us s1 ⟨xs, H1, I1, r, z, q⟩ => ⟨by rw [← r.length]; exact z, ?_⟩)
  have hf : H1 s1.heap.objs.size = none := I1.hok.fresh (Nat.le_refl _)
  exact ⟨.ref s1.heap.objs.size, upd H1 s1.heap.objs.size (.frz (tupObj us.toArray) (.tup xs)), I1.laid (t' := s1.toks) (fun b u e => Heap.get?_push_of_some _ e) (Nat.le_refl _) (tup_frz z r), rfl, q _ hf _ rfl⟩
theorem call_tuple_ofP : CallR X (.type "tuple") (fun xs H Q => ∃ p ys, xs = [.ref p] ∧ ((SqL X.K H p ys ∧ TLays H ys Q) ∨ (SqT X.K H p ys ∧ Q (.ref p) H))) := by
  intro pins s σ H xs us Q I r h
  obtain ⟨p, ys, rfl, h⟩ := h
  obtain ⟨u, rfl, rx⟩ := vals1 r
  cases rx
  rcases h with ⟨hq, q⟩ | ⟨hq, q⟩
  · obtain ⟨its, r', pl, hz⟩ := I.list hq
    have hlen := r'.length
    refine call_tuple_list pl.isList (fun h' kp => ?_) (by simp only [List.size_toArray] <;> omega)
    have I1 : Inv X pins σ H { s with heap := h' } := I.kept (t' := s.toks) kp
    have I2 : Inv X pins σ (upd H h'.objs.size (.frz (tupObj its.toArray) (.tup ys))) { s with heap := h'.push { cls := .type "tuple", data := .seq its.toArray } } :=
      I1.laid (t' := s.toks) (fun b o e => Heap.get?_push_of_some _ e) (Nat.le_refl _) (tup_frz hz r')
    exact ⟨.ref h'.objs.size, _, I2, rfl, q _ (I1.hok.fresh (Nat.le_refl _)) _ rfl⟩
  · obtain ⟨its, r', pl, hz⟩ := I.tuple hq
    exact call_tuple_same pl ⟨.ref p, H, I, rfl, q⟩
/-- t + u -/
def rCatP (K : Fg) : R2 := fun x y H Q => ∃ a b xs ys, x = .ref a ∧ y = .ref b ∧ SqT K H a xs ∧ SqT K H b ys ∧ xs.length + ys.length ≤ sizeLine ∧
  (xs = [] → Q (.ref b) H) ∧ (xs ≠ [] → ys = [] → Q (.ref a) H) ∧ (xs ≠ [] → ys ≠ [] → TLays H (xs ++ ys) Q)
theorem op_catP : OpR X (binaryOp .Add) (rCatP X.K) := by
  intro pins s σ H x y v u Q I rx ry h
  obtain ⟨a, b, xs, ys, rfl, rfl, ha, hb, hz, q0, q1, q2⟩ := h
  cases rx
  cases ry
  obtain ⟨its, r1, p1, _⟩ := I.tuple ha
  obtain ⟨its2, r2, p2, _⟩ := I.tuple hb
  by_cases hx : xs = []
  · subst hx
    cases r1
    exact cat_tup0 p1 p2 ⟨.ref b, H, I, rfl, q0 rfl⟩
  · refine HT.cat_tup p1 p2 (fun z => hx (r1.nil_iff.mp z)) (fun z => ⟨.ref a, H, I, rfl, q1 hx (r2.nil_iff.mp z)⟩) (fun z => ?_) (by rw [← r1.length, ← r2.length]; exact hz)
    exact ⟨.ref s.heap.objs.size, _, I.laid (t' := s.toks) (o := .frz (tupObj (its ++ its2).toArray) (.tup (xs ++ ys))) (fun b ob q => Heap.get?_push_of_some _ q) (Nat.le_refl _) (tup_frz (by rw [List.length_append]; exact hz) (r1.append r2)), rfl, q2 hx (fun w => z (r2.nil_iff.mpr w)) _ (I.hok.fresh (Nat.le_refl _)) _ rfl⟩
/-- t[lo:hi]: the whole of it is t itself -/
def rSlP (K : Fg) : V → Option Int → Option Int → Hp → VK → Prop := fun x lo hi H Q => ∃ a xs, x = .ref a ∧ SqT K H a xs ∧
  (HT.sIx xs.length 0 lo = 0 ∧ HT.sIx xs.length xs.length hi = xs.length → Q (.ref a) H) ∧ (¬ (HT.sIx xs.length 0 lo = 0 ∧ HT.sIx xs.length xs.length hi = xs.length) → TLays H (cutV xs lo hi) Q)
theorem sl_tupP : SlR X (rSlP X.K) := by
  intro pins s σ H x v vl vu lo hi sl Q I rx hs pl pu h
  obtain ⟨a, xs, rfl, hx, q1, q2⟩ := h
  cases rx
  obtain ⟨its, r, ht, hz⟩ := I.tuple hx
  have hlen : its.toArray.size = xs.length := by rw [List.size_toArray]; exact r.length.symm
  refine ⟨"tuple", _, PyProof.Rows.slot_tuple_getitem.lookup, ht.typeIs, ?_⟩
  by_cases hw : HT.sIx xs.length 0 lo = 0 ∧ HT.sIx xs.length xs.length hi = xs.length
  · exact getItem_tuple_whole ht hs pl pu (by rw [hlen]; exact hw) ⟨.ref a, H, I, rfl, q1 hw⟩
  · refine HT.getItem_tuple_cut ht hs pl pu (by rw [hlen]; exact hw) ?_ (by rw [hlen]; exact hz)
    rw [hlen]
    exact ⟨.ref s.heap.objs.size, _, I.laid (t' := s.toks) (o := .frz (tupObj _) (.tup (cutV xs lo hi))) (fun b ob q => Heap.get?_push_of_some _ q) (Nat.le_refl _) (tup_frz (Nat.le_trans (cutV_length xs lo hi) hz) ((r.drop (HT.sIx xs.length 0 lo)).take (HT.sIx xs.length xs.length hi - HT.sIx xs.length 0 lo))), rfl, q2 hw _ (I.hok.fresh (Nat.le_refl _)) _ rfl⟩
end
end DL
set_option Elab.async false
set_option linter.all false
set_option maxRecDepth 100000
set_option maxHeartbeats 4000000
set_option autoImplicit false
/-! Data layer, second part: what data are in the heap; the judgements. -/
namespace DL
open PySem PySem.Spec PyProof.Rows L2
/-- a dict of one pair, its key None -/
def dz (a : Addr) (o : Obj) (v : V) : HO := .ext fun h => (a == sysModules) = false ∧ h.get? a = some o ∧ o.ExactDict ∧ ∃ (ep : Nat) (e : DictEntry), e.key = .none ∧ RelV v e.val ∧ o.data = .dict #[e] ep
/-- an exception that was caught, at a: of the class cls, its dict -/
def exh (a : Addr) (cls : Value) (d : Option Addr) : HO := .ext fun h => ∃ (oe : Obj) (vs : Array Value), h.get? a = some oe ∧ Zc cls d oe ∧ oe.data = .fields vs
def ExFs (F : Hp) (d : Option Addr) (ws : List (Str × V)) : Prop := (d = none ∧ ws = []) ∨ ∃ dd, d = some dd ∧ F dd = some (.xd ws)
inductive DKs : List Key → List D → Prop
  | nil : DKs [] []
  | int {i : Int} {ks : List Key} {ds : List D} : DKs ks ds → DKs (.inl i :: ks) (.int i :: ds)
  | str {x : Str} {ks : List Key} {ds : List D} : DKs ks ds → DKs (.inr x :: ks) (.str x :: ds)
theorem DKs.length : ∀ {ks : List Key} {ds : List D}, DKs ks ds → ks.length = ds.length
  | _, _, .nil => rfl
  | _, _, .int t => by rw [List.length_cons, List.length_cons, DKs.length t]
  | _, _, .str t => by rw [List.length_cons, List.length_cons, DKs.length t]
mutual
inductive DV (wd : World) (K : Fg) (mg : Str → Option Value) (F : Hp) (α : List Addr) : V → D → Prop
  | non : DV wd K mg F α .non .non
  | bl (b : Bool) : DV wd K mg F α (.bl b) (.bl b)
  | int (i : Int) : DV wd K mg F α (.int i) (.int i)
  | str (x : Str) : DV wd K mg F α (.str x) (.str x)
  | tux {a : Addr} {xs : List V} {ds : List D} : SqT K F a xs → DVs wd K mg F α xs ds → DV wd K mg F α (.ref a) (.tux ds)
  | tup {a : Addr} {xs : List V} {ds : List D} : PlT K F a xs → DVs wd K mg F α xs ds → DV wd K mg F α (.ref a) (.tup ds)
  | lst {a : Addr} {xs : List V} {ds : List D} : SqL K F a xs → DVs wd K mg F α xs ds → DV wd K mg F α (.ref a) (.lst ds)
  | ptr {k : Nat} {a : Addr} : α[k]? = some a → DV wd K mg F α (.ref a) (.ptr k)
  | fn {x : Str} {a : Addr} : mg x = some (.ref a) → DV wd K mg F α (.ref a) (.fn x)
  | ty (n : String) : DV wd K mg F α (.ty n) (.ty n)
  | exc {c : Str} {C a : Addr} {d : Option Addr} {ws : List (Str × V)} {fs : List (D × D)} : mg c = some (.ref C) → F a = some (exh a (.ref C) d) → ExFs F d ws → fs.map (·.1) = ws.map (fun p => .str p.1) → DVs wd K mg F α (ws.map (·.2)) (fs.map (·.2)) → DV wd K mg F α (.ref a) (.exc c fs)
  | dc0 {a : Addr} {o : Obj} {v : V} {d : D} : F a = some (dz a o v) → DV wd K mg F α v d → DV wd K mg F α (.ref a) (.dc0 d)
inductive DVs (wd : World) (K : Fg) (mg : Str → Option Value) (F : Hp) (α : List Addr) : List V → List D → Prop
  | nil : DVs wd K mg F α [] []
  | cons {v : V} {d : D} {vs : List V} {ds : List D} : DV wd K mg F α v d → DVs wd K mg F α vs ds → DVs wd K mg F α (v :: vs) (d :: ds)
end
/-- more stands for good -/
def Sub (F F' : Hp) : Prop := ∀ a o, F a = some o → F' a = some o
theorem Sub.refl (F : Hp) : Sub F F := fun _ _ h => h
theorem Sub.trans {F F1 F2 : Hp} (a : Sub F F1) (b : Sub F1 F2) : Sub F F2 := fun x o h => b x o (a x o h)
theorem Sub.sqL {K : Fg} {F F' : Hp} {a : Addr} {xs : List V} (s : Sub F F') (h : SqL K F a xs) : SqL K F' a xs := by
  rcases h with (h | ⟨o, h⟩) | h
  · exact .inl (.inl (s _ _ h))
  · exact .inl (.inr ⟨o, s _ _ h⟩)
  · exact .inr h
theorem Sub.sqT {K : Fg} {F F' : Hp} {a : Addr} {xs : List V} (s : Sub F F') (h : SqT K F a xs) : SqT K F' a xs := by
  rcases h with (h | ⟨o, h⟩) | h
  · exact .inl (.inl (s _ _ h))
  · exact .inl (.inr ⟨o, s _ _ h⟩)
  · exact .inr h
theorem Sub.plT {K : Fg} {F F' : Hp} {a : Addr} {xs : List V} (s : Sub F F') (h : PlT K F a xs) : PlT K F' a xs := ⟨s.sqT h.1, h.2.imp (fun ⟨o, e, q⟩ => ⟨o, s _ _ e, q⟩) id⟩
theorem Sub.new {F : Hp} {a : Addr} {o : HO} (h : F a = none) : Sub F (upd F a o) := fun b u e => by
  have : b ≠ a := fun z => by subst z; rw [h] at e; cases e
  rw [upd_ne this]; exact e
section
variable {wd : World} {K : Fg} {mg : Str → Option Value} {F F' : Hp} {α β : List Addr}
theorem at_app {A : Type} {l m : List A} {k : Nat} {a : A} (h : l[k]? = some a) : (l ++ m)[k]? = some a := by
  obtain ⟨hk, e⟩ := List.getElem?_eq_some_iff.mp h
  rw [List.getElem?_append_left hk]; exact h
mutual
theorem DV.mono {v : V} {d : D} (s : Sub F F') : DV wd K mg F α v d → DV wd K mg F' (α ++ β) v d
  | .non => .non
  | .bl b => .bl b
  | .int i => .int i
  | .str x => .str x
  | .tup h t => .tup (s.plT h) (DVs.mono s t)
  | .tux h t => .tux (s.sqT h) (DVs.mono s t)
  | .lst h t => .lst (s.sqL h) (DVs.mono s t)
  | .ptr h => .ptr (at_app h)
  | .fn h => .fn h
  | .ty n => .ty n
  | .exc h1 h2 h3 h4 h5 => .exc h1 (s _ _ h2) (h3.imp id fun ⟨dd, e, q⟩ => ⟨dd, e, s _ _ q⟩) h4 (DVs.mono s h5)
  | .dc0 h t => .dc0 (s _ _ h) (DV.mono s t)
theorem DVs.mono {vs : List V} {ds : List D} (s : Sub F F') : DVs wd K mg F α vs ds → DVs wd K mg F' (α ++ β) vs ds
  | .nil => .nil
  | .cons h t => .cons (DV.mono s h) (DVs.mono s t)
end
theorem DVs.length : ∀ {vs : List V} {ds : List D}, DVs wd K mg F α vs ds → vs.length = ds.length
  | _, _, .nil => rfl
  | _, _, .cons _ t => by rw [List.length_cons, List.length_cons, DVs.length t]
theorem DVs.get : ∀ {vs : List V} {ds : List D} {i : Nat} {d : D}, DVs wd K mg F α vs ds → ds[i]? = some d → ∃ v, vs[i]? = some v ∧ DV wd K mg F α v d
  | _, _, _, _, .nil, e => by simp at e
  | _, _, 0, _, .cons h _, e => by simp at e; subst e; exact ⟨_, rfl, h⟩
  | _, _, i + 1, d, .cons _ t, e => by
    obtain ⟨v, h1, h2⟩ := DVs.get (i := i) (d := d) t (by simpa using e)
    exact ⟨v, by simpa using h1, h2⟩
theorem DVs.append : ∀ {vs ws : List V} {ds es : List D}, DVs wd K mg F α vs ds → DVs wd K mg F α ws es → DVs wd K mg F α (vs ++ ws) (ds ++ es)
  | _, _, _, _, .nil, s => s
  | _, _, _, _, .cons h t, s => .cons h (DVs.append t s)
theorem DVs.take : ∀ {vs : List V} {ds : List D} (n : Nat), DVs wd K mg F α vs ds → DVs wd K mg F α (vs.take n) (ds.take n)
  | _, _, 0, _ => .nil
  | _, _, _ + 1, .nil => .nil
  | _, _, n + 1, .cons h t => .cons h (DVs.take n t)
theorem DVs.drop : ∀ {vs : List V} {ds : List D} (n : Nat), DVs wd K mg F α vs ds → DVs wd K mg F α (vs.drop n) (ds.drop n)
  | _, _, 0, h => h
  | _, _, _ + 1, .nil => .nil
  | _, _, n + 1, .cons _ t => DVs.drop n t
theorem DVs.set {v : V} {d : D} (h : DV wd K mg F α v d) : ∀ {vs : List V} {ds : List D} (i : Nat), DVs wd K mg F α vs ds → DVs wd K mg F α (vs.set i v) (ds.set i d)
  | _, _, _, .nil => .nil
  | _, _, 0, .cons _ t => .cons h t
  | _, _, i + 1, .cons q t => .cons q (DVs.set h i t)
theorem DVs.ints : ∀ {vs : List V} {ns : List Int}, DVs wd K mg F α vs (ns.map .int) → vs = ns.map .int
  | _, [], h => by cases h; rfl
  | _, n :: r, h => by
    cases h with
    | cons h t => cases h; rw [DVs.ints t]; rfl
theorem DVs.bls : ∀ {vs : List V} {ns : List Bool}, DVs wd K mg F α vs (ns.map .bl) → vs = ns.map .bl
  | _, [], h => by cases h; rfl
  | _, n :: r, h => by
    cases h with
    | cons h t => cases h; rw [DVs.bls t]; rfl
theorem DVs.of_ints : ∀ ns : List Int, DVs wd K mg F α (ns.map .int) (ns.map .int)
  | [] => .nil
  | n :: r => .cons (.int n) (DVs.of_ints r)
theorem DVs.of_strs : ∀ ns : List Str, DVs wd K mg F α (ns.map .str) (ns.map .str)
  | [] => .nil
  | n :: r => .cons (.str n) (DVs.of_strs r)
end
/-- values beside values -/
def NV : List (NestedKey × Addr × V) → List (NestedKey × Addr × Value) → Prop := Paired fun p q => p.1 = q.1 ∧ p.2.1 = q.2.1 ∧ RelV p.2.2 q.2.2
/-- a dict whose keys are tuples -/
def dN (w : World) (a : Addr) (xs : List (NestedKey × Addr × V)) : HO := .ext fun h => (a == sysModules) = false ∧ xs.length ≤ sizeLine ∧ (xs.map (·.1)).Nodup ∧ ∃ vs, NV xs vs ∧ ∃ o es ep, h.get? a = some o ∧ o.ExactDict ∧ o.data = .dict es ep ∧ es.toList = vs.map (fun x => (⟨x.1.hash w, .ref x.2.1, x.2.2⟩ : DictEntry))
/-- its pairs -/
inductive NVs (wd : World) (K : Fg) (mg : Str → Option Value) (F : Hp) (α : List Addr) : List (NestedKey × Addr × V) → List (D × D) → Prop
  | nil : NVs wd K mg F α [] []
  | cons {nk : NestedKey} {b : Addr} {v : V} {q d : D} {xs : List (NestedKey × Addr × V)} {kvs : List (D × D)} : keyN q = some nk → nk.depth ≤ 8 → DV wd K mg F α (.ref b) q → (∃ ds, q = .tup ds) → DV wd K mg F α v d → NVs wd K mg F α xs kvs → NVs wd K mg F α ((nk, b, v) :: xs) ((q, d) :: kvs)
theorem NVs.mono {wd : World} {K : Fg} {mg : Str → Option Value} {F F' : Hp} {α β : List Addr} {xs : List (NestedKey × Addr × V)} {kvs : List (D × D)} (s : Sub F F') (h : NVs wd K mg F α xs kvs) : NVs wd K mg F' (α ++ β) xs kvs := by
  induction h with
  | nil => exact .nil
  | cons h1 h2 h3 h4 h6 _ ih => exact .cons h1 h2 (h3.mono s) h4 (h6.mono s) ih
/-- the store's object at a is d -/
def Own (wd : World) (K : Fg) (mg : Str → Option Value) (F : Hp) (α : List Addr) (H : Hp) (a : Addr) : D → Prop
  | .lst ds => ∃ xs, H a = some (.lst xs) ∧ DVs wd K mg F α xs ds
  | .dct kvs => ∃ ws : List (Key × V), H a = some (.dK ws) ∧ DKs (ws.map (·.1)) (kvs.map (·.1)) ∧ DVs wd K mg F α (ws.map (·.2)) (kvs.map (·.2))
  | .dcn kvs => ∃ xs, H a = some (dN wd a xs) ∧ NVs wd K mg F α xs kvs
  | .lck (.dct kvs) => ∃ o, ∃ ws : List (Key × V), F a = some (.frz o (.dK ws)) ∧ H a = some (.frz o (.dK ws)) ∧ DKs (ws.map (·.1)) (kvs.map (·.1)) ∧ DVs wd K mg F α (ws.map (·.2)) (kvs.map (·.2))
  | .lck (.dcn kvs) => ∃ o xs, F a = some (.frz o (dN wd a xs)) ∧ H a = some (.frz o (dN wd a xs)) ∧ NVs wd K mg F α xs kvs
  | .non => True
  | _ => False
structure Rel (wd : World) (K : Fg) (mg : Str → Option Value) (α : List Addr) (F H : Hp) (S : Sto) : Prop where
  sub : Sub F H
  len : α.length = S.length
  nd : α.Nodup
  here : ∀ a ∈ α, ∃ o, H a = some o
  own : ∀ (k : Nat) (a : Addr) (d : D), α[k]? = some a → S[k]? = some d → Own wd K mg F α H a d ∧ (d.open = true → F a = none)
/-- what stood and isn't the store's stands -/
structure Stp (α : List Addr) (F H : Hp) (β : List Addr) (F' H' : Hp) : Prop where
  new : ∀ b ∈ β, H b = none
  sub : Sub F F'
  frame : ∀ a o, a ∉ α → H a = some o → H' a = some o
  live : ∀ a, H' a = none → H a = none
  fnew : ∀ a, a ∉ α → F a = none → H a ≠ none → F' a = none
theorem Stp.refl {α : List Addr} {F H : Hp} : Stp α F H [] F H := ⟨(fun _ h => nomatch h), Sub.refl F, fun _ _ _ h => h, fun _ h => h, fun _ _ h _ => h⟩
theorem Stp.trans {α β γ : List Addr} {F H F1 H1 F2 H2 : Hp} (a : Stp α F H β F1 H1) (b : Stp (α ++ β) F1 H1 γ F2 H2) : Stp α F H (β ++ γ) F2 H2 := by
  have fr : ∀ x o, x ∉ α → H x = some o → H2 x = some o := fun x o n e => b.frame x o (fun z => by
    rcases List.mem_append.mp z with z | z
    · exact n z
    · rw [a.new x z] at e; cases e) (a.frame x o n e)
  refine ⟨fun x hx => ?_, a.sub.trans b.sub, fr, fun x h => a.live x (b.live x h), fun x h1 h2 h3 => b.fnew x (fun z => ?_) (a.fnew x h1 h2 h3) fun z => h3 (a.live x z)⟩
  rotate_left
  · rcases List.mem_append.mp z with z | z
    · exact h1 z
    · exact h3 (a.new x z)
  rcases List.mem_append.mp hx with z | z
  · exact a.new x z
  · exact a.live x (b.new x z)
section
variable {wd : World} {K : Fg} {mg : Str → Option Value} {α β : List Addr} {F F' H H' : Hp} {S S' : Sto}
theorem Own.mono {a : Addr} {d : D} (s : Sub F F') (e : H' a = H a) (h : Own wd K mg F α H a d) : Own wd K mg F' (α ++ β) H' a d := by
  cases d with
  | lst ds => obtain ⟨xs, h1, h2⟩ := h; exact ⟨xs, e.trans h1, h2.mono s⟩
  | dct kvs => obtain ⟨ws, h1, h2, h3⟩ := h; exact ⟨ws, e.trans h1, h2, h3.mono s⟩
  | dcn kvs => obtain ⟨ws, h1, h2⟩ := h; exact ⟨ws, e.trans h1, h2.mono s⟩
  | lck u =>
    cases u with
    | dct kvs => obtain ⟨o, ws, h0, h1, h2, h3⟩ := h; exact ⟨o, ws, s _ _ h0, e.trans h1, h2, h3.mono s⟩
    | dcn kvs => obtain ⟨o, ws, h0, h1, h2⟩ := h; exact ⟨o, ws, s _ _ h0, e.trans h1, h2.mono s⟩
    | _ => exact h.elim
  | non => trivial
  | _ => exact h.elim
theorem Rel.notF (r : Rel wd K mg α F H S) {p : Addr} (hp : H p = none) : F p = none := by
  cases e : F p with
  | none => rfl
  | some u => rw [r.sub _ _ e] at hp; cases hp
theorem Rel.notin (r : Rel wd K mg α F H S) {p : Addr} (hp : H p = none) : p ∉ α := fun h => by
  obtain ⟨o, e⟩ := r.here p h
  rw [hp] at e; cases e
theorem upd_some {H : Hp} {p a : Addr} {o u : HO} (hp : H p = none) (e : H a = some u) : upd H p o a = some u := by
  have z : a ≠ p := fun z => by subst z; rw [hp] at e; cases e
  rw [upd_ne z]; exact e
theorem upd_none {H : Hp} {p a : Addr} {o : HO} (h : upd H p o a = none) : H a = none := by
  by_cases z : a = p
  · subst z; rw [upd_same] at h; cases h
  · rw [upd_ne z] at h; exact h
theorem Sub.upd {F H : Hp} {p : Addr} {o : HO} (s : Sub F H) : Sub (upd F p o) (L2.upd H p o) := fun a u e => by
  by_cases z : a = p
  · subst z; rw [upd_same] at e ⊢; exact e
  · rw [upd_ne z] at e ⊢; exact s _ _ e
theorem Stp.ofNew {p : Addr} {o : HO} (hp : H p = none) (sb : Sub F F') (h : ∀ b ∈ β, b = p) (hf : ∀ a, a ≠ p → F a = none → F' a = none) : Stp α F H β F' (upd H p o) :=
  ⟨fun b hb => by rw [h b hb]; exact hp, sb, fun a u _ e => upd_some hp e, fun a e => upd_none e, fun a _ h2 h3 => hf a (fun z => h3 (z ▸ hp)) h2⟩
theorem Rel.other (r : Rel wd K mg α F H S) {p : Addr} {o : HO} (hp : p ∉ α) (hf : F p = none) : Rel wd K mg α F (upd H p o) S := by
  refine ⟨fun a u e => ?_, r.len, r.nd, fun a h => ?_, fun k a d h1 h2 => ?_⟩
  · have z : a ≠ p := fun z => by subst z; rw [hf] at e; cases e
    rw [upd_ne z]; exact r.sub _ _ e
  · have z : a ≠ p := fun z => hp (z ▸ h)
    obtain ⟨u, e⟩ := r.here a h
    exact ⟨u, by rw [upd_ne z]; exact e⟩
  · obtain ⟨h3, h4⟩ := r.own k a d h1 h2
    have z : a ≠ p := fun z => hp (z ▸ List.mem_of_getElem? h1)
    have h5 : Own wd K mg F (α ++ []) (upd H p o) a d := h3.mono (Sub.refl F) (upd_ne z)
    rw [List.append_nil] at h5
    exact ⟨h5, h4⟩
theorem Stp.other (s : Stp α F H β F' H') {p : Addr} {o : HO} (hp : H p = none) : Stp α F H β F' (upd H' p o) := by
  refine ⟨s.new, s.sub, fun a u h e => ?_, fun a e => s.live a (upd_none e), s.fnew⟩
  have z : a ≠ p := fun z => by subst z; rw [hp] at e; cases e
  rw [upd_ne z]; exact s.frame a u h e
/-- a new thing that stands for good -/
theorem Rel.newF (r : Rel wd K mg α F H S) {p : Addr} {o : HO} (hp : H p = none) : Rel wd K mg (α ++ []) (upd F p o) (upd H p o) S ∧ Stp α F H [] (upd F p o) (upd H p o) := by
  have hF := r.notF hp
  have sb : Sub F (upd F p o) := Sub.new hF
  refine ⟨⟨r.sub.upd, by rw [List.append_nil]; exact r.len, by rw [List.append_nil]; exact r.nd, fun a h => ?_, fun k a d h1 h2 => ?_⟩, Stp.ofNew hp sb (fun _ h => nomatch h) fun a z e => by rw [upd_ne z]; exact e⟩
  · rw [List.append_nil] at h
    obtain ⟨u, e⟩ := r.here a h
    exact ⟨u, upd_some hp e⟩
  · rw [List.append_nil] at h1
    obtain ⟨h3, h4⟩ := r.own k a d h1 h2
    have z : a ≠ p := fun z => r.notin hp (z ▸ List.mem_of_getElem? h1)
    exact ⟨h3.mono sb (upd_ne z), fun hd => by rw [upd_ne z]; exact h4 hd⟩
/-- the store's object k is changed -/
theorem Rel.setO (r : Rel wd K mg α F H S) {k : Nat} {a : Addr} {o : HO} {d e : D} (h1 : α[k]? = some a) (h2 : S[k]? = some e) (he : e.open = true) (hd : Own wd K mg F α (upd H a o) a d) :
    Rel wd K mg (α ++ []) F (upd H a o) (S.set k d) ∧ Stp α F H [] F (upd H a o) := by
  obtain ⟨_, q⟩ := r.own k a e h1 h2
  have hF := q he
  have hn := r.nd
  have ha : a ∈ α := List.mem_of_getElem? h1
  refine ⟨⟨fun b u e => ?_, by rw [List.append_nil, List.length_set]; exact r.len, by rw [List.append_nil]; exact r.nd, fun b h => ?_, fun j b u g1 g2 => ?_⟩, ⟨(fun _ h => nomatch h), Sub.refl F, fun b u hb e => ?_, fun b e => upd_none e, fun _ _ h _ => h⟩⟩
  · have z : b ≠ a := fun z => by subst z; rw [hF] at e; cases e
    rw [upd_ne z]; exact r.sub _ _ e
  · rw [List.append_nil] at h
    by_cases z : b = a
    · subst z; exact ⟨_, upd_same⟩
    · obtain ⟨u, e⟩ := r.here b h
      exact ⟨u, by rw [upd_ne z]; exact e⟩
  · rw [List.append_nil] at g1
    by_cases z : j = k
    · subst z
      rw [h1] at g1; cases g1
      rw [List.getElem?_set_self (List.getElem?_eq_some_iff.mp h2).1] at g2
      cases g2
      rw [List.append_nil]
      exact ⟨hd, fun _ => hF⟩
    · rw [List.getElem?_set_ne (Ne.symm z)] at g2
      obtain ⟨h3, h4⟩ := r.own j b u g1 g2
      have y : b ≠ a := fun y => by
        subst y
        exact z ((List.getElem_inj hn).mp ((List.getElem?_eq_some_iff.mp g1).2.trans (List.getElem?_eq_some_iff.mp h1).2.symm))
      exact ⟨h3.mono (Sub.refl F) (upd_ne y), h4⟩
  · have z : b ≠ a := fun z => hb (z ▸ ha)
    rw [upd_ne z]; exact e
end
section
variable {wd : World} {K : Fg} {mg : Str → Option Value} {α β : List Addr} {F F' H H' : Hp} {S S' : Sto}
/-- a thing that stands by itself becomes the store's -/
theorem Rel.adopt (r : Rel wd K mg α F H S) {p : Addr} {d : D} (hp : p ∉ α) (hf : F p = none) (hd : Own wd K mg F α H p d) (hn : d.open = true) : Rel wd K mg (α ++ [p]) F H (S ++ [d]) := by
  have ex : ∃ o, H p = some o := by
    cases d with
    | lst ds => obtain ⟨xs, e, _⟩ := hd; exact ⟨_, e⟩
    | dct kvs => obtain ⟨xs, e, _⟩ := hd; exact ⟨_, e⟩
    | dcn kvs => obtain ⟨xs, e, _⟩ := hd; exact ⟨_, e⟩
    | non => cases hn
    | lck _ => cases hn
    | _ => exact hd.elim
  refine ⟨r.sub, by rw [List.length_append, List.length_append, r.len]; rfl, ?_, fun a h => ?_, fun k a e h1 h2 => ?_⟩
  · refine List.nodup_append.mpr ⟨r.nd, by simp, fun a ha b hb z => ?_⟩
    have : b = p := by simpa using hb
    subst this; subst z
    exact hp ha
  · rcases List.mem_append.mp h with h | h
    · exact r.here a h
    · have : a = p := by simpa using h
      subst this
      exact ex
  · have hk : k < (α ++ [p]).length := (List.getElem?_eq_some_iff.mp h1).1
    by_cases q : k < α.length
    · rw [List.getElem?_append_left q] at h1
      rw [List.getElem?_append_left (by rw [← r.len]; exact q)] at h2
      obtain ⟨h3, h4⟩ := r.own k a e h1 h2
      exact ⟨h3.mono (Sub.refl F) rfl, h4⟩
    · have hk' : k = α.length := by rw [List.length_append] at hk; simp at hk; omega
      subst hk'
      rw [List.getElem?_append_right (Nat.le_refl _), Nat.sub_self] at h1
      rw [r.len, List.getElem?_append_right (Nat.le_refl _), Nat.sub_self] at h2
      simp at h1 h2
      subst h1; subst h2
      exact ⟨hd.mono (Sub.refl F) rfl, fun _ => hf⟩
/-- a thing that stands by itself stands for good -/
theorem Rel.freeze (r : Rel wd K mg α F H S) {p : Addr} {o : HO} (hp : p ∉ α) (hf : F p = none) (ho : H p = some o) : Rel wd K mg α (upd F p o) H S ∧ Sub F (upd F p o) := by
  have sb : Sub F (upd F p o) := Sub.new hf
  refine ⟨⟨fun a u e => ?_, r.len, r.nd, r.here, fun k a d h1 h2 => ?_⟩, sb⟩
  · by_cases z : a = p
    · subst z; rw [upd_same] at e; rw [ho]; exact e
    · rw [upd_ne z] at e; exact r.sub _ _ e
  · obtain ⟨h3, h4⟩ := r.own k a d h1 h2
    have z : a ≠ p := fun z => hp (z ▸ List.mem_of_getElem? h1)
    have h5 : Own wd K mg (upd F p o) (α ++ []) H a d := h3.mono sb rfl
    rw [List.append_nil] at h5
    exact ⟨h5, fun hd => by rw [upd_ne z]; exact h4 hd⟩
end
/-! ### what is wanted of a result -/
def ErrAt (wd : World) (K : Fg) (mg : Str → Option Value) (F : Hp) (α : List Addr) (c : Str) (fs : List (Str × D)) (cls : Value) (dd : Option Addr) (H : Hp) : Prop :=
  mg c = some cls ∧ ((fs = [] ∧ dd = none) ∨ ∃ d xs, dd = some d ∧ F d = some (.xd xs) ∧ xs.map (·.1) = fs.map (·.1) ∧ DVs wd K mg F α (xs.map (·.2)) (fs.map (·.2)))
abbrev RelT (B A : Type) := Hp → List Addr → B → A → Prop
def wp {A B : Type} (wd : World) (K : Fg) (mg : Str → Option Value) (α : List Addr) (F H : Hp) (rel : RelT B A) (r : Res A) (Q : B → Hp → Prop) (W : XK) : Prop := match r with
  | .ok a S' => ∀ b H' β F', Rel wd K mg (α ++ β) F' H' S' → Stp α F H β F' H' → rel F' (α ++ β) b a → Q b H'
  | .err c fs S' => ∀ cls dd H' β F', Rel wd K mg (α ++ β) F' H' S' → Stp α F H β F' H' → ErrAt wd K mg F' (α ++ β) c fs cls dd H' → W cls dd H'
  | .stuck => False
section
variable {A B A' B' : Type} {wd : World} {K : Fg} {mg : Str → Option Value} {α β : List Addr} {F F1 H H1 : Hp} {S : Sto} {rel : RelT B A} {rel' : RelT B' A'} {r : Res A} {Q Q1 : B → Hp → Prop} {Q' : B' → Hp → Prop} {W : XK}
theorem wp.step (st : Stp α F H β F1 H1) (h : wp wd K mg α F H rel r Q W) : wp wd K mg (α ++ β) F1 H1 rel r Q W := by
  cases r with
  | ok a S' => intro b H' γ F' hr hs hv; rw [List.append_assoc] at hr hv; exact h b H' (β ++ γ) F' hr (st.trans hs) hv
  | err c fs S' => intro cls dd H' γ F' hr hs hv; rw [List.append_assoc] at hr hv; exact h cls dd H' (β ++ γ) F' hr (st.trans hs) hv
  | stuck => exact h
theorem wp.bind {f : A → Sto → Res A'} (h : wp wd K mg α F H rel' (r.bind f) Q' W)
    (k : ∀ a S1, r = .ok a S1 → ∀ x H1 β F1, Rel wd K mg (α ++ β) F1 H1 S1 → Stp α F H β F1 H1 → rel F1 (α ++ β) x a → wp wd K mg (α ++ β) F1 H1 rel' (f a S1) Q' W → Q1 x H1) : wp wd K mg α F H rel r Q1 W := by
  cases r with
  | ok a S' => exact fun b H' β F' hr hs hv => k a S' rfl b H' β F' hr hs hv (wp.step hs h)
  | err c fs S' => exact h
  | stuck => exact h
theorem wp.imp (h : wp wd K mg α F H rel r Q W) (k : ∀ b H', Q b H' → Q1 b H') : wp wd K mg α F H rel r Q1 W := by
  cases r with
  | ok a S' => exact fun b H' β F' hr hs hv => k b H' (h b H' β F' hr hs hv)
  | err c fs S' => exact h
  | stuck => exact h
/-- a result that is at hand -/
theorem wp.now {a : A} (h : wp wd K mg α F H rel (.ok a S) Q W) (hr : Rel wd K mg α F H S) {b : B} (hv : rel F α b a) : Q b H := by
  have e : α ++ [] = α := List.append_nil α
  exact h b H [] F (by rw [e]; exact hr) Stp.refl (by rw [e]; exact hv)
theorem wp.lift {o : Option A} (h : wp wd K mg α F H rel (.lift o S) Q W) : ∃ a, o = some a ∧ wp wd K mg α F H rel (.ok a S) Q W := by
  cases o with
  | some a => exact ⟨a, rfl, h⟩
  | none => exact h.elim
end
def Slots (wd : World) (K : Fg) (mg : Str → Option Value) (F : Hp) (α : List Addr) (σ : L2.St) (δ : Sl) : Prop :=
  σ.length = δ.length ∧ ∀ (i : Nat) (d : D), δ[i]? = some (some d) → ∃ v, σ[i]? = some (some v) ∧ DV wd K mg F α v d
theorem Slots.mono {wd : World} {K : Fg} {mg : Str → Option Value} {F F' : Hp} {α β : List Addr} {σ : L2.St} {δ : Sl} (h : Slots wd K mg F α σ δ) (s : Sub F F') : Slots wd K mg F' (α ++ β) σ δ :=
  ⟨h.1, fun i d e => let ⟨v, h1, h2⟩ := h.2 i d e; ⟨v, h1, h2.mono s⟩⟩
theorem Slots.set {wd : World} {K : Fg} {mg : Str → Option Value} {F : Hp} {α : List Addr} {σ : L2.St} {δ : Sl} {i : Nat} {v : V} {d : D} (h : Slots wd K mg F α σ δ) (hv : DV wd K mg F α v d) : Slots wd K mg F α (σ.set i (some v)) (δ.set i (some d)) := by
  refine ⟨by rw [List.length_set, List.length_set]; exact h.1, fun j e g => ?_⟩
  by_cases z : j = i
  · subst z
    have hj : j < δ.length := by
      have := (List.getElem?_eq_some_iff.mp g).1
      rw [List.length_set] at this; exact this
    rw [List.getElem?_set_self hj] at g
    cases g
    exact ⟨v, List.getElem?_set_self (by rw [h.1]; exact hj), hv⟩
  · rw [List.getElem?_set_ne (Ne.symm z)] at g
    rw [List.getElem?_set_ne (Ne.symm z)]
    exact h.2 j e g
def relD (wd : World) (K : Fg) (mg : Str → Option Value) : RelT V D := fun F α v d => DV wd K mg F α v d
def relB : RelT Bool Bool := fun _ _ b a => b = a
def relA (wd : World) (K : Fg) (mg : Str → Option Value) : RelT (List V) (List D) := fun F α v d => DVs wd K mg F α v d
def SndE (wd : World) (K : Fg) (mg : Str → Option Value) (W : WX) (t : TE) (r : RE) : Prop := ∀ α F σ H δ S (Q : VK), Rel wd K mg α F H S → Slots wd K mg F α σ δ → wp wd K mg α F H (relD wd K mg) (r δ S) Q (fun c d H' => W c d σ H') → t σ H Q
def SndB (wd : World) (K : Fg) (mg : Str → Option Value) (W : WX) (t : TT) (r : RB) : Prop := ∀ α F σ H δ S (Q : Bool → Hp → Prop), Rel wd K mg α F H S → Slots wd K mg F α σ δ → wp wd K mg α F H relB (r δ S) Q (fun c d H' => W c d σ H') → t σ H Q
def SndA (wd : World) (K : Fg) (mg : Str → Option Value) (W : WX) (t : TA) (r : RA) : Prop := ∀ α F σ H δ S (Q : List V → Hp → Prop), Rel wd K mg α F H S → Slots wd K mg F α σ δ → wp wd K mg α F H (relA wd K mg) (r δ S) Q (fun c d H' => W c d σ H') → t σ H Q
/-- an expression, a test, arguments by their mirrors -/
structure PD (X : Cx) (W : WX) (e : Expr) (r : RE) : Prop where
  ex : ∃ t, PE X e t ∧ SndE X.w X.K X.mg W t r
structure PB (X : Cx) (W : WX) (e : Expr) (r : RB) : Prop where
  ex : ∃ t, PT X e t ∧ SndB X.w X.K X.mg W t r
structure PBw (X : Cx) (W : WX) (e : Expr) (r : RB) : Prop where
  ex : ∃ t, PW X e t ∧ SndB X.w X.K X.mg W t r
structure PDs (X : Cx) (W : WX) (es : List Expr) (r : RA) : Prop where
  ex : ∃ t, PA X es t ∧ SndA X.w X.K X.mg W t r
  len : ∀ δ S ds S', r δ S = .ok ds S' → ds.length = es.length
section
variable {X : Cx} {W : WX} {a b c e : Expr} {es rest : List Expr} {ra rb rc : RE} {ba bb : RB} {rs : RA} {pos p : Pos}
theorem pd_var (i : Nat) {x : Str} {pos : Pos} (hN : X.N[i]? = some x := by rfl) (hv : Vis X.env.scope x := by first | exact Or.inl rfl | exact Or.inr (Or.inl rfl) | exact Or.inr (Or.inr rfl)) (hd : (x == ("__debug__" : Str)) = false := by decide) (hcd : (x == ("__classdict__" : Str)) = false := by decide) : PD X W (.Name x pos) (rVar i) := by
  refine ⟨tVar i, pe_var hN hv hd hcd, fun α F σ H δ S Q hr hs h => ?_⟩
  unfold rVar at h
  split at h
  · rename_i d e
    obtain ⟨v, h1, h2⟩ := hs.2 i d e
    exact ⟨v, h1, h.now hr h2⟩
  · exact h.elim
theorem pd_c {d : D} {v : V} (h : PE X e (tC v)) (hv : ∀ F α, DV X.w X.K X.mg F α v d) : PD X W e (rC d) := ⟨tC v, h, fun α F σ H δ S Q hr hs h => h.now hr (hv F α)⟩
theorem pd_int {i : Int} {j : Nat} : PD X W (.Constant (.int i) j pos) (rC (.int i)) := pd_c pe_int fun _ _ => .int i
theorem pd_bl {i : Bool} {j : Nat} : PD X W (.Constant (.bool i) j pos) (rC (.bl i)) := pd_c pe_bl fun _ _ => .bl i
theorem pd_non {j : Nat} : PD X W (.Constant .none j pos) (rC .non) := pd_c pe_non fun _ _ => .non
theorem pd_str {x : Str} {j : Nat} : PD X W (.Constant (.str x) j pos) (rC (.str x)) := pd_c pe_str fun _ _ => .str x
/-- a module's constant: an int, a text -/
theorem pd_gi {x : Str} {i : Int} {t : Tok} (hm : X.mg x = some (.int i t)) (hg : Gl X x := by rfl) (hd : (x == ("__debug__" : Str)) = false := by decide) : PD X W (.Name x pos) (rC (.int i)) := pd_c (v := .int i) (pe_glob hg hm ⟨t, rfl⟩ hd) fun _ _ => .int i
/-! operators by values -/
def OkG (X : Cx) (r : R2) (g : Sto → D → D → Option D) : Prop := ∀ α F H S (x y : V) (d e z : D) (Q : VK), Rel X.w X.K X.mg α F H S → DV X.w X.K X.mg F α x d → DV X.w X.K X.mg F α y e → g S d e = some z →
  (∀ v H' β F', Rel X.w X.K X.mg (α ++ β) F' H' S → Stp α F H β F' H' → DV X.w X.K X.mg F' (α ++ β) v z → Q v H') → r x y H Q
structure OpG (X : Cx) (f : Value → Value → Sem Value) (g : Sto → D → D → Option D) : Prop where
  ex : ∃ r, OpR X f r ∧ OkG X r g
theorem SndE.bin {wd : World} {K : Fg} {mg : Str → Option Value} {ta tb : TE} {g : Sto → D → D → Option D} {k : V → V → Hp → VK → Prop} (sa : SndE wd K mg W ta ra) (sb : SndE wd K mg W tb rb)
    (hk : ∀ α F H S (x y : V) (d e z : D) (Q : VK), Rel wd K mg α F H S → DV wd K mg F α x d → DV wd K mg F α y e → g S d e = some z →
      (∀ v H' β F', Rel wd K mg (α ++ β) F' H' S → Stp α F H β F' H' → DV wd K mg F' (α ++ β) v z → Q v H') → k x y H Q) :
    SndE wd K mg W (fun σ H Q => ta σ H fun x H1 => tb σ H1 fun y H2 => k x y H2 Q) (rBin g ra rb) := by
  intro α F σ H δ S Q hr hs h
  refine sa α F σ H δ S _ hr hs (wp.bind h fun d S1 _ x H1 β F1 r1 s1 v1 h1 => ?_)
  refine sb (α ++ β) F1 σ H1 δ S1 _ r1 (hs.mono s1.sub) (wp.bind h1 fun e S2 _ y H2 γ F2 r2 s2 v2 h2 => ?_)
  obtain ⟨z, e1, h3⟩ := wp.lift h2
  exact hk (α ++ β ++ γ) F2 H2 S2 x y d e z Q r2 (v1.mono s2.sub) v2 e1 fun v H' ε F' r3 s3 v3 => h3 v H' ε F' r3 s3 v3
theorem pd_bin {op : Operator} {g : Sto → D → D → Option D} (ho : OpG X (binaryOp op) g) (ha : PD X W a ra) (hb : PD X W b rb) : PD X W (.BinOp a op b pos) (rBin g ra rb) := by
  obtain ⟨r, h1, h2⟩ := ho.ex
  obtain ⟨ta, pa, sa⟩ := ha.ex
  obtain ⟨tb, pb, sb⟩ := hb.ex
  exact ⟨_, pe_op h1 pa pb, sa.bin sb h2⟩
theorem pd_cmp {op : CmpOp} {g : Sto → D → D → Option D} (ho : OpG X (compareOp op) g) (ha : PD X W a ra) (hb : PD X W b rb) (hm : behindInMarks op b = false) : PD X W (.Compare a [op] [b] pos) (rBin g ra rb) := by
  obtain ⟨r, h1, h2⟩ := ho.ex
  obtain ⟨ta, pa, sa⟩ := ha.ex
  obtain ⟨tb, pb, sb⟩ := hb.ex
  exact ⟨_, pe_cmpR h1 pa pb hm, sa.bin sb h2⟩
/-- the truth of a True or False -/
def bVal (a : RE) : RB := fun δ S => (a δ S).bind fun x S1 => match x with
  | .bl b => .ok b S1
  | _ => .stuck
theorem SndE.val {wd : World} {K : Fg} {mg : Str → Option Value} {t : TE} (s : SndE wd K mg W t ra) : SndB wd K mg W (tTest t) (bVal ra) := by
  intro α F σ H δ S Q hr hs h
  refine s α F σ H δ S _ hr hs (wp.bind h fun d S1 _ x H1 β F1 r1 s1 v1 h1 => ?_)
  cases d with
  | bl b => cases v1; exact ⟨b, rfl, h1.now r1 rfl⟩
  | _ => exact h1.elim
theorem pb_cmp {op : CmpOp} {g : Sto → D → D → Option D} (ho : OpG X (compareOp op) g) (ha : PD X W a ra) (hb : PD X W b rb) (hm : behindInMarks op b = false) : PB X W (.Compare a [op] [b] pos) (bVal (rBin g ra rb)) := by
  obtain ⟨r, h1, h2⟩ := ho.ex
  obtain ⟨ta, pa, sa⟩ := ha.ex
  obtain ⟨tb, pb, sb⟩ := hb.ex
  exact ⟨_, pt_cmpR h1 pa pb hm, (sa.bin sb h2).val⟩
end
end DL
set_option Elab.async false
set_option linter.all false
set_option maxRecDepth 100000
set_option maxHeartbeats 4000000
set_option autoImplicit false
/-! Data layer, third part: calls, tests, statements, loops, comprehensions, defs. -/
namespace DL
open PySem PySem.Spec PyProof.Rows L2
section
variable {X : Cx} {W : WX} {a b c e : Expr} {es rest : List Expr} {ra rb rc : RE} {ba bb : RB} {rs : RA} {pos p : Pos} {wd : World} {K : Fg} {mg : Str → Option Value}
/-! ### one value -/
def OkU (X : Cx) (r : V → Hp → VK → Prop) (g : Sto → D → Option D) : Prop := ∀ α F H S (x : V) (d z : D) (Q : VK), Rel X.w X.K X.mg α F H S → DV X.w X.K X.mg F α x d → g S d = some z →
  (∀ v H' β F', Rel X.w X.K X.mg (α ++ β) F' H' S → Stp α F H β F' H' → DV X.w X.K X.mg F' (α ++ β) v z → Q v H') → r x H Q
theorem SndE.un {ta : TE} {g : Sto → D → Option D} {k : V → Hp → VK → Prop} (sa : SndE wd K mg W ta ra)
    (hk : ∀ α F H S (x : V) (d z : D) (Q : VK), Rel wd K mg α F H S → DV wd K mg F α x d → g S d = some z → (∀ v H' β F', Rel wd K mg (α ++ β) F' H' S → Stp α F H β F' H' → DV wd K mg F' (α ++ β) v z → Q v H') → k x H Q) :
    SndE wd K mg W (fun σ H Q => ta σ H fun x H1 => k x H1 Q) (rUn g ra) := by
  intro α F σ H δ S Q hr hs h
  refine sa α F σ H δ S _ hr hs (wp.bind h fun d S1 _ x H1 β F1 r1 s1 v1 h1 => ?_)
  obtain ⟨z, e1, h3⟩ := wp.lift h1
  exact hk (α ++ β) F1 H1 S1 x d z Q r1 v1 e1 fun v H' ε F' r3 s3 v3 => h3 v H' ε F' r3 s3 v3
theorem pd_un {op : UnaryOp} {r : V → Hp → VK → Prop} {g : Sto → D → Option D} (ho : UnR X (unaryOp op) r) (hg : OkU X r g) (ha : PD X W a ra) : PD X W (.UnaryOp op a pos) (rUn g ra) := by
  obtain ⟨ta, pa, sa⟩ := ha.ex
  exact ⟨_, pe_un ho pa, sa.un hg⟩
/-! ### arguments, displays -/
theorem pds_nil : PDs X W [] rNil := ⟨⟨tNil, pa_nil, fun α F σ H δ S Q hr hs h => h.now hr .nil⟩, fun δ S ds S' h => by cases h; rfl⟩
theorem SndE.cons {te : TE} {t : TA} (s1 : SndE wd K mg W te ra) (s2 : SndA wd K mg W t rs) : SndA wd K mg W (tCons te t) (rCons ra rs) := by
  intro α F σ H δ S Q hr hs h
  refine s1 α F σ H δ S _ hr hs (wp.bind h fun d S1 _ x H1 β F1 r1 q1 v1 h1 => ?_)
  refine s2 (α ++ β) F1 σ H1 δ S1 _ r1 (hs.mono q1.sub) (wp.bind h1 fun e S2 _ y H2 γ F2 r2 q2 v2 h2 => ?_)
  exact h2.now r2 (.cons (v1.mono q2.sub) v2)
theorem pds_cons (ha : PD X W e ra) (hr : PDs X W es rs) (hs : starEach (e :: es) X.env = (false, eval e X.env) :: starEach es X.env := by rfl) : PDs X W (e :: es) (rCons ra rs) := by
  obtain ⟨ta, pa, sa⟩ := ha.ex
  obtain ⟨t, pt, st⟩ := hr.ex
  refine ⟨⟨_, pa_cons pa pt hs, sa.cons st⟩, fun δ S ds S' h => ?_⟩
  unfold rCons at h
  cases q : ra δ S with
  | ok d S1 =>
    rw [q] at h
    have h' : (rs δ S1).bind (fun ys S2 => .ok (d :: ys) S2) = .ok ds S' := h
    cases q2 : rs δ S1 with
    | ok ys S2 =>
      rw [q2] at h'
      have h2 : Res.ok (d :: ys) S2 = .ok ds S' := h'
      cases h2
      rw [List.length_cons, List.length_cons, hr.len _ _ _ _ q2]
    | err c fs S2 => rw [q2] at h'; cases h'
    | stuck => rw [q2] at h'; cases h'
  | err c fs S1 => rw [q] at h; cases h
  | stuck => rw [q] at h; cases h
/-- a new tuple, a new list at p -/
theorem PlT.new {K : Fg} {F : Hp} {p : Addr} {xs : List V} {o : Obj} (h : o.dict = none) : PlT K (upd F p (.frz o (.tup xs))) p xs := ⟨.inl (.inr ⟨o, upd_same⟩), .inl ⟨o, upd_same, h⟩⟩
theorem Rel.tup {α : List Addr} {F H : Hp} {S : Sto} {xs : List V} {ds : List D} (hr : Rel wd K mg α F H S) (hv : DVs wd K mg F α xs ds) {p : Addr} {o : Obj} (hp : H p = none) (ho : o.dict = none) : Rel wd K mg (α ++ []) (upd F p (.frz o (.tup xs))) (upd H p (.frz o (.tup xs))) S ∧ Stp α F H [] (upd F p (.frz o (.tup xs))) (upd H p (.frz o (.tup xs))) ∧ DV wd K mg (upd F p (.frz o (.tup xs))) (α ++ []) (.ref p) (.tup ds) := by
  obtain ⟨h1, h2⟩ := hr.newF (o := .frz o (.tup xs)) hp
  exact ⟨h1, h2, .tup (PlT.new ho) (hv.mono h2.sub)⟩
theorem Rel.lst {α : List Addr} {F H : Hp} {S : Sto} {xs : List V} {ds : List D} (hr : Rel wd K mg α F H S) (hv : DVs wd K mg F α xs ds) {p : Addr} (hp : H p = none) : Rel wd K mg (α ++ []) (upd F p (.lst xs)) (upd H p (.lst xs)) S ∧ Stp α F H [] (upd F p (.lst xs)) (upd H p (.lst xs)) ∧ DV wd K mg (upd F p (.lst xs)) (α ++ []) (.ref p) (.lst ds) := by
  obtain ⟨h1, h2⟩ := hr.newF (o := .lst xs) hp
  exact ⟨h1, h2, .lst (.inl (Rd.of upd_same)) (hv.mono h2.sub)⟩
theorem pd_tup {x1 : Nat} (h : PDs X W es rs) : PD X W (.Tuple es x1 pos) (rTup rs) := by
  obtain ⟨t, pt, st⟩ := h.ex
  refine ⟨_, pe_tupP pt, fun α F σ H δ S Q hr hs h => ?_⟩
  refine st α F σ H δ S _ hr hs (wp.bind h fun ds S1 _ xs H1 β F1 r1 q1 v1 h1 => ?_)
  split at h1
  · rename_i hl
    refine ⟨by rw [v1.length]; exact hl, fun q hq o ho => ?_⟩
    obtain ⟨a1, a2, a3⟩ := r1.tup v1 hq ho
    exact h1 _ _ _ _ a1 a2 a3
  · exact h1.elim
/-- a thing that is made, at p: it may stand for good, or be the store's -/
def wpF (wd : World) (K : Fg) (mg : Str → Option Value) (α : List Addr) (F H : Hp) (r : Res D) (Q : VK) (W : XK) : Prop := match r with
  | .ok d S' => ∀ p H' β F', Rel wd K mg (α ++ β) F' H' S' → Stp α F H β F' H' → H p = none → p ∉ α ++ β → F' p = none → Own wd K mg F' (α ++ β) H' p d → d.open = true → Q (.ref p) H'
  | .err c fs S' => ∀ cls dd H' β F', Rel wd K mg (α ++ β) F' H' S' → Stp α F H β F' H' → ErrAt wd K mg F' (α ++ β) c fs cls dd H' → W cls dd H'
  | .stuck => False
theorem wpF.step {α β : List Addr} {F H F1 H1 : Hp} {r : Res D} {Q : VK} {W : XK} (st : Stp α F H β F1 H1) (h : wpF wd K mg α F H r Q W) : wpF wd K mg (α ++ β) F1 H1 r Q W := by
  cases r with
  | ok d S' =>
    intro p H' γ F' hr hs hp ha hf ho hd
    rw [List.append_assoc] at hr ha ho
    exact h p H' (β ++ γ) F' hr (st.trans hs) (st.live p hp) ha hf ho hd
  | err c fs S' => intro cls dd H' γ F' hr hs hv; rw [List.append_assoc] at hr hv; exact h cls dd H' (β ++ γ) F' hr (st.trans hs) hv
  | stuck => exact h
structure PF (X : Cx) (W : WX) (e : Expr) (r : RE) : Prop where
  ex : ∃ t, PE X e t ∧ ∀ α F σ H δ S (Q : VK), Rel X.w X.K X.mg α F H S → Slots X.w X.K X.mg F α σ δ → wpF X.w X.K X.mg α F H (r δ S) Q (fun c d H' => W c d σ H') → t σ H Q
theorem wpF.bind {A B : Type} {α : List Addr} {F H : Hp} {rel : RelT B A} {r : Res A} {f : A → Sto → Res D} {Q : VK} {Q1 : B → Hp → Prop} {W : XK} (h : wpF wd K mg α F H (r.bind f) Q W)
    (k : ∀ a S1, r = .ok a S1 → ∀ x H1 β F1, Rel wd K mg (α ++ β) F1 H1 S1 → Stp α F H β F1 H1 → rel F1 (α ++ β) x a → wpF wd K mg (α ++ β) F1 H1 (f a S1) Q W → Q1 x H1) : wp wd K mg α F H rel r Q1 W := by
  cases r with
  | ok a S' => exact fun b H' β F' hr hs hv => k a S' rfl b H' β F' hr hs hv (wpF.step hs h)
  | err c fs S' => exact h
  | stuck => exact h
/-- a new list, laid now -/
theorem wpF.lay {α : List Addr} {F H : Hp} {S : Sto} {Q : VK} {W : XK} {p : Addr} {o : HO} {d : D} (h : wpF wd K mg α F H (.ok d S) Q W) (hr : Rel wd K mg α F H S) (hp : H p = none) (ho : Own wd K mg F α (upd H p o) p d) (hd : d.open = true) : Q (.ref p) (upd H p o) := by
  have e : α ++ [] = α := List.append_nil α
  have n := hr.notin hp
  have f := hr.notF hp
  exact h p _ [] F (by rw [e]; exact hr.other n f) (Stp.refl.other hp) hp (by rw [e]; exact n) f (by rw [e]; exact ho) hd
theorem pd_own (h : PF X W e ra) : PD X W e (rOwn ra) := by
  obtain ⟨t, pt, st⟩ := h.ex
  refine ⟨t, pt, fun α F σ H δ S Q hr hs h => st α F σ H δ S Q hr hs ?_⟩
  unfold rOwn at h
  cases q : ra δ S with
  | ok d S' =>
    rw [q] at h
    intro p H' β F' r1 s1 hp ha hf ho hd
    have h2 : wp X.w X.K X.mg α F H (relD X.w X.K X.mg) (.ok (.ptr S'.length) (S' ++ [d])) Q _ := h
    refine h2 (.ref p) H' (β ++ [p]) F' ?_ ⟨fun b hb => ?_, s1.sub, s1.frame, s1.live, s1.fnew⟩ ?_
    · rw [← List.append_assoc]
      exact r1.adopt ha hf ho hd
    · rcases List.mem_append.mp hb with z | z
      · exact s1.new b z
      · have : b = p := by simpa using z
        rw [this]; exact hp
    · rw [← List.append_assoc]
      refine .ptr ?_
      rw [List.getElem?_append_right (by rw [r1.len]; exact Nat.le_refl _), r1.len, Nat.sub_self] <;> rfl
  | err c fs S' => rw [q] at h; exact h
  | stuck => rw [q] at h; exact h
/-- a list that stands for good -/
def rKeep (a : RE) : RE := fun δ S => (a δ S).bind fun d S1 => match d with
  | .lst ds => .ok (.lst ds) S1
  | _ => .stuck
theorem pd_keep (h : PF X W e ra) : PD X W e (rKeep ra) := by
  obtain ⟨t, pt, st⟩ := h.ex
  refine ⟨t, pt, fun α F σ H δ S Q hr hs h => st α F σ H δ S Q hr hs ?_⟩
  unfold rKeep at h
  cases q : ra δ S with
  | ok d S' =>
    rw [q] at h
    intro p H' β F' r1 s1 hp ha hf ho hd
    cases d with
    | lst ds =>
      have h2 : wp X.w X.K X.mg α F H (relD X.w X.K X.mg) (.ok (.lst ds) S') Q _ := h
      obtain ⟨xs, o1, o2⟩ := ho
      obtain ⟨a1, a2⟩ := r1.freeze (o := .lst xs) ha hf o1
      exact h2 (.ref p) H' β (upd F' p (.lst xs)) a1 ⟨s1.new, s1.sub.trans a2, s1.frame, s1.live, fun a g1 g2 g3 => by
        have z : a ≠ p := fun z => g3 (z ▸ hp)
        rw [upd_ne z]; exact s1.fnew a g1 g2 g3⟩ (.lst (.inl (Rd.of upd_same)) (by have := o2.mono (β := []) a2; rw [List.append_nil] at this; exact this))
    | _ => exact (show False from h).elim
  | err c fs S' => rw [q] at h; exact h
  | stuck => rw [q] at h; exact h
theorem pf_lst (h : PDs X W es rs) : PF X W (.List es pos) (rLst rs) := by
  obtain ⟨t, pt, st⟩ := h.ex
  refine ⟨_, pe_lst pt, fun α F σ H δ S Q hr hs h => ?_⟩
  refine st α F σ H δ S _ hr hs (wpF.bind h fun ds S1 _ xs H1 β F1 r1 q1 v1 h1 => ?_)
  split at h1
  · rename_i hl
    refine ⟨by rw [v1.length]; exact hl, fun p hp => h1.lay r1 hp ⟨xs, upd_same, v1⟩ rfl⟩
  · exact h1.elim
/-! ### calls -/
def spD (wd : World) (K : Fg) (mg : Str → Option Value) (n : Nat) (m : Mir) : Sp := fun vs H Q E => vs.length = n ∧ ∃ α F S ds, Rel wd K mg α F H S ∧ DVs wd K mg F α vs ds ∧ wp wd K mg α F H (relD wd K mg) (m ds S) Q E
/-- a def that keeps its promise where no repr is under way -/
structure FnG (P : Program) (w : World) (K : Fg) (mg : Str → Option Value) (base : Heap) (k : Nat) (f : Addr) (fd : FuncData) (ps : List Str) (sp : Sp) : Prop where
  len : ∀ vs H Q E, sp vs H Q E → vs.length = ps.length
  run : ∀ (A : Around) (outer : List Env) (s : Shared) (H : Hp) (args : Args) (us : List Value) (vs : List V) (Q : VK) (E : XK), Room k A → A.guards = some [] → Env0 P w K mg base A outer s H → BindsTo s fd args (ps.zip us) → Vals vs us → sp vs H Q E → codeAny (model P w) A (.call (.ref f) args) (CR (L2.CX P w) outer P w H s Q E) s
theorem FnG.call {k : Nat} {f : Addr} {fd : FuncData} {ps : List Str} {sp : Sp} {pins : List (Addr × Obj)} {σ : L2.St} {H : Hp} {s : Shared} {Q : VK} {us : List Value} {vs : List V} (F : FnG X.prog X.w X.K X.mg X.base k f fd ps sp) (hr : Room k X.A) (hG : X.A.guards = some []) (hb : Binds X.K fd ps []) (tk : Takes X W)
    (I : Inv X pins σ H s) (r : Vals vs us) (h : sp vs H Q (WE W σ)) : wpAny (model X.prog X.w) X.A (call (.ref f) us) (EP X pins σ Q) X.xe s := by
  have hl := r.length.symm.trans (F.len vs H Q _ h)
  have b : BindsTo s fd ⟨us, []⟩ (ps.zip us) := by simpa only [List.append_nil] using hb s us I.kIn (by simpa only [List.append_nil] using hl)
  refine wpAny_call (codeAny_mono (F.run _ _ s H _ us vs Q _ hr hG I.env0 b r h) ?_)
  intro res s' q
  cases res with
  | error e => exact passAt tk σ pins H s e s' I q
  | ok fl => cases fl with
    | ret u => exact I.after q
    | next => exact q.elim
    | brk => exact q.elim
    | cont => exact q.elim
theorem pd_call {x : Str} {m : Mir} {n k : Nat} {f : Addr} {fd : FuncData} {ps : List Str} (F : FnG X.prog X.w X.K X.mg X.base k f fd ps (spD X.w X.K X.mg n m)) (hr : Room k X.A) (hG : X.A.guards = some []) (hm : X.mg x = some (.ref f)) (hk : PySem.W.keepIn X.K (.ref f) = true)
    (hb : Binds X.K fd ps []) (tk : Takes X W) (ha : PDs X W (e :: es) rs) (hl : (e :: es).length = n := by rfl) (hg : Gl X x := by rfl) (hdb : (x == ("__debug__" : Str)) = false := by decide)
    (he : starEach (e :: es) X.env = (false, eval e X.env) :: starEach es X.env := by rfl) (hpl : (backTo pos (starEach es X.env)).any (·.1) = false := by rfl) :
    PD X W (.Call (.Name x p) (e :: es) [] pos) (rCall m rs) := by
  obtain ⟨t, pt, st⟩ := ha.ex
  refine ⟨tCallS (spD X.w X.K X.mg n m) (WE W) t, ⟨fun pins s σ H Q I h => wpAny_Call_Name_kw (ld_glob I hg hm ?_ hdb)⟩, fun α F σ H δ S Q hr hs h => ?_⟩
  · exact PySem.W.callWith_K (h₀ := X.base) I.ok.mod.kin hk (thn (pt.run pos pins s σ H _ I h) fun us s1 ⟨vs, H1, I1, r, q⟩ => ⟨I1.kIn, F.call hr hG hb tk I1 r q⟩) he hpl
  · refine st α F σ H δ S _ hr hs (wp.bind h fun ds S1 e1 xs H1 β F1 r1 q1 v1 h1 => ?_)
    exact ⟨by rw [v1.length, ha.len _ _ _ _ e1]; exact hl, α ++ β, F1, S1, ds, r1, v1, h1⟩
end
end DL
set_option Elab.async false
set_option linter.all false
set_option maxRecDepth 100000
set_option maxHeartbeats 4000000
set_option autoImplicit false
/-! Data layer, fourth part: tests, targets, statements, loops, comprehensions, defs. -/
namespace DL
open PySem PySem.Spec PyProof.Rows L2
section
variable {X : Cx} {W : WX} {a b c e : Expr} {es rest : List Expr} {ra rb rc : RE} {ba bb : RB} {rs : RA} {pos p : Pos} {wd : World} {K : Fg} {mg : Str → Option Value} {α β : List Addr} {F H : Hp} {S : Sto}
/-! ### built-in things by their values -/
def OkC (X : Cx) (r : List V → Hp → VK → Prop) (g : Sto → List D → Option D) : Prop := ∀ α F H S (xs : List V) (ds : List D) (z : D) (Q : VK), Rel X.w X.K X.mg α F H S → DVs X.w X.K X.mg F α xs ds → g S ds = some z →
  (∀ v H' β F', Rel X.w X.K X.mg (α ++ β) F' H' S → Stp α F H β F' H' → DV X.w X.K X.mg F' (α ++ β) v z → Q v H') → r xs H Q
theorem SndA.app {t : TA} {g : Sto → List D → Option D} {k : List V → Hp → VK → Prop} (sa : SndA wd K mg W t rs)
    (hk : ∀ α F H S (xs : List V) (ds : List D) (z : D) (Q : VK), Rel wd K mg α F H S → DVs wd K mg F α xs ds → g S ds = some z → (∀ v H' β F', Rel wd K mg (α ++ β) F' H' S → Stp α F H β F' H' → DV wd K mg F' (α ++ β) v z → Q v H') → k xs H Q) :
    SndE wd K mg W (fun σ H Q => t σ H fun xs H1 => k xs H1 Q) (rAs g rs) := by
  intro α F σ H δ S Q hr hs h
  refine sa α F σ H δ S _ hr hs (wp.bind h fun d S1 _ x H1 β F1 r1 s1 v1 h1 => ?_)
  obtain ⟨z, e1, h3⟩ := wp.lift h1
  exact hk (α ++ β) F1 H1 S1 x d z Q r1 v1 e1 fun v H' ε F' r3 s3 v3 => h3 v H' ε F' r3 s3 v3
/-- a built-in by its name, a class by its name -/
structure BiG (X : Cx) (f : Value) (g : Sto → List D → Option D) : Prop where
  ex : ∃ r, CallR X f r ∧ OkC X r g
theorem pd_callB {x : Str} {id : String} {g : Sto → List D → Option D} (hc : BiG X (.builtin id) g) (hm : X.mg x = none) (ha : PDs X W (e :: es) rs) (hg : Gl X x := by rfl) (hv : bootBuiltins x = some (.builtin id) := by decide +kernel) (hn : x ≠ "__name__" := by decide) (hdb : (x == ("__debug__" : Str)) = false := by decide)
    (he : starEach (e :: es) X.env = (false, eval e X.env) :: starEach es X.env := by rfl) (hpl : (backTo pos (starEach es X.env)).any (·.1) = false := by rfl) : PD X W (.Call (.Name x p) (e :: es) [] pos) (rAs g rs) := by
  obtain ⟨r, h1, h2⟩ := hc.ex
  obtain ⟨t, pt, st⟩ := ha.ex
  exact ⟨_, pe_callB h1 hg hm hv pt hn hdb he hpl, st.app h2⟩
theorem pd_callT {x : Str} {T : String} {g : Sto → List D → Option D} (hc : BiG X (.type T) g) (hm : X.mg x = none) (ha : PDs X W (e :: es) rs) (hg : Gl X x := by rfl) (hv : bootBuiltins x = some (.type T) := by decide +kernel) (hn : x ≠ "__name__" := by decide) (hdb : (x == ("__debug__" : Str)) = false := by decide)
    (he : starEach (e :: es) X.env = (false, eval e X.env) :: starEach es X.env := by rfl) (hpl : (backTo pos (starEach es X.env)).any (·.1) = false := by rfl) : PD X W (.Call (.Name x p) (e :: es) [] pos) (rAs g rs) := by
  obtain ⟨r, h1, h2⟩ := hc.ex
  obtain ⟨t, pt, st⟩ := ha.ex
  exact ⟨_, pe_callTy h1 hg hm hv pt hn hdb he hpl, st.app h2⟩
/-! ### what is seen through the store -/
/-- an owned thing, by what it holds -/
theorem Rel.owned (hr : Rel wd K mg α F H S) {k : Nat} {a : Addr} (h : α[k]? = some a) : S[k]? = some (S.getD k .non) ∧ Own wd K mg F α H a (S.getD k .non) ∧ ((S.getD k .non).open = true → F a = none) := by
  have hk : k < S.length := by rw [← hr.len]; exact (List.getElem?_eq_some_iff.mp h).1
  have e2 : S[k]? = some (S.getD k .non) := by rw [List.getD_eq_getElem?_getD]; simp [hk]
  exact ⟨e2, hr.own k a _ h e2⟩
inductive Seen (wd : World) (K : Fg) (mg : Str → Option Value) (F : Hp) (α : List Addr) (H : Hp) : V → D → Prop
  | at {v : V} {d : D} : DV wd K mg F α v d → (∀ k, d ≠ .ptr k) → Seen wd K mg F α H v d
  | dead {v : V} {k : Nat} : Seen wd K mg F α H v (.ptr k)
  | lst {a : Addr} {xs : List V} {ds : List D} : H a = some (.lst xs) → DVs wd K mg F α xs ds → Seen wd K mg F α H (.ref a) (.lst ds)
  | dct {a : Addr} {ws : List (Key × V)} {kvs : List (D × D)} : Rd H a (.dK ws) → DKs (ws.map (·.1)) (kvs.map (·.1)) → DVs wd K mg F α (ws.map (·.2)) (kvs.map (·.2)) → Seen wd K mg F α H (.ref a) (.dct kvs)
  | dcn {a : Addr} {xs : List (NestedKey × Addr × V)} {kvs : List (D × D)} : Rd H a (dN wd a xs) → NVs wd K mg F α xs kvs → Seen wd K mg F α H (.ref a) (.dcn kvs)
theorem Rel.see (hr : Rel wd K mg α F H S) {v : V} {d : D} (h : DV wd K mg F α v d) : Seen wd K mg F α H v (deref S d) := by
  cases d with
  | ptr k =>
    cases h with
    | ptr h =>
      obtain ⟨_, o, _⟩ := hr.owned h
      unfold deref
      dsimp only
      generalize hd : S.getD k .non = d at o
      cases d with
      | lst ds => obtain ⟨xs, h1, h2⟩ := o; exact .lst h1 h2
      | dct kvs => obtain ⟨ws, h1, h2, h3⟩ := o; exact .dct (.inl h1) h2 h3
      | dcn kvs => obtain ⟨ws, h1, h2⟩ := o; exact .dcn (.inl h1) h2
      | lck u =>
        cases u with
        | dct kvs => obtain ⟨o, ws, h0, h1, h2, h3⟩ := o; exact .dct (.inr ⟨o, h1⟩) h2 h3
        | dcn kvs => obtain ⟨o, ws, h0, h1, h2⟩ := o; exact .dcn (.inr ⟨o, h1⟩) h2
        | _ => exact o.elim
      | non => exact .dead
      | _ => exact o.elim
  | _ => exact .at h (fun k e => by cases e)
theorem Rel.viewL (hr : Rel wd K mg α F H S) {v : V} {d : D} {ds : List D} (h : DV wd K mg F α v d) (e : deref S d = .lst ds) : ∃ a xs, v = .ref a ∧ SqL K H a xs ∧ DVs wd K mg F α xs ds := by
  have s := hr.see h
  rw [e] at s
  cases s with
  | «at» h _ => cases h with | lst q t => exact ⟨_, _, rfl, hr.sub.sqL q, t⟩
  | lst q t => exact ⟨_, _, rfl, .inl (Rd.of q), t⟩
theorem Rel.viewT (hr : Rel wd K mg α F H S) {v : V} {d : D} {ds : List D} (h : DV wd K mg F α v d) (e : deref S d = .tup ds) : ∃ a xs, v = .ref a ∧ SqT K H a xs ∧ DVs wd K mg F α xs ds := by
  have s := hr.see h
  rw [e] at s
  cases s with
  | «at» h _ => cases h with | tup q t => exact ⟨_, _, rfl, hr.sub.sqT q.1, t⟩
theorem Rel.viewX (hr : Rel wd K mg α F H S) {v : V} {d : D} {ds : List D} (h : DV wd K mg F α v d) (e : deref S d = .tux ds) : ∃ a xs, v = .ref a ∧ SqT K H a xs ∧ DVs wd K mg F α xs ds := by
  have s := hr.see h
  rw [e] at s
  cases s with
  | «at» h _ => cases h with | tux q t => exact ⟨_, _, rfl, hr.sub.sqT q, t⟩
theorem Rel.viewI (hr : Rel wd K mg α F H S) {v : V} {d : D} {i : Int} (h : DV wd K mg F α v d) (e : deref S d = .int i) : v = .int i := by
  have s := hr.see h
  rw [e] at s
  cases s with
  | «at» h _ => cases h; rfl
theorem Rel.viewS (hr : Rel wd K mg α F H S) {v : V} {d : D} {i : Str} (h : DV wd K mg F α v d) (e : deref S d = .str i) : v = .str i := by
  have s := hr.see h
  rw [e] at s
  cases s with
  | «at» h _ => cases h; rfl
theorem DVs.isEmpty {xs : List V} {ds : List D} (h : DVs wd K mg F α xs ds) : ds.isEmpty = xs.isEmpty := by cases h <;> rfl
theorem Rel.truV (hr : Rel wd K mg α F H S) {v : V} {d : D} {k : Bool} (h : DV wd K mg F α v d) (e : truth S d = some k) : TruV K v H k := by
  have s := hr.see h
  unfold truth at e
  generalize deref S d = dd at e s
  cases s with
  | «at» h hp =>
    cases h with
    | non => cases e; rfl
    | bl b => cases e; rfl
    | int i => cases e; rfl
    | str x =>
      dsimp only at e
      split at e
      · rename_i hl; cases e; exact ⟨hl, rfl⟩
      · cases e
    | tup q t => cases e; exact .inr (.inl ⟨_, hr.sub.sqT q.1, by rw [t.isEmpty]⟩)
    | tux q t => cases e
    | lst q t => cases e; exact .inl ⟨_, hr.sub.sqL q, by rw [t.isEmpty]⟩
    | ptr _ => exact absurd rfl (hp _)
    | fn _ => cases e
    | ty _ => cases e
    | exc _ _ _ _ _ => cases e
    | dc0 _ _ => cases e
  | dead => cases e
  | lst q t => cases e; exact .inl ⟨_, SqL.of q, by rw [t.isEmpty]⟩
  | dct h k t => cases e
  | dcn h t => cases e
/-! ### tests -/
theorem pb_tru (ha : PD X W a ra) (he : ∀ whole, isTrue a X.env whole = (do let v ← whole; standAt a.pos; holding [v] (truthy v)) := by intro _; rfl) : PB X W a (bTru ra) := by
  obtain ⟨ta, pa, sa⟩ := ha.ex
  refine ⟨_, pt_truth pa he, fun α F σ H δ S Q hr hs h => ?_⟩
  refine sa α F σ H δ S _ hr hs (wp.bind h fun d S1 _ x H1 β F1 r1 s1 v1 h1 => ?_)
  obtain ⟨k, e1, h2⟩ := wp.lift h1
  exact ⟨k, r1.truV v1 e1, h2.now r1 rfl⟩
theorem SndB.and {t u : TT} (s1 : SndB wd K mg W t ba) (s2 : SndB wd K mg W u bb) : SndB wd K mg W (tAnd t u) (bAnd ba bb) := by
  intro α F σ H δ S Q hr hs h
  refine s1 α F σ H δ S _ hr hs (wp.bind h fun d S1 _ x H1 β F1 r1 q1 v1 h1 => ?_)
  have e : x = d := v1
  subst e
  cases x with
  | true => exact s2 (α ++ β) F1 σ H1 δ S1 Q r1 (hs.mono q1.sub) h1
  | false => exact h1.now r1 rfl
theorem SndB.or {t u : TT} (s1 : SndB wd K mg W t ba) (s2 : SndB wd K mg W u bb) : SndB wd K mg W (tOr t u) (bOr ba bb) := by
  intro α F σ H δ S Q hr hs h
  refine s1 α F σ H δ S _ hr hs (wp.bind h fun d S1 _ x H1 β F1 r1 q1 v1 h1 => ?_)
  have e : x = d := v1
  subst e
  cases x with
  | false => exact s2 (α ++ β) F1 σ H1 δ S1 Q r1 (hs.mono q1.sub) h1
  | true => exact h1.now r1 rfl
theorem pw_and1D (ha : PB X W a ba) : PBw X W (.BoolOp .And [a] pos) ba := let ⟨t, h, s⟩ := ha.ex; ⟨t, pw_and1 h, s⟩
theorem pw_or1D (ha : PB X W a ba) : PBw X W (.BoolOp .Or [a] pos) ba := let ⟨t, h, s⟩ := ha.ex; ⟨t, pw_or1 h, s⟩
theorem pw_andD (ha : PB X W a ba) (hb : PBw X W (.BoolOp .And (b :: rest) pos) bb) : PBw X W (.BoolOp .And (a :: b :: rest) pos) (bAnd ba bb) := by
  obtain ⟨t, h1, s1⟩ := ha.ex
  obtain ⟨u, h2, s2⟩ := hb.ex
  exact ⟨_, pw_and h1 h2, s1.and s2⟩
theorem pw_orD (ha : PB X W a ba) (hb : PBw X W (.BoolOp .Or (b :: rest) pos) bb) : PBw X W (.BoolOp .Or (a :: b :: rest) pos) (bOr ba bb) := by
  obtain ⟨t, h1, s1⟩ := ha.ex
  obtain ⟨u, h2, s2⟩ := hb.ex
  exact ⟨_, pw_or h1 h2, s1.or s2⟩
theorem pb_w (h : PBw X W a ba) : PB X W a ba := let ⟨t, p, s⟩ := h.ex; ⟨t, p.pt, s⟩
theorem pb_not (ha : PB X W a ba) : PB X W (.UnaryOp .Not a pos) (bNot ba) := by
  obtain ⟨t, h, s⟩ := ha.ex
  refine ⟨_, pt_not h, fun α F σ H δ S Q hr hs h => ?_⟩
  refine s α F σ H δ S _ hr hs (wp.bind h fun d S1 _ x H1 β F1 r1 q1 v1 h1 => ?_)
  have e : x = d := v1
  subst e
  exact h1.now r1 rfl
/-- a < b <= c -/
def rChain (g g' : Sto → D → D → Option D) (ra rb rc : RE) : RE := fun δ S => (ra δ S).bind fun x S1 => (rb δ S1).bind fun y S2 => (Res.lift (g S2 x y) S2).bind fun z S3 => match z with
  | .bl true => (rc δ S3).bind fun u S4 => .lift (g' S4 y u) S4
  | .bl false => .ok (.bl false) S3
  | _ => .stuck
theorem pd_chain2 {op op' : CmpOp} {g g' : Sto → D → D → Option D} (ho : OpG X (compareOp op) g) (ho' : OpG X (compareOp op') g') (ha : PD X W a ra) (hb : PD X W b rb) (hc : PD X W c rc) (hm : lastMarks [op, op'] [b, c] = false := by with_unfolding_all rfl) :
    PD X W (.Compare a [op, op'] [b, c] pos) (rChain g g' ra rb rc) ∧ PB X W (.Compare a [op, op'] [b, c] pos) (bVal (rChain g g' ra rb rc)) := by
  obtain ⟨r, h1, h2⟩ := ho.ex
  obtain ⟨r', h1', h2'⟩ := ho'.ex
  obtain ⟨ta, pa, sa⟩ := ha.ex
  obtain ⟨tb, pb, sb⟩ := hb.ex
  obtain ⟨tc, pc, sc⟩ := hc.ex
  suffices q : SndE X.w X.K X.mg W (tChain r r' ta tb tc) (rChain g g' ra rb rc) from ⟨⟨_, pe_chain h1 h1' pa pb pc hm, q⟩, ⟨_, pt_chain h1 h1' pa pb pc hm, q.val⟩⟩
  intro α F σ H δ S Q hr hs h
  refine sa α F σ H δ S _ hr hs (wp.bind h fun d S1 _ x H1 β F1 r1 s1 v1 q1 => ?_)
  refine sb (α ++ β) F1 σ H1 δ S1 _ r1 (hs.mono s1.sub) (wp.bind q1 fun e S2 _ y H2 γ F2 r2 s2 v2 q2 => ?_)
  cases eg : g S2 d e with
  | none => rw [eg] at q2; exact q2.elim
  | some z =>
    rw [eg] at q2
    refine h2 (α ++ β ++ γ) F2 H2 S2 x y d e z _ r2 (v1.mono s2.sub) v2 eg fun v H3 ε F3 r3 s3 v3 => ?_
    have q3 := wp.step s3 q2
    cases z with
    | bl k =>
      cases v3
      refine ⟨k, rfl, ?_⟩
      cases k with
      | false => exact q3.now r3 (.bl false)
      | true =>
        refine sc (α ++ β ++ γ ++ ε) F3 σ H3 δ S2 _ r3 (((hs.mono s1.sub).mono s2.sub).mono s3.sub) (wp.bind q3 fun u S4 _ w H4 ζ F4 r4 s4 v4 q4 => ?_)
        obtain ⟨z', e', q5⟩ := wp.lift q4
        exact h2' _ F4 H4 S4 y w e u z' Q r4 ((v2.mono s3.sub).mono s4.sub) v4 e' fun v H' ε F' r3 s3 v3 => q5 v H' ε F' r3 s3 v3
    | _ => exact q3.elim
/-! ### and, or, not, if as values -/
theorem pd_if (hc : PB X W c ba) (ha : PD X W a ra) (hb : PD X W b rb) : PD X W (.IfExp c a b pos) (rIf ba ra rb) := by
  obtain ⟨tc, pc, sc⟩ := hc.ex
  obtain ⟨ta, pa, sa⟩ := ha.ex
  obtain ⟨tb, pb, sb⟩ := hb.ex
  refine ⟨_, pe_ifExp pc pa pb, fun α F σ H δ S Q hr hs h => ?_⟩
  refine sc α F σ H δ S _ hr hs (wp.bind h fun d S1 _ x H1 β F1 r1 q1 v1 h1 => ?_)
  have e : x = d := v1
  subst e
  cases x with
  | true => exact sa (α ++ β) F1 σ H1 δ S1 Q r1 (hs.mono q1.sub) h1
  | false => exact sb (α ++ β) F1 σ H1 δ S1 Q r1 (hs.mono q1.sub) h1
theorem pd_one {op : BoolOp} (ha : PD X W a ra) : PD X W (.BoolOp op [a] pos) ra := let ⟨t, h, s⟩ := ha.ex; ⟨t, pe_one h, s⟩
theorem pd_and (ha : PD X W a ra) (hb : PD X W (.BoolOp .And (b :: rest) pos) rb) : PD X W (.BoolOp .And (a :: b :: rest) pos) (rAnd ra rb) := by
  obtain ⟨ta, pa, sa⟩ := ha.ex
  obtain ⟨tb, pb, sb⟩ := hb.ex
  refine ⟨_, pe_andT pa pb, fun α F σ H δ S Q hr hs h => ?_⟩
  refine sa α F σ H δ S _ hr hs (wp.bind h fun d S1 _ x H1 β F1 r1 q1 v1 h1 => ?_)
  cases e : truth S1 d with
  | none => rw [e] at h1; exact h1.elim
  | some k =>
    rw [e] at h1
    refine ⟨k, r1.truV v1 e, ?_⟩
    cases k with
    | false => exact h1.now r1 v1
    | true => exact sb (α ++ β) F1 σ H1 δ S1 Q r1 (hs.mono q1.sub) h1
end
end DL
set_option Elab.async false
set_option linter.all false
set_option maxRecDepth 100000
set_option maxHeartbeats 4000000
set_option autoImplicit false
/-! Data layer, fifth part: targets, statements, loops, comprehensions, defs. -/
namespace DL
open PySem PySem.Spec PyProof.Rows L2
def relS (wd : World) (K : Fg) (mg : Str → Option Value) : RelT L2.St Sl := fun F α σ δ => Slots wd K mg F α σ δ
def SndG (wd : World) (K : Fg) (mg : Str → Option Value) (W : WX) (t : TG) (g : RG) : Prop := ∀ α F σ H δ S v d (Q : L2.St → Hp → Prop), Rel wd K mg α F H S → Slots wd K mg F α σ δ → DV wd K mg F α v d → wp wd K mg α F H (relS wd K mg) (g d δ S) Q (fun c d H' => W c d σ H') → t v σ H Q
def SndGs (wd : World) (K : Fg) (mg : Str → Option Value) (W : WX) (t : TGs) (g : List D → Sl → Sto → Res Sl) : Prop := ∀ α F σ H δ S v d (Q : L2.St → Hp → Prop), Rel wd K mg α F H S → Slots wd K mg F α σ δ → DVs wd K mg F α v d → wp wd K mg α F H (relS wd K mg) (g d δ S) Q (fun c d H' => W c d σ H') → t v σ H Q
structure PGd (X : Cx) (W : WX) (tg : Expr) (g : RG) : Prop where
  ex : ∃ t, PG X tg t ∧ SndG X.w X.K X.mg W t g
/-- .. that raises nothing -/
structure PGn (X : Cx) (W : WX) (tg : Expr) (g : RG) : Prop where
  pg : PGd X W tg g
  ne : ∀ d δ S c fs S', g d δ S ≠ .err c fs S'
structure PGds (X : Cx) (W : WX) (tg : List Expr) (g : List D → Sl → Sto → Res Sl) : Prop where
  ex : ∃ t, PGs X tg t ∧ SndGs X.w X.K X.mg W t g
  ne : ∀ d δ S c fs S', g d δ S ≠ .err c fs S'
  len : ∀ ds δ S δ' S', g ds δ S = .ok δ' S' → ds.length = tg.length
def wpS (wd : World) (K : Fg) (mg : Str → Option Value) (α : List Addr) (F H : Hp) (o : Out) (E : Ends) (W : WX) : Prop := match o with
  | .nx δ S => ∀ σ' H' β F', Rel wd K mg (α ++ β) F' H' S → Stp α F H β F' H' → Slots wd K mg F' (α ++ β) σ' δ → E.nx σ' H'
  | .rt d S => ∀ v H' β F', Rel wd K mg (α ++ β) F' H' S → Stp α F H β F' H' → DV wd K mg F' (α ++ β) v d → E.rt v H'
  | .bk δ S => ∀ σ' H' β F', Rel wd K mg (α ++ β) F' H' S → Stp α F H β F' H' → Slots wd K mg F' (α ++ β) σ' δ → E.bk σ' H'
  | .ct δ S => ∀ σ' H' β F', Rel wd K mg (α ++ β) F' H' S → Stp α F H β F' H' → Slots wd K mg F' (α ++ β) σ' δ → E.ct σ' H'
  | .err c fs δ S => ∀ cls dd σ' H' β F', Rel wd K mg (α ++ β) F' H' S → Stp α F H β F' H' → Slots wd K mg F' (α ++ β) σ' δ → ErrAt wd K mg F' (α ++ β) c fs cls dd H' → W cls dd σ' H'
  | .stuck => False
def SndS (wd : World) (K : Fg) (mg : Str → Option Value) (W : WX) (t : TS) (r : RS) : Prop := ∀ α F σ H δ S (E : Ends), Rel wd K mg α F H S → Slots wd K mg F α σ δ → wpS wd K mg α F H (r δ S) E W → t E σ H
structure PSd (X : Cx) (W : WX) (st : Stmt) (r : RS) : Prop where
  ex : ∃ t, PS X st t ∧ SndS X.w X.K X.mg W t r
structure PSds (X : Cx) (W : WX) (st : List Stmt) (r : RS) : Prop where
  ex : ∃ t, PSs X st t ∧ SndS X.w X.K X.mg W t r
section
variable {X : Cx} {W : WX} {a b c e : Expr} {es rest : List Expr} {ra rb rc : RE} {ba bb : RB} {rs : RA} {pos p : Pos} {wd : World} {K : Fg} {mg : Str → Option Value} {α β : List Addr} {F F1 H H1 : Hp} {S : Sto}
theorem wpS.step {o : Out} {E : Ends} (st : Stp α F H β F1 H1) (h : wpS wd K mg α F H o E W) : wpS wd K mg (α ++ β) F1 H1 o E W := by
  cases o with
  | nx δ S => intro σ' H' γ F' hr hs hv; rw [List.append_assoc] at hr hv; exact h σ' H' (β ++ γ) F' hr (st.trans hs) hv
  | rt d S => intro σ' H' γ F' hr hs hv; rw [List.append_assoc] at hr hv; exact h σ' H' (β ++ γ) F' hr (st.trans hs) hv
  | bk δ S => intro σ' H' γ F' hr hs hv; rw [List.append_assoc] at hr hv; exact h σ' H' (β ++ γ) F' hr (st.trans hs) hv
  | ct δ S => intro σ' H' γ F' hr hs hv; rw [List.append_assoc] at hr hv; exact h σ' H' (β ++ γ) F' hr (st.trans hs) hv
  | err c fs δ S => intro cls dd σ' H' γ F' hr hs hv q; rw [List.append_assoc] at hr hv q; exact h cls dd σ' H' (β ++ γ) F' hr (st.trans hs) hv q
  | stuck => exact h
theorem wpS.out {A B : Type} {rel : RelT B A} {r : Res A} {δ : Sl} {f : A → Sto → Out} {E : Ends} {Q : B → Hp → Prop} {σ : L2.St} (h : wpS wd K mg α F H (r.out δ f) E W) (hs : Slots wd K mg F α σ δ)
    (k : ∀ a S1, r = .ok a S1 → ∀ x H1 β F1, Rel wd K mg (α ++ β) F1 H1 S1 → Stp α F H β F1 H1 → rel F1 (α ++ β) x a → wpS wd K mg (α ++ β) F1 H1 (f a S1) E W → Q x H1) : wp wd K mg α F H rel r Q (fun c d H' => W c d σ H') := by
  cases r with
  | ok a S' => exact fun b H' β F' hr st hv => k a S' rfl b H' β F' hr st hv (wpS.step st h)
  | err c fs S' => exact fun cls dd H' β F' hr st q => h cls dd σ H' β F' hr st (hs.mono st.sub) q
  | stuck => exact h
theorem wpS.nx {δ : Sl} {E : Ends} {σ : L2.St} (h : wpS wd K mg α F H (.nx δ S) E W) (hr : Rel wd K mg α F H S) (hs : Slots wd K mg F α σ δ) : E.nx σ H := by
  have e : α ++ [] = α := List.append_nil α
  exact h σ H [] F (by rw [e]; exact hr) Stp.refl (by rw [e]; exact hs)
theorem wpS.rt {d : D} {E : Ends} {v : V} (h : wpS wd K mg α F H (.rt d S) E W) (hr : Rel wd K mg α F H S) (hv : DV wd K mg F α v d) : E.rt v H := by
  have e : α ++ [] = α := List.append_nil α
  exact h v H [] F (by rw [e]; exact hr) Stp.refl (by rw [e]; exact hv)
theorem wpS.bk {δ : Sl} {E : Ends} {σ : L2.St} (h : wpS wd K mg α F H (.bk δ S) E W) (hr : Rel wd K mg α F H S) (hs : Slots wd K mg F α σ δ) : E.bk σ H := by
  have e : α ++ [] = α := List.append_nil α
  exact h σ H [] F (by rw [e]; exact hr) Stp.refl (by rw [e]; exact hs)
theorem wpS.ct {δ : Sl} {E : Ends} {σ : L2.St} (h : wpS wd K mg α F H (.ct δ S) E W) (hr : Rel wd K mg α F H S) (hs : Slots wd K mg F α σ δ) : E.ct σ H := by
  have e : α ++ [] = α := List.append_nil α
  exact h σ H [] F (by rw [e]; exact hr) Stp.refl (by rw [e]; exact hs)
/-! ### targets -/
theorem pgd_name (i : Nat) {x : Str} (hN : X.N.Nodup) (hi : X.N[i]? = some x := by rfl) (hx : Loc X.env.scope x := by first | exact Or.inl rfl | exact Or.inr rfl) (hf : X.fn x = true ∨ X.env.scope.names.lookup x = some .local := by first | exact .inl rfl | exact .inr rfl | assumption) : PGn X W (.Name x pos) (gName i) := by
  refine ⟨⟨_, pg_name hN hi hx hf, fun α F σ H δ S v d Q hr hs hv h => ?_⟩, fun d δ S c fs S' h => by unfold gName at h; split at h <;> cases h⟩
  unfold gName at h
  split at h
  · exact h.now hr (hs.set hv)
  · exact h.elim
theorem pgds_nil : PGds X W [] gNil := by
  refine ⟨⟨_, pgs_nil, fun α F σ H δ S v d Q hr hs hv h => ?_⟩, fun d δ S c fs S' h => ?_, fun ds δ S δ' S' h => ?_⟩
  · cases hv with
    | nil => exact ⟨rfl, h.now hr hs⟩
    | cons _ _ => exact h.elim
  · cases d <;> cases h
  · cases ds with
    | nil => rfl
    | cons _ _ => cases h
theorem pgds_cons {g : RG} {u : List D → Sl → Sto → Res Sl} (h1 : PGn X W e g) (h2 : PGds X W es u) (hsy : (assignEach (e :: es) X.env).map (·.2) = assign e X.env :: (assignEach es X.env).map (·.2) := by rfl) : PGds X W (e :: es) (gCons g u) := by
  obtain ⟨t, p1, s1⟩ := h1.pg.ex
  obtain ⟨t', p2, s2⟩ := h2.ex
  refine ⟨⟨_, pgs_cons p1 p2 hsy, fun α F σ H δ S v d Q hr hs hv h => ?_⟩, fun d δ S c fs S' h => ?_, fun ds δ S δ' S' h => ?_⟩
  · cases hv with
    | nil => exact h.elim
    | cons hv ht =>
      rename_i v d vs ds
      refine ⟨v, vs, rfl, s1 α F σ H δ S v d _ hr hs hv (wp.bind h fun δ1 S1 _ σ1 H1 β F1 r1 q1 hs1 h1 => ?_)⟩
      refine s2 (α ++ β) F1 σ1 H1 δ1 S1 vs ds Q r1 hs1 (ht.mono q1.sub) ?_
      cases q : u ds δ1 S1 with
      | ok a S' => rw [q] at h1; exact h1
      | err c fs S' => exact absurd q (h2.ne _ _ _ _ _ _)
      | stuck => rw [q] at h1; exact h1
  · cases d with
    | nil => cases h
    | cons d r =>
      have h' : (g d δ S).bind (fun δ1 S1 => u r δ1 S1) = .err c fs S' := h
      cases q : g d δ S with
      | ok a S1 => rw [q] at h'; exact h2.ne _ _ _ _ _ _ h'
      | err c fs S1 => exact h1.ne _ _ _ _ _ _ q
      | stuck => rw [q] at h'; cases h'
  · cases ds with
    | nil => cases h
    | cons d r =>
      have h' : (g d δ S).bind (fun δ1 S1 => u r δ1 S1) = .ok δ' S' := h
      cases q : g d δ S with
      | ok a S1 => rw [q] at h'; rw [List.length_cons, List.length_cons, h2.len _ _ _ _ _ h']
      | err c fs S1 => rw [q] at h'; cases h'
      | stuck => rw [q] at h'; cases h'
theorem pgn_tup {k : Nat} {u : List D → Sl → Sto → Res Sl} (hc : X.calm = true) (h : PGds X W es u) (hn : (assignEach es X.env).length = es.length := by rfl) (hst : (assignEach es X.env).findIdx? (·.1) = none := by rfl) : PGn X W (.Tuple es k pos) (gTup u) := by
  obtain ⟨t, p1, s1⟩ := h.ex
  refine ⟨⟨_, pg_tup hc p1 hn hst, fun α F σ H δ S v d Q hr hs hv h0 => ?_⟩, fun d δ S c fs S' h0 => ?_⟩
  · unfold gTup at h0
    cases q : deref S d with
    | tup ds =>
      rw [q] at h0
      dsimp only at h0
      obtain ⟨a, xs, e1, e2, e3⟩ := hr.viewT hv q
      have len : ds.length = es.length := by
        cases q2 : u ds δ S with
        | ok δ' S' => exact h.len _ _ _ _ _ q2
        | err c fs S' => exact absurd q2 (h.ne _ _ _ _ _ _)
        | stuck => rw [q2] at h0; exact h0.elim
      exact ⟨a, xs, e1, e2, by rw [e3.length]; exact len, s1 α F σ H δ S xs ds Q hr hs e3 h0⟩
    | tux ds =>
      rw [q] at h0
      dsimp only at h0
      obtain ⟨a, xs, e1, e2, e3⟩ := hr.viewX hv q
      have len : ds.length = es.length := by
        cases q2 : u ds δ S with
        | ok δ' S' => exact h.len _ _ _ _ _ q2
        | err c fs S' => exact absurd q2 (h.ne _ _ _ _ _ _)
        | stuck => rw [q2] at h0; exact h0.elim
      exact ⟨a, xs, e1, e2, by rw [e3.length]; exact len, s1 α F σ H δ S xs ds Q hr hs e3 h0⟩
    | _ => rw [q] at h0; exact h0.elim
  · unfold gTup at h0
    cases q : deref S d with
    | tup ds => rw [q] at h0; exact h.ne _ _ _ _ _ _ h0
    | tux ds => rw [q] at h0; exact h.ne _ _ _ _ _ _ h0
    | _ => rw [q] at h0; cases h0
/-! ### statements -/
theorem psds_nil : PSds X W [] sNext := ⟨_, pss_nil, fun α F σ H δ S E hr hs h => h.nx hr hs⟩
theorem psds_cons {st : Stmt} {sts : List Stmt} {r u : RS} (h1 : PSd X W st r) (h2 : PSds X W sts u) : PSds X W (st :: sts) (sSeq r u) := by
  obtain ⟨t, p1, s1⟩ := h1.ex
  obtain ⟨t', p2, s2⟩ := h2.ex
  refine ⟨_, pss_cons p1 p2, fun α F σ H δ S E hr hs h => ?_⟩
  refine s1 α F σ H δ S _ hr hs ?_
  unfold sSeq at h
  cases q : r δ S with
  | nx δ1 S1 =>
    rw [q] at h
    exact fun σ' H' β F' r1 q1 hs1 => s2 (α ++ β) F' σ' H' δ1 S1 E r1 hs1 (wpS.step q1 h)
  | rt d S1 => rw [q] at h; exact h
  | bk δ S1 => rw [q] at h; exact h
  | ct δ S1 => rw [q] at h; exact h
  | err c fs δ S1 => rw [q] at h; exact h
  | stuck => rw [q] at h; exact h
theorem psds_one {st : Stmt} {r : RS} (h1 : PSd X W st r) : PSds X W [st] r := let ⟨t, p, s⟩ := h1.ex; ⟨t, pss_one p, s⟩
theorem psd_never {st : Stmt} : PSd X W st sNever := ⟨_, ps_never, fun α F σ H δ S E hr hs h => h⟩
theorem psd_expr (ha : PD X W e ra) (hsw : swapsWith e none pos.line X.env = pure false := by rfl) : PSd X W (.Expr e pos) (sExpr ra) := by
  obtain ⟨t, p1, s1⟩ := ha.ex
  refine ⟨_, ps_expr p1 hsw, fun α F σ H δ S E hr hs h => ?_⟩
  exact s1 α F σ H δ S _ hr hs (wpS.out h hs fun d S1 _ x H1 β F1 r1 q1 v1 h1 => h1.nx r1 (hs.mono q1.sub))
theorem psd_ret (ha : PD X W e ra) : PSd X W (.Return (some e) pos) (sRet ra) := by
  obtain ⟨t, p1, s1⟩ := ha.ex
  refine ⟨_, ps_ret p1, fun α F σ H δ S E hr hs h => ?_⟩
  exact s1 α F σ H δ S _ hr hs (wpS.out h hs fun d S1 _ x H1 β F1 r1 q1 v1 h1 => h1.rt r1 v1)
theorem psd_if {p q : List Stmt} {t u : RS} (hc : PB X W c ba) (ha : PSds X W p t) (hb : PSds X W q u) : PSd X W (.If c p q pos) (sIf ba t u) := by
  obtain ⟨tc, p0, s0⟩ := hc.ex
  obtain ⟨t', p1, s1⟩ := ha.ex
  obtain ⟨u', p2, s2⟩ := hb.ex
  refine ⟨_, ps_if p0 p1 p2, fun α F σ H δ S E hr hs h => ?_⟩
  refine s0 α F σ H δ S _ hr hs (wpS.out h hs fun d S1 _ x H1 β F1 r1 q1 v1 h1 => ?_)
  have e : x = d := v1
  subst e
  cases x with
  | true => exact s1 (α ++ β) F1 σ H1 δ S1 E r1 (hs.mono q1.sub) h1
  | false => exact s2 (α ++ β) F1 σ H1 δ S1 E r1 (hs.mono q1.sub) h1
theorem psd_asg {tg : Expr} {g : RG} (he : PD X W e ra) (hg : PGd X W tg g) (hsw : swapsWithSole [tg] e pos.line X.env = pure false := by rfl) (hw : swappedStores [tg] e X.env = pure none := by rfl) (h1 : (assignEach [tg] X.env).map (·.2) = [assign tg X.env] := by rfl) : PSd X W (.Assign [tg] e pos) (sAsg ra g) := by
  obtain ⟨t, p1, s1⟩ := he.ex
  obtain ⟨tg', p2, s2⟩ := hg.ex
  refine ⟨_, ps_asg p1 p2 hsw hw h1, fun α F σ H δ S E hr hs h => ?_⟩
  refine s1 α F σ H δ S _ hr hs (wpS.out h hs fun d S1 _ x H1 β F1 r1 q1 v1 h1 => ?_)
  refine s2 (α ++ β) F1 σ H1 δ S1 x d _ r1 (hs.mono q1.sub) v1 (wpS.out h1 (hs.mono q1.sub) fun δ1 S2 _ σ1 H2 γ F2 r2 q2 v2 h2 => ?_)
  exact h2.nx r2 v2
/-! ### loops -/
/-- J walks ds, whatever else is laid -/
structure ItOk (wd : World) (K : Fg) (mg : Str → Option Value) (F : Hp) (α : List Addr) (J : It) (ds : List D) : Prop where
  go : ∀ (F' H' : Hp) (i : Nat), Sub F F' → Sub F' H' → i < ds.length → J.go i H'
  stop : ∀ (F' H' : Hp), Sub F F' → Sub F' H' → J.stop ds.length H'
  yld : ∀ (F' H' H2 : Hp) (i : Nat) (x : V) (d : D), Sub F F' → Sub F' H' → ds[i]? = some d → J.yld i H' x H2 → (H2 = H' ∧ DV wd K mg F' α x d) ∨ ∃ T o, H' T = none ∧ H2 = upd H' T o ∧ DV wd K mg (upd F' T o) α x d
theorem ItOk.mono {J : It} {ds : List D} (h : ItOk wd K mg F α J ds) (s : Sub F F1) : ItOk wd K mg F1 (α ++ β) J ds where
  go := fun F' H' i a b => h.go F' H' i (s.trans a) b
  stop := fun F' H' a b => h.stop F' H' (s.trans a) b
  yld := fun F' H' H2 i x d a b c q => (h.yld F' H' H2 i x d (s.trans a) b c q).imp (fun ⟨z, y⟩ => ⟨z, y.mono (Sub.refl _)⟩) fun ⟨T, o, z1, z2, y⟩ => ⟨T, o, z1, z2, y.mono (Sub.refl _)⟩
def relI (wd : World) (K : Fg) (mg : Str → Option Value) : RelT It (List D) := fun F α J ds => ItOk wd K mg F α J ds
def SndI (wd : World) (K : Fg) (mg : Str → Option Value) (W : WX) (t : TI) (r : RA) : Prop := ∀ α F σ H δ S (Q : It → Hp → Prop), Rel wd K mg α F H S → Slots wd K mg F α σ δ → wp wd K mg α F H (relI wd K mg) (r δ S) Q (fun c d H' => W c d σ H') → t σ H Q
structure PId (X : Cx) (W : WX) (tg iter : Expr) (r : RA) : Prop where
  ex : ∃ t, PI X tg iter t ∧ SndI X.w X.K X.mg W t r
/-- the item that came -/
theorem ItOk.came {J : It} {ds : List D} {H2 : Hp} {i : Nat} {x : V} {d : D} (h : ItOk wd K mg F α J ds) (hr : Rel wd K mg α F H S) (hd : ds[i]? = some d) (q : J.yld i H x H2) :
    ∃ F2, Rel wd K mg (α ++ []) F2 H2 S ∧ Stp α F H [] F2 H2 ∧ DV wd K mg F2 (α ++ []) x d := by
  rcases h.yld F H H2 i x d (Sub.refl F) hr.sub hd q with ⟨e, v⟩ | ⟨T, o, e1, e2, v⟩
  · subst e
    refine ⟨F, ?_, Stp.refl, v.mono (Sub.refl F)⟩
    rw [List.append_nil]; exact hr
  · subst e2
    obtain ⟨a1, a2⟩ := hr.newF (o := o) e1
    exact ⟨_, a1, a2, v.mono (Sub.refl _)⟩
theorem drop_cons {A : Type} {l : List A} {i : Nat} {d : A} (h : l[i]? = some d) : l.drop i = d :: l.drop (i + 1) := by
  obtain ⟨hi, e⟩ := List.getElem?_eq_some_iff.mp h
  rw [List.drop_eq_getElem_cons hi, e]
theorem psd_for {tg iter : Expr} {body : List Stmt} {ri : RA} {g : RG} {r : RS} (hp : PassesOwn (model X.prog X.w) X.A X.env X.xe) (hc : X.calm = true) (hi : PId X W tg iter ri) (hg : PGd X W tg g) (hb : PSds X W body r) (hsx : ∀ x, foldedSetIterable iter X.env x = pure x := by intro _; rfl) : PSd X W (.For tg iter body [] pos) (sFor ri g r) := by
  obtain ⟨ti, p1, s1⟩ := hi.ex
  obtain ⟨tg', p2, s2⟩ := hg.ex
  obtain ⟨tb, p3, s3⟩ := hb.ex
  refine ⟨_, ps_for hp hc p1 p2 p3 hsx, fun α F σ H δ S E hr hs h => ?_⟩
  refine s1 α F σ H δ S _ hr hs (wpS.out h hs fun ds S1 _ J H1 β F1 r1 q1 v1 h1 => ?_)
  have v1 : ItOk X.w X.K X.mg F1 (α ++ β) J ds := v1
  refine ⟨fun i m σ' H' => i + m = ds.length ∧ ∃ γ F' δ' S', Rel X.w X.K X.mg (α ++ β ++ γ) F' H' S' ∧ Sub F1 F' ∧ Slots X.w X.K X.mg F' (α ++ β ++ γ) σ' δ' ∧ wpS X.w X.K X.mg (α ++ β ++ γ) F' H' (forL g r (ds.drop i) δ' S') E W, ⟨ds.length, by omega, [], F1, δ, S1, ?_⟩, fun i m σ' H' ⟨hm, γ, F', δ', S', r2, sb, hs2, h2⟩ => ?_⟩
  · rw [List.append_nil]
    exact ⟨r1, Sub.refl _, hs.mono q1.sub, h1⟩
  · have v2 : ItOk X.w X.K X.mg F' (α ++ β ++ γ) J ds := v1.mono sb
    by_cases hlt : i < ds.length
    · obtain ⟨d, hd⟩ : ∃ d, ds[i]? = some d := ⟨_, List.getElem?_eq_getElem hlt⟩
      refine .inr ⟨v2.go F' H' i (Sub.refl _) r2.sub hlt, fun σ2 H2 => ∃ γ F' δ' S', Rel X.w X.K X.mg (α ++ β ++ γ) F' H2 S' ∧ Sub F1 F' ∧ Slots X.w X.K X.mg F' (α ++ β ++ γ) σ2 δ' ∧ wpS X.w X.K X.mg (α ++ β ++ γ) F' H2 (forL g r (ds.drop (i + 1)) δ' S') E W, fun σ2 H2 z => ⟨m - 1, by omega, by omega, z⟩, fun x H2 hy => ?_⟩
      obtain ⟨F2, r3, q3, v3⟩ := v2.came r2 hd hy
      rw [drop_cons hd] at h2
      have h3 := wpS.step q3 h2
      refine s2 (α ++ β ++ γ ++ []) F2 σ' H2 δ' S' x d _ r3 (hs2.mono q3.sub) v3 (wpS.out h3 (hs2.mono q3.sub) fun δ1 S2 _ σ1 H3 ε F3 r4 q4 v4 h4 => ?_)
      refine s3 (α ++ β ++ γ ++ [] ++ ε) F3 σ1 H3 δ1 S2 _ r4 v4 ?_
      have sb3 : Sub F1 F3 := (sb.trans q3.sub).trans q4.sub
      have ass : ∀ ζ : List Addr, α ++ β ++ γ ++ [] ++ ε ++ ζ = α ++ β ++ (γ ++ ε ++ ζ) := fun ζ => by simp [List.append_assoc]
      cases q : r δ1 S2 with
      | nx δ2 S3 =>
        rw [q] at h4
        intro σ4 H4 ζ F4 r5 q5 v5
        have h5 := wpS.step q5 h4
        rw [ass] at r5 v5 h5
        exact ⟨_, F4, δ2, S3, r5, sb3.trans q5.sub, v5, h5⟩
      | ct δ2 S3 =>
        rw [q] at h4
        intro σ4 H4 ζ F4 r5 q5 v5
        have h5 := wpS.step q5 h4
        rw [ass] at r5 v5 h5
        exact ⟨_, F4, δ2, S3, r5, sb3.trans q5.sub, v5, h5⟩
      | bk δ2 S3 => rw [q] at h4; exact h4
      | rt d S3 => rw [q] at h4; exact h4
      | err c fs δ2 S3 => rw [q] at h4; exact h4
      | stuck => rw [q] at h4; exact h4
    · have e : i = ds.length := by omega
      subst e
      refine .inl ⟨v2.stop F' H' (Sub.refl _) r2.sub, ?_⟩
      rw [List.drop_length] at h2
      exact wpS.nx h2 r2 hs2
theorem psd_while {c : Expr} {body : List Stmt} {r : RS} (fuel : Sl → Sto → Nat) (hp : PassesOwn (model X.prog X.w) X.A X.env X.xe) (hcd : PB X W c ba) (hb : PSds X W body r) : PSd X W (.While c body [] pos) (sWhile fuel ba r) := by
  obtain ⟨tc, p1, s1⟩ := hcd.ex
  obtain ⟨tb, p3, s3⟩ := hb.ex
  refine ⟨_, ps_while hp p1 p3, fun α F σ H δ S E hr hs h => ?_⟩
  refine ⟨fun m σ' H' => ∃ γ F' δ' S', Rel X.w X.K X.mg (α ++ γ) F' H' S' ∧ Slots X.w X.K X.mg F' (α ++ γ) σ' δ' ∧ wpS X.w X.K X.mg (α ++ γ) F' H' (whileL ba r m δ' S') E W, ⟨fuel δ S, [], F, δ, S, ?_⟩, fun m σ' H' ⟨γ, F', δ', S', r2, hs2, h2⟩ => ?_⟩
  · rw [List.append_nil]
    exact ⟨hr, hs, h⟩
  · cases m with
    | zero => exact h2.elim
    | succ m =>
      refine s1 (α ++ γ) F' σ' H' δ' S' _ r2 hs2 (wpS.out h2 hs2 fun k S2 _ x H3 ε F3 r4 q4 v4 h4 => ?_)
      have e : x = k := v4
      subst e
      cases x with
      | false => exact wpS.nx h4 r4 (hs2.mono q4.sub)
      | true =>
        refine ⟨fun σ2 H2 => ∃ γ F' δ' S', Rel X.w X.K X.mg (α ++ γ) F' H2 S' ∧ Slots X.w X.K X.mg F' (α ++ γ) σ2 δ' ∧ wpS X.w X.K X.mg (α ++ γ) F' H2 (whileL ba r m δ' S') E W, fun σ2 H2 z => ⟨m, Nat.lt_succ_self m, z⟩, ?_⟩
        refine s3 (α ++ γ ++ ε) F3 σ' H3 δ' S2 _ r4 (hs2.mono q4.sub) ?_
        have ass : ∀ ζ : List Addr, α ++ γ ++ ε ++ ζ = α ++ (γ ++ ε ++ ζ) := fun ζ => by simp [List.append_assoc]
        rw [if_pos rfl] at h4
        cases q : r δ' S2 with
        | nx δ2 S3 =>
          rw [q] at h4
          intro σ4 H4 ζ F4 r5 q5 v5
          have h5 := wpS.step q5 h4
          rw [ass] at r5 v5 h5
          exact ⟨_, F4, δ2, S3, r5, v5, h5⟩
        | ct δ2 S3 =>
          rw [q] at h4
          intro σ4 H4 ζ F4 r5 q5 v5
          have h5 := wpS.step q5 h4
          rw [ass] at r5 v5 h5
          exact ⟨_, F4, δ2, S3, r5, v5, h5⟩
        | bk δ2 S3 => rw [q] at h4; exact h4
        | rt d S3 => rw [q] at h4; exact h4
        | err c fs δ2 S3 => rw [q] at h4; exact h4
        | stuck => rw [q] at h4; exact h4
end
end DL
set_option Elab.async false
set_option linter.all false
set_option maxRecDepth 100000
set_option maxHeartbeats 4000000
set_option autoImplicit false
/-! Data layer, sixth part: list comprehensions, defs. -/
namespace DL
open PySem PySem.Spec PyProof.Rows L2
abbrev W0 : WX := fun _ _ _ _ => False
section
variable {X : Cx} {W : WX} {a b c e : Expr} {es rest : List Expr} {ra rb rc : RE} {ba bb : RB} {rs : RA} {pos p : Pos} {wd : World} {K : Fg} {mg : Str → Option Value} {α β : List Addr} {F F1 H H1 : Hp} {S : Sto}
/-- an expression's reading by its mirror alone -/
def tCanE (wd : World) (K : Fg) (mg : Str → Option Value) (W : WX) (r : RE) : TE := fun σ H Q => ∃ α F δ S, Rel wd K mg α F H S ∧ Slots wd K mg F α σ δ ∧ wp wd K mg α F H (relD wd K mg) (r δ S) Q (fun c d H' => W c d σ H')
def tCanB (wd : World) (K : Fg) (mg : Str → Option Value) (W : WX) (r : RB) : TT := fun σ H Q => ∃ α F δ S, Rel wd K mg α F H S ∧ Slots wd K mg F α σ δ ∧ wp wd K mg α F H relB (r δ S) Q (fun c d H' => W c d σ H')
theorem PD.can (h : PD X W a ra) : PE X a (tCanE X.w X.K X.mg W ra) := by
  obtain ⟨t, p, s⟩ := h.ex
  exact ⟨fun pins sh σ H Q I ⟨α, F, δ, S, h1, h2, h3⟩ => p.run pins sh σ H Q I (s α F σ H δ S Q h1 h2 h3)⟩
theorem PB.can (h : PB X W a ba) : PT X a (tCanB X.w X.K X.mg W ba) := by
  obtain ⟨t, p, s⟩ := h.ex
  exact ⟨fun pins sh σ H Q I ⟨α, F, δ, S, h1, h2, h3⟩ => p.run pins sh σ H Q I (s α F σ H δ S Q h1 h2 h3)⟩
/-! ### a comprehension's own targets -/
theorem wipe_set {σ : L2.St} {i : Nat} {x : Option V} : ∀ {vs : List Nat}, wipe (σ.set i x) vs = if i ∈ vs then wipe σ vs else (wipe σ vs).set i x
  | [] => rfl
  | v :: vs => by
    unfold wipe
    rw [wipe_set]
    by_cases h : i ∈ vs
    · rw [if_pos h, if_pos (List.mem_cons_of_mem _ h)]
    · rw [if_neg h]
      by_cases z : i = v
      · subst z
        rw [if_pos List.mem_cons_self, List.set_set]
      · rw [if_neg (by intro q; rcases List.mem_cons.mp q with q | q; exact z q; exact h q)]
        exact List.set_comm _ _ z
structure PGx (X : Cx) (vs : List Nat) (tg : Expr) (t : TG) (g : RG) : Prop where
  pg : PG X tg t
  snd : ∀ α F σ H δ S v d (Q : L2.St → Hp → Prop), Rel X.w X.K X.mg α F H S → Slots X.w X.K X.mg F α σ δ → DV X.w X.K X.mg F α v d → wp X.w X.K X.mg α F H (fun F α σ' δ' => Slots X.w X.K X.mg F α σ' δ' ∧ wipe σ' vs = wipe σ vs) (g d δ S) Q (fun _ _ _ => False) → t v σ H Q
  ne : ∀ d δ S c fs S', g d δ S ≠ .err c fs S'
structure PGxs (X : Cx) (vs : List Nat) (tg : List Expr) (t : TGs) (g : List D → Sl → Sto → Res Sl) : Prop where
  pg : PGs X tg t
  snd : ∀ α F σ H δ S v d (Q : L2.St → Hp → Prop), Rel X.w X.K X.mg α F H S → Slots X.w X.K X.mg F α σ δ → DVs X.w X.K X.mg F α v d → wp X.w X.K X.mg α F H (fun F α σ' δ' => Slots X.w X.K X.mg F α σ' δ' ∧ wipe σ' vs = wipe σ vs) (g d δ S) Q (fun _ _ _ => False) → t v σ H Q
  ne : ∀ d δ S c fs S', g d δ S ≠ .err c fs S'
  len : ∀ ds δ S δ' S', g ds δ S = .ok δ' S' → ds.length = tg.length
theorem pgx_name {vs : List Nat} (i : Nat) {x : Str} (hN : X.N.Nodup) (hv : i ∈ vs := by decide) (hi : X.N[i]? = some x := by rfl) (hx : Loc X.env.scope x := by first | exact Or.inl rfl | exact Or.inr rfl) (hf : X.fn x = true ∨ X.env.scope.names.lookup x = some .local := by first | exact .inl rfl | exact .inr rfl | assumption) : PGx X vs (.Name x pos) (L2.gName i) (gName i) := by
  refine ⟨pg_name hN hi hx hf, fun α F σ H δ S v d Q hr hs hd h => ?_, fun d δ S c fs S' h => by unfold gName at h; split at h <;> cases h⟩
  unfold gName at h
  split at h
  · exact h.now hr ⟨hs.set hd, by rw [wipe_set, if_pos hv]⟩
  · exact h.elim
theorem pgxs_nil {vs : List Nat} : PGxs X vs [] L2.gNil gNil := by
  refine ⟨pgs_nil, fun α F σ H δ S v d Q hr hs hv h => ?_, fun d δ S c fs S' h => ?_, fun ds δ S δ' S' h => ?_⟩
  · cases hv with
    | nil => exact ⟨rfl, h.now hr ⟨hs, rfl⟩⟩
    | cons _ _ => exact h.elim
  · cases d <;> cases h
  · cases ds with
    | nil => rfl
    | cons _ _ => cases h
theorem pgxs_cons {vs : List Nat} {t : TG} {t' : TGs} {g : RG} {u : List D → Sl → Sto → Res Sl} (h1 : PGx X vs e t g) (h2 : PGxs X vs es t' u) (hsy : (assignEach (e :: es) X.env).map (·.2) = assign e X.env :: (assignEach es X.env).map (·.2) := by rfl) : PGxs X vs (e :: es) (L2.gCons t t') (gCons g u) := by
  refine ⟨pgs_cons h1.pg h2.pg hsy, fun α F σ H δ S v d Q hr hs hv h => ?_, fun d δ S c fs S' h => ?_, fun ds δ S δ' S' h => ?_⟩
  · cases hv with
    | nil => exact h.elim
    | cons hv ht =>
      rename_i v d vs' ds
      refine ⟨v, vs', rfl, h1.snd α F σ H δ S v d _ hr hs hv (wp.bind h fun δ1 S1 _ σ1 H1 β F1 r1 q1 hs1 q => ?_)⟩
      refine h2.snd (α ++ β) F1 σ1 H1 δ1 S1 vs' ds Q r1 hs1.1 (ht.mono q1.sub) ?_
      rw [hs1.2]
      exact q
  · cases d with
    | nil => cases h
    | cons d r =>
      have h' : (g d δ S).bind (fun δ1 S1 => u r δ1 S1) = .err c fs S' := h
      cases q : g d δ S with
      | ok a S1 => rw [q] at h'; exact h2.ne _ _ _ _ _ _ h'
      | err c fs S1 => exact h1.ne _ _ _ _ _ _ q
      | stuck => rw [q] at h'; cases h'
  · cases ds with
    | nil => cases h
    | cons d r =>
      have h' : (g d δ S).bind (fun δ1 S1 => u r δ1 S1) = .ok δ' S' := h
      cases q : g d δ S with
      | ok a S1 => rw [q] at h'; rw [List.length_cons, List.length_cons, h2.len _ _ _ _ _ h']
      | err c fs S1 => rw [q] at h'; cases h'
      | stuck => rw [q] at h'; cases h'
theorem pgx_tup {vs : List Nat} {k : Nat} {t : TGs} {u : List D → Sl → Sto → Res Sl} (hc : X.calm = true) (h : PGxs X vs es t u) (hn : (assignEach es X.env).length = es.length := by rfl) (hst : (assignEach es X.env).findIdx? (·.1) = none := by rfl) : PGx X vs (.Tuple es k pos) (L2.gTup X.K es.length t) (gTup u) := by
  refine ⟨pg_tup hc h.pg hn hst, fun α F σ H δ S v d Q hr hs hv h0 => ?_, fun d δ S c fs S' h0 => ?_⟩
  · unfold gTup at h0
    cases q : deref S d with
    | tup ds =>
      rw [q] at h0
      dsimp only at h0
      obtain ⟨a, xs, e1, e2, e3⟩ := hr.viewT hv q
      have len : ds.length = es.length := by
        cases q2 : u ds δ S with
        | ok δ' S' => exact h.len _ _ _ _ _ q2
        | err c fs S' => exact absurd q2 (h.ne _ _ _ _ _ _)
        | stuck => rw [q2] at h0; exact h0.elim
      exact ⟨a, xs, e1, e2, by rw [e3.length]; exact len, h.snd α F σ H δ S xs ds Q hr hs e3 h0⟩
    | tux ds =>
      rw [q] at h0
      dsimp only at h0
      obtain ⟨a, xs, e1, e2, e3⟩ := hr.viewX hv q
      have len : ds.length = es.length := by
        cases q2 : u ds δ S with
        | ok δ' S' => exact h.len _ _ _ _ _ q2
        | err c fs S' => exact absurd q2 (h.ne _ _ _ _ _ _)
        | stuck => rw [q2] at h0; exact h0.elim
      exact ⟨a, xs, e1, e2, by rw [e3.length]; exact len, h.snd α F σ H δ S xs ds Q hr hs e3 h0⟩
    | _ => rw [q] at h0; exact h0.elim
  · unfold gTup at h0
    cases q : deref S d with
    | tup ds => rw [q] at h0; exact h.ne _ _ _ _ _ _ h0
    | tux ds => rw [q] at h0; exact h.ne _ _ _ _ _ _ h0
    | _ => rw [q] at h0; cases h0
theorem Slots.wipe {σ : L2.St} {δ : Sl} (h : Slots wd K mg F α σ δ) : ∀ vs : List Nat, Slots wd K mg F α (L2.wipe σ vs) (wipeD δ vs)
  | [] => h
  | v :: vs => by
    have ih := Slots.wipe h vs
    refine ⟨by show ((L2.wipe σ vs).set v none).length = ((wipeD δ vs).set v none).length; rw [List.length_set, List.length_set]; exact ih.1, fun j d e => ?_⟩
    have e' : ((wipeD δ vs).set v none)[j]? = some (some d) := e
    show ∃ w, ((L2.wipe σ vs).set v none)[j]? = some (some w) ∧ _
    by_cases z : v = j
    · subst z
      have hl : v < (wipeD δ vs).length := by
        have := (List.getElem?_eq_some_iff.mp e').1
        rw [List.length_set] at this; exact this
      rw [List.getElem?_set_self hl] at e'
      cases e'
    · rw [List.getElem?_set_ne z] at e' ⊢
      exact ih.2 j d e'
/-- what walks a comprehension: read within its block -/
structure PLc (X : Cx) (vs : List Nat) (scope : Scope) (tg elt : Expr) (ifs : List Expr) (t : TG) (tt : TT) (g : RG) (rt : RB) (re : RE) : Prop where
  g : ∀ (s : Shared) (H : Hp) (C : Addr) (cl : List (Str × Addr)) (fp : List Addr), PGx (X.blk s H scope (compEnvC scope cl C X.env) fp) vs tg t g
  t : ∀ (s : Shared) (H : Hp) (C : Addr) (cl : List (Str × Addr)) (fp : List Addr), PTs (X.blk s H scope (compEnvC scope cl C X.env) fp) ifs tt
  ts : ∀ α F σ H δ S (Q : Bool → Hp → Prop), Rel X.w X.K X.mg α F H S → Slots X.w X.K X.mg F α σ δ → wp X.w X.K X.mg α F H relB (rt δ S) Q (fun _ _ _ => False) → tt σ H Q
  e : ∀ (s : Shared) (H : Hp) (C : Addr) (cl : List (Str × Addr)) (fp : List Addr), PD (X.blk s H scope (compEnvC scope cl C X.env) fp) W0 elt re
theorem plc_no {vs : List Nat} {scope : Scope} {tg elt : Expr} {t : TG} {g : RG} {re : RE} (hg : ∀ (s : Shared) (H : Hp) (C : Addr) (cl : List (Str × Addr)) (fp : List Addr), PGx (X.blk s H scope (compEnvC scope cl C X.env) fp) vs tg t g)
    (he : ∀ (s : Shared) (H : Hp) (C : Addr) (cl : List (Str × Addr)) (fp : List Addr), PD (X.blk s H scope (compEnvC scope cl C X.env) fp) W0 elt re) : PLc X vs scope tg elt [] t tYes g bYes re :=
  ⟨hg, fun _ _ _ _ _ => pts_nil, fun α F σ H δ S Q hr _ h => wp.now (b := true) h hr rfl, he⟩
theorem plc_if {vs : List Nat} {scope : Scope} {tg elt c : Expr} {t : TG} {g : RG} {bc : RB} {re : RE} (hg : ∀ (s : Shared) (H : Hp) (C : Addr) (cl : List (Str × Addr)) (fp : List Addr), PGx (X.blk s H scope (compEnvC scope cl C X.env) fp) vs tg t g)
    (hc : ∀ (s : Shared) (H : Hp) (C : Addr) (cl : List (Str × Addr)) (fp : List Addr), PB (X.blk s H scope (compEnvC scope cl C X.env) fp) W0 c bc) (he : ∀ (s : Shared) (H : Hp) (C : Addr) (cl : List (Str × Addr)) (fp : List Addr), PD (X.blk s H scope (compEnvC scope cl C X.env) fp) W0 elt re) :
    PLc X vs scope tg elt [c] t (tCanB X.w X.K X.mg W0 bc) g bc re :=
  ⟨hg, fun s H C cl fp => pts_one (hc s H C cl fp).can, fun α F σ H δ S Q hr hs h => ⟨α, F, δ, S, hr, hs, h⟩, he⟩
theorem bind_ok {A B : Type} {r : Res A} {f : A → Sto → Res B} {b : B} {S' : Sto} (h : r.bind f = .ok b S') : ∃ a S1, r = .ok a S1 ∧ f a S1 = .ok b S' := by
  cases r with
  | ok a S1 => exact ⟨a, S1, rfl, h⟩
  | err c fs S1 => cases h
  | stuck => cases h
theorem wipe_idem (σ : L2.St) : ∀ vs : List Nat, L2.wipe (L2.wipe σ vs) vs = L2.wipe σ vs
  | [] => rfl
  | v :: vs => by
    show (L2.wipe ((L2.wipe σ vs).set v none) vs).set v none = (L2.wipe σ vs).set v none
    rw [wipe_set, wipe_idem σ vs]
    split
    · rfl
    · rw [List.set_set]
structure Stay (wd : World) (K : Fg) (mg : Str → Option Value) (α : List Addr) (F H : Hp) (ad : Addr) (acc : List V) (accD : List D) (γ : List Addr) (F' H' : Hp) (S' : Sto) : Prop where
  rel : Rel wd K mg (α ++ γ) F' H' S'
  stp : Stp α F H γ F' H'
  nin : ad ∉ α ++ γ
  nF : F' ad = none
  at' : H' ad = some (.lst acc)
  dvs : DVs wd K mg F' (α ++ γ) acc accD
theorem Stay.step {ad : Addr} {acc : List V} {accD : List D} {γ ε : List Addr} {F' H' F2 H2 : Hp} {S' S2 : Sto} (st : Stay wd K mg α F H ad acc accD γ F' H' S') (r : Rel wd K mg (α ++ γ ++ ε) F2 H2 S2) (q : Stp (α ++ γ) F' H' ε F2 H2) : Stay wd K mg α F H ad acc accD (γ ++ ε) F2 H2 S2 := by
  have hn : H' ad ≠ none := by rw [st.at']; exact fun z => nomatch z
  refine ⟨by rw [← List.append_assoc]; exact r, st.stp.trans q, ?_, q.fnew ad st.nin st.nF hn, q.frame ad _ st.nin st.at', by rw [← List.append_assoc]; exact st.dvs.mono q.sub⟩
  rw [← List.append_assoc]
  intro z
  rcases List.mem_append.mp z with z | z
  · exact st.nin z
  · exact hn (q.new ad z)
/-- the loop of a comprehension -/
theorem lc_all {scope : Scope} {vs : List Nat} {tg elt : Expr} {ifs : List Expr} {t : TG} {tt : TT} {g : RG} {rt : RB} {re : RE} (L : PLc X vs scope tg elt ifs t tt g rt re) {σ : L2.St} {δ : Sl} {S1 S2 : Sto} {ds zs : List D} {J : It} {ad : Addr} {Qd : Hp → Prop}
    (hr : Rel X.w X.K X.mg α F H S1) (hs : Slots X.w X.K X.mg F α σ δ) (hJ : ItOk X.w X.K X.mg F α J ds) (hD : H ad = none) (hz : lcL g rt re ds (wipeD δ vs) S1 = .ok zs S2) (hl : zs.length ≤ sizeLine)
    (hq : ∀ H' β F', Rel X.w X.K X.mg (α ++ β) F' H' S2 → Stp α F H β F' H' → ad ∉ α ++ β → F' ad = none → Own X.w X.K X.mg F' (α ++ β) H' ad (.lst zs) → Qd H') :
    ∃ Wl : Nat → Nat → Hp → Prop, (∃ m, Wl 0 m (upd H ad (.lst []))) ∧ ∀ i m H, Wl i m H → (J.stop i H ∧ Qd H) ∨ (J.go i H ∧ ∃ Nx : Hp → Prop, (∀ H', Nx H' → ∃ m', m' < m ∧ Wl (i + 1) m' H') ∧ ∀ x H', J.yld i H x H' → t x (L2.wipe σ vs) H' fun σ2 H2 => L2.wipe σ2 vs = L2.wipe σ vs ∧ tt σ2 H2 fun b H3 =>
      if b = true then tCanE X.w X.K X.mg W0 re σ2 H3 fun y H4 => ∃ acc, H4 ad = some (.lst acc) ∧ acc.length < sizeLine ∧ Nx (upd H4 ad (.lst (acc ++ [y]))) else Nx H3) := by
  refine ⟨fun i m H' => i + m = ds.length ∧ ∃ γ F' S' acc accD, Stay X.w X.K X.mg α F H ad acc accD γ F' H' S' ∧
    (lcL g rt re (ds.drop i) (wipeD δ vs) S').bind (fun ys S3 => .ok (accD ++ ys) S3) = .ok zs S2, ⟨ds.length, by omega, [], F, S1, [], [], ?_, ?_⟩, fun i m H' ⟨hm, γ, F', S', acc, accD, st, eq⟩ => ?_⟩
  · have n := hr.notin hD
    have f := hr.notF hD
    refine ⟨?_, Stp.refl.other hD, ?_, f, upd_same, .nil⟩
    · rw [List.append_nil]; exact hr.other n f
    · rw [List.append_nil]; exact n
  · rw [List.drop_zero, hz]
    rfl
  · have v2 : ItOk X.w X.K X.mg F' (α ++ γ) J ds := hJ.mono st.stp.sub
    by_cases hlt : i < ds.length
    · obtain ⟨d, hd⟩ : ∃ d, ds[i]? = some d := ⟨_, List.getElem?_eq_getElem hlt⟩
      refine .inr ⟨v2.go F' H' i (Sub.refl _) st.rel.sub hlt, fun H4 => ∃ γ F' S' acc accD, Stay X.w X.K X.mg α F H ad acc accD γ F' H4 S' ∧
        (lcL g rt re (ds.drop (i + 1)) (wipeD δ vs) S').bind (fun ys S3 => .ok (accD ++ ys) S3) = .ok zs S2, fun H4 z => ⟨m - 1, by omega, by omega, z⟩, fun x H2 hy => ?_⟩
      obtain ⟨F2, r3, q3, v3⟩ := v2.came st.rel hd hy
      have st3 := st.step r3 q3
      rw [drop_cons hd] at eq
      obtain ⟨ys, S3, eq1, eq2⟩ := bind_ok eq
      cases eq2
      unfold lcL at eq1
      obtain ⟨δ1, S4, eg, eq1⟩ := bind_ok eq1
      obtain ⟨k, S5, et, eq1⟩ := bind_ok eq1
      have hs3 : Slots X.w X.K X.mg F2 (α ++ γ ++ []) (L2.wipe σ vs) (wipeD δ vs) := (((hs.mono st.stp.sub).mono q3.sub).wipe vs)
      refine (L.g X.s_0 H 0 [] []).snd (α ++ γ ++ []) F2 (L2.wipe σ vs) H2 (wipeD δ vs) S' x d _ r3 hs3 v3 ?_
      rw [eg]
      intro σ1 H5 ε F5 r5 q5 ⟨hs5, hw⟩
      rw [List.append_assoc α γ []] at q5 r5 hs5
      have st5 := st3.step r5 q5
      refine ⟨hw.trans (wipe_idem σ vs), ?_⟩
      refine L.ts _ F5 σ1 H5 δ1 S4 _ r5 hs5 ?_
      rw [et]
      intro b H6 ζ F6 r6 q6 eb
      have eb : b = k := eb
      subst eb
      rw [List.append_assoc α (γ ++ []) ε] at q6 r6
      have st6 := st5.step r6 q6
      cases b with
      | false =>
        rw [if_neg (by decide)]
        rw [if_neg (by decide)] at eq1
        exact ⟨_, F6, S5, acc, accD, st6, by rw [eq1]; rfl⟩
      | true =>
        rw [if_pos rfl]
        rw [if_pos rfl] at eq1
        obtain ⟨y, S6, ey, eq1⟩ := bind_ok eq1
        obtain ⟨ys', S7, er, eq1⟩ := bind_ok eq1
        cases eq1
        have hs6 := hs5.mono (β := ζ) q6.sub
        rw [List.append_assoc α (γ ++ []) ε] at hs6
        refine ⟨_, F6, δ1, S5, r6, hs6, ?_⟩
        rw [ey]
        intro v H7 η F7 r7 q7 v7
        rw [List.append_assoc α (γ ++ [] ++ ε) ζ] at q7 r7 v7
        have st7 := st6.step r7 q7
        have hlen : acc.length < sizeLine := by
          have e1 := st.dvs.length
          rw [List.length_append, List.length_cons] at hl
          omega
        have v7 : DV X.w X.K X.mg F7 _ v y := v7
        refine ⟨acc, st7.at', hlen, _, F7, S6, acc ++ [v], accD ++ [y], ⟨st7.rel.other st7.nin st7.nF, ?_, st7.nin, st7.nF, upd_same, st7.dvs.append (.cons ?_ .nil)⟩, ?_⟩
        · exact st7.stp.other hD
        · simpa only [List.append_assoc] using v7
        · rw [er]
          show Res.ok (accD ++ [y] ++ ys') _ = _
          rw [List.append_assoc] <;> rfl
    · have e : i = ds.length := by omega
      subst e
      rw [List.drop_length] at eq
      have eq' : Res.ok (accD ++ []) S' = Res.ok zs S2 := eq
      rw [List.append_nil] at eq'
      cases eq'
      exact .inl ⟨v2.stop F' H' (Sub.refl _) st.rel.sub, hq H' γ F' st.rel st.stp st.nin st.nF ⟨acc, st.at', st.dvs⟩⟩
/-- a mirror that came to a list that fits -/
theorem lc_fits {g : RG} {rt : RB} {re : RE} {vs : List Nat} {δ : Sl} {S1 : Sto} {ds : List D} {Q : VK} {W : XK} (h : wpF wd K mg α F H ((noErr (lcL g rt re ds (wipeD δ vs) S1)).bind fun ys S2 => if ys.length ≤ sizeLine then .ok (.lst ys) S2 else .stuck) Q W) :
    ∃ zs S2, lcL g rt re ds (wipeD δ vs) S1 = .ok zs S2 ∧ zs.length ≤ sizeLine ∧ wpF wd K mg α F H (.ok (.lst zs) S2) Q W := by
  cases q : lcL g rt re ds (wipeD δ vs) S1 with
  | ok zs S2 =>
    rw [q] at h
    have h' : wpF wd K mg α F H (if zs.length ≤ sizeLine then .ok (.lst zs) S2 else .stuck) Q W := h
    split at h'
    · rename_i hl; exact ⟨zs, S2, rfl, hl, h'⟩
    · exact h'.elim
  | err c fs S2 => rw [q] at h; exact h.elim
  | stuck => rw [q] at h; exact h.elim
theorem lc_snd {ri : RA} {wi : TI} {scope : Scope} {vs : List Nat} {tg elt : Expr} {ifs : List Expr} {t : TG} {tt : TT} {g : RG} {rt : RB} {re : RE} (si : SndI X.w X.K X.mg W wi ri) (L : PLc X vs scope tg elt ifs t tt g rt re) {σ : L2.St} {δ : Sl} {Q : VK}
    (hr : Rel X.w X.K X.mg α F H S) (hs : Slots X.w X.K X.mg F α σ δ) (h : wpF X.w X.K X.mg α F H (rLc ri g vs rt re δ S) Q (fun c d H' => W c d σ H')) : tLc wi t tt (tCanE X.w X.K X.mg W0 re) vs σ H Q := by
  refine si α F σ H δ S _ hr hs (wpF.bind h fun ds S1 _ J H1 β F1 r1 q1 v1 h1 => ?_)
  intro ad hD
  obtain ⟨zs, S2, e1, e2, h2⟩ := lc_fits h1
  refine lc_all (Qd := fun H' => Q (.ref ad) H') L r1 (hs.mono q1.sub) v1 hD e1 e2 fun H' γ F' r2 q2 n f o => ?_
  exact h2 ad H' γ F' r2 q2 hD n f o rfl
theorem pf_lc {tg iter elt : Expr} {ifs : List Expr} {scope : Scope} {own : List (Str × Nat)} {t : TG} {tt : TT} {ri : RA} {g : RG} {rt : RB} {re : RE} (hc : X.calm = true) (hN : X.N.Nodup) (hi : PId X W tg iter ri) (ok : BlkOk X.N X.env.scope scope own) (L : PLc X (own.map (·.2)) scope tg elt ifs t tt g rt re)
    (hsx : ∀ x, foldedSetIterable iter X.env x = pure x := by intro _; rfl) : PF X W (.ListComp elt [⟨tg, iter, ifs, 0⟩] scope pos) (rLc ri g (own.map (·.2)) rt re) := by
  obtain ⟨wi, p1, s1⟩ := hi.ex
  exact ⟨_, pe_lc hc hN p1 ok (fun s H C cl fp => (L.g s H C cl fp).pg) L.t (fun s H C cl fp => (L.e s H C cl fp).can) hsx, fun α F σ H δ S Q hr hs h => lc_snd s1 L hr hs h⟩
/-- what is done with a made list: it is the store's, or stands for good -/
theorem wpF.keep {r : Res D} {σ : L2.St} {Q : VK} (h : wp wd K mg α F H (relD wd K mg) (r.bind fun d S1 => match d with | .lst ds => .ok (.lst ds) S1 | _ => .stuck) Q (fun c d H' => W c d σ H')) : wpF wd K mg α F H r Q (fun c d H' => W c d σ H') := by
  cases r with
  | ok d S' =>
    intro p H' β F' r1 s1 hp ha hf ho hd
    cases d with
    | lst ds =>
      have h2 : wp wd K mg α F H (relD wd K mg) (.ok (.lst ds) S') Q _ := h
      obtain ⟨xs, o1, o2⟩ := ho
      obtain ⟨a1, a2⟩ := r1.freeze (o := .lst xs) ha hf o1
      exact h2 (.ref p) H' β (upd F' p (.lst xs)) a1 ⟨s1.new, s1.sub.trans a2, s1.frame, s1.live, fun a g1 g2 g3 => by
        have z : a ≠ p := fun z => g3 (z ▸ hp)
        rw [upd_ne z]; exact s1.fnew a g1 g2 g3⟩ (.lst (.inl (Rd.of upd_same)) (by have := o2.mono (β := []) a2; rw [List.append_nil] at this; exact this))
    | _ => exact (show False from h).elim
  | err c fs S' => exact h
  | stuck => exact h
/-! ### defs -/
theorem closedK_snd {n : Nat} : ∀ {kvs : List (D × D)}, closedK n kvs = true → closedL n (kvs.map (·.2)) = true
  | [], _ => rfl
  | (k, v) :: r, h => by
    unfold closedK at h
    rw [Bool.and_eq_true, Bool.and_eq_true] at h
    show (D.closed n v && closedL n (r.map (·.2))) = true
    rw [h.1.2, closedK_snd h.2]
    rfl
mutual
theorem DV.shrink {v : V} {d : D} : D.closed α.length d = true → DV wd K mg F (α ++ β) v d → DV wd K mg F α v d
  | _, .non => .non
  | _, .bl b => .bl b
  | _, .int i => .int i
  | _, .str x => .str x
  | h, .tup a t => .tup a (DVs.shrink (by simpa [D.closed] using h) t)
  | h, .tux a t => .tux a (DVs.shrink (by simpa [D.closed] using h) t)
  | h, .lst a t => .lst a (DVs.shrink (by simpa [D.closed] using h) t)
  | h, .ptr e => by
    rename_i k a
    have hk : k < α.length := by simpa [D.closed] using h
    rw [List.getElem?_append_left hk] at e
    exact .ptr e
  | _, .fn e => .fn e
  | _, .ty n => .ty n
  | h, .exc h1 h2 h3 h4 h5 => .exc h1 h2 h3 h4 (DVs.shrink (closedK_snd (by simpa [D.closed] using h)) h5)
  | h, .dc0 h1 h2 => .dc0 h1 (DV.shrink (by simpa [D.closed] using h) h2)
theorem DVs.shrink {vs : List V} {ds : List D} : closedL α.length ds = true → DVs wd K mg F (α ++ β) vs ds → DVs wd K mg F α vs ds
  | _, .nil => .nil
  | h, .cons a t => by
    unfold closedL at h
    rw [Bool.and_eq_true] at h
    exact .cons (DV.shrink h.1 a) (DVs.shrink h.2 t)
end
theorem NVs.shrink {xs : List (NestedKey × Addr × V)} : ∀ {kvs : List (D × D)}, closedK α.length kvs = true → NVs wd K mg F (α ++ β) xs kvs → NVs wd K mg F α xs kvs := fun {kvs} h q => by
  induction q with
  | nil => exact .nil
  | cons h1 h2 h3 h4 h6 _ ih =>
    unfold closedK at h
    rw [Bool.and_eq_true, Bool.and_eq_true] at h
    exact .cons h1 h2 (h3.shrink h.1.1) h4 (h6.shrink h.1.2) (ih h.2)
theorem Own.shrink {a : Addr} {d : D} (o : Own wd K mg F (α ++ β) H a d) (hc : D.closed α.length d = true) : Own wd K mg F α H a d := by
  cases d with
  | lst ds => obtain ⟨xs, e1, e2⟩ := o; exact ⟨xs, e1, e2.shrink (by simpa [D.closed] using hc)⟩
  | dct kvs => obtain ⟨ws, e1, e2, e3⟩ := o; exact ⟨ws, e1, e2, e3.shrink (closedK_snd (by simpa [D.closed] using hc))⟩
  | dcn kvs => obtain ⟨ws, e1, e2⟩ := o; exact ⟨ws, e1, e2.shrink (by simpa [D.closed] using hc)⟩
  | lck u =>
    cases u with
    | dct kvs => obtain ⟨o, ws, e0, e1, e2, e3⟩ := o; exact ⟨o, ws, e0, e1, e2, e3.shrink (closedK_snd (by simpa [D.closed] using hc))⟩
    | dcn kvs => obtain ⟨o, ws, e0, e1, e2⟩ := o; exact ⟨o, ws, e0, e1, e2.shrink (by simpa [D.closed] using hc)⟩
    | _ => exact o.elim
  | non => trivial
  | _ => exact o.elim
theorem closedL_get {n : Nat} : ∀ {ds : List D} {k : Nat} {d : D}, closedL n ds = true → ds[k]? = some d → D.closed n d = true
  | [], _, _, _, e => by simp at e
  | d :: r, 0, _, h, e => by
    unfold closedL at h
    rw [Bool.and_eq_true] at h
    simp at e; subst e
    exact h.1
  | d :: r, k + 1, _, h, e => by
    unfold closedL at h
    rw [Bool.and_eq_true] at h
    exact closedL_get (k := k) h.2 (by simpa using e)
theorem Rel.trunc (r : Rel wd K mg (α ++ β) F H S) (h : closedL α.length (S.take α.length) = true) : Rel wd K mg α F H (S.take α.length) := by
  have hl := r.len
  rw [List.length_append] at hl
  refine ⟨r.sub, by rw [List.length_take]; omega, (List.nodup_append.mp r.nd).1, fun a ha => r.here a (List.mem_append_left _ ha), fun k a d h1 h2 => ?_⟩
  have hk : k < α.length := (List.getElem?_eq_some_iff.mp h1).1
  have hc := closedL_get h h2
  rw [List.getElem?_take, if_pos hk] at h2
  obtain ⟨o, q⟩ := r.own k a d (by rw [List.getElem?_append_left hk]; exact h1) h2
  exact ⟨o.shrink hc, q⟩
theorem Rel.give {k : Nat} {a : Addr} {u : D} (r : Rel wd K mg (α ++ β) F H S) (hc : closedL α.length (S.take α.length) = true) (ha : (α ++ β)[k]? = some a) (hk : α.length ≤ k) (hu : S[k]? = some u) (ho : u.owned = true) (hd : D.closed α.length u = true) : a ∈ β ∧ Rel wd K mg (α ++ [a]) F H (S.take α.length ++ [u]) := by
  have r0 := Rel.trunc r hc
  have hb : a ∈ β := by
    rw [List.getElem?_append_right hk] at ha
    exact List.mem_of_getElem? ha
  have hn : a ∉ α := fun h => (List.nodup_append.mp r.nd).2.2 a h a hb rfl
  have hz : u.open = true := by cases u <;> first | rfl | cases ho
  obtain ⟨o1, o2⟩ := r.own k a u ha hu
  exact ⟨hb, r0.adopt hn (o2 hz) (o1.shrink hd) hz⟩
theorem Stp.one {F' H' : Hp} {a : Addr} (s : Stp α F H β F' H') (h : a ∈ β) : Stp α F H [a] F' H' := ⟨fun b hb => by rw [List.mem_singleton.mp hb]; exact s.new a h, s.sub, s.frame, s.live, s.fnew⟩
theorem Stp.drop {F' H' : Hp} (s : Stp α F H β F' H') : Stp α F H [] F' H' := ⟨(fun _ h => nomatch h), s.sub, s.frame, s.live, s.fnew⟩
theorem slots_start {N : List Str} {vs : List V} {ds : List D} (hv : DVs wd K mg F α vs ds) : Slots wd K mg F α (L2.start N vs) (ds.map some ++ List.replicate (N.length - ds.length) none) := by
  have hl := hv.length
  refine ⟨by unfold L2.start; simp [hl], fun i d e => ?_⟩
  unfold L2.start
  by_cases h : i < ds.length
  · rw [List.getElem?_append_left (by simpa using h), List.getElem?_map] at e
    obtain ⟨d', e1⟩ : ∃ d', ds[i]? = some d' := ⟨_, List.getElem?_eq_getElem h⟩
    rw [e1] at e
    have : d' = d := by simpa using e
    subst this
    obtain ⟨v, e2, e3⟩ := hv.get e1
    refine ⟨v, ?_, e3⟩
    rw [List.getElem?_append_left (by rw [List.length_map, hl]; exact h), List.getElem?_map, e2] <;> rfl
  · rw [List.getElem?_append_right (by simpa using h), List.getElem?_replicate] at e
    split at e <;> cases e
theorem fn_G {P : Program} {w : World} {base : Heap} {x qual : Str} {st : Stmt} {f : Addr} {fd : FuncData} {N ps : List Str} {k : Nat} {sp : Sp} (Fu : Fun K x qual st f fd) (Sc : FnScope N ps (defScope st)) (len : ∀ vs H Q E, sp vs H Q E → vs.length = ps.length)
    (hbody : ∀ (cdv : Value) (A : Around) (outer : List Env) (s : Shared) (H : Hp) (vs : List V) (Q : VK) (E : XK), Room k (A.deeper (envOfC qual (defScope st) s.heap.objs.size f cdv)) → A.guards = some [] → sp vs H Q E →
      ∃ t, PSs (cxOf (L2.CX P w) P w K mg base N qual (defScope st) f cdv A outer s H E) (defBody st) t ∧ t ⟨fun _ H' => Q .non H', Q, fun _ _ => False, fun _ _ => False⟩ (L2.start N vs) H) : FnG P w K mg base (k + 1) f fd ps sp := by
  obtain ⟨oc, od, kV, doc, pm, an, cdv, ct, osl, rfl, lk, hcd⟩ := Fu.ex
  refine ⟨len, fun A outer s H args us vs Q E room hG e0 hb rv hsp => ?_⟩
  have kin : K.In s.heap := e0.mod.kin.keeps fun b o e => (e0.bs b o e).1
  have names : ∀ y ∈ ps.zip us, (defScope st).names.lookup y.1 = some .local ∨ ((defScope st).names.lookup y.1 = some .cell ∧ ((cellsFrom (s.heap.objs.size + 1) (defScope st).names []).lookup y.1).isSome = true) := fun y hy =>
    (Sc.par y.1 (List.of_mem_zip hy).1).imp id fun q => ⟨q, PySem.W.cellsFrom_some _ _ _ (.inl q)⟩
  refine codeAny_call_function room.depth (kin _ _ lk) rfl Sc.co Sc.gen rfl (PySem.W.codeRec_of kin hcd) (hb _ _ _ _ (wpAny_newFunctionEnv_cells Sc.kind names fun env he s1 x => ?_))
  subst he
  refine ⟨(e0.mod.nolimit.keeps fun b o e => (e0.bs b o e).1).keeps x.toInCall.keep, codeAny_func ?_⟩
  obtain ⟨t, ht, hq⟩ := hbody cdv A outer s H vs Q E (room.deeper _) hG hsp
  refine wpAny_mono (ht.run [] s1 (L2.start N vs) H _ (inv_start Sc room.hd e0 (len _ _ _ _ hsp) rv x) hq) ?_ fun _ _ hs => hs
  intro fl s' hs
  cases fl with
  | ret u =>
    obtain ⟨v, _, H', J, r, q⟩ := hs
    exact ⟨v, H', J.os, J.bare, J.base, J.hok, r, q⟩
  | next =>
    obtain ⟨_, H', J, q⟩ := hs
    exact ⟨V.non, H', J.os, J.bare, J.base, J.hok, rfl, q⟩
  | brk => obtain ⟨_, _, _, q⟩ := hs; exact q.elim
  | cont => obtain ⟨_, _, _, q⟩ := hs; exact q.elim
theorem fn_okD {P : Program} {w : World} {base : Heap} {x qual : Str} {st : Stmt} {f : Addr} {fd : FuncData} {N ps : List Str} {k : Nat} {r : RS} (Fu : Fun K x qual st f fd) (Sc : FnScope N ps (defScope st))
    (hbody : ∀ (cdv : Value) (A : Around) (outer : List Env) (s : Shared) (H : Hp) (E : XK), Room k (A.deeper (envOfC qual (defScope st) s.heap.objs.size f cdv)) → A.guards = some [] → PSds (cxOf (L2.CX P w) P w K mg base N qual (defScope st) f cdv A outer s H E) (fun cls d _ H => E cls d H) (defBody st) r) :
    FnG P w K mg base (k + 1) f fd ps (spD w K mg ps.length (mDef N.length r)) := by
  refine fn_G Fu Sc (fun vs H Q E h => h.1) fun cdv A outer s H vs Q E hr hG h => ?_
  obtain ⟨hl, α, F, S, ds, h1, h2, h3⟩ := h
  obtain ⟨t, pt, st⟩ := (hbody cdv A outer s H E hr hG).ex
  refine ⟨t, pt, st α F _ H _ S _ h1 (slots_start h2) ?_⟩
  have h3 : wp w K mg α F H (relD w K mg) (mDef N.length r ds S) Q E := h3
  have hl : α.length = S.length := h1.len
  unfold mDef at h3
  rw [← hl] at h3
  have an : α ++ [] = α := List.append_nil α
  cases q : r (ds.map some ++ List.replicate (N.length - ds.length) none) S with
  | nx δ S1 =>
    rw [q] at h3
    dsimp only at h3
    split at h3
    · rename_i hc
      intro σ' H' β F' r1 s1 _
      exact h3 .non H' [] F' (by rw [an]; exact Rel.trunc r1 hc) s1.drop .non
    · exact h3.elim
  | rt d S1 =>
    rw [q] at h3
    dsimp only at h3
    split at h3
    · rename_i hc
      rw [Bool.and_eq_true] at hc
      intro v H' β F' r1 s1 hv
      exact h3 v H' [] F' (by rw [an]; exact Rel.trunc r1 hc.2) s1.drop (by rw [an]; exact DV.shrink hc.1 hv)
    · unfold giveD at h3
      cases d with
      | ptr k =>
        dsimp only at h3
        cases q2 : S1[k]? with
        | none => rw [q2] at h3; exact h3.elim
        | some u =>
          rw [q2] at h3
          dsimp only at h3
          split at h3
          · rename_i hc
            rw [Bool.and_eq_true, Bool.and_eq_true, Bool.and_eq_true, decide_eq_true_eq] at hc
            intro v H' β F' r1 s1 hv
            cases hv with
            | ptr ea =>
              rename_i a
              obtain ⟨g1, g2⟩ := Rel.give r1 hc.2 ea hc.1.2 q2 hc.1.1.1 hc.1.1.2
              exact h3 (.ref a) H' [a] F' g2 (s1.one g1) (.ptr (by rw [List.getElem?_append_right (Nat.le_refl _), Nat.sub_self]; rfl))
          · exact h3.elim
      | _ => exact h3.elim
  | err c fs δ S1 =>
    rw [q] at h3
    dsimp only at h3
    split at h3
    · rename_i hc
      rw [Bool.and_eq_true] at hc
      intro cls dd σ' H' β F' r1 s1 _ he
      refine h3 cls dd H' [] F' (by rw [an]; exact Rel.trunc r1 hc.2) s1.drop ?_
      rw [an]
      refine ⟨he.1, he.2.imp id fun ⟨d, xs, e1, e2, e3, e4⟩ => ⟨d, xs, e1, e2, e3, DVs.shrink hc.1 e4⟩⟩
    · exact h3.elim
  | bk δ S1 => rw [q] at h3; exact h3.elim
  | ct δ S1 => rw [q] at h3; exact h3.elim
  | stuck => rw [q] at h3; exact h3.elim
/-! ### ghost steps -/
end
end DL
set_option Elab.async false
set_option linter.all false
set_option maxRecDepth 100000
set_option maxHeartbeats 4000000
set_option autoImplicit false
/-! Data layer, seventh part: operators on data. -/
namespace DL
open PySem PySem.Spec PyProof.Rows L2
/-! ### what they come to -/
def gAdd : Sto → D → D → Option D := fun S d e => match deref S d, deref S e with
  | .int i, .int j => some (.int (i + j))
  | .str x, .str y => if x.length + y.length ≤ sizeLine then some (.str (x ++ y)) else none
  | .tup xs, .tup ys => if xs.length + ys.length ≤ sizeLine then some (.tup (xs ++ ys)) else none
  | _, _ => none
def gSub : Sto → D → D → Option D := fun _ d e => match d, e with
  | .int i, .int j => some (.int (i - j))
  | _, _ => none
/-- the sizes of two factors -/
def mulFits (i j : Int) : Bool := decide (i.natAbs.log2 + j.natAbs.log2 < 100000000) || (decide (i.natAbs < 2 ^ 64) || decide (j.natAbs < 2 ^ 64))
def gMul : Sto → D → D → Option D := fun _ d e => match d, e with
  | .int i, .int j => if mulFits i j then some (.int (i * j)) else none
  | _, _ => none
def gDiv : Sto → D → D → Option D := fun _ d e => match d, e with
  | .int i, .int j => if j ≠ 0 ∧ j.natAbs.log2 < 9000 then some (.int (i.fdiv j)) else none
  | _, _ => none
def gMod : Sto → D → D → Option D := fun _ d e => match d, e with
  | .int i, .int j => if j ≠ 0 then some (.int (i.fmod j)) else none
  | _, _ => none
def gPow : Sto → D → D → Option D := fun _ d e => match d, e with
  | .int i, .int j => if 0 ≤ j ∧ ((j ≤ 1000000 ∧ i.natAbs < 2 ^ 64) ∨ (Builtin.Int.intBits i : Int) * j ≤ 2 ^ 27) then some (.int (i ^ j.toNat)) else none
  | _, _ => none
def gNeg : Sto → D → Option D := fun _ d => match d with
  | .int i => some (.int (-i))
  | _ => none
def gLt : Sto → D → D → Option D := fun _ d e => match d, e with
  | .int i, .int j => some (.bl (decide (i < j)))
  | _, _ => none
def gLe : Sto → D → D → Option D := fun _ d e => match d, e with
  | .int i, .int j => some (.bl (decide (i ≤ j)))
  | _, _ => none
def gGt : Sto → D → D → Option D := fun _ d e => match d, e with
  | .int i, .int j => some (.bl (decide (j < i)))
  | _, _ => none
def gGe : Sto → D → D → Option D := fun _ d e => match d, e with
  | .int i, .int j => some (.bl (decide (j ≤ i)))
  | _, _ => none
mutual
/-- as the model's data -/
def toPy (S : Sto) : D → Option PyData
  | .non => some .none
  | .bl b => some (.bool b)
  | .int i => some (.int i)
  | .str x => some (.str x)
  | .tup xs => (toPys S xs).map .tuple
  | .lst xs => (toPys S xs).map .list
  | _ => none
def toPys (S : Sto) : List D → Option (List PyData)
  | [] => some []
  | d :: r => match toPy S d, toPys S r with
    | some x, some xs => some (x :: xs)
    | _, _ => none
end
def eqD (S : Sto) (d e : D) : Option Bool := match toPy S (deref S d), toPy S (deref S e) with
  | some x, some y => if SeqAt.shaped x && SeqAt.shaped y then some (PyData.eqv x y) else none
  | _, _ => none
def gEq : Sto → D → D → Option D := fun S d e => (eqD S d e).map .bl
def gNe : Sto → D → D → Option D := fun S d e => (eqD S d e).map fun b => .bl (!b)
section
variable {X : Cx} {W : WX} {a b c e : Expr} {es rest : List Expr} {ra rb rc : RE} {ba bb : RB} {rs : RA} {pos p : Pos} {wd : World} {K : Fg} {mg : Str → Option Value} {α β : List Addr} {F F1 H H1 : Hp} {S : Sto}
/-- two ints by a rule -/
theorem opg_int {f : Value → Value → Sem Value} {C : Int → Int → Prop} {h : Int → Int → Int} {g : Sto → D → D → Option D} (ho : OpR X f (rI C fun i j => .int (h i j)))
    (hg : ∀ S d e z, g S d e = some z → ∃ i j, d = .int i ∧ e = .int j ∧ C i j ∧ z = .int (h i j)) : OpG X f g := by
  refine ⟨_, ho, fun α F H S x y d e z Q hr hx hy hz q => ?_⟩
  obtain ⟨i, j, rfl, rfl, hc, rfl⟩ := hg S d e z hz
  cases hx; cases hy
  have an : α ++ [] = α := List.append_nil α
  exact ⟨i, j, rfl, rfl, hc, q _ H [] F (by rw [an]; exact hr) Stp.refl (.int _)⟩
theorem g_sub : OpG X (binaryOp .Sub) gSub := by
  refine ⟨_, op_sub, fun α F H S x y d e z Q hr hx hy hz q => ?_⟩
  unfold gSub at hz
  split at hz
  · cases hz; cases hx; cases hy
    have an : α ++ [] = α := List.append_nil α
    exact ⟨_, _, rfl, rfl, q _ H [] F (by rw [an]; exact hr) Stp.refl (.int _)⟩
  · cases hz
theorem mulFits_ok {i j : Int} (h : mulFits i j = true) : IntMulOk i j := by
  unfold mulFits at h
  rw [Bool.or_eq_true, Bool.or_eq_true] at h
  rcases h with h | h | h
  · have hl := of_decide_eq_true h
    have hb : ∀ k : Int, Builtin.Int.intBits k ≤ k.natAbs.log2 + 1 := fun k => by
      unfold Builtin.Int.intBits
      split
      · exact Nat.zero_le _
      · exact Nat.le_refl _
    exact IntMulOk.of_le (hb i) (hb j) (by omega)
  · have := of_decide_eq_true h
    exact CMul.ok (.inl ⟨by omega, by omega⟩)
  · have := of_decide_eq_true h
    exact CMul.ok (.inr ⟨by omega, by omega⟩)
theorem op_mulX : OpR X (binaryOp .Mult) (rI (fun i j => mulFits i j = true) fun i j => .int (i * j)) := opI fun _ _ _ _ _ _ _ hc q => mul_int q (mulFits_ok hc)
theorem g_mul : OpG X (binaryOp .Mult) gMul := opg_int op_mulX fun S d e z h => by
  unfold gMul at h
  split at h
  · split at h
    · rename_i q
      cases h
      exact ⟨_, _, rfl, rfl, q, rfl⟩
    · cases h
  · cases h
theorem op_fdivA : OpR X (binaryOp .FloorDiv) (rI (fun _ j => j ≠ 0 ∧ j.natAbs.log2 < 9000) fun i j => .int (i.fdiv j)) := opI fun i j _ _ _ _ _ hc q => floordiv_int hc.1 q (.inl (PyProof.noPylong_of_log2 hc.2))
theorem g_div : OpG X (binaryOp .FloorDiv) gDiv := opg_int op_fdivA fun S d e z h => by
  unfold gDiv at h
  split at h
  · split at h
    · rename_i q
      cases h
      exact ⟨_, _, rfl, rfl, q, rfl⟩
    · cases h
  · cases h
theorem g_mod : OpG X (binaryOp .Mod) gMod := opg_int op_modN fun S d e z h => by
  unfold gMod at h
  split at h
  · split at h
    · rename_i q
      cases h
      exact ⟨_, _, rfl, rfl, q, rfl⟩
    · cases h
  · cases h
def CPowW (i j : Int) : Prop := 0 ≤ j ∧ ((j ≤ 1000000 ∧ i.natAbs < 2 ^ 64) ∨ (Builtin.Int.intBits i : Int) * j ≤ 2 ^ 27)
theorem op_powW : OpR X (binaryOp .Pow) (rI CPowW fun i j => .int (i ^ j.toNat)) := opI fun _ _ _ _ _ _ _ hc q => by
  rcases hc with ⟨h0, ⟨h1, h2⟩ | h1⟩
  · exact pow_int_small h0 h1 h2 q
  · exact PyProof.Rows.pow_int h0 h1 q
theorem g_pow : OpG X (binaryOp .Pow) gPow := by
  refine ⟨_, op_powW, fun α F H S x y d e z Q hr hx hy hz q => ?_⟩
  unfold gPow at hz
  split at hz
  · split at hz
    · rename_i hc
      cases hz; cases hx; cases hy
      have an : α ++ [] = α := List.append_nil α
      exact ⟨_, _, rfl, rfl, hc, q _ H [] F (by rw [an]; exact hr) Stp.refl (.int _)⟩
    · cases hz
  · cases hz
theorem u_neg : OkU X (rU fun i => .int (-i)) gNeg := by
  intro α F H S x d z Q hr hx hz q
  unfold gNeg at hz
  split at hz
  · cases hz; cases hx
    have an : α ++ [] = α := List.append_nil α
    exact ⟨_, rfl, q _ H [] F (by rw [an]; exact hr) Stp.refl (.int _)⟩
  · cases hz
theorem pd_neg (ha : PD X W a ra) : PD X W (.UnaryOp .USub a pos) (rUn gNeg ra) := pd_un un_neg u_neg ha
/-! ### ==, != -/
mutual
theorem DV.dp {v : V} : ∀ {d : D} {x : PyData}, DV wd K mg F α v d → toPy S d = some x → Sub F H → Dp K H v x
  | _, _, .non, e, _ => by cases e; exact .non
  | _, _, .bl b, e, _ => by cases e; exact .bl b
  | _, _, .int i, e, _ => by cases e; exact .int i
  | _, _, .str y, e, _ => by cases e; exact .str y
  | _, _, .tup h t, e, s => by
    rename_i ds
    unfold toPy at e
    cases q : toPys S ds with
    | none => rw [q] at e; cases e
    | some ys => rw [q] at e; cases e; exact .tup (s.sqT h.1) (DVs.dp t q s)
  | _, _, .lst h t, e, s => by
    rename_i ds
    unfold toPy at e
    cases q : toPys S ds with
    | none => rw [q] at e; cases e
    | some ys => rw [q] at e; cases e; exact .lst (s.sqL h) (DVs.dp t q s)
  | _, _, .tux _ _, e, _ => by cases e
  | _, _, .ptr _, e, _ => by cases e
  | _, _, .fn _, e, _ => by cases e
  | _, _, .ty _, e, _ => by cases e
  | _, _, .exc _ _ _ _ _, e, _ => by cases e
  | _, _, .dc0 _ _, e, _ => by cases e
theorem DVs.dp {vs : List V} : ∀ {ds : List D} {xs : List PyData}, DVs wd K mg F α vs ds → toPys S ds = some xs → Sub F H → DpAll K H vs xs
  | _, _, .nil, e, _ => by cases e; exact .nil
  | _, _, .cons h t, e, s => by
    rename_i d _ ds
    unfold toPys at e
    cases q1 : toPy S d with
    | none => rw [q1] at e; cases e
    | some x =>
      cases q2 : toPys S ds with
      | none => rw [q1, q2] at e; cases e
      | some xs => rw [q1, q2] at e; cases e; exact .cons (DV.dp h q1 s) (DVs.dp t q2 s)
end
theorem Rel.dp (hr : Rel wd K mg α F H S) {v : V} {d : D} {x : PyData} (h : DV wd K mg F α v d) (e : toPy S (deref S d) = some x) : Dp K H v x := by
  have s := hr.see h
  generalize deref S d = dd at e s
  cases s with
  | «at» h _ => exact h.dp e hr.sub
  | dead => cases e
  | lst q t =>
    rename_i ds
    unfold toPy at e
    cases q2 : toPys S ds with
    | none => rw [q2] at e; cases e
    | some ys => rw [q2] at e; cases e; exact .lst (SqL.of q) (t.dp q2 hr.sub)
  | dct _ _ _ => cases e
  | dcn _ _ => cases e
theorem Rel.eqD (hr : Rel wd K mg α F H S) {v u : V} {d e : D} {k : Bool} (h1 : DV wd K mg F α v d) (h2 : DV wd K mg F α u e) (q : DL.eqD S d e = some k) : ∃ x y, Dp K H v x ∧ Dp K H u y ∧ SeqAt.shaped x = true ∧ SeqAt.shaped y = true ∧ k = PyData.eqv x y := by
  unfold DL.eqD at q
  split at q
  · rename_i x y e1 e2
    split at q
    · rename_i hc
      rw [Bool.and_eq_true] at hc
      cases q
      exact ⟨x, y, hr.dp h1 e1, hr.dp h2 e2, hc.1, hc.2, rfl⟩
    · cases q
  · cases q
theorem g_eq (hu : X.A.units + 64 < cLine) : OpG X (compareOp .Eq) gEq := by
  refine ⟨_, op_eqD hu, fun α F H S x y d e z Q hr hx hy hz q => ?_⟩
  unfold gEq at hz
  cases q1 : DL.eqD S d e with
  | none => rw [q1] at hz; cases hz
  | some k =>
    rw [q1] at hz; cases hz
    obtain ⟨x', y', a1, a2, a3, a4, rfl⟩ := hr.eqD hx hy q1
    have an : α ++ [] = α := List.append_nil α
    exact ⟨x', y', a1, a2, a3, a4, q _ H [] F (by rw [an]; exact hr) Stp.refl (.bl _)⟩
theorem g_ne (hu : X.A.units + 64 < cLine) : OpG X (compareOp .NotEq) gNe := by
  refine ⟨_, op_neD hu, fun α F H S x y d e z Q hr hx hy hz q => ?_⟩
  unfold gNe at hz
  cases q1 : DL.eqD S d e with
  | none => rw [q1] at hz; cases hz
  | some k =>
    rw [q1] at hz; cases hz
    obtain ⟨x', y', a1, a2, a3, a4, rfl⟩ := hr.eqD hx hy q1
    have an : α ++ [] = α := List.append_nil α
    exact ⟨x', y', a1, a2, a3, a4, q _ H [] F (by rw [an]; exact hr) Stp.refl (.bl _)⟩
/-! ### is -/
end
end DL
set_option Elab.async false
set_option linter.all false
set_option maxRecDepth 100000
set_option maxHeartbeats 4000000
set_option autoImplicit false
/-! Data layer, eighth part: built-in functions, methods of texts, items, slices. -/
namespace DL
open PySem PySem.Spec PyProof.Rows L2
def gLen : Sto → List D → Option D := fun S ds => match ds with
  | [d] => (match deref S d with
    | .str y => if y.length ≤ sizeLine then some (.int y.length) else none
    | .tup xs => some (.int xs.length)
    | .lst xs => some (.int xs.length)
    | _ => none)
  | _ => none
def gAbs : Sto → List D → Option D := fun _ ds => match ds with
  | [.int i] => some (.int (if i < 0 then -i else i))
  | _ => none
def gInt : Sto → List D → Option D := fun _ ds => match ds with
  | [.int i] => some (.int i)
  | [.bl k] => some (.int (if k then 1 else 0))
  | [.str a] => (match intText? a with
    | some n => if a.length ≤ 640 then some (.int n) else none
    | none => none)
  | _ => none
def asBls : List D → Option (List Bool)
  | [] => some []
  | .bl b :: r => (asBls r).map (b :: ·)
  | _ => none
def asInts : List D → Option (List Int)
  | [] => some []
  | .int b :: r => (asInts r).map (b :: ·)
  | _ => none
def gAll : Sto → List D → Option D := fun S ds => match ds with
  | [d] => (match deref S d with
    | .lst xs => (asBls xs).map fun bs => .bl (bs.all id)
    | _ => none)
  | _ => none
def gSum : Sto → List D → Option D := fun S ds => match ds with
  | [d] => (match deref S d with
    | .lst xs => (asInts xs).map fun bs => .int bs.sum
    | _ => none)
  | _ => none
def toPyR (S : Sto) : D → Option PyData
  | .ptr k => (match S.getD k .non with
    | .dct [] => some (.dict [])
    | _ => toPy S (deref S (.ptr k)))
  | d => toPy S d
def gRepr : Sto → List D → Option D := fun S ds => match ds with
  | [d] => (match toPyR S d with
    | some x => if x.showable && decide (x.depth ≤ 64) && decide (x.shown.length ≤ sizeLine) then some (.str x.shown) else none
    | none => none)
  | _ => none
section
variable {X : Cx} {W : WX} {a b c e : Expr} {es rest : List Expr} {ra rb rc : RE} {ba bb : RB} {rs : RA} {pos p : Pos} {wd : World} {K : Fg} {mg : Str → Option Value} {α β : List Addr} {F F1 H H1 : Hp} {S : Sto}
theorem asBls_eq : ∀ {xs : List D} {bs : List Bool}, asBls xs = some bs → xs = bs.map .bl
  | [], _, h => by cases h; rfl
  | .bl b :: r, _, h => by
    unfold asBls at h
    cases q : asBls r with
    | none => rw [q] at h; cases h
    | some ys => rw [q] at h; cases h; rw [asBls_eq q]; rfl
theorem asInts_eq : ∀ {xs : List D} {bs : List Int}, asInts xs = some bs → xs = bs.map .int
  | [], _, h => by cases h; rfl
  | .int b :: r, _, h => by
    unfold asInts at h
    cases q : asInts r with
    | none => rw [q] at h; cases h
    | some ys => rw [q] at h; cases h; rw [asInts_eq q]; rfl
/-- the end of a rule that changes nothing -/
theorem fin_now {v : V} {z : D} {Q : VK} (hr : Rel wd K mg α F H S) (hv : DV wd K mg F α v z) (q : ∀ v H' β F', Rel wd K mg (α ++ β) F' H' S → Stp α F H β F' H' → DV wd K mg F' (α ++ β) v z → Q v H') : Q v H := by
  have an : α ++ [] = α := List.append_nil α
  exact q v H [] F (by rw [an]; exact hr) Stp.refl (by rw [an]; exact hv)
theorem b_len : BiG X (.builtin "len") gLen := by
  refine ⟨_, call_len, fun α F H S xs ds z Q hr hv hz q => ?_⟩
  unfold gLen at hz
  split at hz
  · rename_i d
    cases hv with
    | cons h1 h2 =>
      cases h2
      rename_i v
      split at hz
      · rename_i y e
        split at hz
        · rename_i hl
          cases hz
          have := hr.viewS h1 e
          subst this
          exact ⟨_, y.length, rfl, ⟨hl, rfl⟩, fin_now hr (.int _) q⟩
        · cases hz
      · rename_i ys e
        cases hz
        obtain ⟨a, us, rfl, h3, h4⟩ := hr.viewT h1 e
        exact ⟨_, us.length, rfl, .inr ⟨us, h3, rfl⟩, by rw [h4.length]; exact fin_now hr (.int _) q⟩
      · rename_i ys e
        cases hz
        obtain ⟨a, us, rfl, h3, h4⟩ := hr.viewL h1 e
        exact ⟨_, us.length, rfl, .inl ⟨us, h3, rfl⟩, by rw [h4.length]; exact fin_now hr (.int _) q⟩
      · cases hz
  · cases hz
theorem b_abs : BiG X (.builtin "abs") gAbs := by
  refine ⟨_, call_abs, fun α F H S xs ds z Q hr hv hz q => ?_⟩
  unfold gAbs at hz
  split at hz
  · cases hz
    cases hv with
    | cons h1 h2 => cases h2; cases h1; exact ⟨_, rfl, fin_now hr (.int _) q⟩
  · cases hz
theorem b_int : BiG X (.type "int") gInt := by
  refine ⟨_, call_int1.or call_int_str, fun α F H S xs ds z Q hr hv hz q => ?_⟩
  unfold gInt at hz
  split at hz
  · cases hz
    cases hv with
    | cons h1 h2 => cases h2; cases h1; exact .inl (.inl ⟨_, rfl, fin_now hr (.int _) q⟩)
  · cases hz
    cases hv with
    | cons h1 h2 => cases h2; cases h1; exact .inl (.inr ⟨_, rfl, fin_now hr (.int _) q⟩)
  · cases hv with
    | cons h1 h2 =>
      cases h2; cases h1
      split at hz
      · rename_i n e
        split at hz
        · rename_i hl
          cases hz
          exact .inr ⟨_, n, rfl, e, hl, fin_now hr (.int _) q⟩
        · cases hz
      · cases hz
  · cases hz
theorem b_all (hc : X.calm = true) : BiG X (.builtin "all") gAll := by
  refine ⟨_, cr_all hc, fun α F H S xs ds z Q hr hv hz q => ?_⟩
  unfold gAll at hz
  split at hz
  · rename_i d
    cases hv with
    | cons h1 h2 =>
      cases h2
      split at hz
      · rename_i ys e
        cases e2 : asBls ys with
        | none => rw [e2] at hz; cases hz
        | some bs =>
          rw [e2] at hz; cases hz
          obtain ⟨a, us, rfl, h3, h4⟩ := hr.viewL h1 e
          rw [asBls_eq e2] at h4
          rw [h4.bls] at h3
          exact ⟨a, bs, rfl, h3, fin_now hr (.bl _) q⟩
      · cases hz
  · cases hz
theorem b_sum (hc : X.calm = true) : BiG X (.builtin "sum") gSum := by
  refine ⟨_, cr_sum hc, fun α F H S xs ds z Q hr hv hz q => ?_⟩
  unfold gSum at hz
  split at hz
  · rename_i d
    cases hv with
    | cons h1 h2 =>
      cases h2
      split at hz
      · rename_i ys e
        cases e2 : asInts ys with
        | none => rw [e2] at hz; cases hz
        | some bs =>
          rw [e2] at hz; cases hz
          obtain ⟨a, us, rfl, h3, h4⟩ := hr.viewL h1 e
          rw [asInts_eq e2] at h4
          rw [h4.ints] at h3
          exact ⟨a, bs, rfl, h3, fin_now hr (.int _) q⟩
      · cases hz
  · cases hz
end
end DL
set_option Elab.async false
set_option linter.all false
set_option maxRecDepth 100000
set_option maxHeartbeats 4000000
set_option autoImplicit false
/-! Data layer, ninth part: repr, methods, texts, items, slices, lists that are made. -/
namespace DL
open PySem PySem.Spec PyProof.Rows L2
section
variable {X : Cx} {W : WX} {a b c e : Expr} {es rest : List Expr} {ra rb rc : RE} {ba bb : RB} {rs : RA} {pos p : Pos} {wd : World} {K : Fg} {mg : Str → Option Value} {α β : List Addr} {F F1 H H1 : Hp} {S : Sto}
instance (x : Str) (n : Int) : Decidable (MulOk x n) := by unfold MulOk; infer_instance
theorem g_add : OpG X (binaryOp .Add) gAdd := by
  refine ⟨_, (op_add.or op_add_str).or op_catP, fun α F H S x y d e z Q hr hx hy hz q => ?_⟩
  unfold gAdd at hz
  split at hz
  · rename_i e1 e2
    cases hz
    have := hr.viewI hx e1
    have := hr.viewI hy e2
    subst x; subst y
    exact .inl (.inl ⟨_, _, rfl, rfl, fin_now hr (.int _) q⟩)
  · rename_i e1 e2
    split at hz
    · rename_i hl
      cases hz
      have := hr.viewS hx e1
      have := hr.viewS hy e2
      subst x; subst y
      exact .inl (.inr ⟨_, _, rfl, rfl, hl, fin_now hr (.str _) q⟩)
    · cases hz
  · rename_i xs ys e1 e2
    split at hz
    · rename_i hl
      cases hz
      obtain ⟨a, us, rfl, a1, a2⟩ := hr.viewT hx e1
      obtain ⟨b, ws, rfl, b1, b2⟩ := hr.viewT hy e2
      refine .inr ⟨a, b, us, ws, rfl, rfl, a1, b1, by rw [a2.length, b2.length]; exact hl, fun en => ?_, fun _ en => ?_, fun n1 n2 p hp o ho => ?_⟩
      · subst en
        have en : xs = [] := by cases a2; rfl
        subst en
        have sy := hr.see hy
        rw [e2] at sy
        cases sy with
        | «at» h _ => exact fin_now hr h q
      · subst en
        have en : ys = [] := by cases b2; rfl
        subst en
        rw [List.append_nil] at q
        have sx := hr.see hx
        rw [e1] at sx
        cases sx with
        | «at» h _ => exact fin_now hr h q
      · obtain ⟨c1, c2, c3⟩ := hr.tup (a2.append b2) hp ho
        exact q _ _ _ _ c1 c2 c3
    · cases hz
  · cases hz
mutual
theorem dp_noD {v : V} : ∀ {d : PyData}, Dp K H v d → d.hasDict = false
  | _, .non => by simp [PyData.hasDict]
  | _, .bl _ => by simp [PyData.hasDict]
  | _, .int _ => by simp [PyData.hasDict]
  | _, .str _ => by simp [PyData.hasDict]
  | _, .lst _ t => by rw [PyData.hasDict]; exact dpA_noD t
  | _, .tup _ t => by rw [PyData.hasDict]; exact dpA_noD t
theorem dpA_noD {vs : List V} : ∀ {ds : List PyData}, DpAll K H vs ds → PyData.hasDictAll ds = false
  | _, .nil => by simp [PyData.hasDictAll]
  | _, .cons h t => by rw [PyData.hasDictAll, dp_noD h, dpA_noD t]; rfl
end
/-! ### repr -/
theorem repr_ok (hG : X.A.guards = some []) (hu : X.A.units + 80 < cLine) : CallR X (.builtin "repr") (fun xs H Q => ∃ x d, xs = [x] ∧ (Dp X.K H x d ∨ (d = .dict [] ∧ ∃ a, x = .ref a ∧ H a = some (.dK []))) ∧ d.showable = true ∧ d.depth ≤ 64 ∧ d.shown.length ≤ sizeLine ∧ Q (.str d.shown) H) := by
  intro pins s σ H xs us Q I rv h
  obtain ⟨x, d, rfl, hd, h1, h2, h3, q⟩ := h
  obtain ⟨u, rfl, rx⟩ := vals1 rv
  have done : ∀ h' t tk, (∀ b o, s.heap.get? b = some o → h'.get? b = some o) → EP X pins σ Q (.str d.shown t) { s with heap := h', toks := tk } := fun h' t tk k => ⟨.str _, H, I.kept (t' := tk) k, ⟨_, rfl⟩, q⟩
  rcases hd with hd | ⟨rfl, a, rfl, ha⟩
  · obtain ⟨as, r⟩ := Dp.reads I d x u hd rx
    have noD : d.hasDict = false := dp_noD hd
    cases hd with
    | non => cases rx; exact P.repr_of_none (done s.heap _ _ fun _ _ e => e)
    | bl b => cases rx; exact P.repr_of_bool (done s.heap _ _ fun _ _ e => e)
    | int i => obtain ⟨t, rfl⟩ := rx; exact P.repr_of_int (of_decide_eq_true (by simpa [PyData.showable] using h1)) (done s.heap _ _ fun _ _ e => e)
    | str z => obtain ⟨t, rfl⟩ := rx; exact P.repr_of_str (by simpa [PyData.shown] using done s.heap s.toks (s.toks + 1) fun _ _ e => e) (by simpa [PyData.shown] using h3)
    | lst _ _ => cases rx; exact repr_of_reads' r h1 (fun z => by rw [noD] at z; cases z) hG (by omega) (fun _ _ e => e) (fun h' u tk k => done h' u tk k) h3
    | tup _ _ => cases rx; exact repr_of_reads' r h1 (fun z => by rw [noD] at z; cases z) hG (by omega) (fun _ _ e => e) (fun h' u tk k => done h' u tk k) h3
  · cases rx
    obtain ⟨_, hs, vs, hk, o, es, ep, e1, e2, e3, hdd⟩ := I.hok a _ ha
    cases hk
    have e5 : es.toList = [] := by
      have h5 := hdd.2.1
      cases h6 : es.toList with
      | nil => rfl
      | cons _ _ => rw [h6] at h5; cases h5
    have r : Reads s.heap (.ref a) (.dict []) (a :: [] ++ []) := .dict e1 e2.1 e3 (by rw [e5]; exact .nil) (by rw [e5]; exact .nil)
    exact repr_of_reads' r h1 (fun _ => by simpa using (beq_eq_false_iff_ne.mp hs).symm) hG (by omega) (fun _ _ e => e) (fun h' u tk k => done h' u tk k) h3
theorem b_repr (hG : X.A.guards = some []) (hu : X.A.units + 80 < cLine) : BiG X (.builtin "repr") gRepr := by
  refine ⟨_, repr_ok hG hu, fun α F H S xs ds z Q hr hv hz q => ?_⟩
  unfold gRepr at hz
  split at hz
  · rename_i d
    cases hv with
    | cons h1 h2 =>
      cases h2
      split at hz
      · rename_i x e
        split at hz
        · rename_i hc
          rw [Bool.and_eq_true, Bool.and_eq_true] at hc
          cases hz
          refine ⟨_, x, rfl, ?_, hc.1.1, of_decide_eq_true hc.1.2, of_decide_eq_true hc.2, fin_now hr (.str _) q⟩
          cases d with
          | ptr k =>
            unfold toPyR at e
            dsimp only at e
            split at e
            · rename_i e6
              cases e
              cases h1 with
              | ptr ha =>
                obtain ⟨_, o, _⟩ := hr.owned ha
                rw [e6] at o
                obtain ⟨ws, a1, a2, a3⟩ := o
                have : ws = [] := by have := a2.length; simpa using this
                subst this
                exact .inr ⟨rfl, _, rfl, a1⟩
            · exact .inl (hr.dp h1 e)
          | _ => exact .inl (hr.dp h1 e)
        · cases hz
      · cases hz
  · cases hz
end
end DL
set_option Elab.async false
set_option linter.all false
set_option maxRecDepth 100000
set_option maxHeartbeats 4000000
set_option autoImplicit false
/-! Data layer, tenth part: methods, lists that are made, items, slices. -/
namespace DL
open PySem PySem.Spec PyProof.Rows L2
/-! ### what they come to -/
/-- the type by whose method it goes -/
def isTy (T : String) (S : Sto) (d : D) : Bool := match deref S d with
  | .str _ => T == "str"
  | .lst _ => T == "list"
  | .dct _ => T == "dict"
  | _ => false
/-- a method: the receiver's type is looked at ahead of the arguments -/
def rMeth (T : String) (g : Sto → D → List D → Option (D × Sto)) (a : RE) (as : RA) : RE := fun δ S => (a δ S).bind fun x S1 => if isTy T S1 x then (as δ S1).bind fun ys S2 => match g S2 x ys with
  | some (z, S3) => .ok z S3
  | none => .stuck else .stuck
def mAppend : Sto → D → List D → Option (D × Sto) := fun S d ds => match d, ds with
  | .ptr k, [y] => (match S[k]? with
    | some (.lst xs) => if xs.length < sizeLine then some (.non, S.set k (.lst (xs ++ [y]))) else none
    | _ => none)
  | _, _ => none
/-- an item of a list, a tuple, a text -/
def gIx : Sto → D → D → Option D := fun S d e => match deref S d, e with
  | .lst xs, .int i => atI xs i
  | .tup xs, .int i => atI xs i
  | .str z, .int i => if z.length ≤ sizeLine then (atI z.cps.toList i).map fun c => .str ⟨#[c]⟩ else none
  | _, _ => none
/-- a part: from, to -/
def cutD {A : Type} (xs : List A) (lo hi : Option Int) : List A := (xs.drop (HT.sIx xs.length 0 lo)).take (HT.sIx xs.length xs.length hi - HT.sIx xs.length 0 lo)
abbrev RO := Sl → Sto → Res (Option Int)
def oNone : RO := fun _ S => .ok none S
def oSome (a : RE) : RO := fun δ S => (a δ S).bind fun x S1 => match x with
  | .int i => .ok (some i) S1
  | _ => .stuck
def rCut (a : RE) (l h : RO) : RE := fun δ S => (a δ S).bind fun x S1 => (l δ S1).bind fun i S2 => (h δ S2).bind fun j S3 => match deref S3 x with
  | .lst xs => .ok (.lst (cutD xs i j)) S3
  | .tup xs => .ok (.tup (cutD xs i j)) S3
  | .str z => if z.length ≤ sizeLine then .ok (.str (cutS z i j)) S3 else .stuck
  | _ => .stuck
section
variable {X : Cx} {W : WX} {a b c e : Expr} {es rest : List Expr} {ra rb rc : RE} {ba bb : RB} {rs : RA} {pos p : Pos} {wd : World} {K : Fg} {mg : Str → Option Value} {α β : List Addr} {F F1 H H1 : Hp} {S : Sto}
theorem isTy_ok (hr : Rel wd K mg α F H S) {v : V} {d : D} {T : String} (h : DV wd K mg F α v d) (e : isTy T S d = true) (hT : T ≠ "dict") : tyV K T v H := by
  have s := hr.see h
  unfold isTy at e
  generalize deref S d = dd at e s
  cases s with
  | «at» h hp =>
    cases h with
    | str x => exact beq_iff_eq.mp e
    | lst q t => exact .inl ⟨beq_iff_eq.mp e, _, hr.sub.sqL q⟩
    | ptr _ => exact absurd rfl (hp _)
    | _ => cases e
  | dead => cases e
  | lst q t => exact .inl ⟨beq_iff_eq.mp e, _, SqL.of q⟩
  | dct q k t => exact absurd (beq_iff_eq.mp e) hT
  | dcn q t => cases e
def OkM (X : Cx) (r : V → List V → Hp → VK → Prop) (g : Sto → D → List D → Option (D × Sto)) : Prop := ∀ α F H S (x : V) (xs : List V) (d : D) (ds : List D) (z : D) (S' : Sto) (Q : VK), Rel X.w X.K X.mg α F H S → DV X.w X.K X.mg F α x d → DVs X.w X.K X.mg F α xs ds → g S d ds = some (z, S') →
  (∀ v H' β F', Rel X.w X.K X.mg (α ++ β) F' H' S' → Stp α F H β F' H' → DV X.w X.K X.mg F' (α ++ β) v z → Q v H') → r x xs H Q
structure MdG (X : Cx) (id : String) (g : Sto → D → List D → Option (D × Sto)) : Prop where
  ex : ∃ r, MtR X id r ∧ OkM X r g
theorem pd_meth {o : Expr} {name : Str} {T id : String} {g : Sto → D → List D → Option (D × Sto)} {apos cpos : Pos} {ro : RE} (hm : MdG X id g) (pa : PlainAttrs T) (slot : Slot T name id) (hty : typeOf (.builtin id) = pure (.type "method_descriptor")) (ho : PD X W o ro) (ha : PDs X W (e :: es) rs) (hT : T ≠ "dict" := by decide)
    (hbase : attributeBase o name X.env (eval o X.env) = eval o X.env := by rfl)
    (hfew : ((backTo cpos (starEach (e :: es) X.env)).all (fun x => !x.1) && (backToKw cpos (keywordEach [] X.env)).all (fun x => x.1.isSome) && decide ((e :: es).length + ([] : List Keyword).length + (if ([] : List Keyword).isEmpty then 0 else 1) < 30)) = true := by rfl)
    (hline : (apos.endLine == cpos.line) = true := by rfl) (hs : starEach (e :: es) X.env = (false, eval e X.env) :: starEach es X.env := by rfl) (hplain : (backTo cpos (starEach es X.env)).any (·.1) = false := by rfl) :
    PD X W (.Call (.Attribute o name apos) (e :: es) [] cpos) (rMeth T g ro rs) := by
  obtain ⟨r, h1, h2⟩ := hm.ex
  obtain ⟨to, po, so⟩ := ho.ex
  obtain ⟨t, pt, st⟩ := ha.ex
  refine ⟨_, pe_bm pa slot hty h1 po pt hbase hfew hline hs hplain, fun α F σ H δ S Q hr hs h => ?_⟩
  refine so α F σ H δ S _ hr hs (wp.bind h fun d S1 _ x H1 β F1 r1 q1 v1 h1 => ?_)
  split at h1
  · rename_i ety
    refine ⟨isTy_ok r1 v1 ety hT, ?_⟩
    refine st (α ++ β) F1 σ H1 δ S1 _ r1 (hs.mono q1.sub) (wp.bind h1 fun ds S2 _ xs H2 γ F2 r2 q2 v2 h3 => ?_)
    cases eg : g S2 d ds with
    | none => rw [eg] at h3; exact h3.elim
    | some zs =>
      obtain ⟨z, S3⟩ := zs
      rw [eg] at h3
      exact h2 _ F2 H2 S2 x xs d ds z S3 Q r2 (v1.mono q2.sub) v2 eg fun v H' ε F' r3 s3 v3 => h3 v H' ε F' r3 s3 v3
  · exact h1.elim
theorem m_append : MdG X "list.append" mAppend := by
  refine ⟨rAppend, mt_append, fun α F H S x xs d ds z S' Q hr hx hv hz q => ?_⟩
  unfold mAppend at hz
  split at hz
  · rename_i k y
    split at hz
    · rename_i zs e
      split at hz
      · rename_i hl
        cases hz
        cases hx with
        | ptr ha =>
          obtain ⟨o, _⟩ := hr.own k _ _ ha e
          obtain ⟨us, o1, o2⟩ := o
          cases hv with
          | cons h1 h2 =>
            cases h2
            obtain ⟨a1, a2⟩ := hr.setO (o := .lst (us ++ [_])) (d := .lst (zs ++ [y])) ha e rfl ⟨_, upd_same, o2.append (.cons h1 .nil)⟩
            exact ⟨_, us, _, rfl, rfl, o1, by rw [o2.length]; exact hl, q _ _ _ _ a1 a2 .non⟩
      · cases hz
    · cases hz
  · cases hz
/-! ### items -/
theorem atI_DV {xs : List D} {us : List V} {i : Int} {d : D} (h : DVs wd K mg F α us xs) (e : atI xs i = some d) : ∃ v, atI us i = some v ∧ DV wd K mg F α v d := by
  unfold atI at e ⊢
  rw [h.length]
  cases q : ixN xs.length i with
  | none => rw [q] at e; cases e
  | some j => rw [q] at e; exact h.get e
theorem pd_ix (ha : PD X W a ra) (hb : PD X W b rb) (hs : PlainIx b := by intro _ _; rfl) : PD X W (.Subscript a b pos) (rBin gIx ra rb) := by
  obtain ⟨ta, pa, sa⟩ := ha.ex
  obtain ⟨tb, pb, sb⟩ := hb.ex
  refine ⟨_, pe_ix ix_seq pa pb hs, sa.bin sb fun α F H S x y d e z Q hr hx hy hz q => ?_⟩
  unfold gIx at hz
  split at hz
  · rename_i xs i e1
    cases hy
    obtain ⟨l, us, rfl, a1, a2⟩ := hr.viewL hx e1
    obtain ⟨v, e3, e4⟩ := atI_DV a2 hz
    exact .inl ⟨l, us, i, v, rfl, rfl, a1, e3, fin_now hr e4 q⟩
  · rename_i xs i e1
    cases hy
    obtain ⟨l, us, rfl, a1, a2⟩ := hr.viewT hx e1
    obtain ⟨v, e3, e4⟩ := atI_DV a2 hz
    exact .inr (.inl ⟨l, us, i, v, rfl, rfl, a1, e3, fin_now hr e4 q⟩)
  · rename_i zz i e1
    split at hz
    · rename_i hl
      cases hy
      have := hr.viewS hx e1
      subst this
      cases e3 : atI zz.cps.toList i with
      | none => rw [e3] at hz; cases hz
      | some c => rw [e3] at hz; cases hz; exact .inr (.inr ⟨zz, i, c, rfl, rfl, hl, e3, fin_now hr (.str _) q⟩)
    · cases hz
  · cases hz
end
end DL
set_option Elab.async false
set_option linter.all false
set_option maxRecDepth 100000
set_option maxHeartbeats 4000000
set_option autoImplicit false
/-! Data layer, eleventh part: slices, what is walked, targets, lists that are made, dicts. -/
namespace DL
open PySem PySem.Spec PyProof.Rows L2
def rSeq (a : RE) : RA := fun δ S => (a δ S).bind fun x S1 => match x with
  | .lst ds => .ok ds S1
  | .tup ds => .ok ds S1
  | .str z => .ok (z.cps.toList.map fun c => .str ⟨#[c]⟩) S1
  | _ => .stuck
def rangeD (lo hi : Int) : List D := (List.range (hi - lo).toNat).map fun (i : Nat) => .int (lo + i)
def rRange (a : RA) : RA := fun δ S => (a δ S).bind fun xs S1 => match xs with
  | [.int j] => if -(2 ^ 62) ≤ j ∧ j < 2 ^ 62 then .ok (rangeD 0 j) S1 else .stuck
  | [.int i, .int j] => if -(2 ^ 62) ≤ i ∧ i < 2 ^ 62 ∧ -(2 ^ 62) ≤ j ∧ j < 2 ^ 62 then .ok (rangeD i j) S1 else .stuck
  | _ => .stuck
/-- a, b = x, y -/
def sPar (i j : Nat) (a : RA) : RS := fun δ S => (a δ S).out δ fun xs S1 => match xs with
  | [x, y] => if i < δ.length ∧ j < δ.length then .nx ((δ.set i (some x)).set j (some y)) S1 else .stuck
  | _ => .stuck
section
variable {X : Cx} {W : WX} {a b c e tg : Expr} {es rest : List Expr} {ra rb rc : RE} {ba bb : RB} {rs : RA} {pos p : Pos} {wd : World} {K : Fg} {mg : Str → Option Value} {α β : List Addr} {F F1 H H1 : Hp} {S : Sto}
/-! ### slices -/
def SndO (wd : World) (K : Fg) (mg : Str → Option Value) (W : WX) (t : TO) (r : RO) : Prop := ∀ α F σ H δ S (Q : Option Int → Hp → Prop), Rel wd K mg α F H S → Slots wd K mg F α σ δ → wp wd K mg α F H (fun _ _ (b a : Option Int) => b = a) (r δ S) Q (fun c d H' => W c d σ H') → t σ H Q
structure POd (X : Cx) (W : WX) (e : Option Expr) (r : RO) : Prop where
  ex : ∃ t, PO X e t ∧ SndO X.w X.K X.mg W t r
theorem pod_none : POd X W none oNone := ⟨_, po_none, fun α F σ H δ S Q hr hs h => h.now hr rfl⟩
theorem pod_some (ha : PD X W a ra) : POd X W (some a) (oSome ra) := by
  obtain ⟨t, p1, s1⟩ := ha.ex
  refine ⟨_, po_some p1, fun α F σ H δ S Q hr hs h => ?_⟩
  refine s1 α F σ H δ S _ hr hs (wp.bind h fun d S1 _ x H1 β F1 r1 q1 v1 h1 => ?_)
  cases d with
  | int i => cases v1; exact ⟨i, rfl, h1.now r1 rfl⟩
  | _ => exact h1.elim
theorem cut_DVs {xs : List D} {us : List V} (lo hi : Option Int) (h : DVs wd K mg F α us xs) : DVs wd K mg F α (cutV us lo hi) (cutD xs lo hi) := by
  unfold cutV cutD
  rw [h.length]
  exact (h.drop _).take _
theorem pd_cut {lo hi : Option Expr} {p2 : Pos} {ol oh : RO} (ha : PD X W a ra) (hl : POd X W lo ol) (hh : POd X W hi oh) : PD X W (.Subscript a (.Slice lo hi none p2) pos) (rCut ra ol oh) := by
  obtain ⟨ta, pa, sa⟩ := ha.ex
  obtain ⟨tl, pl, sl⟩ := hl.ex
  obtain ⟨th, ph, sh⟩ := hh.ex
  refine ⟨_, pe_slice ((sl_list.or sl_tupP).or sl_str) pa pl ph, fun α F σ H δ S Q hr hs h => ?_⟩
  refine sa α F σ H δ S _ hr hs (wp.bind h fun d S1 _ x H1 β F1 r1 q1 v1 h1 => ?_)
  refine sl (α ++ β) F1 σ H1 δ S1 _ r1 (hs.mono q1.sub) (wp.bind h1 fun i S2 _ i' H2 γ F2 r2 q2 v2 h2 => ?_)
  have v2 : i' = i := v2
  subst v2
  refine sh (α ++ β ++ γ) F2 σ H2 δ S2 _ r2 ((hs.mono q1.sub).mono q2.sub) (wp.bind h2 fun j S3 _ j' H3 ε F3 r3 q3 v3 h3 => ?_)
  have v3 : j' = j := v3
  subst v3
  have vx := (v1.mono (β := γ) q2.sub).mono (β := ε) q3.sub
  split at h3
  · rename_i xs e1
    obtain ⟨l, us, rfl, a1, a2⟩ := r3.viewL vx e1
    refine .inl (.inl ⟨l, us, rfl, a1, fun p hp => ?_⟩)
    obtain ⟨c1, c2, c3⟩ := r3.lst (cut_DVs _ _ a2) hp
    exact h3 _ _ _ _ c1 c2 c3
  · rename_i xs e1
    obtain ⟨l, us, rfl, a1, a2⟩ := r3.viewT vx e1
    refine .inl (.inr ⟨l, us, rfl, a1, fun hw => ?_, fun _ p hp o ho => ?_⟩)
    · have ew : cutD xs i' j' = xs := by
        unfold cutD
        rw [a2.length] at hw
        rw [hw.1, hw.2, List.drop_zero, Nat.sub_zero, List.take_length]
      rw [ew] at h3
      have sx := r3.see vx
      rw [e1] at sx
      cases sx with
      | «at» h _ => exact h3.now r3 h
    · obtain ⟨c1, c2, c3⟩ := r3.tup (cut_DVs _ _ a2) hp ho
      exact h3 _ _ _ _ c1 c2 c3
  · rename_i zz e1
    split at h3
    · rename_i hl
      have := r3.viewS vx e1
      subst this
      exact .inr ⟨zz, rfl, hl, h3.now r3 (.str _)⟩
    · exact h3.elim
  · exact h3.elim
/-! ### in -/
/-! ### what is walked -/
theorem pi_or {wi wi' : TI} (h : PI X tg e wi) (h' : PI X tg e wi') : PI X tg e (fun σ H R => wi σ H R ∨ wi' σ H R) :=
  ⟨fun pins s σ H R I q => q.elim (h.run pins s σ H R I) (h'.run pins s σ H R I)⟩
theorem it_list {l : Addr} {us : List V} {ds : List D} (h : SqL K F l us) (hv : DVs wd K mg F α us ds) : ItOk wd K mg F α (Itl K l) ds where
  go := fun F' H' i a b hi => by
    obtain ⟨v, e1, _⟩ := hv.get (List.getElem?_eq_getElem hi)
    exact ⟨us, v, (a.trans b).sqL h, e1⟩
  stop := fun F' H' a b => ⟨us, (a.trans b).sqL h, by rw [hv.length]; exact Nat.le_refl _⟩
  yld := fun F' H' H2 i x d a b hd ⟨e1, e2⟩ => by
    refine .inl ⟨e1, ?_⟩
    have e3 := e2 us ((a.trans b).sqL h)
    obtain ⟨v, e4, e5⟩ := hv.get hd
    rw [e3] at e4; cases e4
    have := e5.mono (β := []) a
    rw [List.append_nil] at this; exact this
theorem it_tup {l : Addr} {us : List V} {ds : List D} (h : SqT K F l us) (hv : DVs wd K mg F α us ds) : ItOk wd K mg F α (Itt K l) ds where
  go := fun F' H' i a b hi => by
    obtain ⟨v, e1, _⟩ := hv.get (List.getElem?_eq_getElem hi)
    exact ⟨us, v, (a.trans b).sqT h, e1⟩
  stop := fun F' H' a b => ⟨us, (a.trans b).sqT h, by rw [hv.length]; exact Nat.le_refl _⟩
  yld := fun F' H' H2 i x d a b hd ⟨e1, e2⟩ => by
    refine .inl ⟨e1, ?_⟩
    have e3 := e2 us ((a.trans b).sqT h)
    obtain ⟨v, e4, e5⟩ := hv.get hd
    rw [e3] at e4; cases e4
    have := e5.mono (β := []) a
    rw [List.append_nil] at this; exact this
theorem it_str (z : Str) : ItOk wd K mg F α (Its z) (z.cps.toList.map fun c => .str ⟨#[c]⟩) where
  go := fun F' H' i a b hi => by show i < z.cps.size; simpa using hi
  stop := fun F' H' a b => by show z.cps.size ≤ _; simp
  yld := fun F' H' H2 i x d a b hd ⟨e1, c, e2, e3⟩ => by
    subst e3
    refine .inl ⟨e1, ?_⟩
    rw [List.getElem?_map, Array.getElem?_toList, e2] at hd
    cases hd
    exact .str _
theorem it_range (lo hi : Int) : ItOk wd K mg F α (Itr lo (hi - lo).toNat) (rangeD lo hi) where
  go := fun F' H' i a b h => by show i < (hi - lo).toNat; simpa [rangeD] using h
  stop := fun F' H' a b => by show _ ≤ (rangeD lo hi).length; simp [rangeD]
  yld := fun F' H' H2 i x d a b hd ⟨e1, e2⟩ => by
    subst e2
    refine .inl ⟨e1, ?_⟩
    unfold rangeD at hd
    rw [List.getElem?_map] at hd
    cases q : (List.range (hi - lo).toNat)[i]? with
    | none => rw [q] at hd; cases hd
    | some j =>
      rw [q] at hd; cases hd
      have : j = i := by
        obtain ⟨_, e⟩ := List.getElem?_eq_some_iff.mp q
        simpa using e.symm
      subst this
      exact .int _
theorem pid_seq (ha : PD X W e ra) : PId X W tg e (rSeq ra) := by
  obtain ⟨t, p1, s1⟩ := ha.ex
  refine ⟨_, pi_or (pi_or (pi_list p1) (pi_tup p1)) (pi_str p1), fun α F σ H δ S Q hr hs h => ?_⟩
  unfold rSeq at h
  cases q : ra δ S with
  | err c fs S1 =>
    rw [q] at h
    refine .inl (.inl (s1 α F σ H δ S _ hr hs ?_))
    rw [q]; exact h
  | stuck => rw [q] at h; exact h.elim
  | ok d S1 =>
    rw [q] at h
    cases d with
    | lst ds =>
      refine .inl (.inl (s1 α F σ H δ S _ hr hs ?_))
      rw [q]
      intro v H' β F' r1 st v1
      cases v1 with
      | lst h1 h2 => exact ⟨_, rfl, ⟨_, r1.sub.sqL h1⟩, h _ H' β F' r1 st (it_list h1 h2)⟩
    | tup ds =>
      refine .inl (.inr (s1 α F σ H δ S _ hr hs ?_))
      rw [q]
      intro v H' β F' r1 st v1
      cases v1 with
      | tup h1 h2 => exact ⟨_, rfl, ⟨_, r1.sub.sqT h1.1⟩, h _ H' β F' r1 st (it_tup h1.1 h2)⟩
    | str z =>
      refine .inr (s1 α F σ H δ S _ hr hs ?_)
      rw [q]
      intro v H' β F' r1 st v1
      cases v1
      exact ⟨z, rfl, h _ H' β F' r1 st (it_str z)⟩
    | _ => exact (show False from h).elim
theorem pid_range1 (hm : X.mg "range" = none) (ha : PDs X W [a] rs) (hg : Gl X "range" := by rfl) (hs : starEach [a] X.env = [(false, eval a X.env)] := by rfl) : PId X W tg (.Call (.Name "range" p) [a] [] pos) (rRange rs) := by
  obtain ⟨t, p1, s1⟩ := ha.ex
  refine ⟨_, pi_range1 hg hm p1 hs, fun α F σ H δ S Q hr hs h => ?_⟩
  refine s1 α F σ H δ S _ hr hs (wp.bind h fun ds S1 e1 xs H1 β F1 r1 q1 v1 h1 => ?_)
  have hl := ha.len _ _ _ _ e1
  match ds, hl with
  | [d], _ =>
    cases v1 with
    | cons v1 vn =>
      cases vn
      cases d with
      | int j =>
        cases v1
        dsimp only at h1
        split at h1
        · rename_i hc
          refine ⟨j, rfl, hc.1, hc.2, ?_⟩
          have := it_range (wd := X.w) (K := X.K) (mg := X.mg) (F := F1) (α := α ++ β) 0 j
          rw [Int.sub_zero] at this
          exact h1.now r1 this
        · exact h1.elim
      | _ => exact h1.elim
/-! ### targets from a list, two names at once -/
theorem psd_par {i j : Nat} {x y : Str} {px py pt : Pos} {kt k2 : Nat} {pt2 : Pos} (hc : X.calm = true) (hN : X.N.Nodup) (ha : PDs X W [a, b] rs) (hij : i ≠ j := by decide) (hi : X.N[i]? = some x := by rfl) (hj : X.N[j]? = some y := by rfl) (hx : X.env.scope.names.lookup x = some .local := by rfl) (hy : X.env.scope.names.lookup y = some .local := by rfl)
    (hw : swappedStores [.Tuple [.Name x px, .Name y py] kt pt] (.Tuple [a, b] k2 pt2) X.env = pure (some [x, y]) := by rfl) : PSd X W (.Assign [.Tuple [.Name x px, .Name y py] kt pt] (.Tuple [a, b] k2 pt2) pos) (sPar i j rs) := by
  obtain ⟨t, p1, s1⟩ := ha.ex
  refine ⟨_, ps_par hc hN hi hj hij hx hy p1 hw, fun α F σ H δ S E hr hs h => ?_⟩
  refine s1 α F σ H δ S _ hr hs (wpS.out h hs fun ds S1 e1 xs H1 β F1 r1 q1 v1 h1 => ?_)
  have hl := ha.len _ _ _ _ e1
  match ds, hl with
  | [d, d'], _ =>
    cases v1 with
    | cons v1 vn =>
      cases vn with
      | cons v2 vn =>
        cases vn
        dsimp only at h1
        split at h1
        · exact ⟨_, _, rfl, h1.nx r1 (((hs.mono q1.sub).set v1).set v2)⟩
        · exact h1.elim
end
end DL
set_option Elab.async false
set_option linter.all false
set_option maxRecDepth 100000
set_option maxHeartbeats 4000000
set_option autoImplicit false
/-! Data layer, twelfth part: lists that are made, dicts. -/
namespace DL
open PySem PySem.Spec PyProof.Rows L2
def keyEq : D → D → Bool
  | .int i, .int j => i == j
  | .str x, .str y => decide (x = y)
  | _, _ => false
def lookD : List (D × D) → D → Option D
  | [], _ => none
  | (k, v) :: r, q => if keyEq k q then some v else lookD r q
def replD : List (D × D) → D → D → List (D × D)
  | [], _, _ => []
  | (k, v) :: r, q, y => if keyEq k q then (k, y) :: replD r q y else (k, v) :: replD r q y
def putD (kvs : List (D × D)) (q y : D) : List (D × D) := if (lookD kvs q).isSome then replD kvs q y else kvs ++ [(q, y)]
def mergeD (kvs more : List (D × D)) : List (D × D) := more.foldl (fun acc kv => putD acc kv.1 kv.2) kvs
def isKey : D → Bool
  | .int _ => true
  | .str _ => true
  | _ => false
/-- pairs of a display, from the left -/
def rPairs : List (RE × RE) → Sl → Sto → Res (List (D × D))
  | [], _, S => .ok [] S
  | (k, v) :: r, δ, S => (k δ S).bind fun x S1 => (v δ S1).bind fun y S2 => (rPairs r δ S2).bind fun ps S3 => .ok ((x, y) :: ps) S3
def rDisp (ps : List (RE × RE)) : RE := fun δ S => (rPairs ps δ S).bind fun kvs S1 => if kvs.all (fun p => isKey p.1) && decide (kvs.length ≤ 15) then .ok (.dct (mergeD [] kvs)) S1 else .stuck
/-- xs[i] = v -/
def sSetL (d k v : RE) : RS := fun δ S => (v δ S).out δ fun z S1 => (d δ S1).out δ fun x S2 => (k δ S2).out δ fun y S3 => match x, y with
  | .ptr n, .int i => (match S3[n]? with
    | some (.lst xs) => (match ixN xs.length i with
      | some j => .nx δ (S3.set n (.lst (xs.set j z)))
      | none => .stuck)
    | _ => .stuck)
  | _, _ => .stuck
def gList : Sto → List D → Option D := fun S ds => match ds with
  | [d] => (match deref S d with
    | .lst xs => some (.lst xs)
    | .tup xs => some (.lst xs)
    | .str z => if z.cps.size ≤ sizeLine then some (.lst (z.cps.toList.map fun c => .str ⟨#[c]⟩)) else none
    | _ => none)
  | _ => none
def gTuple : Sto → List D → Option D := fun S ds => match ds with
  | [d] => (match deref S d with
    | .lst xs => some (.tup xs)
    | .tup xs => some (.tup xs)
    | _ => none)
  | _ => none
section
variable {X : Cx} {W : WX} {a b c e tg : Expr} {es rest : List Expr} {ra rb rc : RE} {ba bb : RB} {rs : RA} {pos p : Pos} {wd : World} {K : Fg} {mg : Str → Option Value} {α β : List Addr} {F F1 H H1 : Hp} {S : Sto}
/-! ### made by operators, calls, methods -/
theorem wpF.now {d : D} {Q : VK} {W : XK} {ad : Addr} {o : HO} (h : wpF wd K mg α F H (.ok d S) Q W) (hr : Rel wd K mg α F H S) (hp : H ad = none) (ho : Own wd K mg F α (upd H ad o) ad d) (hd : d.open = true) : Q (.ref ad) (upd H ad o) := h.lay hr hp ho hd
/-- by a list that is laid at a new place -/
def Lays (H : Hp) (xs : List V) (Q : VK) : Prop := ∀ p, H p = none → Q (.ref p) (upd H p (.lst xs))
theorem DVs.rep {us : List V} {xs : List D} (h : DVs wd K mg F α us xs) : ∀ n : Nat, DVs wd K mg F α (List.replicate n us).flatten (List.replicate n xs).flatten
  | 0 => .nil
  | n + 1 => by
    rw [List.replicate_succ, List.replicate_succ, List.flatten_cons, List.flatten_cons]
    exact h.append (DVs.rep h n)
/-- by a call of a built-in class, by a method -/
theorem pf_callT {x : Str} {T : String} {g : Sto → List D → Option D} {r : List V → Hp → VK → Prop} (hc : CallR X (.type T) r) (hgk : ∀ α F H S xs ds z Q, Rel X.w X.K X.mg α F H S → DVs X.w X.K X.mg F α xs ds → g S ds = some z → ∃ es us, z = .lst es ∧ DVs X.w X.K X.mg F α us es ∧ (Lays H us Q → r xs H Q))
    (hm : X.mg x = none) (ha : PDs X W (e :: es) rs) (hg : Gl X x := by rfl) (hv : bootBuiltins x = some (.type T) := by decide +kernel) (hn : x ≠ "__name__" := by decide) (hdb : (x == ("__debug__" : Str)) = false := by decide)
    (he : starEach (e :: es) X.env = (false, eval e X.env) :: starEach es X.env := by rfl) (hpl : (backTo pos (starEach es X.env)).any (·.1) = false := by rfl) : PF X W (.Call (.Name x p) (e :: es) [] pos) (rAs g rs) := by
  obtain ⟨t, pt, st⟩ := ha.ex
  refine ⟨_, pe_callTy hc hg hm hv pt hn hdb he hpl, fun α F σ H δ S Q hr hs h => ?_⟩
  refine st α F σ H δ S _ hr hs (wpF.bind h fun ds S1 _ xs H1 β F1 r1 q1 v1 h1 => ?_)
  cases eg : g S1 ds with
  | none => rw [eg] at h1; exact h1.elim
  | some z =>
    rw [eg] at h1
    obtain ⟨es', us, rfl, e1, e2⟩ := hgk _ F1 H1 S1 xs ds z Q r1 v1 eg
    exact e2 fun p hp => wpF.lay h1 r1 hp ⟨us, upd_same, e1⟩ rfl
theorem call_listS (hc : X.calm = true) : CallR X (.type "list") (fun xs H Q => ∃ z, xs = [.str z] ∧ z.cps.size ≤ sizeLine ∧ Lays H (z.cps.toList.map fun c => .str ⟨#[c]⟩) Q) := by
  intro pins s σ H xs us Q I rv h
  obtain ⟨z, rfl, hz, q⟩ := h
  obtain ⟨u, rfl, ru⟩ := vals1 rv
  obtain ⟨t, rfl⟩ := ru
  refine call_list_str (I.ok.hd hc) z t (fun h' tk acc c k e it => ?_) hz
  have hv : Vals (z.cps.toList.map fun c => V.str ⟨#[c]⟩) acc.toList := by
    refine vals_of_at (by simp [it.1]) fun j x u h1 h2 => ?_
    rw [Array.getElem?_toList] at h2
    obtain ⟨c, t', e1, e2⟩ := it.2 j u h2
    rw [List.getElem?_map, Array.getElem?_toList, e1] at h1
    cases h1
    exact ⟨t', e2⟩
  have nw : ObjOk X.prog X.w (upd H s.heap.objs.size (.lst (z.cps.toList.map fun c => V.str ⟨#[c]⟩))) h' s.heap.objs.size (.lst (z.cps.toList.map fun c => V.str ⟨#[c]⟩)) := ⟨by simpa using hz, acc.toList, c, hv, by simpa using e⟩
  exact ⟨.ref s.heap.objs.size, _, I.laid (t' := tk) k (Nat.le_refl _) nw, rfl, q _ I.fresh⟩
theorem pf_list (hc : X.calm = true) (hm : X.mg "list" = none) (ha : PDs X W (e :: es) rs) (hg : Gl X "list" := by rfl) (he : starEach (e :: es) X.env = (false, eval e X.env) :: starEach es X.env := by rfl) (hpl : (backTo pos (starEach es X.env)).any (·.1) = false := by rfl) :
    PF X W (.Call (.Name "list" p) (e :: es) [] pos) (rAs gList rs) := pf_callT (call_list_of.or (call_listS hc)) (fun α F H S xs ds z Q hr hv hz => by
  unfold gList at hz
  split at hz
  · cases hv with
    | cons h1 h2 =>
      cases h2
      split at hz
      · rename_i ys e1
        cases hz
        obtain ⟨l, us, rfl, a1, a2⟩ := hr.viewL h1 e1
        exact ⟨_, us, rfl, a2, fun q => .inl ⟨l, us, rfl, .inl a1, q⟩⟩
      · rename_i ys e1
        cases hz
        obtain ⟨l, us, rfl, a1, a2⟩ := hr.viewT h1 e1
        exact ⟨_, us, rfl, a2, fun q => .inl ⟨l, us, rfl, .inr a1, q⟩⟩
      · rename_i zz e1
        split at hz
        · rename_i hl
          cases hz
          have := hr.viewS h1 e1
          subst this
          refine ⟨_, zz.cps.toList.map fun c => .str ⟨#[c]⟩, rfl, ?_, fun q => .inr ⟨zz, rfl, hl, q⟩⟩
          have := DVs.of_strs (wd := X.w) (K := X.K) (mg := X.mg) (F := F) (α := α) (zz.cps.toList.map fun c => (⟨#[c]⟩ : Str))
          rw [List.map_map, List.map_map] at this
          exact this
        · cases hz
      · cases hz
  · cases hz) hm ha hg (by decide +kernel) (by decide) (by decide) he hpl
theorem b_tuple : BiG X (.type "tuple") gTuple := by
  refine ⟨_, call_tuple_ofP, fun α F H S xs ds z Q hr hv hz q => ?_⟩
  unfold gTuple at hz
  split at hz
  · cases hv with
    | cons h1 h2 =>
      cases h2
      split at hz
      · rename_i ys e1
        cases hz
        obtain ⟨l, us, rfl, a1, a2⟩ := hr.viewL h1 e1
        refine ⟨l, us, rfl, .inl ⟨a1, fun p hp o ho => ?_⟩⟩
        obtain ⟨c1, c2, c3⟩ := hr.tup a2 hp ho
        exact q _ _ _ _ c1 c2 c3
      · rename_i ys e1
        cases hz
        obtain ⟨l, us, rfl, a1, a2⟩ := hr.viewT h1 e1
        have sx := hr.see h1
        rw [e1] at sx
        cases sx with
        | «at» h _ => exact ⟨l, us, rfl, .inr ⟨a1, fin_now hr h q⟩⟩
      · cases hz
  · cases hz
end
end DL
set_option Elab.async false
set_option linter.all false
set_option maxRecDepth 100000
set_option maxHeartbeats 4000000
set_option autoImplicit false
/-! Data layer, thirteenth part: dicts by numbers and texts; an item stored. -/
namespace DL
open PySem PySem.Spec PyProof.Rows L2
def kD : Key → D
  | .inl i => .int i
  | .inr x => .str x
theorem isKey_kD {d : D} (h : isKey d = true) : ∃ k, d = kD k := by
  cases d with
  | int i => exact ⟨.inl i, rfl⟩
  | str x => exact ⟨.inr x, rfl⟩
  | _ => cases h
theorem keyEq_kD (a b : Key) : keyEq (kD a) (kD b) = decide (a = b) := by
  cases a with
  | inl i => cases b with
    | inl j => show (i == j) = _; rw [key_ll]
    | inr y => show false = _; rw [key_lr]
  | inr x => cases b with
    | inl j => show false = _; rw [key_rl]
    | inr y => show decide (x = y) = _; rw [key_rr]
section
variable {X : Cx} {W : WX} {a b c e tg : Expr} {es rest : List Expr} {ra rb rc : RE} {ba bb : RB} {rs : RA} {pos p : Pos} {wd : World} {K : Fg} {mg : Str → Option Value} {α β : List Addr} {F F1 H H1 : Hp} {S : Sto}
theorem kD_DV {k : Key} {v : V} (h : DV wd K mg F α v (kD k)) : v = kV k := by cases k <;> cases h <;> rfl
/-- a dict's pairs -/
inductive KVs (wd : World) (K : Fg) (mg : Str → Option Value) (F : Hp) (α : List Addr) : List (Key × V) → List (D × D) → Prop
  | nil : KVs wd K mg F α [] []
  | cons {k : Key} {v : V} {d : D} {ws : List (Key × V)} {kvs : List (D × D)} : DV wd K mg F α v d → KVs wd K mg F α ws kvs → KVs wd K mg F α ((k, v) :: ws) ((kD k, d) :: kvs)
theorem KVs.of : ∀ {ws : List (Key × V)} {kvs : List (D × D)}, DKs (ws.map (·.1)) (kvs.map (·.1)) → DVs wd K mg F α (ws.map (·.2)) (kvs.map (·.2)) → KVs wd K mg F α ws kvs
  | [], [], _, _ => .nil
  | [], _ :: _, h, _ => by have := h.length; simp at this
  | _ :: _, [], h, _ => by have := h.length; simp at this
  | (k, v) :: ws, (q, d) :: kvs, h, g => by
    have h' : DKs (k :: ws.map (·.1)) (q :: kvs.map (·.1)) := h
    have g' : DVs wd K mg F α (v :: ws.map (·.2)) (d :: kvs.map (·.2)) := g
    cases g' with
    | cons g1 g2 =>
      cases h' with
      | int h2 => exact .cons (k := .inl _) g1 (KVs.of h2 g2)
      | str h2 => exact .cons (k := .inr _) g1 (KVs.of h2 g2)
theorem KVs.keys {ws : List (Key × V)} {kvs : List (D × D)} (h : KVs wd K mg F α ws kvs) : DKs (ws.map (·.1)) (kvs.map (·.1)) := by
  induction h with
  | nil => exact .nil
  | @cons k v d ws kvs _ _ ih => cases k with
    | inl i => exact .int ih
    | inr x => exact .str ih
theorem KVs.vals {ws : List (Key × V)} {kvs : List (D × D)} (h : KVs wd K mg F α ws kvs) : DVs wd K mg F α (ws.map (·.2)) (kvs.map (·.2)) := by
  induction h with
  | nil => exact .nil
  | cons h _ ih => exact .cons h ih
theorem KVs.length {ws : List (Key × V)} {kvs : List (D × D)} (h : KVs wd K mg F α ws kvs) : ws.length = kvs.length := by
  have := h.vals.length
  simpa using this
theorem KVs.look {ws : List (Key × V)} {kvs : List (D × D)} (h : KVs wd K mg F α ws kvs) (k : Key) : (∀ d, lookD kvs (kD k) = some d → ∃ v, valV ws k = some v ∧ DV wd K mg F α v d) ∧ (lookD kvs (kD k) = none → valV ws k = none) := by
  induction h with
  | nil => exact ⟨(fun d e => by cases e), fun _ => rfl⟩
  | @cons j v d ws kvs h _ ih =>
    unfold lookD
    rw [keyEq_kD]
    by_cases q : j = k
    · subst q
      rw [decide_eq_true rfl, if_pos rfl, valV_pos (p := (j, v)) rfl]
      exact ⟨(fun e z => by cases z; exact ⟨v, rfl, h⟩), fun z => by cases z⟩
    · rw [decide_eq_false q, if_neg (by decide), valV_neg (p := (j, v)) q]
      exact ih
theorem KVs.isSome {ws : List (Key × V)} {kvs : List (D × D)} (h : KVs wd K mg F α ws kvs) (k : Key) : (lookD kvs (kD k)).isSome = (valV ws k).isSome := by
  obtain ⟨h1, h2⟩ := h.look k
  cases e : lookD kvs (kD k) with
  | none => rw [h2 e]; rfl
  | some d => obtain ⟨v, e1, _⟩ := h1 d e; rw [e1]; rfl
theorem KVs.append {ws ws' : List (Key × V)} {kvs kvs' : List (D × D)} (h : KVs wd K mg F α ws kvs) (g : KVs wd K mg F α ws' kvs') : KVs wd K mg F α (ws ++ ws') (kvs ++ kvs') := by
  induction h with
  | nil => exact g
  | cons h _ ih => exact .cons h ih
theorem KVs.put {ws : List (Key × V)} {kvs : List (D × D)} (h : KVs wd K mg F α ws kvs) (k : Key) {v : V} {d : D} (hv : DV wd K mg F α v d) : KVs wd K mg F α (putK ws k v) (putD kvs (kD k) d) := by
  unfold putK putD
  rw [h.isSome k, valV_any]
  by_cases q : (valV ws k).isSome = true
  · rw [if_pos q, if_pos q]
    clear q
    induction h with
    | nil => exact .nil
    | @cons j u e ws kvs h1 _ ih =>
      rw [List.map_cons]
      unfold replD
      rw [keyEq_kD]
      by_cases z : j = k
      · subst z
        rw [decide_eq_true rfl, if_pos rfl, if_pos rfl]
        exact .cons hv ih
      · rw [if_neg (show ¬ (j, u).1 = k from z), decide_eq_false z, if_neg (show ¬ false = true by decide)]
        exact .cons h1 ih
  · rw [if_neg q, if_neg q]
    exact h.append (.cons hv .nil)
theorem KVs.merge {more : List (Key × V)} {mk : List (D × D)} (g : KVs wd K mg F α more mk) : ∀ {ws : List (Key × V)} {kvs : List (D × D)}, KVs wd K mg F α ws kvs → KVs wd K mg F α (mergeK ws more) (mergeD kvs mk) := by
  induction g with
  | nil => exact fun h => h
  | cons h1 _ ih => exact fun h => ih (h.put _ h1)
theorem Own.dctK {ad : Addr} {kvs : List (D × D)} : Own wd K mg F α H ad (.dct kvs) ↔ ∃ ws, H ad = some (.dK ws) ∧ KVs wd K mg F α ws kvs :=
  ⟨fun ⟨ws, h1, h2, h3⟩ => ⟨ws, h1, .of h2 h3⟩, fun ⟨ws, h1, h2⟩ => ⟨ws, h1, h2.keys, h2.vals⟩⟩
theorem Rel.viewD (hr : Rel wd K mg α F H S) {v : V} {d : D} {kvs : List (D × D)} (h : DV wd K mg F α v d) (e : deref S d = .dct kvs) : ∃ a ws, v = .ref a ∧ Rd H a (.dK ws) ∧ KVs wd K mg F α ws kvs := by
  have s := hr.see h
  rw [e] at s
  cases s with
  | «at» h _ => cases h
  | dct q k t => exact ⟨_, _, rfl, q, .of k t⟩
theorem psd_setL {o i value : Expr} {pos' : Pos} {ro ri rv : RE} (ho : PD X W o ro) (hi : PD X W i ri) (hv : PD X W value rv) (ha : ∀ v, assign (.Subscript o i pos') X.env v = (do let ov ← holding [v] (eval o X.env); let iv ← holding [v, ov] (eval i X.env); standAt pos'; holding [v, ov, iv] (setItem ov iv v); release [v, ov, iv] []) := by intro _; rfl)
    (hsw : swapsWithSole [.Subscript o i pos'] value pos.line X.env = pure false := by rfl) (hw : swappedStores [.Subscript o i pos'] value X.env = pure none := by rfl) (h1 : (assignEach [.Subscript o i pos'] X.env).map (·.2) = [assign (.Subscript o i pos') X.env] := by rfl) : PSd X W (.Assign [.Subscript o i pos'] value pos) (sSetL ro ri rv) := by
  obtain ⟨to, po, so⟩ := ho.ex
  obtain ⟨ti, pi, si⟩ := hi.ex
  obtain ⟨tv, pv', sv⟩ := hv.ex
  refine ⟨_, ps_asg pv' (pg_sub po pi set_list ha) hsw hw h1, fun α F σ H δ S E hr hs h => ?_⟩
  refine sv α F σ H δ S _ hr hs (wpS.out h hs fun z S1 _ v H1 β F1 r1 q1 v1 h1 => ?_)
  have hs1 := hs.mono (β := β) q1.sub
  refine so (α ++ β) F1 σ H1 δ S1 _ r1 hs1 (wpS.out h1 hs1 fun x S2 _ xv H2 γ F2 r2 q2 v2 h2 => ?_)
  have hs2 := hs1.mono (β := γ) q2.sub
  refine si (α ++ β ++ γ) F2 σ H2 δ S2 _ r2 hs2 (wpS.out h2 hs2 fun y S3 _ yv H3 ε F3 r3 q3 v3 h3 => ?_)
  have hs3 := hs2.mono (β := ε) q3.sub
  cases x with
  | ptr n =>
    cases y with
    | int i =>
      dsimp only at h3
      split at h3
      · rename_i xs e1
        split at h3
        · rename_i j e2
          have v2' := v2.mono (β := ε) q3.sub
          cases v2' with
          | ptr ea =>
            obtain ⟨o1, _⟩ := r3.own _ _ _ ea e1
            obtain ⟨us, o2, o3⟩ := o1
            cases v3
            have vz := (v1.mono (β := γ) q2.sub).mono (β := ε) q3.sub
            obtain ⟨a1, a2⟩ := r3.setO (o := .lst (us.set j v)) (d := .lst (xs.set j z)) ea e1 rfl ⟨_, upd_same, o3.set vz j⟩
            refine ⟨_, us, i, j, rfl, rfl, o2, by rw [o3.length]; exact e2, ?_⟩
            exact h3 _ _ _ _ a1 a2 (hs3.mono a2.sub)
        · exact h3.elim
      · exact h3.elim
    | _ => exact h3.elim
  | _ => exact h3.elim
/-! ### displays -/
structure PPd (X : Cx) (W : WX) (pos : Pos) (ks : List (Option Expr)) (vs : List Expr) (ps : List (RE × RE)) : Prop where
  ex : ∃ trs, PPs X pos ks vs trs ∧ ∀ α F σ H δ S (Q : List (V × V) → Hp → Prop), Rel X.w X.K X.mg α F H S → Slots X.w X.K X.mg F α σ δ →
    wp X.w X.K X.mg α F H (fun F α (b : List (V × V)) (a : List (D × D)) => DVs X.w X.K X.mg F α (b.map (·.1)) (a.map (·.1)) ∧ DVs X.w X.K X.mg F α (b.map (·.2)) (a.map (·.2))) (rPairs ps δ S) Q (fun c d H' => W c d σ H') → tPairs trs σ H Q
theorem ppd_nil : PPd X W pos [] [] [] := ⟨[], pps_nil, fun α F σ H δ S Q hr hs h => h.now hr ⟨.nil, .nil⟩⟩
theorem ppd_cons {k v : Expr} {ks : List (Option Expr)} {vs : List Expr} {rk rv : RE} {ps : List (RE × RE)} (hk : PD X W k rk) (hv : PD X W v rv) (h : PPd X W pos ks vs ps) : PPd X W pos (some k :: ks) (v :: vs) ((rk, rv) :: ps) := by
  obtain ⟨tk, p1, s1⟩ := hk.ex
  obtain ⟨tv, p2, s2⟩ := hv.ex
  obtain ⟨trs, p3, s3⟩ := h.ex
  refine ⟨(tk, tv) :: trs, pps_cons p1 p2 p3, fun α F σ H δ S Q hr hs h => ?_⟩
  refine s1 α F σ H δ S _ hr hs (wp.bind h fun x S1 _ xv H1 β F1 r1 q1 v1 h1 => ?_)
  refine s2 (α ++ β) F1 σ H1 δ S1 _ r1 (hs.mono q1.sub) (wp.bind h1 fun y S2 _ yv H2 γ F2 r2 q2 v2 h2 => ?_)
  refine s3 (α ++ β ++ γ) F2 σ H2 δ S2 _ r2 ((hs.mono q1.sub).mono q2.sub) (wp.bind h2 fun zs S3 _ zv H3 ε F3 r3 q3 v3 h3 => ?_)
  exact h3.now r3 ⟨.cons ((v1.mono q2.sub).mono q3.sub) v3.1, .cons (v2.mono q3.sub) v3.2⟩
theorem keysOf : ∀ {kvs : List (D × D)} {ps : List (V × V)}, kvs.all (fun p => isKey p.1) = true → DVs wd K mg F α (ps.map (·.1)) (kvs.map (·.1)) → DVs wd K mg F α (ps.map (·.2)) (kvs.map (·.2)) → ∃ ws : List (Key × V), ps = ws.map (fun kv => (kV kv.1, kv.2)) ∧ KVs wd K mg F α ws kvs
  | [], [], _, _, _ => ⟨[], rfl, .nil⟩
  | [], _ :: _, _, h, _ => by have := h.length; simp at this
  | _ :: _, [], _, h, _ => by have := h.length; simp at this
  | (q, d) :: kvs, (x, y) :: ps, hk, h, g => by
    rw [List.all_cons, Bool.and_eq_true] at hk
    have h' : DVs wd K mg F α (x :: ps.map (·.1)) (q :: kvs.map (·.1)) := h
    have g' : DVs wd K mg F α (y :: ps.map (·.2)) (d :: kvs.map (·.2)) := g
    cases h' with
    | cons h1 h2 =>
      cases g' with
      | cons g1 g2 =>
        obtain ⟨ws, e1, e2⟩ := keysOf hk.2 h2 g2
        obtain ⟨k, ek⟩ := isKey_kD hk.1
        have ek : q = kD k := ek
        subst ek
        have := kD_DV h1
        subst this
        exact ⟨(k, y) :: ws, by rw [e1]; rfl, .cons g1 e2⟩
theorem pf_disp {ks : List (Option Expr)} {vs : List Expr} {ps : List (RE × RE)} (h : PPd X W pos ks vs ps) (hall : ks.all (·.isSome) = true := by rfl) (hl : ks.length = vs.length := by rfl) (h0 : ks ≠ [] := by intro z; cases z) (h15 : ks.length ≤ 15 := by decide) : PF X W (.Dict ks vs pos) (rDisp ps) := by
  obtain ⟨trs, p1, s1⟩ := h.ex
  refine ⟨_, pe_disp p1 hall hl h0 h15, fun α F σ H δ S Q hr hs h => fun ad had => ?_⟩
  have n := hr.notin had
  have f := hr.notF had
  unfold rDisp at h
  have hr' := hr.other (o := .dK []) n f
  refine s1 α F σ (upd H ad (.dK [])) δ S _ hr' hs ?_
  have stt : Stp α F H [] F (upd H ad (.dK [])) := Stp.refl.other had
  cases q : rPairs ps δ S with
  | err c fs S1 =>
    rw [q] at h
    intro cls dd H' β F' r1 st er
    have := stt.trans (β := []) (γ := β) (by rw [List.append_nil]; exact st)
    exact h cls dd H' β F' r1 this er
  | stuck => rw [q] at h; exact h.elim
  | ok kvs S1 =>
    rw [q] at h
    have h1 : wpF X.w X.K X.mg α F H (if kvs.all (fun p => isKey p.1) && decide (kvs.length ≤ 15) then .ok (.dct (mergeD [] kvs)) S1 else .stuck) Q _ := h
    split at h1
    · rename_i hc
      rw [Bool.and_eq_true] at hc
      intro pv H' β F' r1 st ⟨g1, g2⟩
      obtain ⟨ws, e1, e2⟩ := keysOf hc.1 g1 g2
      have st' := stt.trans (β := []) (γ := β) (by rw [List.append_nil]; exact st)
      rw [List.nil_append] at st'
      have hD : H' ad = some (.dK []) := st.frame ad _ n upd_same
      have fD : F' ad = none := st.fnew ad n f (by rw [upd_same]; exact fun z => nomatch z)
      have nD : ad ∉ α ++ β := by
        intro z
        rcases List.mem_append.mp z with z | z
        · exact n z
        · have := st.new ad z
          rw [upd_same] at this; cases this
      refine ⟨hD, ws, e1, by rw [e2.length]; exact of_decide_eq_true hc.2, ?_⟩
      exact h1 ad _ β F' (r1.other nD fD) (st'.other had) had nD fD (Own.dctK.mpr ⟨_, upd_same, KVs.merge e2 .nil⟩) rfl
    · exact h1.elim
theorem pf_dnew : PF X W (.Dict [] [] pos) (rC (.dct [])) := ⟨_, pe_dnewK, fun α F σ H δ S Q hr hs h => fun ad had => wpF.lay h hr had (Own.dctK.mpr ⟨[], upd_same, .nil⟩) rfl⟩
end
end DL
set_option Elab.async false
set_option linter.all false
set_option maxRecDepth 100000
set_option maxHeartbeats 4000000
set_option autoImplicit false
/-! Data layer, last part: defs by their names, the law's end. -/
namespace DL
open PySem PySem.Spec PyProof.Rows L2
/-- the text of a def stands under its name -/
structure Fd (K : Fg) (mg : Str → Option Value) (x : Str) (st : Stmt) (ps : List Str) : Prop where
  ex : ∃ (f : Addr) (fd : FuncData), Fun K x x st f fd ∧ mg x = some (.ref f) ∧ Binds K fd ps []
/-- a def keeps to its mirror -/
structure Fn (P : Program) (w : World) (K : Fg) (mg : Str → Option Value) (base : Heap) (x : Str) (n k : Nat) (m : Mir) : Prop where
  ex : ∃ (f : Addr) (fd : FuncData) (ps : List Str), mg x = some (.ref f) ∧ PySem.W.keepIn K (.ref f) = true ∧ Binds K fd ps [] ∧ FnG P w K mg base k f fd ps (spD w K mg n m)
section
variable {X : Cx} {W : WX} {a b c e tg : Expr} {es rest : List Expr} {ra rb rc : RE} {ba bb : RB} {rs : RA} {pos p : Pos} {wd : World} {K : Fg} {mg : Str → Option Value} {α β : List Addr} {F F1 H H1 : Hp} {S : Sto}
theorem pd_fn {x : Str} {m : Mir} {n k : Nat} (F : Fn X.prog X.w X.K X.mg X.base x n k m) (hr : Room k X.A) (hG : X.A.guards = some []) (tk : Takes X W) (ha : PDs X W (e :: es) rs) (hl : (e :: es).length = n := by rfl) (hg : Gl X x := by rfl) (hdb : (x == ("__debug__" : Str)) = false := by decide)
    (he : starEach (e :: es) X.env = (false, eval e X.env) :: starEach es X.env := by rfl) (hpl : (backTo pos (starEach es X.env)).any (·.1) = false := by rfl) : PD X W (.Call (.Name x p) (e :: es) [] pos) (rCall m rs) := by
  obtain ⟨f, fd, ps, h1, h2, h3, h4⟩ := F.ex
  exact pd_call h4 hr hG h1 h2 h3 tk ha hl hg hdb he hpl
theorem pd_giE {x : Str} {i : Int} (hm : ∃ t, X.mg x = some (.int i t)) (hg : Gl X x := by rfl) (hd : (x == ("__debug__" : Str)) = false := by decide) : PD X W (.Name x pos) (rC (.int i)) := let ⟨_, h⟩ := hm; pd_gi h hg hd
theorem fun_of {x qual : Str} {st : Stmt} {f : Addr} {fd : FuncData} (F : FunD K x qual (defArgs st) (defBody st) (defScope st) [] [] f fd) : Fun K x qual st f fd := by
  obtain ⟨oc, od, dV, kV, doc, pm, an, cdv, ct, osl, e, lk, hcd, hD, _⟩ := F.ex
  rcases hD with ⟨_, rfl⟩ | ⟨z, _⟩
  · exact ⟨⟨oc, od, kV, doc, pm, an, cdv, ct, osl, e, lk, hcd⟩, F.kp⟩
  · exact absurd rfl z
/-- what a body's derivation is given -/
structure Env1 (X : Cx) (k : Nat) : Prop where
  room : Room k X.A
  gu : X.A.guards = some []
  hp : PassesOwn (model X.prog X.w) X.A X.env X.xe
theorem Env1.u64 {k : Nat} (h : Env1 X k) : X.A.units + 64 < cLine := by have := h.room.un; omega
theorem Env1.u80 {k : Nat} (h : Env1 X k) : X.A.units + 80 < cLine := by have := h.room.un; omega
theorem fn_mk {P : Program} {w : World} {base : Heap} {x : Str} {st : Stmt} {N ps : List Str} {k : Nat} {r : RS} (Fu : Fd K mg x st ps) (Sc : FnScope N ps (defScope st))
    (hbody : ∀ (f : Addr) (cdv : Value) (A : Around) (outer : List Env) (s : Shared) (H : Hp) (E : XK), Env1 (cxOf (L2.CX P w) P w K mg base N x (defScope st) f cdv A outer s H E) k → Takes (cxOf (L2.CX P w) P w K mg base N x (defScope st) f cdv A outer s H E) (fun cls d _ H => E cls d H) →
      PSds (cxOf (L2.CX P w) P w K mg base N x (defScope st) f cdv A outer s H E) (fun cls d _ H => E cls d H) (defBody st) r) : Fn P w K mg base x ps.length (k + 1) (mDef N.length r) := by
  obtain ⟨f, fd, h1, h2, h3⟩ := Fu.ex
  exact ⟨f, fd, ps, h2, h1.kp, h3, fn_okD h1 Sc fun cdv A outer s H E hr hG => hbody f cdv A outer s H E ⟨hr, hG, passes_of rfl⟩ (takes_of rfl rfl rfl rfl)⟩
end
end DL
set_option Elab.async false
set_option linter.all false
set_option maxRecDepth 100000
set_option maxHeartbeats 4000000
set_option autoImplicit false
/-! Data layer: the law's call. -/
namespace DL
open PySem PySem.Spec PyProof.Rows L2
section
variable {P : Program} {w : World} {K : Fg} {mg mb : Str → Option Value} {k : Nat} {fa a : Addr} {fd : FuncData} {x : Str} {m : Mir} {S1 : Shared} {us : List Value} {ns : List Int} {H : Hp}
theorem bv_len : bootBuiltins "len" = some (.builtin "len") := by decide +kernel
theorem bv_abs : bootBuiltins "abs" = some (.builtin "abs") := by decide +kernel
theorem bv_repr : bootBuiltins "repr" = some (.builtin "repr") := by decide +kernel
theorem bv_all : bootBuiltins "all" = some (.builtin "all") := by decide +kernel
theorem bv_sum : bootBuiltins "sum" = some (.builtin "sum") := by decide +kernel
theorem bv_min : bootBuiltins "min" = some (.builtin "min") := by decide +kernel
theorem bv_max : bootBuiltins "max" = some (.builtin "max") := by decide +kernel
theorem bv_int : bootBuiltins "int" = some (.type "int") := by decide +kernel
theorem bv_tuple : bootBuiltins "tuple" = some (.type "tuple") := by decide +kernel
def natAt (δ : Sl) (i : Nat) : Nat := match δ[i]? with
  | some (some (D.int j)) => j.natAbs
  | _ => 0
/-- what the tracked heap of a law's beginning may hold: the script alone, known to its object -/
structure Lone (K : Fg) (H : Hp) (a : Addr) : Prop where
  at_ : ∀ b, H b ≠ none → b = a
  notK : H a ≠ none → K.lookup a = none
  frz : ∀ b u, H b = some u → ∃ o xs, u = .frz o (.lst xs)
theorem Lone.off (L : Lone K H a) {b : Addr} (h : b ≠ a) : H b = none := by
  cases q : H b with
  | none => rfl
  | some u => exact absurd (L.at_ b (by rw [q]; simp)) h
abbrev lsObj (us : List Value) : Obj := { cls := .type "list", data := .seq us.toArray }
theorem Lone.space (L : Lone K H a) (ha : S1.heap.get? a = some (lsObj us)) {b : Addr} {f : Str → Option Value} (h : S1.heap.Ns b f) : (hidT S1.heap H).Ns b f := by
  obtain ⟨o, es, ep, g, d, r⟩ := h
  have hb : b ≠ a := fun z => by
    subst z
    have e : lsObj us = o := Option.some.inj (ha.symm.trans g)
    subst e
    exact nomatch d
  exact ⟨o, es, ep, hidT_get g (L.off hb), d, r⟩
theorem Lone.frag (L : Lone K H a) (KX : K.In S1.heap) : K.In (hidT S1.heap H) := fun b o e => hidT_get (KX b o e) (by
  by_cases z : b = a
  · subst z
    cases q : H b with
    | none => rfl
    | some u => exact absurd ((L.notK (by rw [q]; simp)).symm.trans e) (by simp)
  · exact L.off z)
abbrev Ended (h : Heap) (os : OsState) : Result → Shared → Prop := fun r z => r = .ok (.ret (.bool true)) ∧ OldK h z.heap ∧ z.os = os ∧ AllBare z.gens
theorem law_lone (L : Lone K H a) (KX : K.In S1.heap) (n1 : S1.heap.Ns mainGlobals mg) (n2 : S1.heap.Ns builtinsNs mb) (nb : ∀ y : Str, y ≠ "__name__" → mb y = bootBuiltins y) (n3 : S1.heap.NoLimit)
    (g0 : S1.gens = #[]) (ha : S1.heap.get? a = some (lsObj us)) (hok : HOk P w H S1.heap) (hS : SqL K H a (ns.map V.int)) (room : Room k callerA)
    (F : ∀ base : Heap, K.In base → base.Ns mainGlobals mg → Fn P w K mg base x 1 k m) (bd : mg x = some (.ref fa))
    (hm : ∃ S, m [.lst (ns.map .int)] [] = .ok (.bl true) S) : codeAny (model P w) callerA (.call (.ref fa) ⟨[.ref a], []⟩) (Ended S1.heap S1.os) S1 := by
  obtain ⟨c, i1, i2⟩ := n3
  have M : Mod K mg (hidT S1.heap H) := ⟨L.frag KX, L.space ha n1, ⟨mb, L.space ha n2, nb⟩, ⟨c, L.space ha i1, i2⟩⟩
  have e0 : Env0 P w K mg (hidT S1.heap H) callerA [] S1 H := ⟨rfl, M, fun _ _ e => of_hidT e, Nat.le_of_eq (hidT_size _ _), trivial, fun _ q => (nomatch q), hok, .of_eq g0⟩
  have sp : spD w K mg 1 m [V.ref a] H (fun v _ => v = .bl true) (fun _ _ _ => False) := by
    refine ⟨rfl, [], H, [], [.lst (ns.map .int)], ⟨Sub.refl _, rfl, List.nodup_nil, fun _ q => (nomatch q), fun j b d q => (by simp at q)⟩, .cons (.lst hS (DVs.of_ints ns)) .nil, ?_⟩
    obtain ⟨S, e⟩ := hm
    rw [e]
    intro b H' β F' _ _ hv
    cases hv
    rfl
  obtain ⟨f', fd, ps, q1, _, q2, q3⟩ := (F _ M.kin (L.space ha n1)).ex
  obtain rfl : f' = fa := by rw [q1] at bd; cases bd; rfl
  have bt : BindsTo S1 fd ⟨[.ref a], []⟩ (ps.zip [.ref a]) := q2 S1 [.ref a] KX (q3.len _ _ _ _ sp)
  refine codeAny_mono (q3.run callerA [] S1 H ⟨[.ref a], []⟩ [.ref a] [V.ref a] (fun v _ => v = .bl true) _ room rfl e0 bt (.cons rfl .nil) sp) fun r z q => ?_
  match r, q with
  | .error _, ⟨_, _, _, _, _, _, _, _, _, _, _, q⟩ => exact q.2.elim
  | .ok (.ret u), ⟨v, H', os, bare, un, hok', r', q⟩ =>
    have q : v = .bl true := q
    subst q
    have r' : u = Value.bool true := r'
    subst r'
    refine ⟨rfl, OldK.of_keep fun b o e => ?_, os, bare⟩
    by_cases z : H b = none
    · exact un.keep b o e z (fun y => nomatch y) (fun y => nomatch y)
    · obtain ⟨y, hy⟩ : ∃ y, H b = some y := by
        cases q : H b with
        | none => exact absurd q z
        | some y => exact ⟨y, rfl⟩
      obtain ⟨ob, xs, rfl⟩ := L.frz b y hy
      have o1 := (hok b _ hy).1
      have o2 := (hok' b _ (un.frzs b ob _ hy)).1
      rw [e] at o1
      exact o2.trans o1.symm
  | .ok .next, q => exact q.elim
  | .ok .brk, q => exact q.elim
  | .ok .cont, q => exact q.elim
theorem law_mir (KX : K.In S1.heap) (n1 : S1.heap.Ns mainGlobals mg) (n2 : S1.heap.Ns builtinsNs mb) (nb : ∀ y : Str, y ≠ "__name__" → mb y = bootBuiltins y) (n3 : S1.heap.NoLimit) (g0 : S1.gens = #[]) (ha : S1.heap.get? a = some (lsObj us))
    (hi : IntsAre us ns) (hl : ns.length ≤ sizeLine) (room : Room k callerA) (F : ∀ base : Heap, K.In base → base.Ns mainGlobals mg → Fn P w K mg base x 1 k m) (bd : mg x = some (.ref fa))
    (hm : ∃ S, m [.lst (ns.map .int)] [] = .ok (.bl true) S) : codeAny (model P w) callerA (.call (.ref fa) ⟨[.ref a], []⟩) (Ended S1.heap S1.os) S1 := by
  have rv := vals_ints hi
  cases hk : K.lookup a with
  | some o =>
    have e := (KX a o hk).symm.trans ha
    cases e
    exact law_lone (H := fun _ => none) ⟨fun _ q => absurd rfl q, fun q => absurd rfl q, fun _ _ q => nomatch q⟩ KX n1 n2 nb n3 g0 ha (fun _ _ q => nomatch q)
      (.inr ⟨_, us.toArray, _, hk, rfl, rfl, rfl, by rw [List.size_toArray, hi.length]; exact hl, by simpa using rv⟩) room F bd hm
  | none =>
    refine law_lone (H := upd (fun _ => none) a (.frz (lsObj us) (.lst (ns.map V.int)))) ⟨fun b q => ?_, fun _ => hk, fun b u q => ?_⟩ KX n1 n2 nb n3 g0 ha (fun b u q => ?_) (.inl (.inr ⟨_, upd_same⟩)) room F bd hm
    · by_cases z : b = a
      · exact z
      · rw [upd_ne z] at q; exact absurd rfl q
    · by_cases z : b = a
      · subst z; rw [upd_same] at q; cases q; exact ⟨_, _, rfl⟩
      · rw [upd_ne z] at q; cases q
    · by_cases z : b = a
      · subst z; rw [upd_same] at q; cases q
        exact ⟨ha, by rw [List.length_map]; exact hl, us, _, rv, ha⟩
      · rw [upd_ne z] at q; cases q
end
/-- a law's end: what is given by the head, the mirror's answer -/
theorem walkG {l : PySem.W.OpenLaw} {n k : Nat} {q : Program} {loose : List Str} {XP : (Str → Option Value) → Heap → Prop} {YP : World → Heap → Prop} {d : DefRec} {m : Mir} (hn : l.most = some n) (hs : n ≤ sizeLine) (hd : d.params.defaults = []) (hr : Room k callerA)
    (F : ∀ (w : World) (mg : Str → Option Value) (h : Heap), YP w h → h.Ns mainGlobals mg → ∃ K : Fg, K.In h ∧ ∀ base : Heap, K.In base → base.Ns mainGlobals mg → Fn l.prog w K mg base d.name 1 k m)
    (hm : ∀ ns : List Int, ns.length ≤ n → ∃ S, m [.lst (ns.map .int)] [] = .ok (.bl true) S) : PySem.W.WalkO q loose XP YP l.row.toRowW d [] (fun f vs => PySem.call f vs) :=
  Att.attach_call hn hd fun w _ z mg mb fa _ _ _ _ a us ns G Y _ _ _ hmg ha hi hl hg => by
    obtain ⟨K, KX, hF⟩ := F w mg _ Y G.T.g
    exact law_mir KX G.T.g G.T.b G.T.builtins G.T.nolimit hg ha hi (Nat.le_trans hl hs) hr hF hmg (hm ns hl)
end DL
set_option Elab.async false
set_option linter.all false
set_option maxRecDepth 100000
set_option maxHeartbeats 4000000
set_option autoImplicit false
/-! Plain part: what a mirror answers, told by what must hold of its answer. -/
namespace DL
open PySem L2
def Res.post {A : Type} (r : Res A) (Q : A → Sto → Prop) : Prop := match r with
  | .ok a S => Q a S
  | _ => False
def Out.post (o : Out) (nx : Sl → Sto → Prop) (rt : D → Sto → Prop) (bk ct : Sl → Sto → Prop) : Prop := match o with
  | .nx δ S => nx δ S
  | .rt d S => rt d S
  | .bk δ S => bk δ S
  | .ct δ S => ct δ S
  | _ => False
abbrev NoS : Sl → Sto → Prop := fun _ _ => False
section
variable {A A' : Type} {r : Res A} {f : A → Sto → Res A'} {Q : A → Sto → Prop} {Q' : A' → Sto → Prop} {δ : Sl} {S : Sto} {QD : D → Sto → Prop} {QL : List D → Sto → Prop} {QB : Bool → Sto → Prop} {QS : Sl → Sto → Prop} {N B C : Sl → Sto → Prop} {T : D → Sto → Prop}
theorem Res.post.ok {a : A} (h : Q a S) : (Res.ok a S).post Q := h
theorem Res.post.ex (h : r.post Q) : ∃ a S, r = .ok a S ∧ Q a S := by
  cases r with
  | ok a S => exact ⟨a, S, rfl, h⟩
  | err => exact h.elim
  | stuck => exact h.elim
theorem Res.post.mono {Q1 : A → Sto → Prop} (h : r.post Q1) (k : ∀ a S, Q1 a S → Q a S) : r.post Q := by
  cases r with
  | ok a S => exact k a S h
  | err => exact h.elim
  | stuck => exact h.elim
theorem Res.post.of_eq {a : A} (h : r = .ok a S) (q : Q a S) : r.post Q := by rw [h]; exact q
theorem Out.post.mono {o : Out} {N1 B1 C1 : Sl → Sto → Prop} {T1 : D → Sto → Prop} (h : o.post N1 T1 B1 C1) (k1 : ∀ δ S, N1 δ S → N δ S) (k2 : ∀ d S, T1 d S → T d S) (k3 : ∀ δ S, B1 δ S → B δ S) (k4 : ∀ δ S, C1 δ S → C δ S) : o.post N T B C := by
  cases o with
  | nx δ S => exact k1 _ _ h
  | rt δ S => exact k2 _ _ h
  | bk δ S => exact k3 _ _ h
  | ct δ S => exact k4 _ _ h
  | err => exact h.elim
  | stuck => exact h.elim
theorem p_bind (h : r.post fun a S1 => (f a S1).post Q') : (r.bind f).post Q' := by
  cases r with
  | ok a S => exact h
  | err => exact h.elim
  | stuck => exact h.elim
theorem p_lift {o : Option A} {a : A} (h : o = some a) (q : Q a S) : (Res.lift o S).post Q := by rw [h]; exact q
theorem p_out {g : A → Sto → Out} (h : r.post fun a S1 => (g a S1).post N T B C) : (r.out δ g).post N T B C := by
  cases r with
  | ok a S => exact h
  | err => exact h.elim
  | stuck => exact h.elim
/-! expressions -/
theorem p_var {i : Nat} {d : D} (e : δ[i]? = some (some d)) (h : QD d S) : (rVar i δ S).post QD := by unfold rVar; rw [e]; exact h
theorem p_c {d : D} (h : QD d S) : (rC d δ S).post QD := h
theorem p_un {g : Sto → D → Option D} {a : RE} (h : (a δ S).post fun x S1 => (Res.lift (g S1 x) S1).post QD) : (rUn g a δ S).post QD := p_bind h
theorem p_bin {g : Sto → D → D → Option D} {a b : RE} (h : (a δ S).post fun x S1 => (b δ S1).post fun y S2 => (Res.lift (g S2 x y) S2).post QD) : (rBin g a b δ S).post QD := p_bind (h.mono fun _ _ q => p_bind q)
theorem p_as {g : Sto → List D → Option D} {a : RA} (h : (a δ S).post fun x S1 => (Res.lift (g S1 x) S1).post QD) : (rAs g a δ S).post QD := p_bind h
theorem p_nil (h : QL [] S) : (rNil δ S).post QL := h
theorem p_cons {a : RE} {b : RA} (h : (a δ S).post fun x S1 => (b δ S1).post fun ys S2 => QL (x :: ys) S2) : (rCons a b δ S).post QL := p_bind (h.mono fun _ _ q => p_bind (q.mono fun _ _ q => q))
theorem p_call {m : Mir} {a : RA} (h : (a δ S).post fun xs S1 => (m xs S1).post QD) : (rCall m a δ S).post QD := p_bind h
theorem p_if {c : RB} {a b : RE} (h : (c δ S).post fun k S1 => (k = true → (a δ S1).post QD) ∧ (k = false → (b δ S1).post QD)) : (rIf c a b δ S).post QD := p_bind (h.mono fun k _ q => by
  cases k with
  | true => exact q.1 rfl
  | false => exact q.2 rfl)
theorem p_own {a : RE} (h : (a δ S).post fun d S1 => QD (.ptr S1.length) (S1 ++ [d])) : (rOwn a δ S).post QD := p_bind (h.mono fun _ _ q => q)
theorem p_tup {a : RA} (h : (a δ S).post fun xs S1 => xs.length ≤ sizeLine ∧ QD (.tup xs) S1) : (rTup a δ S).post QD := p_bind (h.mono fun _ _ q => by rw [if_pos q.1]; exact q.2)
theorem p_lst {a : RA} (h : (a δ S).post fun xs S1 => xs.length ≤ sizeLine ∧ QD (.lst xs) S1) : (rLst a δ S).post QD := p_bind (h.mono fun _ _ q => by rw [if_pos q.1]; exact q.2)
theorem p_keep {a : RE} (h : (a δ S).post fun d S1 => ∃ ds, d = .lst ds ∧ QD (.lst ds) S1) : (rKeep a δ S).post QD := p_bind (h.mono fun d _ ⟨ds, e, q⟩ => by subst e; exact q)
theorem p_tru {a : RE} (h : (a δ S).post fun d S1 => (Res.lift (truth S1 d) S1).post QB) : (bTru a δ S).post QB := p_bind h
theorem p_and {a b : RB} (h : (a δ S).post fun k S1 => (k = true → (b δ S1).post QB) ∧ (k = false → QB false S1)) : (bAnd a b δ S).post QB := p_bind (h.mono fun k _ q => by
  cases k with
  | true => exact q.1 rfl
  | false => exact q.2 rfl)
theorem p_or {a b : RB} (h : (a δ S).post fun k S1 => (k = true → QB true S1) ∧ (k = false → (b δ S1).post QB)) : (bOr a b δ S).post QB := p_bind (h.mono fun k _ q => by
  cases k with
  | true => exact q.1 rfl
  | false => exact q.2 rfl)
theorem p_not {a : RB} (h : (a δ S).post fun k S1 => QB (!k) S1) : (bNot a δ S).post QB := p_bind (h.mono fun _ _ q => q)
theorem p_val {a : RE} (h : (a δ S).post fun d S1 => ∃ k, d = .bl k ∧ QB k S1) : (bVal a δ S).post QB := p_bind (h.mono fun _ _ ⟨k, e, q⟩ => by subst e; exact q)
theorem p_rand {a b : RE} (h : (a δ S).post fun x S1 => ∃ k, truth S1 x = some k ∧ (k = true → (b δ S1).post QD) ∧ (k = false → QD x S1)) : (rAnd a b δ S).post QD := p_bind (h.mono fun x S1 ⟨k, e, q⟩ => p_bind (p_lift e (by
  cases k with
  | true => exact q.1 rfl
  | false => exact q.2 rfl)))
theorem p_ror {a b : RE} (h : (a δ S).post fun x S1 => ∃ k, truth S1 x = some k ∧ (k = true → QD x S1) ∧ (k = false → (b δ S1).post QD)) : (rOr a b δ S).post QD := p_bind (h.mono fun x S1 ⟨k, e, q⟩ => p_bind (p_lift e (by
  cases k with
  | true => exact q.1 rfl
  | false => exact q.2 rfl)))
theorem p_rnot {a : RE} (h : (a δ S).post fun x S1 => ∃ k, truth S1 x = some k ∧ QD (.bl (!k)) S1) : (rNot a δ S).post QD := p_bind (h.mono fun x S1 ⟨k, e, q⟩ => p_bind (p_lift e q))
theorem p_chain {g g' : Sto → D → D → Option D} {a b c : RE} (h : (a δ S).post fun x S1 => (b δ S1).post fun y S2 => ∃ k, g S2 x y = some (.bl k) ∧ (k = true → (c δ S2).post fun u S4 => (Res.lift (g' S4 y u) S4).post QD) ∧ (k = false → QD (.bl false) S2)) : (rChain g g' a b c δ S).post QD :=
  p_bind (h.mono fun x S1 q => p_bind (q.mono fun y S2 ⟨k, e, q⟩ => p_bind (p_lift e (by
    cases k with
    | true => exact p_bind (q.1 rfl)
    | false => exact q.2 rfl))))
theorem p_meth {T : String} {g : Sto → D → List D → Option (D × Sto)} {a : RE} {as : RA} (h : (a δ S).post fun x S1 => isTy T S1 x = true ∧ (as δ S1).post fun ys S2 => ∃ z S3, g S2 x ys = some (z, S3) ∧ QD z S3) : (rMeth T g a as δ S).post QD :=
  p_bind (h.mono fun x S1 ⟨e, q⟩ => by rw [if_pos e]; exact p_bind (q.mono fun ys S2 ⟨z, S3, e, q⟩ => by rw [e]; exact q))
/-! statements -/
theorem s_next (h : N δ S) : (sNext δ S).post N T B C := h
theorem s_seq {a b : RS} (h : (a δ S).post (fun δ1 S1 => (b δ1 S1).post N T B C) T B C) : (sSeq a b δ S).post N T B C := by
  unfold sSeq
  cases q : a δ S with
  | nx δ1 S1 => rw [q] at h; exact h
  | _ => rw [q] at h; exact h
theorem s_asg {e : RE} {g : RG} (h : (e δ S).post fun d S1 => (g d δ S1).post fun δ1 S2 => N δ1 S2) : (sAsg e g δ S).post N T B C := p_out (h.mono fun _ _ q => p_out (q.mono fun _ _ q => q))
theorem s_name {i : Nat} {d : D} (hi : i < δ.length) (h : QS (δ.set i (some d)) S) : (gName i d δ S).post QS := by unfold gName; rw [if_pos hi]; exact h
theorem s_gtup {u : List D → Sl → Sto → Res Sl} {d : D} {ds : List D} (e : deref S d = .tup ds) (h : (u ds δ S).post QS) : (gTup u d δ S).post QS := by unfold gTup; rw [e]; exact h
theorem s_gnil (h : QS δ S) : (gNil [] δ S).post QS := h
theorem s_gcons {g : RG} {u : List D → Sl → Sto → Res Sl} {d : D} {r : List D} (h : (g d δ S).post fun δ1 S1 => (u r δ1 S1).post QS) : (gCons g u (d :: r) δ S).post QS := p_bind h
theorem s_expr {e : RE} (h : (e δ S).post fun _ S1 => N δ S1) : (sExpr e δ S).post N T B C := p_out (h.mono fun _ _ q => q)
theorem s_ret {e : RE} (h : (e δ S).post fun d S1 => T d S1) : (sRet e δ S).post N T B C := p_out (h.mono fun _ _ q => q)
theorem s_if {c : RB} {a b : RS} (h : (c δ S).post fun k S1 => (k = true → (a δ S1).post N T B C) ∧ (k = false → (b δ S1).post N T B C)) : (sIf c a b δ S).post N T B C := p_out (h.mono fun k _ q => by
  cases k with
  | true => exact q.1 rfl
  | false => exact q.2 rfl)
theorem s_brk (h : B δ S) : (sBreak δ S).post N T B C := h
theorem s_cont (h : C δ S) : (sCont δ S).post N T B C := h
theorem s_par {i j : Nat} {a : RA} (h : (a δ S).post fun xs S1 => ∃ x y, xs = [x, y] ∧ i < δ.length ∧ j < δ.length ∧ N ((δ.set i (some x)).set j (some y)) S1) : (sPar i j a δ S).post N T B C :=
  p_out (h.mono fun xs S1 ⟨x, y, e, h1, h2, q⟩ => by subst e; dsimp only; rw [if_pos ⟨h1, h2⟩]; exact q)
theorem s_for {it : RA} {g : RG} {b : RS} (h : (it δ S).post fun xs S1 => (forL g b xs δ S1).post N T B C) : (sFor it g b δ S).post N T B C := p_out h
/-- the loop's law: I holds ahead of each turn -/
theorem s_forL {g : RG} {b : RS} (I : List D → Sl → Sto → Prop) (step : ∀ x xs δ S, I (x :: xs) δ S → (g x δ S).post fun δ1 S1 => (b δ1 S1).post (fun δ2 S2 => I xs δ2 S2) T N fun δ2 S2 => I xs δ2 S2) (fin : ∀ δ S, I [] δ S → N δ S) :
    ∀ (xs : List D) (δ : Sl) (S : Sto), I xs δ S → (forL g b xs δ S).post N T B C
  | [], δ, S, h => fin δ S h
  | x :: xs, δ, S, h => by
    unfold forL
    refine p_out ((step x xs δ S h).mono fun δ1 S1 q => ?_)
    cases e : b δ1 S1 with
    | nx δ2 S2 => rw [e] at q; exact s_forL I step fin xs δ2 S2 q
    | ct δ2 S2 => rw [e] at q; exact s_forL I step fin xs δ2 S2 q
    | bk δ2 S2 => rw [e] at q; exact q
    | rt d S2 => rw [e] at q; exact q
    | err => rw [e] at q; exact q.elim
    | stuck => rw [e] at q; exact q.elim
theorem s_while {fuel : Sl → Sto → Nat} {c : RB} {b : RS} (h : (whileL c b (fuel δ S) δ S).post N T B C) : (sWhile fuel c b δ S).post N T B C := h
/-- I n: at most n turns are left -/
theorem s_whileL {c : RB} {b : RS} (I : Nat → Sl → Sto → Prop) (step : ∀ n δ S, I n δ S → (c δ S).post fun k S1 => (k = true → ∃ m, n = m + 1 ∧ (b δ S1).post (fun δ2 S2 => I m δ2 S2) T N fun δ2 S2 => I m δ2 S2) ∧ (k = false → N δ S1)) :
    ∀ (n m : Nat) (δ : Sl) (S : Sto), I n δ S → n < m → (whileL c b m δ S).post N T B C
  | _, 0, _, _, _, hm => absurd hm (Nat.not_lt_zero _)
  | n, m + 1, δ, S, h, hm => by
    unfold whileL
    refine p_out ((step n δ S h).mono fun k S1 q => ?_)
    cases k with
    | false => exact q.2 rfl
    | true =>
      obtain ⟨n', rfl, q'⟩ := q.1 rfl
      clear q
      rw [if_pos rfl]
      cases e : b δ S1 with
      | nx δ2 S2 => rw [e] at q'; exact s_whileL I step n' m δ2 S2 q' (by omega)
      | ct δ2 S2 => rw [e] at q'; exact s_whileL I step n' m δ2 S2 q' (by omega)
      | bk δ2 S2 => rw [e] at q'; exact q'
      | rt d S2 => rw [e] at q'; exact q'
      | err => rw [e] at q'; exact q'.elim
      | stuck => rw [e] at q'; exact q'.elim
/-! walks -/
theorem p_seq {a : RE} (h : (a δ S).post fun x S1 => (∃ ds, x = .lst ds ∧ QL ds S1) ∨ (∃ ds, x = .tup ds ∧ QL ds S1) ∨ ∃ z, x = .str z ∧ QL (z.cps.toList.map fun c => .str ⟨#[c]⟩) S1) : (rSeq a δ S).post QL :=
  p_bind (h.mono fun x S1 q => by rcases q with ⟨ds, e, q⟩ | ⟨ds, e, q⟩ | ⟨z, e, q⟩ <;> subst e <;> exact q)
theorem p_range1 {a : RA} (h : (a δ S).post fun xs S1 => ∃ j, xs = [.int j] ∧ -(2 ^ 62) ≤ j ∧ j < 2 ^ 62 ∧ QL (rangeD 0 j) S1) : (rRange a δ S).post QL := p_bind (h.mono fun _ _ ⟨j, e, h1, h2, q⟩ => by subst e; dsimp only; rw [if_pos ⟨h1, h2⟩]; exact q)
theorem p_lc {it : RA} {g : RG} {vs : List Nat} {t : RB} {e : RE} (h : (it δ S).post fun xs S1 => (lcL g t e xs (wipeD δ vs) S1).post fun ys S2 => ys.length ≤ sizeLine ∧ QD (.lst ys) S2) : (rLc it g vs t e δ S).post QD :=
  p_bind (h.mono fun xs S1 q => p_bind (by
    obtain ⟨ys, S2, e1, e2⟩ := q.ex
    rw [e1]
    show (if ys.length ≤ sizeLine then Res.ok (D.lst ys) S2 else .stuck).post QD
    rw [if_pos e2.1]; exact e2.2))
theorem p_yes (h : QB true S) : (bYes δ S).post QB := h
/-! a def -/
theorem m_def {n : Nat} {b : RS} {ds : List D} (h : (b (ds.map some ++ List.replicate (n - ds.length) none) S).post
    (fun _ S1 => closedL S.length (S1.take S.length) = true ∧ QD .non (S1.take S.length)) (fun d S1 => (D.closed S.length d && closedL S.length (S1.take S.length)) = true ∧ QD d (S1.take S.length)) NoS NoS) : (mDef n b ds S).post QD := by
  unfold mDef
  cases q : b (ds.map some ++ List.replicate (n - ds.length) none) S with
  | nx δ S1 => rw [q] at h; dsimp only; rw [if_pos h.1]; exact h.2
  | rt d S1 => rw [q] at h; dsimp only; rw [if_pos h.1]; exact h.2
  | _ => rw [q] at h; exact h.elim
end
end DL
set_option Elab.async false
set_option linter.all false
set_option maxRecDepth 100000
set_option maxHeartbeats 4000000
set_option autoImplicit false
/-! Plain part: operations on what is known. -/
namespace DL
open PySem L2
section
variable {S : Sto} {i j : Int} {x y : Str} {b c : Bool} {Q : D → Sto → Prop} {QB : Bool → Sto → Prop}
theorem o_add (h : Q (.int (i + j)) S) : (Res.lift (gAdd S (.int i) (.int j)) S).post Q := h
theorem o_sub (h : Q (.int (i - j)) S) : (Res.lift (gSub S (.int i) (.int j)) S).post Q := h
theorem o_mul (f : mulFits i j = true) (h : Q (.int (i * j)) S) : (Res.lift (gMul S (.int i) (.int j)) S).post Q := p_lift (by unfold gMul; dsimp only; rw [if_pos f]) h
theorem o_mod (f : j ≠ 0) (h : Q (.int (i.fmod j)) S) : (Res.lift (gMod S (.int i) (.int j)) S).post Q := p_lift (by unfold gMod; dsimp only; rw [if_pos f]) h
theorem o_div (f : j ≠ 0 ∧ j.natAbs.log2 < 9000) (h : Q (.int (i.fdiv j)) S) : (Res.lift (gDiv S (.int i) (.int j)) S).post Q := p_lift (by unfold gDiv; dsimp only; rw [if_pos f]) h
theorem o_pow (f : 0 ≤ j ∧ j ≤ 1000000 ∧ i.natAbs < 2 ^ 64) (h : Q (.int (i ^ j.toNat)) S) : (Res.lift (gPow S (.int i) (.int j)) S).post Q := p_lift (by unfold gPow; dsimp only; rw [if_pos ⟨f.1, .inl f.2⟩]) h
theorem o_powW (f : 0 ≤ j) (g : (PySem.Builtin.Int.intBits i : Int) * j ≤ 2 ^ 27) (h : Q (.int (i ^ j.toNat)) S) : (Res.lift (gPow S (.int i) (.int j)) S).post Q := p_lift (by unfold gPow; dsimp only; rw [if_pos ⟨f, .inr g⟩]) h
theorem o_neg (h : Q (.int (-i)) S) : (Res.lift (gNeg S (.int i)) S).post Q := h
theorem o_lt (h : Q (.bl (decide (i < j))) S) : (Res.lift (gLt S (.int i) (.int j)) S).post Q := h
theorem o_le (h : Q (.bl (decide (i ≤ j))) S) : (Res.lift (gLe S (.int i) (.int j)) S).post Q := h
theorem o_gt (h : Q (.bl (decide (j < i))) S) : (Res.lift (gGt S (.int i) (.int j)) S).post Q := h
theorem o_ge (h : Q (.bl (decide (j ≤ i))) S) : (Res.lift (gGe S (.int i) (.int j)) S).post Q := h
theorem o_eqg {d e : D} {u v : PyData} (h1 : toPy S (deref S d) = some u) (h2 : toPy S (deref S e) = some v) (h3 : SeqAt.shaped u = true) (h4 : SeqAt.shaped v = true) (h : Q (.bl (PyData.eqv u v)) S) : (Res.lift (gEq S d e) S).post Q :=
  p_lift (by unfold gEq eqD; rw [h1, h2]; dsimp only; rw [h3, h4]; rfl) h
theorem o_neg_ {d e : D} {u v : PyData} (h1 : toPy S (deref S d) = some u) (h2 : toPy S (deref S e) = some v) (h3 : SeqAt.shaped u = true) (h4 : SeqAt.shaped v = true) (h : Q (.bl (!PyData.eqv u v)) S) : (Res.lift (gNe S d e) S).post Q :=
  p_lift (by unfold gNe eqD; rw [h1, h2]; dsimp only; rw [h3, h4]; rfl) h
theorem shaped_int : SeqAt.shaped (.int i) = true := by unfold SeqAt.shaped; simp [PyData.canLay0, PyData.depth]
theorem shaped_str (h : PyData.strOk x = true) : SeqAt.shaped (.str x) = true := by unfold SeqAt.shaped; simp [PyData.canLay0, PyData.depth, h]
theorem o_eqI (h : Q (.bl (i == j)) S) : (Res.lift (gEq S (.int i) (.int j)) S).post Q := o_eqg rfl rfl shaped_int shaped_int (by simpa [PyData.eqv] using h)
theorem o_neI (h : Q (.bl (!(i == j))) S) : (Res.lift (gNe S (.int i) (.int j)) S).post Q := o_neg_ rfl rfl shaped_int shaped_int (by simpa [PyData.eqv] using h)
theorem o_neS (h1 : PyData.strOk x = true) (h2 : PyData.strOk y = true) (h : Q (.bl (!(x == y))) S) : (Res.lift (gNe S (.str x) (.str y)) S).post Q := o_neg_ rfl rfl (shaped_str h1) (shaped_str h2) (by simpa [PyData.eqv] using h)
theorem o_abs (h : Q (.int i.natAbs) S) : (Res.lift (gAbs S [.int i]) S).post Q := p_lift (a := .int i.natAbs) (by unfold gAbs; dsimp only; congr 2; omega) h
theorem o_tru (h : QB b S) : (Res.lift (truth S (.bl b)) S).post QB := h
theorem o_ixT {xs : List D} {d : D} (e : atI xs i = some d) (h : Q d S) : (Res.lift (gIx S (.tup xs) (.int i)) S).post Q := p_lift e h
theorem o_ixL {xs : List D} {d : D} (e : atI xs i = some d) (h : Q d S) : (Res.lift (gIx S (.lst xs) (.int i)) S).post Q := p_lift e h
theorem p_true {A B : Prop} (h : A) : (true = true → A) ∧ (true = false → B) := ⟨fun _ => h, fun z => nomatch z⟩
theorem p_false {A B : Prop} (h : B) : (false = true → A) ∧ (false = false → B) := ⟨fun z => (nomatch z), fun _ => h⟩
theorem p_ex {A : Type} {x : A} {R T : A → Prop} (e : R x) (h : T x) : ∃ x, R x ∧ T x := ⟨x, e, h⟩
theorem p_ex2 {A B : Type} {x : A} {y : B} {R T : A → B → Prop} (e : R x y) (h : T x y) : ∃ x y, R x y ∧ T x y := ⟨x, y, e, h⟩
theorem p_var2 {i : Nat} {δ : Sl} (h : ∃ d, δ[i]? = some (some d) ∧ Q d S) : (rVar i δ S).post Q := let ⟨_, e, q⟩ := h; p_var e q
theorem p_isT {k : Bool} {A B : Prop} (e : k = true) (h : A) : (k = true → A) ∧ (k = false → B) := by subst e; exact p_true h
theorem p_isF {k : Bool} {A B : Prop} (e : k = false) (h : B) : (k = true → A) ∧ (k = false → B) := by subst e; exact p_false h
end
local macro_rules | `(tactic| walk_at "1") => `(tactic| with_reducible first
  | refine s_seq ?_ | refine s_asg ?_ | refine s_ret ?_ | refine s_if ?_ | refine s_expr ?_ | refine s_next ?_ | refine s_brk ?_ | refine s_cont ?_ | refine s_for ?_ | refine s_while ?_
  | refine p_c ?_ | refine p_bin ?_ | refine p_as ?_ | refine p_cons ?_ | refine p_nil ?_ | refine p_un ?_ | refine p_call ?_ | refine p_if ?_ | refine p_own ?_
  | refine p_keep ?_ | refine p_tru ?_ | refine p_and ?_ | refine p_or ?_ | refine p_not ?_ | refine p_val ?_ | refine p_rand ?_ | refine p_ror ?_ | refine p_rnot ?_ | refine p_chain ?_
  | refine o_add ?_ | refine o_sub ?_ | refine o_lt ?_ | refine o_le ?_ | refine o_gt ?_ | refine o_ge ?_ | refine o_neg ?_ | refine o_eqI ?_ | refine o_neI ?_ | refine o_abs ?_ | refine o_tru ?_ | refine p_true ?_ | refine p_false ?_
  | refine s_par ?_ | refine p_yes ?_ | refine p_lc ?_ | refine p_seq ?_ | refine s_gnil ?_ | refine s_gcons ?_)
local macro_rules | `(tactic| walk_at "2") => `(tactic| first
  | walk_at "1"
  | (with_reducible refine p_var2 ?_)
  | ((with_reducible refine s_name ?_ ?_); (· exact Nat.le_of_ble_eq_true rfl); dsimp only [List.set_cons_zero, List.set_cons_succ])
  | (with_reducible refine p_tup ?_) | ((with_reducible refine ⟨?_, ?_⟩); (· exact Nat.le_of_ble_eq_true rfl))
  | ((with_reducible refine p_ex2 (x := ?_) (y := ?_) ?_ ?_); rotate_left; rotate_left; (· rfl); refine ⟨?_, ?_, ?_⟩; (· exact Nat.le_of_ble_eq_true rfl); (· exact Nat.le_of_ble_eq_true rfl); dsimp only [List.set_cons_zero, List.set_cons_succ])
  | ((with_reducible refine p_isT ?_ ?_); (· rfl)) | ((with_reducible refine p_isF ?_ ?_); (· rfl))
  | ((with_reducible refine p_ex (x := ?_) ?_ ?_); rotate_left; (· rfl)))
/-! a trial: the greatest common divisor -/
end DL
set_option Elab.async false
set_option linter.all false
set_option maxRecDepth 100000
set_option maxHeartbeats 4000000
set_option autoImplicit false
/-! Plain part: comprehensions that leave the store, answers that leave it. -/
namespace DL
open PySem L2
/-- an answer that leaves the store as it is -/
theorem same_of {m : Mir} {ds : List D} {d : D} {S : Sto} (h : (m ds S).post fun z S' => z = d ∧ S' = S) : m ds S = .ok d S := by
  obtain ⟨a, S1, e, rfl, rfl⟩ := h.ex
  exact e
theorem exact_of {A : Type} {r : Res A} {a : A} {S : Sto} (h : r.post fun z S' => z = a ∧ S' = S) : r = .ok a S := by
  obtain ⟨a, S1, e, rfl, rfl⟩ := h.ex
  exact e
/-- a store in which nothing that is made now is told -/
def Sane (S : Sto) : Prop := closedL S.length S = true
theorem m_defS {n : Nat} {b : RS} {ds : List D} {S : Sto} {d : D} (hS : Sane S) (hd : D.closed S.length d = true) (h : (b (ds.map some ++ List.replicate (n - ds.length) none) S).post NoS (fun z S1 => z = d ∧ S1 = S) NoS NoS) : mDef n b ds S = .ok d S :=
  same_of (m_def (h.mono (fun _ _ z => z.elim) (fun z S1 ⟨e1, e2⟩ => by
    subst e1 e2
    rw [List.take_length, hd, show closedL S1.length S1 = true from hS]
    exact ⟨rfl, rfl, rfl⟩) (fun _ _ z => z) (fun _ _ z => z)))
theorem fits_w {i j : Int} {a b : Nat} (h1 : i.natAbs < 2 ^ a) (h2 : j.natAbs < 2 ^ b) (h : a + b ≤ 100000000) : mulFits i j = true := by
  have lg : ∀ {n k : Nat}, n < 2 ^ k → n.log2 ≤ k := fun {n k} hn => by
    by_cases z : n = 0
    · subst z; simp
    · exact Nat.le_of_lt ((Nat.log2_lt z).mpr hn)
  have l1 := lg h1
  have l2 := lg h2
  unfold mulFits
  rw [Bool.or_eq_true]
  refine .inl ?_
  by_cases e : a + b < 100000000
  · exact decide_eq_true (by omega)
  · refine decide_eq_true ?_
    by_cases z : i.natAbs = 0
    · rw [z]
      by_cases y : b = 0
      · subst y
        have : j.natAbs.log2 = 0 := by omega
        simp [this]
      · by_cases w : j.natAbs = 0
        · rw [w]; decide
        · have := (Nat.log2_lt w).mpr h2
          simp only [Nat.log2_zero]; omega
    · have := (Nat.log2_lt z).mpr h1
      omega
theorem fits_of {i j : Int} {a b : Nat} (h1 : i.natAbs < 2 ^ a) (h2 : j.natAbs < 2 ^ b) (h : a + b ≤ 1000000) : mulFits i j = true := fits_w h1 h2 (Nat.le_trans h (by decide))
theorem fits_l {i j : Int} (h : i.natAbs < 2 ^ 64) : mulFits i j = true := by
  unfold mulFits
  rw [decide_eq_true h, Bool.true_or, Bool.or_true]
theorem fits_r {i j : Int} (h : j.natAbs < 2 ^ 64) : mulFits i j = true := by
  unfold mulFits
  rw [decide_eq_true h, Bool.or_true, Bool.or_true]
theorem log_of {j : Int} {b : Nat} (h : j.natAbs < 2 ^ b) (hb : b < 9000) : j.natAbs.log2 < 9000 := by
  by_cases z : j.natAbs = 0
  · rw [z]; decide
  · have := (Nat.log2_lt z).mpr h
    omega
theorem toPys_ints {S : Sto} : ∀ ns : List Int, toPys S (ns.map .int) = some (ns.map .int)
  | [] => rfl
  | i :: r => by unfold List.map toPys toPy; rw [toPys_ints r]
theorem eqvAll_ints : ∀ ns ms : List Int, PyData.eqvAll (ns.map .int) (ms.map .int) = decide (ns = ms)
  | [], [] => by simp [PyData.eqvAll]
  | [], _ :: _ => by simp [PyData.eqvAll]
  | _ :: _, [] => by simp [PyData.eqvAll]
  | a :: r, b :: q => by simp [PyData.eqvAll, PyData.eqv, eqvAll_ints r q, Bool.beq_eq_decide_eq]
theorem lay_ints : ∀ ns : List Int, PyData.canLayAll0 (ns.map .int) = true ∧ PyData.depthAll (ns.map .int) = 0
  | [] => ⟨by simp [PyData.canLayAll0], by simp [PyData.depthAll]⟩
  | a :: r => by
    obtain ⟨h1, h2⟩ := lay_ints r
    exact ⟨by simp [PyData.canLayAll0, PyData.canLay0, h1], by simp [PyData.depthAll, PyData.depth, h2]⟩
theorem shaped_ints (ns : List Int) : SeqAt.shaped (.list (ns.map .int)) = true ∧ SeqAt.shaped (.tuple (ns.map .int)) = true := by
  obtain ⟨h1, h2⟩ := lay_ints ns
  constructor <;> · unfold SeqAt.shaped; simp [PyData.canLay0, PyData.depth, h1, h2]
theorem o_neIs {S : Sto} {ns ms : List Int} {Q : D → Sto → Prop} (h : Q (.bl (!decide (ns = ms))) S) : (Res.lift (gNe S (.lst (ns.map .int)) (.lst (ms.map .int))) S).post Q :=
  o_neg_ (u := .list (ns.map .int)) (v := .list (ms.map .int)) (by show (toPys S (ns.map .int)).map PyData.list = _; rw [toPys_ints]; rfl) (by show (toPys S (ms.map .int)).map PyData.list = _; rw [toPys_ints]; rfl) (shaped_ints ns).1 (shaped_ints ms).1 (by simpa [PyData.eqv, eqvAll_ints] using h)
theorem rangeD_nat (j : Nat) : rangeD 0 j = (List.range j).map fun (i : Nat) => D.int i := by
  unfold rangeD
  rw [show ((j : Int) - 0).toNat = j by omega]
  refine List.map_congr_left fun i _ => ?_
  rw [Int.zero_add]
theorem rangeD_len (j : Nat) : (rangeD 0 j).length = j := by rw [rangeD_nat, List.length_map, List.length_range]
theorem range_cons {j i : Nat} {x : D} {xs : List D} (e : x :: xs = (rangeD 0 j).drop i) : x = .int i ∧ i < j ∧ xs = (rangeD 0 j).drop (i + 1) := by
  have hlt : i < (rangeD 0 j).length := by
    rcases Nat.lt_or_ge i (rangeD 0 j).length with q | q
    · exact q
    · rw [List.drop_eq_nil_of_le q] at e; cases e
  rw [List.drop_eq_getElem_cons hlt] at e
  rw [rangeD_len] at hlt
  refine ⟨?_, hlt, (List.cons.inj e).2⟩
  have h := (List.cons.inj e).1
  rw [h]
  have : (rangeD 0 j)[i]? = some (.int i) := by rw [rangeD_nat, List.getElem?_map, List.getElem?_range hlt]; rfl
  rw [List.getElem?_eq_getElem (by rw [rangeD_len]; exact hlt)] at this
  exact Option.some.inj this
theorem range_nil {j i : Nat} (e : [] = (rangeD 0 j).drop i) : j ≤ i := by
  have := congrArg List.length e
  rw [List.length_drop, rangeD_len] at this
  have h0 : ([] : List D).length = 0 := rfl
  omega
end DL
set_option Elab.async false
set_option linter.all false
set_option maxRecDepth 100000
set_option maxHeartbeats 4000000
set_option autoImplicit false
/-! Plain part: dicts in the store, what a def gives away. -/
namespace DL
open PySem L2
theorem closedL_set {n : Nat} : ∀ {S : Sto} {k : Nat} {d : D}, closedL n S = true → D.closed n d = true → closedL n (S.set k d) = true
  | [], _, _, h, _ => h
  | a :: r, 0, d, h, hd => by
    unfold closedL at h
    rw [Bool.and_eq_true] at h
    show closedL n (d :: r) = true
    unfold closedL
    rw [hd, h.2]; rfl
  | a :: r, k + 1, d, h, hd => by
    unfold closedL at h
    rw [Bool.and_eq_true] at h
    show closedL n (a :: r.set k d) = true
    unfold closedL
    rw [h.1, closedL_set h.2 hd]; rfl
theorem sane_set {S : Sto} {k : Nat} {d : D} (h : Sane S) (hd : D.closed S.length d = true) : Sane (S.set k d) := by
  unfold Sane
  rw [List.length_set]
  exact closedL_set h hd
mutual
theorem closed_mono {n m : Nat} (h : n ≤ m) : ∀ {d : D}, D.closed n d = true → D.closed m d = true
  | .ptr k, e => by
    unfold D.closed at e ⊢
    exact decide_eq_true (Nat.lt_of_lt_of_le (of_decide_eq_true e) h)
  | .tup xs, e => by unfold D.closed at e ⊢; exact closedL_mono h e
  | .lst xs, e => by unfold D.closed at e ⊢; exact closedL_mono h e
  | .dct xs, e => by unfold D.closed at e ⊢; exact closedK_mono h e
  | .dcn xs, e => by unfold D.closed at e ⊢; exact closedK_mono h e
  | .lck d, e => by unfold D.closed at e ⊢; exact closed_mono h e
  | .tux xs, e => by unfold D.closed at e ⊢; exact closedL_mono h e
  | .exc _ xs, e => by unfold D.closed at e ⊢; exact closedK_mono h e
  | .dc0 d, e => by unfold D.closed at e ⊢; exact closed_mono h e
  | .non, _ => rfl
  | .bl _, _ => rfl
  | .int _, _ => rfl
  | .str _, _ => rfl
  | .fn _, _ => rfl
  | .ty _, _ => rfl
theorem closedL_mono {n m : Nat} (h : n ≤ m) : ∀ {d : List D}, closedL n d = true → closedL m d = true
  | [], _ => rfl
  | a :: r, e => by
    unfold closedL at e ⊢
    rw [Bool.and_eq_true] at e ⊢
    exact ⟨closed_mono h e.1, closedL_mono h e.2⟩
theorem closedK_mono {n m : Nat} (h : n ≤ m) : ∀ {d : List (D × D)}, closedK n d = true → closedK m d = true
  | [], _ => rfl
  | (a, b) :: r, e => by
    unfold closedK at e ⊢
    rw [Bool.and_eq_true, Bool.and_eq_true] at e ⊢
    exact ⟨⟨closed_mono h e.1.1, closed_mono h e.1.2⟩, closedK_mono h e.2⟩
end
theorem closedL_app {n : Nat} : ∀ {a b : List D}, closedL n a = true → closedL n b = true → closedL n (a ++ b) = true
  | [], b, _, h => h
  | x :: a, b, e, h => by
    unfold closedL at e
    rw [Bool.and_eq_true] at e
    show closedL n (x :: (a ++ b)) = true
    unfold closedL
    rw [e.1, closedL_app e.2 h]; rfl
theorem sane_app {S : Sto} {d : D} (h : Sane S) (hd : D.closed (S.length + 1) d = true) : Sane (S ++ [d]) := by
  unfold Sane
  rw [List.length_append]
  refine closedL_app (closedL_mono (Nat.le_add_right _ _) h) ?_
  show closedL (S.length + 1) [d] = true
  unfold closedL closedL
  rw [hd]; rfl
section
variable {S : Sto} {δ : Sl} {QD : D → Sto → Prop} {N B C : Sl → Sto → Prop} {T : D → Sto → Prop}
theorem p_disp {ps : List (RE × RE)} (h : (rPairs ps δ S).post fun kvs S1 => (kvs.all (fun p => isKey p.1) && decide (kvs.length ≤ 15)) = true ∧ QD (.dct (mergeD [] kvs)) S1) : (rDisp ps δ S).post QD := p_bind (h.mono fun kvs S1 q => by rw [if_pos q.1]; exact q.2)
end
theorem m_defR {n : Nat} {b : RS} {ds : List D} {S : Sto} {Q : D → Sto → Prop} (h : (b (ds.map some ++ List.replicate (n - ds.length) none) S).post NoS (fun z S1 => S1.length = S.length ∧ Sane S1 ∧ D.closed S.length z = true ∧ Q z S1) NoS NoS) : (mDef n b ds S).post Q :=
  m_def (h.mono (fun _ _ z => z.elim) (fun z S1 ⟨e1, e2, e3, e4⟩ => by
    have e : S1.take S.length = S1 := by rw [← e1, List.take_length]
    rw [e, e3, ← e1, show closedL S1.length S1 = true from e2]
    exact ⟨rfl, e4⟩) (fun _ _ z => z) (fun _ _ z => z))
/-- S' is S but at k -/
structure But (k : Nat) (S S' : Sto) : Prop where
  len : S'.length = S.length
  at_ : ∀ j, j ≠ k → S'[j]? = S[j]?
  sane : Sane S'
theorem But.trans {k : Nat} {S S1 S2 : Sto} (a : But k S S1) (b : But k S1 S2) : But k S S2 := ⟨b.len.trans a.len, fun j hj => (b.at_ j hj).trans (a.at_ j hj), b.sane⟩
end DL
set_option Elab.async false
set_option linter.all false
set_option maxRecDepth 100000
set_option maxHeartbeats 4000000
set_option autoImplicit false
/-! Plain part: texts by their signs. -/
namespace DL
open PySem L2
/-- the text of these signs -/
def mk (cs : List Nat) : Str := ⟨cs.toArray⟩
/-- signs that a text may have -/
def Fine (cs : List Nat) : Prop := ∀ c ∈ cs, c < 128
theorem Fine.ok {cs : List Nat} (h : Fine cs) : PyData.strOk (mk cs) = true := by
  unfold PyData.strOk mk
  rw [Array.all_eq_true']
  intro c hc
  have := h c (by simpa using hc)
  exact decide_eq_true (by omega)
theorem Fine.drop {cs : List Nat} (h : Fine cs) (n : Nat) : Fine (cs.drop n) := fun c hc => h c (List.mem_of_mem_drop hc)
theorem Fine.take {cs : List Nat} (h : Fine cs) (n : Nat) : Fine (cs.take n) := fun c hc => h c (List.mem_of_mem_take hc)
section
variable {δ : Sl} {S : Sto} {QD : D → Sto → Prop} {QO : Option Int → Sto → Prop} {a : RE} {l h : RO}
theorem p_onone (q : QO none S) : (oNone δ S).post QO := q
theorem p_osome (q : (a δ S).post fun x S1 => ∃ i, x = .int i ∧ QO (some i) S1) : (oSome a δ S).post QO := p_bind (q.mono fun x S1 ⟨i, e, q'⟩ => by subst e; exact q')
end
theorem asBls_map : ∀ bs : List Bool, asBls (bs.map .bl) = some bs
  | [] => rfl
  | b :: r => by unfold List.map asBls; rw [asBls_map r]; rfl
theorem o_all {S : Sto} {bs : List Bool} {Q : D → Sto → Prop} (h : Q (.bl (bs.all id)) S) : (Res.lift (gAll S [.lst (bs.map .bl)]) S).post Q := p_lift (by unfold gAll deref; dsimp only; rw [asBls_map]; rfl) h
end DL
set_option Elab.async false
set_option linter.all false
set_option maxRecDepth 100000
set_option maxHeartbeats 4000000
set_option autoImplicit false
/-! Data layer: dicts whatever their keys: get, in, store. -/
namespace DL
open PySem PySem.Spec PyProof.Rows L2
/-! ### keys -/
mutual
inductive NK (K : Fg) (H : Hp) : NestedKey → V → Prop
  | non : NK K H .none .non
  | bl (b : Bool) : NK K H (.num (if b = true then 1 else 0)) (.bl b)
  | int (i : Int) : NK K H (.num i) (.int i)
  | str (x : Str) : NK K H (.text x) (.str x)
  | tup {a : Addr} {vs : List V} {ks : List NestedKey} : SqT K H a vs → NKs K H ks vs → NK K H (.tup ks) (.ref a)
inductive NKs (K : Fg) (H : Hp) : List NestedKey → List V → Prop
  | nil : NKs K H [] []
  | cons {k : NestedKey} {v : V} {ks : List NestedKey} {vs : List V} : NK K H k v → NKs K H ks vs → NKs K H (k :: ks) (v :: vs)
end
section
variable {wd : World} {K : Fg} {mg : Str → Option Value} {F H : Hp} {α : List Addr} {S : Sto}
mutual
theorem DV.nk {v : V} : ∀ {d : D} {k : NestedKey}, DV wd K mg F α v d → keyN d = some k → Sub F H → NK K H k v
  | _, _, .non, e, _ => by cases e; exact .non
  | _, _, .bl b, e, _ => by cases e; exact .bl b
  | _, _, .int i, e, _ => by cases e; exact .int i
  | _, _, .str x, e, _ => by cases e; exact .str x
  | _, _, .tup h t, e, s => by
    rename_i ds
    unfold keyN at e
    cases q : keyNs ds with
    | none => rw [q] at e; cases e
    | some ys => rw [q] at e; cases e; exact .tup (s.sqT h.1) (DVs.nk t q s)
  | _, _, .lst _ _, e, _ => by cases e
  | _, _, .tux _ _, e, _ => by cases e
  | _, _, .ptr _, e, _ => by cases e
  | _, _, .fn _, e, _ => by cases e
  | _, _, .ty _, e, _ => by cases e
  | _, _, .exc _ _ _ _ _, e, _ => by cases e
  | _, _, .dc0 _ _, e, _ => by cases e
theorem DVs.nk {vs : List V} : ∀ {ds : List D} {ks : List NestedKey}, DVs wd K mg F α vs ds → keyNs ds = some ks → Sub F H → NKs K H ks vs
  | _, _, .nil, e, _ => by cases e; exact .nil
  | _, _, .cons h t, e, s => by
    rename_i d _ ds
    unfold keyNs at e
    cases q1 : keyN d with
    | none => rw [q1] at e; cases e
    | some x =>
      cases q2 : keyNs ds with
      | none => rw [q1, q2] at e; cases e
      | some xs => rw [q1, q2] at e; cases e; exact .cons (DV.nk h q1 s) (DVs.nk t q2 s)
end
end
section
variable {X : Cx} {pins : List (Addr × Obj)} {σ : L2.St} {H : Hp} {s : Shared}
mutual
theorem NK.is (I : Inv X pins σ H s) : ∀ {k : NestedKey} {v : V} {u : Value}, NK X.K H k v → RelV v u → NestedIs s.heap k u
  | _, _, u, .non, r => by have : u = Value.none := r; subst this; exact .none
  | _, _, u, .bl b, r => by have : u = Value.bool b := r; subst this; exact .bool rfl
  | _, _, u, .int i, r => by obtain ⟨t, e⟩ := (show ∃ t, u = Value.int i t from r); subst e; exact .int _ _
  | _, _, u, .str x, r => by obtain ⟨t, e⟩ := (show ∃ t, u = Value.str x t from r); subst e; exact .text _ _
  | _, _, u, .tup (a := a) h t, r => by
    have : u = Value.ref a := r
    subst this
    obtain ⟨its, rv, ⟨o, ho, hc, n, hd⟩, _⟩ := I.tuple h
    exact .tup ho hc hd (by simpa using NKs.are I t rv)
theorem NKs.are (I : Inv X pins σ H s) : ∀ {ks : List NestedKey} {vs : List V} {us : List Value}, NKs X.K H ks vs → Vals vs us → NestedAll s.heap ks us
  | _, _, _, .nil, r => by cases r; exact .nil
  | _, _, _, .cons h t, r => by
    cases r with
    | cons r1 r2 => exact .cons (NK.is I h r1) (NKs.are I t r2)
end
end
/-! ### what a dict holds, by values -/
def lookV (xs : List (NestedKey × Addr × V)) (k : NestedKey) : Option V := (xs.find? fun x => decide (x.1 = k)).map (·.2.2)
def putV1 (k : NestedKey) (v : V) (x : NestedKey × Addr × V) : NestedKey × Addr × V := if x.1 = k then (x.1, x.2.1, v) else x
def putV (xs : List (NestedKey × Addr × V)) (k : NestedKey) (a : Addr) (v : V) : List (NestedKey × Addr × V) := if (lookV xs k).isSome then xs.map (putV1 k v) else xs ++ [(k, a, v)]
theorem NV.look {xs : List (NestedKey × Addr × V)} {vs : List (NestedKey × Addr × Value)} (h : NV xs vs) (k : NestedKey) : RelO (lookV xs k) ((atKey vs k).map (·.2)) := by
  unfold NV at h
  induction h with
  | nil => trivial
  | @cons a b l₁ l₂ r t ih =>
    unfold lookV atKey at ih ⊢
    rw [List.find?_cons, List.find?_cons, ← r.1]
    by_cases q : a.1 = k
    · rw [decide_eq_true q]
      exact r.2.2
    · rw [decide_eq_false q]
      exact ih
theorem NV.isSome {xs : List (NestedKey × Addr × V)} {vs : List (NestedKey × Addr × Value)} (h : NV xs vs) (k : NestedKey) : (lookV xs k).isSome = (atKey vs k).isSome := by
  have := (h.look k).isSome_eq
  rw [Option.isSome_map] at this
  exact this
theorem NV.put {xs : List (NestedKey × Addr × V)} {vs : List (NestedKey × Addr × Value)} (h : NV xs vs) (k : NestedKey) (a : Addr) {v : V} {u : Value} (r : RelV v u) : NV (putV xs k a v) (storedH vs k a u) := by
  have e := h.isSome k
  unfold putV storedH
  rw [e]
  by_cases q : (atKey vs k).isSome = true
  · rw [if_pos q, if_pos q]
    clear q e
    unfold NV at h ⊢
    induction h with
    | nil => exact .nil
    | @cons x y l₁ l₂ z t ih =>
      refine .cons ?_ ih
      unfold putV1 putAt
      rw [← z.1]
      by_cases c : x.1 = k
      · rw [if_pos c, if_pos c]; exact ⟨rfl, z.2.1, r⟩
      · rw [if_neg c, if_neg c]; exact z
  · rw [if_neg q, if_neg q]
    exact Paired.snoc h ⟨rfl, rfl, r⟩
theorem NV.length {xs : List (NestedKey × Addr × V)} {vs : List (NestedKey × Addr × Value)} (h : NV xs vs) : xs.length = vs.length := Paired.length h
theorem NV.keys {xs : List (NestedKey × Addr × V)} {vs : List (NestedKey × Addr × Value)} (h : NV xs vs) : xs.map (·.1) = vs.map (·.1) := by
  unfold NV at h
  induction h with
  | nil => rfl
  | cons r _ ih => rw [List.map_cons, List.map_cons, ih, r.1]
theorem putV_length (xs : List (NestedKey × Addr × V)) (k : NestedKey) (a : Addr) (v : V) : (putV xs k a v).length ≤ xs.length + 1 := by
  unfold putV
  split
  · rw [List.length_map]; omega
  · rw [List.length_append]; exact Nat.le_refl _
/-- every key is a key -/
def NKeys (K : Fg) (H : Hp) (xs : List (NestedKey × Addr × V)) : Prop := ∀ x ∈ xs, NK K H x.1 (.ref x.2.1) ∧ x.1.depth ≤ 8
/-- at a stands a dict xs of tuple keys; the empty one is any -/
def NAt (w : World) (H : Hp) (a : Addr) (xs : List (NestedKey × Addr × V)) : Prop := Rd H a (dN w a xs) ∨ (xs = [] ∧ Rd H a (.dK []))
/-- .. that may be written -/
def NWr (w : World) (H : Hp) (a : Addr) (xs : List (NestedKey × Addr × V)) : Prop := H a = some (dN w a xs) ∨ (xs = [] ∧ H a = some (.dK []))
theorem NWr.at {w : World} {H : Hp} {a : Addr} {xs : List (NestedKey × Addr × V)} (h : NWr w H a xs) : NAt w H a xs := h.imp .inl fun ⟨e, q⟩ => ⟨e, .inl q⟩
theorem n_at {X : Cx} {pins : List (Addr × Obj)} {σ : L2.St} {H : Hp} {s : Shared} {a : Addr} {xs : List (NestedKey × Addr × V)} (I : Inv X pins σ H s) (e : NAt X.w H a xs) (hk : NKeys X.K H xs) :
    xs.length ≤ sizeLine ∧ (a == sysModules) = false ∧ ∃ vs, NV xs vs ∧ s.heap.DictOfH (nestedKind X.prog X.w) a vs := by
  rcases e with e | ⟨rfl, e⟩
  · obtain ⟨⟨h1, h2, h3, vs, h4, o, es, ep, h5, h6, h7, h8⟩, _⟩ := (show ObjOk X.prog X.w H s.heap a (dN X.w a xs) from e.ok I.hok)
    refine ⟨h2, h1, vs, h4, o, es, ep, h5, h6, h7, h8, fun x hx => ?_, by rw [← h4.keys]; exact h3⟩
    obtain ⟨i, hi⟩ := List.mem_iff_getElem?.mp hx
    have hl := h4.length
    obtain ⟨y, hy⟩ : ∃ y, xs[i]? = some y := ⟨_, List.getElem?_eq_getElem (by rw [hl]; exact (List.getElem?_eq_some_iff.mp hi).1)⟩
    obtain ⟨z, hz, q1, q2, _⟩ := paired_get h4 hy
    rw [hi] at hz
    cases hz
    obtain ⟨k1, k2⟩ := hk y (List.mem_of_getElem? hy)
    rw [← q1, ← q2]
    exact ⟨NK.is I k1 rfl, k2⟩
  · obtain ⟨h1, h2, vs, kv, o, es, ep, h3, h4, h5, h6⟩ := dk_rd I.hok e
    refine ⟨Nat.zero_le _, h2, [], .nil, o, es, ep, h3, h4, h5, ?_, (fun _ h => (nomatch h)), List.nodup_nil⟩
    have l1 := h6.2.1.length
    have l2 : ([] : List (Key × V)).length = vs.length := Paired.length kv
    rw [← l2] at l1
    exact List.eq_nil_of_length_eq_zero l1
section
variable {X : Cx} {pins : List (Addr × Obj)} {σ : L2.St} {H : Hp} {s : Shared} {a b : Addr} {xs : List (NestedKey × Addr × V)} {k : NestedKey} {v d : V} {u r : Value} {A : Around} {E : Value → Shared → Prop}
theorem room8 (hu : A.units + 10 < cLine) : (nestedKind X.prog X.w).room A.in1 := by
  show A.units + 1 + 8 < cLine
  omega
theorem n_getItem {Q : Value → Shared → Prop} (hu : A.units + 10 < cLine) (I : Inv X pins σ H s) (e : NAt X.w H a xs) (hk : NKeys X.K H xs) (kk : NK X.K H k (.ref b)) (hd : k.depth ≤ 8) (l : lookV xs k = some v) (h : ∀ w' s', Inv X pins σ H s' → RelV v w' → Q w' s') :
    wpAny (model X.prog X.w) A (getItem (.ref a) (.ref b)) Q E s := by
  obtain ⟨_, h2, vs, rel, dd⟩ := n_at I e hk
  obtain ⟨w', hw, rw'⟩ := RelO.some_of (v := v) (o := (atKey vs k).map (·.2)) (by rw [← l]; exact rel.look k)
  obtain ⟨p, hp, hp2⟩ := Option.map_eq_some_iff.mp hw
  refine wpAny_getItem_heap (knd := nestedKind X.prog X.w) (room8 hu) (k := k) ⟨NK.is I kk rfl, hd⟩ dd hp ?_
  rw [hp2]
  exact h w' _ (I.tok _) rw'
theorem n_get2 {Q : Value → Shared → Prop} (hu : A.units + 10 < cLine) (I : Inv X pins σ H s) (e : NAt X.w H a xs) (hk : NKeys X.K H xs) (kk : NK X.K H k (.ref b)) (hd : k.depth ≤ 8) (rd : RelV d r) (h : ∀ w' s', Inv X pins σ H s' → RelV ((lookV xs k).getD d) w' → Q w' s') :
    wpAny (model X.prog X.w) A (call (.builtin "dict.get") [.ref a, .ref b, r]) Q E s := by
  obtain ⟨_, h2, vs, rel, dd⟩ := n_at I e hk
  exact call_meetsIn PySem.F.slot_dict_get dd.typeIs PySem.F.entry_dict_get (PySem.F.args_dict_get_3 _ _ _) (meetsH_dict_get_default (nestedKind X.prog X.w) a b h2 r) ⟨room8 hu, k, vs, ⟨NK.is I kk rfl, hd⟩, dd, h _ _ (I.tok _) ((rel.look k).getD rd)⟩
theorem n_setItem {Q : Unit → Shared → Prop} (hu : A.units + 10 < cLine) (I : Inv X pins σ H s) (e : NWr X.w H a xs) (hk : NKeys X.K H xs) (hz : xs.length < sizeLine) (kk : NK X.K H k (.ref b)) (hd : k.depth ≤ 8) (rv : RelV v r) (h : ∀ s', Inv X pins σ (upd H a (dN X.w a (putV xs k b v))) s' → Q () s') :
    wpAny (model X.prog X.w) A (setItem (.ref a) (.ref b) r) Q E s := by
  obtain ⟨h1, h2, vs, rel, dd⟩ := n_at I e.at hk
  have hz' : vs.length ≤ sizeLine := by rw [← rel.length]; exact h1
  refine wpAny_setItem_heap (knd := nestedKind X.prog X.w) (hsz := hz') (room8 hu) (k := k) ⟨NK.is I kk rfl, hd⟩ dd fun h' dd' hs => h _ ?_
  obtain ⟨q, es, ep, hq, g2, g3, g4, _, g5⟩ := dd'
  refine d_write I (by rcases e with e | ⟨_, e⟩ <;> rw [e] <;> exact True.intro) hs ⟨q, hq⟩ ?_
  have rel' := rel.put k b rv
  refine ⟨⟨h2, by have := putV_length xs k b v; omega, by rw [rel'.keys]; exact g5, _, rel', q, es, ep, hq, g2, g3, g4⟩, ⟨q, hq⟩, fun z1 z2 ⟨p1, p2, p3, vs', p4, o', es', ep', p5, p6⟩ st => ⟨p1, p2, p3, vs', p4, o', es', ep', st _ p5, p6⟩⟩
end
/-- what the dict at a holds at y, whatever its keys -/
def UGet (w : World) (K : Fg) (H : Hp) (a : Addr) (y : V) (o : Option V) : Prop := DGet H a y o ∨ ∃ xs k b, NAt w H a xs ∧ NKeys K H xs ∧ y = .ref b ∧ NK K H k (.ref b) ∧ k.depth ≤ 8 ∧ o = lookV xs k
/-- the heap behind a[y] = v -/
def UPut (w : World) (K : Fg) (H : Hp) (a : Addr) (y v : V) (H' : Hp) : Prop := DPut H a y v H' ∨ ∃ xs k b, NWr w H a xs ∧ NKeys K H xs ∧ y = .ref b ∧ NK K H k (.ref b) ∧ k.depth ≤ 8 ∧ xs.length < sizeLine ∧ H' = upd H a (dN w a (putV xs k b v))
section
variable {X : Cx} {pins : List (Addr × Obj)} {σ : L2.St} {H : Hp} {s : Shared} {a : Addr} {y v d : V} {u r : Value} {o : Option V} {A : Around} {E : Value → Shared → Prop}
theorem u_typeIs (I : Inv X pins σ H s) (g : UGet X.w X.K H a y o) : s.TypeIs (.ref a) "dict" ∧ (∀ b, Value.ref a = .ref b → ∃ ob, s.heap.get? b = some ob ∧ ob.dict = none) := by
  rcases g with g | ⟨xs, k, b, e, hk, _⟩
  · exact ⟨dict_typeIs I g, dict_noDict I g⟩
  · obtain ⟨_, _, vs, _, dd⟩ := n_at I e hk
    refine ⟨dd.typeIs, fun b q => ?_⟩
    cases q
    obtain ⟨ob, _, _, h1, h2, _⟩ := dd
    exact ⟨ob, h1, h2.2.1⟩
theorem u_getItem {Q : Value → Shared → Prop} (hu : A.units + 10 < cLine) (I : Inv X pins σ H s) (g : UGet X.w X.K H a y (some v)) (ry : RelV y u) (h : ∀ w' s', Inv X pins σ H s' → RelV v w' → Q w' s') :
    wpAny (model X.prog X.w) A (getItem (.ref a) u) Q E s := by
  rcases g with g | ⟨xs, k, b, e, hk, rfl, kk, hd, l⟩
  · exact d_getItem (by omega) I g ry h
  · cases (show u = Value.ref b from ry)
    exact n_getItem hu I e hk kk hd l.symm h
theorem u_get2 {Q : Value → Shared → Prop} (hu : A.units + 10 < cLine) (I : Inv X pins σ H s) (g : UGet X.w X.K H a y o) (ry : RelV y u) (rd : RelV d r) (h : ∀ w' s', Inv X pins σ H s' → RelV (o.getD d) w' → Q w' s') :
    wpAny (model X.prog X.w) A (call (.builtin "dict.get") [.ref a, u, r]) Q E s := by
  rcases g with g | ⟨xs, k, b, e, hk, rfl, kk, hd, l⟩
  · exact d_get2 (by omega) I g ry rd h
  · cases (show u = Value.ref b from ry)
    subst l
    exact n_get2 hu I e hk kk hd rd h
theorem u_setItem {H' : Hp} {Q : Unit → Shared → Prop} (hu : A.units + 10 < cLine) (I : Inv X pins σ H s) (g : UPut X.w X.K H a y v H') (ry : RelV y u) (rv : RelV v r) (h : ∀ s', Inv X pins σ H' s' → Q () s') :
    wpAny (model X.prog X.w) A (setItem (.ref a) u r) Q E s := by
  rcases g with g | ⟨xs, k, b, e, hk, rfl, kk, hd, hz, rfl⟩
  · exact d_setItem (by omega) I g ry rv h
  · cases (show u = Value.ref b from ry)
    exact n_setItem hu I e hk hz kk hd rv h
end
def tUGet (X : Cx) (td ty : TE) : TE := fun σ H Q => td σ H fun x H1 => ty σ H1 fun y H2 => ∃ a v, x = .ref a ∧ UGet X.w X.K H2 a y (some v) ∧ Q v H2
def sUPut (X : Cx) (td ty tv : TE) : TS := fun D σ H => tv σ H fun v H1 => td σ H1 fun x H2 => ty σ H2 fun y H3 => ∃ a H4, x = .ref a ∧ UPut X.w X.K H3 a y v H4 ∧ D.nx σ H4
/-- a is a dict -/
def UsD (w : World) (K : Fg) (H : Hp) (a : Addr) : Prop := IsD H a ∨ ∃ xs, NAt w H a xs ∧ NKeys K H xs
def tUGet2 (X : Cx) (td ty tx : TE) : TE := fun σ H Q => td σ H fun x H1 => ∃ a, x = .ref a ∧ UsD X.w X.K H1 a ∧ ty σ H1 fun y H2 => tx σ H2 fun z H3 => ∃ o, UGet X.w X.K H3 a y o ∧ Q (o.getD z) H3
section
variable {X : Cx} {o i e f value : Expr} {pos pos' tpos apos cpos : Pos} {td ty tv tx : TE}
theorem usd_at {pins : List (Addr × Obj)} {σ : L2.St} {H : Hp} {s : Shared} {a : Addr} (I : Inv X pins σ H s) (d : UsD X.w X.K H a) :
    s.TypeIs (.ref a) "dict" ∧ (∀ b, Value.ref a = .ref b → ∃ ob, s.heap.get? b = some ob ∧ ob.dict = none) := by
  rcases d with d | ⟨xs, e, hk⟩
  · obtain ⟨h1, h2, _⟩ := isD_at I d
    exact ⟨h1, h2⟩
  · obtain ⟨_, _, vs, _, dd⟩ := n_at I e hk
    refine ⟨dd.typeIs, fun b q => ?_⟩
    cases q
    obtain ⟨ob, _, _, h1, h2, _⟩ := dd
    exact ⟨ob, h1, h2.2.1⟩
theorem pe_uget (hu : X.A.units + 10 < cLine) (ho : PE X o td) (hi : PE X i ty) (hs : NoSl i) : PE X (.Subscript o i pos) (tUGet X td ty) := by
  refine ⟨fun pins s σ H Q I h => ?_⟩
  refine subD_of PySem.F.slot_dict_getitem.lookup hs (thn (ho.run pins s σ H _ I h) fun u s1 ⟨x, H1, I1, rx, q1⟩ => thn (hi.run pins s1 σ H1 _ I1 q1) fun iv s2 ⟨y, H2, I2, ry, a, v, ex, g, q2⟩ => ?_)
  subst ex
  obtain rfl : u = Value.ref a := rx
  exact ⟨(u_typeIs I2 g).1, u_getItem hu I2 g ry fun w' s3 I3 rw' => ⟨v, H2, I3, rw', q2⟩⟩
theorem ps_uput (hu : X.A.units + 10 < cLine) (ho : PE X o td) (hi : PE X i ty) (hv : PE X value tv) (hs : swapsWith value (some (.Subscript o i pos')) pos.line X.env = pure false) :
    PS X (.Assign [.Subscript o i pos'] value pos) (sUPut X td ty tv) := by
  refine ⟨fun pins s σ H D I h => ?_⟩
  refine wpAny_Assign_Subscript (thn (hv.run pins s σ H _ I h) fun r s1 ⟨v, H1, I1, rv, q1⟩ => thn (ho.run pins s1 σ H1 _ I1 q1) fun u s2 ⟨x, H2, I2, rx, q2⟩ => thn (hi.run pins s2 σ H2 _ I2 q2) fun iv s3 ⟨y, H3, I3, ry, a, H4, ex, g, q3⟩ => ?_) hs
  subst ex
  obtain rfl : u = Value.ref a := rx
  exact u_setItem hu I3 g ry rv fun s4 I4 => ⟨σ, H4, I4, q3⟩
theorem pe_uget2 (hu : X.A.units + 10 < cLine) (ho : PE X o td) (he : PE X e ty) (hf : PE X f tx) (m : M2 X o "get" apos e f cpos) : PE X (.Call (.Attribute o "get" apos) [e, f] [] cpos) (tUGet2 X td ty tx) := by
  refine ⟨fun pins s σ H Q I h => ?_⟩
  refine wpAny_Call_method m.base m.few m.line PySem.F.plainAttrs_dict PySem.F.slot_dict_get PySem.F.type_dict_get (thn (ho.run pins s σ H _ I h) fun u s1 ⟨x, H1, I1, rx, a, ex, d, q1⟩ => ?_)
  subst ex
  obtain rfl : u = Value.ref a := rx
  obtain ⟨t1, t2⟩ := usd_at I1 d
  refine ⟨t1, t2, ?_⟩
  rw [m.trees]
  refine Calls.callWith_builtin rfl (Calls.evalArgs_plain (Calls.spliced_cons (thn (he.run pins s1 σ H1 _ I1 q1) fun iv s2 ⟨y, H2, I2, ry, q2⟩ =>
    Calls.spliced_cons (thn (hf.run pins s2 σ H2 _ I2 q2) fun fv s3 ⟨z, H3, I3, rz, ov, g, q3⟩ => Calls.spliced_nil ?_))))
  exact u_get2 hu I3 g ry rz fun w' s4 I4 rw' => ⟨_, H3, I4, rw', q3⟩
end
end DL
set_option Elab.async false
set_option linter.all false
set_option maxRecDepth 100000
set_option maxHeartbeats 4000000
set_option autoImplicit false
/-! Data layer: dicts whatever their keys, by data. -/
namespace DL
open PySem PySem.Spec PyProof.Rows L2
def lookU (S : Sto) (d q : D) : Option (Option D) := match deref S d with
  | .dct kvs => if isKey q then some (lookD kvs q) else if kvs.isEmpty && isKeyN q then some none else none
  | .dcn kvs => if isKeyN q then some (lookN kvs q) else none
  | _ => none
def gGetU : Sto → D → D → Option D := fun S d q => match lookU S d q with
  | some (some v) => some v
  | _ => none
def isDct (S : Sto) (d : D) : Bool := match deref S d with
  | .dct _ => true
  | .dcn _ => true
  | _ => false
/-- d.get(k, x) -/
def rGet2 (a k x : RE) : RE := fun δ S => (a δ S).bind fun d S1 => if isDct S1 d then (k δ S1).bind fun q S2 => (x δ S2).bind fun z S3 => .lift ((lookU S3 d q).map (·.getD z)) S3 else .stuck
/-- d[k] = v -/
def putU (u y z : D) : Option D := match u with
  | .dct kvs => if isKey y then (if kvs.length < sizeLine then some (.dct (putD kvs y z)) else none) else if kvs.isEmpty && isKeyN y then some (.dcn [(y, z)]) else none
  | .dcn kvs => if isKeyN y && decide (kvs.length < sizeLine) then some (.dcn (putN kvs y z)) else none
  | _ => none
def sPutU (d k v : RE) : RS := fun δ S => (v δ S).out δ fun z S1 => (d δ S1).out δ fun x S2 => (k δ S2).out δ fun y S3 => match x with
  | .ptr n => (match S3[n]? with
    | some u => (match putU u y z with
      | some u' => .nx δ (S3.set n u')
      | none => .stuck)
    | none => .stuck)
  | _ => .stuck
section
variable {wd : World} {K : Fg} {mg : Str → Option Value} {α β : List Addr} {F F1 H H1 : Hp} {S : Sto}
theorem isKeyN_ex {q : D} (h : isKeyN q = true) : ∃ ds nk, q = .tup ds ∧ keyN q = some nk ∧ nk.depth ≤ 8 := by
  cases q with
  | tup ds =>
    unfold isKeyN at h
    dsimp only at h
    split at h
    · rename_i k e
      exact ⟨ds, k, rfl, e, of_decide_eq_true h⟩
    · cases h
  | _ => cases h
theorem eqN_dec {a b : D} {x y : NestedKey} (h1 : keyN a = some x) (h2 : keyN b = some y) : eqN a b = decide (x = y) := by
  unfold eqN
  rw [h1, h2, NestedKey.decide_eq]
theorem NVs.keys {xs : List (NestedKey × Addr × V)} {kvs : List (D × D)} (h : NVs wd K mg F α xs kvs) (s : Sub F H) : NKeys K H xs := by
  induction h with
  | nil => intro x hx; cases hx
  | cons h1 h2 h3 _ _ _ ih =>
    intro x hx
    rcases List.mem_cons.mp hx with rfl | hx
    · exact ⟨h3.nk h1 s, h2⟩
    · exact ih x hx
theorem NVs.length {xs : List (NestedKey × Addr × V)} {kvs : List (D × D)} (h : NVs wd K mg F α xs kvs) : xs.length = kvs.length := by
  induction h with
  | nil => rfl
  | cons _ _ _ _ _ _ ih => rw [List.length_cons, List.length_cons, ih]
theorem putV1_pos {k : NestedKey} {v : V} {x : NestedKey × Addr × V} (h : x.1 = k) : putV1 k v x = (x.1, x.2.1, v) := if_pos h
theorem putV1_neg {k : NestedKey} {v : V} {x : NestedKey × Addr × V} (h : ¬ x.1 = k) : putV1 k v x = x := if_neg h
theorem NVs.look {xs : List (NestedKey × Addr × V)} {kvs : List (D × D)} (h : NVs wd K mg F α xs kvs) {q : D} {nk : NestedKey} (hq : keyN q = some nk) :
    (∀ d, lookN kvs q = some d → ∃ v, lookV xs nk = some v ∧ DV wd K mg F α v d) ∧ (lookN kvs q = none → lookV xs nk = none) := by
  induction h with
  | nil => exact ⟨(fun d e => by cases e), fun _ => rfl⟩
  | @cons nk' b' v' q' d' xs kvs h1 h2 h3 h4 h5 h6 ih =>
    unfold lookN lookV
    rw [eqN_dec h1 hq, List.find?_cons]
    by_cases e : nk' = nk
    · rw [decide_eq_true e]
      exact ⟨(fun d z => by cases z; exact ⟨_, rfl, h5⟩), fun z => by cases z⟩
    · rw [decide_eq_false e]
      exact ih
theorem NVs.isSome {xs : List (NestedKey × Addr × V)} {kvs : List (D × D)} (h : NVs wd K mg F α xs kvs) {q : D} {nk : NestedKey} (hq : keyN q = some nk) : (lookN kvs q).isSome = (lookV xs nk).isSome := by
  obtain ⟨h1, h2⟩ := h.look hq
  cases e : lookN kvs q with
  | none => rw [h2 e]; rfl
  | some d => obtain ⟨v, e1, _⟩ := h1 d e; rw [e1]; rfl
theorem NVs.append {xs ys : List (NestedKey × Addr × V)} {kvs lws : List (D × D)} (h : NVs wd K mg F α xs kvs) (g : NVs wd K mg F α ys lws) : NVs wd K mg F α (xs ++ ys) (kvs ++ lws) := by
  induction h with
  | nil => exact g
  | cons h1 h2 h3 h4 h5 _ ih => exact .cons h1 h2 h3 h4 h5 ih
theorem NVs.put {xs : List (NestedKey × Addr × V)} {kvs : List (D × D)} (h : NVs wd K mg F α xs kvs) {q d : D} {nk : NestedKey} {b : Addr} {v : V} (hq : keyN q = some nk) (hd : nk.depth ≤ 8) (hb : DV wd K mg F α (.ref b) q) (ht : ∃ ds, q = .tup ds) (hv : DV wd K mg F α v d) :
    NVs wd K mg F α (putV xs nk b v) (putN kvs q d) := by
  unfold putV putN
  rw [← h.isSome hq]
  by_cases c : (lookN kvs q).isSome = true
  · rw [if_pos c, if_pos c]
    clear c
    induction h with
    | nil => exact .nil
    | @cons nk' b' v' q' d' xs kvs h1 h2 h3 h4 h5 _ ih =>
      rw [List.map_cons]
      unfold replN
      rw [eqN_dec h1 hq]
      by_cases z : nk' = nk
      · rw [decide_eq_true z, if_pos rfl, putV1_pos (x := (nk', b', v')) z]
        exact .cons h1 h2 h3 h4 hv ih
      · rw [decide_eq_false z, if_neg (show ¬ false = true by decide), putV1_neg (x := (nk', b', v')) z]
        exact .cons h1 h2 h3 h4 h5 ih
  · rw [if_neg c, if_neg c]
    exact h.append (.cons hq hd hb ht hv .nil)
theorem DV.isRef {v : V} {ds : List D} (h : DV wd K mg F α v (.tup ds)) : ∃ b, v = .ref b := by cases h; exact ⟨_, rfl⟩
theorem Rel.uget (hr : Rel wd K mg α F H S) {x y : V} {d q : D} {r : Option D} (hx : DV wd K mg F α x d) (hy : DV wd K mg F α y q) (e : lookU S d q = some r) :
    ∃ a o, x = .ref a ∧ UGet wd K H a y o ∧ (r = none → o = none) ∧ ∀ z, r = some z → ∃ v, o = some v ∧ DV wd K mg F α v z := by
  have s := hr.see hx
  unfold lookU at e
  generalize hd : deref S d = dd at e s
  cases s with
  | «at» h _ => cases h <;> cases e
  | dead => cases e
  | lst _ _ => cases e
  | @dct a ws kvs rd k t =>
    dsimp only at e
    split at e
    · rename_i hk
      cases e
      obtain ⟨k', rfl⟩ := isKey_kD hk
      have := kD_DV hy
      subst this
      have kv := KVs.of k t
      obtain ⟨g1, g2⟩ := kv.look k'
      exact ⟨a, valV ws k', rfl, .inl (.inl ⟨ws, k', rd, rfl, rfl⟩), g2, g1⟩
    · split at e
      · rename_i hc
        cases e
        rw [Bool.and_eq_true] at hc
        obtain ⟨ds, nk, rfl, h1, h2⟩ := isKeyN_ex hc.2
        obtain ⟨b, rfl⟩ := DV.isRef hy
        have : kvs = [] := List.isEmpty_iff.mp hc.1
        subst this
        have : ws = [] := by have := t.length; simpa using this
        subst this
        exact ⟨a, none, rfl, .inr ⟨[], nk, b, .inr ⟨rfl, rd⟩, (fun _ h => nomatch h), rfl, hy.nk h1 hr.sub, h2, rfl⟩, fun _ => rfl, fun z hz => by cases hz⟩
      · cases e
  | @dcn a xs kvs rd nv =>
    dsimp only at e
    split at e
    · rename_i hk
      cases e
      obtain ⟨ds, nk, rfl, h1, h2⟩ := isKeyN_ex hk
      obtain ⟨b, rfl⟩ := DV.isRef hy
      obtain ⟨g1, g2⟩ := nv.look h1
      exact ⟨a, lookV xs nk, rfl, .inr ⟨xs, nk, b, .inl rd, nv.keys hr.sub, rfl, hy.nk h1 hr.sub, h2, rfl⟩, g2, g1⟩
    · cases e
theorem Rel.usd (hr : Rel wd K mg α F H S) {x : V} {d : D} (hx : DV wd K mg F α x d) (e : isDct S d = true) : ∃ a, x = .ref a ∧ UsD wd K H a := by
  have s := hr.see hx
  unfold isDct at e
  generalize deref S d = dd at e s
  cases s with
  | «at» h _ => cases h <;> cases e
  | dead => cases e
  | lst _ _ => cases e
  | @dct a ws kvs rd k t => exact ⟨a, rfl, .inl (.inl ⟨ws, rd⟩)⟩
  | @dcn a xs kvs rd nv => exact ⟨a, rfl, .inr ⟨xs, .inl rd, nv.keys hr.sub⟩⟩
end
section
variable {X : Cx} {W : WX} {a b c e tg : Expr} {es rest : List Expr} {ra rb rc : RE} {ba bb : RB} {rs : RA} {pos p : Pos} {wd : World} {K : Fg} {mg : Str → Option Value} {α β : List Addr} {F F1 H H1 : Hp} {S : Sto}
theorem pd_uget (hu : X.A.units + 10 < cLine) (ha : PD X W a ra) (hb : PD X W b rb) (hs : NoSl b := by intro _ _; rfl) : PD X W (.Subscript a b pos) (rBin gGetU ra rb) := by
  obtain ⟨ta, pa, sa⟩ := ha.ex
  obtain ⟨tb, pb, sb⟩ := hb.ex
  refine ⟨_, pe_uget hu pa pb hs, sa.bin sb fun α F H S x y d e z Q hr hx hy hz q => ?_⟩
  unfold gGetU at hz
  split at hz
  · rename_i v e1
    cases hz
    obtain ⟨l, o, rfl, h1, _, h3⟩ := hr.uget hx hy e1
    obtain ⟨v', rfl, h4⟩ := h3 z rfl
    exact ⟨l, v', rfl, h1, fin_now hr h4 q⟩
  · cases hz
theorem pd_get2 {apos cpos : Pos} (hu : X.A.units + 10 < cLine) (ha : PD X W a ra) (hb : PD X W b rb) (hc : PD X W c rc) (m : M2 X a "get" apos b c cpos := by exact ⟨rfl, rfl, rfl, rfl⟩) : PD X W (.Call (.Attribute a "get" apos) [b, c] [] cpos) (rGet2 ra rb rc) := by
  obtain ⟨ta, pa, sa⟩ := ha.ex
  obtain ⟨tb, pb, sb⟩ := hb.ex
  obtain ⟨tc, pc, sc⟩ := hc.ex
  refine ⟨_, pe_uget2 hu pa pb pc m, fun α F σ H δ S Q hr hs h => ?_⟩
  refine sa α F σ H δ S _ hr hs (wp.bind h fun d S1 _ x H1 β F1 r1 s1 v1 h1 => ?_)
  split at h1
  · rename_i hd
    obtain ⟨l, rfl, hd'⟩ := r1.usd v1 hd
    refine ⟨l, rfl, hd', ?_⟩
    refine sb (α ++ β) F1 σ H1 δ S1 _ r1 (hs.mono s1.sub) (wp.bind h1 fun q S2 _ y H2 γ F2 r2 s2 v2 h2 => ?_)
    refine sc (α ++ β ++ γ) F2 σ H2 δ S2 _ r2 ((hs.mono s1.sub).mono s2.sub) (wp.bind h2 fun z S3 _ w H3 ε F3 r3 s3 v3 h3 => ?_)
    obtain ⟨z', e1, h4⟩ := wp.lift h3
    obtain ⟨o, e2, e3⟩ := Option.map_eq_some_iff.mp e1
    obtain ⟨l', o', e4, g1, g2, g3⟩ := r3.uget ((v1.mono s2.sub).mono s3.sub) (v2.mono s3.sub) e2
    cases e4
    refine ⟨o', g1, ?_⟩
    subst e3
    cases o with
    | none => rw [g2 rfl]; exact h4.now r3 v3
    | some v => obtain ⟨v', rfl, q'⟩ := g3 v rfl; exact h4.now r3 q'
  · exact h1.elim
theorem psd_putU {o i value : Expr} {pos' : Pos} {ro ri rv : RE} (hu : X.A.units + 10 < cLine) (ho : PD X W o ro) (hi : PD X W i ri) (hv : PD X W value rv) (hs : swapsWith value (some (.Subscript o i pos')) pos.line X.env = pure false := by rfl) : PSd X W (.Assign [.Subscript o i pos'] value pos) (sPutU ro ri rv) := by
  obtain ⟨to, po, so⟩ := ho.ex
  obtain ⟨ti, pi, si⟩ := hi.ex
  obtain ⟨tv, pv', sv⟩ := hv.ex
  refine ⟨_, ps_uput hu po pi pv' hs, fun α F σ H δ S E hr hs h => ?_⟩
  refine sv α F σ H δ S _ hr hs (wpS.out h hs fun z S1 _ v H1 β F1 r1 q1 v1 h1 => ?_)
  have hs1 := hs.mono (β := β) q1.sub
  refine so (α ++ β) F1 σ H1 δ S1 _ r1 hs1 (wpS.out h1 hs1 fun x S2 _ xv H2 γ F2 r2 q2 v2 h2 => ?_)
  have hs2 := hs1.mono (β := γ) q2.sub
  refine si (α ++ β ++ γ) F2 σ H2 δ S2 _ r2 hs2 (wpS.out h2 hs2 fun y S3 _ yv H3 ε F3 r3 q3 v3 h3 => ?_)
  have hs3 := hs2.mono (β := ε) q3.sub
  split at h3
  · rename_i n
    split at h3
    · rename_i u e1
      split at h3
      · rename_i u' e2
        have v2' := v2.mono (β := ε) q3.sub
        have vz := (v1.mono (β := γ) q2.sub).mono (β := ε) q3.sub
        cases v2' with
        | @ptr _ ad ea =>
          obtain ⟨o1, _⟩ := r3.own _ _ _ ea e1
          unfold putU at e2
          cases u with
          | dct kvs =>
            dsimp only at e2
            split at e2
            · rename_i hk
              split at e2
              · rename_i hl
                cases e2
                obtain ⟨k, rfl⟩ := isKey_kD hk
                obtain ⟨ws, o2, o3⟩ := Own.dctK.mp o1
                have := kD_DV v3
                subst this
                obtain ⟨a1, a2⟩ := r3.setO (o := .dK (putK ws k v)) (d := .dct (putD kvs (kD k) z)) ea e1 rfl (Own.dctK.mpr ⟨_, upd_same, o3.put k vz⟩)
                exact ⟨_, _, rfl, .inl (.inl ⟨ws, k, o2, rfl, by rw [o3.length]; exact hl, rfl⟩), h3 _ _ _ _ a1 a2 (hs3.mono a2.sub)⟩
              · cases e2
            · split at e2
              · rename_i hc
                cases e2
                rw [Bool.and_eq_true] at hc
                obtain ⟨ds, nk, rfl, g1, g2⟩ := isKeyN_ex hc.2
                obtain ⟨b, rfl⟩ := DV.isRef v3
                have : kvs = [] := List.isEmpty_iff.mp hc.1
                subst this
                obtain ⟨ws, o2, o3⟩ := Own.dctK.mp o1
                cases o3
                obtain ⟨a1, a2⟩ := r3.setO (o := dN X.w ad (putV [] nk b v)) (d := .dcn [(.tup ds, z)]) ea e1 rfl ⟨_, upd_same, .cons g1 g2 v3 ⟨_, rfl⟩ vz .nil⟩
                exact ⟨_, _, rfl, .inr ⟨[], nk, b, .inr ⟨rfl, o2⟩, (fun _ h => nomatch h), rfl, v3.nk g1 r3.sub, g2, by decide, rfl⟩, h3 _ _ _ _ a1 a2 (hs3.mono a2.sub)⟩
              · cases e2
          | dcn kvs =>
            dsimp only at e2
            split at e2
            · rename_i hc
              cases e2
              rw [Bool.and_eq_true] at hc
              obtain ⟨ds, nk, rfl, g1, g2⟩ := isKeyN_ex hc.1
              obtain ⟨b, rfl⟩ := DV.isRef v3
              obtain ⟨xs, o2, o3⟩ := o1
              obtain ⟨a1, a2⟩ := r3.setO (o := dN X.w ad (putV xs nk b v)) (d := .dcn (putN kvs (.tup ds) z)) ea e1 rfl ⟨_, upd_same, o3.put g1 g2 v3 ⟨_, rfl⟩ vz⟩
              exact ⟨_, _, rfl, .inr ⟨xs, nk, b, .inl o2, o3.keys r3.sub, rfl, v3.nk g1 r3.sub, g2, by rw [o3.length]; exact of_decide_eq_true hc.2, rfl⟩, h3 _ _ _ _ a1 a2 (hs3.mono a2.sub)⟩
            · cases e2
          | _ => cases e2
      · exact h3.elim
    · exact h3.elim
  · exact h3.elim
end
end DL
set_option Elab.async false
set_option linter.all false
set_option maxRecDepth 100000
set_option maxHeartbeats 4000000
set_option autoImplicit false
/-! Data layer: dicts walked while they are locked. -/
namespace DL
open PySem PySem.Spec PyProof.Rows L2
/-! ### a locked dict of tuple keys -/
section
variable {X : Cx} {pins : List (Addr × Obj)} {σ : L2.St} {H : Hp} {s : Shared} {d : Addr} {o : Obj}
theorem frzN {xs : List (NestedKey × Addr × V)} (I : Inv X pins σ H s) (h : H d = some (.frz o (dN X.w d xs))) :
    (d == sysModules) = false ∧ s.heap.get? d = some o ∧ o.ExactDict ∧ ∃ (es : Array DictEntry) (ep : Nat), o.data = .dict es ep ∧ es.size = xs.length ∧
      ∀ (i : Nat) (k : NestedKey) (b : Addr) (v : V), xs[i]? = some (k, b, v) → ∃ en : DictEntry, es[i]? = some en ∧ en.key = .ref b ∧ RelV v en.val := by
  obtain ⟨hd, ⟨h1, h2, h3, vs, h4, o', es, ep, h5, h6, h7, h8⟩, _⟩ := I.hok d _ h
  rw [hd] at h5
  cases h5
  have hl := h4.length
  refine ⟨h1, hd, h6, es, ep, h7, ?_, fun i k b v e => ?_⟩
  · rw [← Array.length_toList, h8, List.length_map, hl]
  · obtain ⟨y, hy, e1, e2, e3⟩ := paired_get h4 e
    refine ⟨⟨y.1.hash X.w, .ref y.2.1, y.2.2⟩, ?_, ?_, e3⟩
    · rw [← Array.getElem?_toList, h8, List.getElem?_map, hy]; rfl
    · show Value.ref y.2.1 = .ref b
      rw [← e2]
end
/-- the pairs, each a new tuple -/
def ItiN (w : World) (d : Addr) (o : Obj) (xs : List (NestedKey × Addr × V)) : It :=
  ⟨fun i H => H d = some (.frz o (dN w d xs)) ∧ i < xs.length, fun i H x H' => ∃ T k b v, xs[i]? = some (k, b, v) ∧ x = .ref T ∧ H T = none ∧ H' = upd H T (.tup [.ref b, v]), fun i H => H d = some (.frz o (dN w d xs)) ∧ xs.length ≤ i⟩
section
variable {P : Program} {w : World} {K : Fg} {tg : Expr} {d : Addr} {o : Obj} {es : Array DictEntry} {ep : Nat}
theorem turn_itemsN {xs : List (NestedKey × Addr × V)} {elts : List Expr} {kk : Nat} {tpos : Pos} (it : Addr) (hod : o.data = .dict es ep) :
    Turn P w K (.Tuple elts kk tpos) (ItiN w d o xs) [it] it (fun i h => ∃ ok ov, IsItemIter h it d i xs.length ep ok ov) where
  mem := by simp
  obj := fun i h st b hb => by
    have e : b = it := by simpa using hb
    subst e
    obtain ⟨ok, ov, e⟩ := st
    exact ⟨_, e, fun v z => nomatch z⟩
  keep := fun i h h' st k => let ⟨ok, ov, e⟩ := st; ⟨ok, ov, k it (by simp) _ e⟩
  item := by
    intro X hP hw hK hc i pins s σ H E I hf st hg
    subst hP hw hK
    obtain ⟨hd, hi⟩ := hg
    obtain ⟨hs, hgd, hx, es', ep', hdt, hsz, ent⟩ := frzN I hd
    obtain ⟨rfl, rfl⟩ := dict_ep hod hdt
    obtain ⟨⟨k, b, v⟩, hkv⟩ : ∃ p, xs[i]? = some p := ⟨xs[i], List.getElem?_eq_getElem hi⟩
    obtain ⟨en, hen, hkey, rv⟩ := ent i k b v hkv
    obtain ⟨ok, ov, he⟩ := st
    rw [← hsz] at he
    have hlt : it < s.heap.objs.size := Heap.lt_size he
    have hi' : i < es'.size := by rw [hsz]; exact hi
    have ee : es'[i] = en := by
      rw [Array.getElem?_eq_getElem hi'] at hen
      exact Option.some.inj hen
    refine wpAny_pyNext_items_item_raw he ⟨o, hgd, hx, hdt⟩ hi' fun h' ho hT hz hk => ?_
    refine ⟨_, rfl, wpAny_letOwnedTupleGo_items (s := { s with heap := h' }) ho fun h'' he' sb => ?_⟩
    have hT2 : h''.get? s.heap.objs.size = some { cls := .type "tuple", data := .seq #[es'[i].key, es'[i].val] } := (sb.2 _ (Nat.ne_of_gt hlt)).trans hT
    have new : ObjOk X.prog X.w (upd H s.heap.objs.size (.tup [.ref b, v])) h'' s.heap.objs.size (.tup [.ref b, v]) :=
      ⟨by show 2 ≤ sizeLine; decide, [es'[i].key, es'[i].val], .cons (show es'[i].key = .ref b by rw [ee]; exact hkey) (.cons (by rw [ee]; exact rv) .nil), ⟨_, hT2, rfl, _, rfl⟩⟩
    have I1 : Inv X pins σ (upd H s.heap.objs.size (.tup [.ref b, v])) { s with heap := h'' } :=
      I.turnedNew (t' := s.toks) (ch := [it]) (fun b ob hb e => (sb.2 b (by simpa using hb)).trans (hk b ob (by simpa using hb) e)) hf (Nat.le_refl _) new
    refine ⟨.ref s.heap.objs.size, _, I1, rfl, ⟨_, k, b, v, hkv, rfl, I.hok.fresh (Nat.le_refl _), rfl⟩, ⟨es'[i].key, es'[i].val, ?_⟩, fun b hb => ?_⟩
    · rw [← hsz]; exact he'
    · have e : b = it := by simpa using hb
      rw [e, upd_ne (Nat.ne_of_lt hlt)]
      exact (hf it (by simp)).1
  done := by
    intro X hP hw hK hc i pins s σ H E I hf st hg
    subst hP hw hK
    obtain ⟨hd, hi⟩ := hg
    obtain ⟨f0, f1, f2, f3, f4, f5⟩ := hf it (by simp)
    obtain ⟨hs, hgd, hx, es', ep', hdt, hsz, ent⟩ := frzN I hd
    obtain ⟨rfl, rfl⟩ := dict_ep hod hdt
    obtain ⟨ok, ov, he⟩ := st
    rw [← hsz] at he
    exact wpAny_pyNext_items_end_raw (I.ok.hd hc) he ⟨o, hgd, hx, hdt⟩ (by omega) fun h' eb => ⟨rfl, I.turned (t' := s.toks) (fun b ob hb e => eb b ob hb e) f0 f1 f3 f4 f5⟩
  self := fun A i s Q E st h => let ⟨_, _, e⟩ := st; PySem.W.kcp_self e h
end
def iItemsU (X : Cx) (td : TE) : TI := fun σ H R => td σ H fun x H1 => ∃ d o, x = .ref d ∧ ((∃ kvs, H1 d = some (.frz o (.dK kvs)) ∧ R (Iti d o kvs) H1) ∨ ∃ xs, H1 d = some (.frz o (dN X.w d xs)) ∧ R (ItiN X.w d o xs) H1)
section
variable {X : Cx} {tg e : Expr} {td : TE} {apos cpos : Pos}
theorem pi_itemsU {elts : List Expr} {kk : Nat} {tpos : Pos} (he : PE X e td) (hbase : attributeBase e "items" X.env (eval e X.env) = eval e X.env := by rfl) (hline : (apos.endLine == cpos.line) = true := by rfl) :
    PI X (.Tuple elts kk tpos) (.Call (.Attribute e "items" apos) [] [] cpos) (iItemsU X td) := by
  refine ⟨fun pins s σ H R I h => ?_⟩
  refine wpAny_Call_method (T := "dict") (id := "dict.items") hbase rfl hline F.plainAttrs_dict F.slot_dict_items F.type_dict_items (thn (he.run pins s σ H _ I h) fun u s1 ⟨x, H1, I1, rx, d, o, ex, q⟩ => ?_)
  subst ex
  obtain rfl : u = Value.ref d := rx
  rcases q with ⟨kvs, hd, q⟩ | ⟨xs, hd, q⟩
  · obtain ⟨hs, hgd, hx, es, ep, vs, hdt, hsz, kv, hm⟩ := I1.frzK hd
    have hl : kvs.length = vs.length := Paired.length kv
    refine ⟨hm.dictOf.typeIs, hm.dictOf.mapOf.noDict, ?_⟩
    have I2 : Inv X pins σ H1 { s1 with heap := s1.heap.push { cls := .type "dict_items", data := .fields #[.ref d] } } := I1.kept (t' := s1.toks) fun b ob q => Heap.get?_push_of_some _ q
    have fin : wpAny (model X.prog X.w) X.A (pyIter (.ref s1.heap.objs.size)) (PIE X pins σ (.Tuple elts kk tpos) R) X.xe { s1 with heap := s1.heap.push { cls := .type "dict_items", data := .fields #[.ref d] } } := by
      refine wpAny_pyIter_items (d := d) (knd := mixKind X.prog X.w) ⟨_, Heap.get?_push_size _ rfl, rfl, rfl⟩ (hm.push _) (pi_one (tk := s1.toks) I2 _ (turn_items _ hdt) ⟨.none, .none, ?_⟩ q)
      rw [hl]
      exact Heap.get?_push_size _ rfl
    show wpAny _ _ (callWith cpos (.builtin "dict.items") [.ref d] [] []) _ X.xe s1
    exact method_meetsIn F.slot_dict_items F.entry_dict_items rfl (PySem.evalArgs_none ⟨rfl, hm.dictOf.typeIs, F.args_dict_items_1 _, _, meets_dict_items (mixKind X.prog X.w) d hs, ⟨vs, hm.dictOf⟩, fin⟩)
  · obtain ⟨hs, hgd, hx, es, ep, hdt, hsz, ent⟩ := frzN I1 hd
    have raw : s1.heap.DictRaw d es ep := ⟨o, hgd, hx, hdt⟩
    refine ⟨raw.typeIs, fun b e => ?_, ?_⟩
    · cases e; exact ⟨o, hgd, hx.2.1⟩
    have I2 : Inv X pins σ H1 { s1 with heap := s1.heap.push { cls := .type "dict_items", data := .fields #[.ref d] } } := I1.kept (t' := s1.toks) fun b ob q => Heap.get?_push_of_some _ q
    have fin : wpAny (model X.prog X.w) X.A (pyIter (.ref s1.heap.objs.size)) (PIE X pins σ (.Tuple elts kk tpos) R) X.xe { s1 with heap := s1.heap.push { cls := .type "dict_items", data := .fields #[.ref d] } } := by
      refine wpAny_pyIter_items_raw (d := d) ⟨_, Heap.get?_push_size _ rfl, rfl, rfl⟩ (raw.at fun o e => Heap.get?_push_of_some _ e) (pi_one (tk := s1.toks) I2 _ (turn_itemsN _ hdt) ⟨.none, .none, ?_⟩ q)
      rw [← hsz]
      exact Heap.get?_push_size _ rfl
    show wpAny _ _ (callWith cpos (.builtin "dict.items") [.ref d] [] []) _ X.xe s1
    exact method_meetsIn F.slot_dict_items F.entry_dict_items rfl (PySem.evalArgs_none ⟨rfl, raw.typeIs, F.args_dict_items_1 _, _, meets_dict_items_raw d hs, ⟨es, ep, raw⟩, fin⟩)
end
/-! ### by data -/
def pairsD (kvs : List (D × D)) : List D := kvs.map fun p => .tux [p.1, p.2]
def lckOf (S : Sto) (d : D) : Option (List (D × D)) := match d with
  | .ptr k => (match S[k]? with
    | some (.lck (.dct kvs)) => some kvs
    | some (.lck (.dcn kvs)) => some kvs
    | _ => none)
  | _ => none
/-- d.items(), d, of a locked dict -/
def rItems (a : RE) : RA := fun δ S => (a δ S).bind fun d S1 => .lift ((lckOf S1 d).map pairsD) S1
section
variable {wd : World} {K : Fg} {mg : Str → Option Value} {α β : List Addr} {F F1 H H1 : Hp} {S : Sto}
theorem KVs.at {ws : List (Key × V)} {kvs : List (D × D)} (h : KVs wd K mg F α ws kvs) : ∀ {i : Nat} {p : D × D}, kvs[i]? = some p → ∃ k v, ws[i]? = some (k, v) ∧ p.1 = kD k ∧ DV wd K mg F α v p.2 := by
  induction h with
  | nil => intro i p e; simp at e
  | cons h _ ih =>
    intro i p e
    cases i with
    | zero => simp at e; subst e; exact ⟨_, _, rfl, rfl, h⟩
    | succ i => simp at e; obtain ⟨k, v, e1, e2, e3⟩ := ih e; exact ⟨k, v, by simpa using e1, e2, e3⟩
theorem NVs.at {xs : List (NestedKey × Addr × V)} {kvs : List (D × D)} (h : NVs wd K mg F α xs kvs) : ∀ {i : Nat} {p : D × D}, kvs[i]? = some p → ∃ k b v, xs[i]? = some (k, b, v) ∧ DV wd K mg F α (.ref b) p.1 ∧ DV wd K mg F α v p.2 := by
  induction h with
  | nil => intro i p e; simp at e
  | cons h1 h2 h3 h4 h5 _ ih =>
    intro i p e
    cases i with
    | zero => simp at e; subst e; exact ⟨_, _, _, rfl, h3, h5⟩
    | succ i => simp at e; obtain ⟨k, b, v, e1, e2, e3⟩ := ih e; exact ⟨k, b, v, by simpa using e1, e2, e3⟩
theorem DV.key (k : Key) : DV wd K mg F α (kV k) (kD k) := by cases k <;> constructor
theorem Sub.at {F F' : Hp} {a : Addr} {u : HO} (s : Sub F F') (h : F a = some u) : F' a = some u := s _ _ h
theorem it_items {a : Addr} {o : Obj} {ws : List (Key × V)} {kvs : List (D × D)} (hF : F a = some (.frz o (.dK ws))) (h : KVs wd K mg F α ws kvs) : ItOk wd K mg F α (Iti a o ws) (pairsD kvs) where
  go := fun F' H' i s1 s2 hi => ⟨s2 _ _ (s1 _ _ hF), by unfold pairsD at hi; rw [List.length_map] at hi; rw [h.length]; exact hi⟩
  stop := fun F' H' s1 s2 => ⟨s2 _ _ (s1 _ _ hF), by unfold pairsD; rw [List.length_map, h.length]; exact Nat.le_refl _⟩
  yld := fun F' H' H2 i x d s1 s2 hd ⟨T, k, v, e1, e2, e3, e4⟩ => by
    unfold pairsD at hd
    rw [List.getElem?_map] at hd
    obtain ⟨p, hp, rfl⟩ := Option.map_eq_some_iff.mp hd
    obtain ⟨k', v', g1, g2, g3⟩ := h.at hp
    rw [e1] at g1
    cases g1
    refine .inr ⟨T, _, e3, e4, ?_⟩
    subst e2
    have hn : F' T = none := by
      cases q : F' T with
      | none => rfl
      | some u => rw [s2 _ _ q] at e3; cases e3
    have g3' := g3.mono (β := []) (s1.trans (Sub.new (o := .tup [kV k, v]) hn))
    rw [List.append_nil] at g3'
    rw [g2]
    exact .tux (SqT.of upd_same) (.cons (DV.key k) (.cons g3' .nil))
theorem it_itemsN {a : Addr} {o : Obj} {xs : List (NestedKey × Addr × V)} {kvs : List (D × D)} (hF : F a = some (.frz o (dN wd a xs))) (h : NVs wd K mg F α xs kvs) : ItOk wd K mg F α (ItiN wd a o xs) (pairsD kvs) where
  go := fun F' H' i s1 s2 hi => ⟨s2 _ _ (s1 _ _ hF), by unfold pairsD at hi; rw [List.length_map] at hi; rw [h.length]; exact hi⟩
  stop := fun F' H' s1 s2 => ⟨s2 _ _ (s1 _ _ hF), by unfold pairsD; rw [List.length_map, h.length]; exact Nat.le_refl _⟩
  yld := fun F' H' H2 i x d s1 s2 hd ⟨T, k, b, v, e1, e2, e3, e4⟩ => by
    unfold pairsD at hd
    rw [List.getElem?_map] at hd
    obtain ⟨p, hp, rfl⟩ := Option.map_eq_some_iff.mp hd
    obtain ⟨k', b', v', g1, g2, g3⟩ := h.at hp
    rw [e1] at g1
    cases g1
    refine .inr ⟨T, _, e3, e4, ?_⟩
    subst e2
    have hn : F' T = none := by
      cases q : F' T with
      | none => rfl
      | some u => rw [s2 _ _ q] at e3; cases e3
    have sb := s1.trans (Sub.new (o := .tup [.ref b, v]) hn)
    have g2' := g2.mono (β := []) sb
    have g3' := g3.mono (β := []) sb
    rw [List.append_nil] at g2' g3'
    exact .tux (SqT.of upd_same) (.cons g2' (.cons g3' .nil))
/-- a locked thing -/
theorem Rel.locked (hr : Rel wd K mg α F H S) {v : V} {d : D} {kvs : List (D × D)} (h : DV wd K mg F α v d) (e : lckOf S d = some kvs) :
    ∃ a o, v = .ref a ∧ ((∃ ws, F a = some (.frz o (.dK ws)) ∧ KVs wd K mg F α ws kvs) ∨ ∃ xs, F a = some (.frz o (dN wd a xs)) ∧ NVs wd K mg F α xs kvs) := by
  unfold lckOf at e
  split at e
  · rename_i k
    cases h with
    | @ptr _ a ea =>
      split at e
      · rename_i kvs' e1
        cases e
        obtain ⟨o, ws, h0, h1, h2, h3⟩ := (hr.own _ _ _ ea e1).1
        exact ⟨a, o, rfl, .inl ⟨ws, h0, .of h2 h3⟩⟩
      · rename_i kvs' e1
        cases e
        obtain ⟨o, ws, h0, h1, h2⟩ := (hr.own _ _ _ ea e1).1
        exact ⟨a, o, rfl, .inr ⟨ws, h0, h2⟩⟩
      · cases e
  · cases e
end
section
variable {X : Cx} {W : WX} {a b c e tg : Expr} {es rest : List Expr} {ra rb rc : RE} {ba bb : RB} {rs : RA} {pos p apos cpos : Pos} {wd : World} {K : Fg} {mg : Str → Option Value} {α β : List Addr} {F F1 H H1 : Hp} {S : Sto}
theorem pid_items {elts : List Expr} {kk : Nat} {tpos : Pos} (ha : PD X W e ra) (hbase : attributeBase e "items" X.env (eval e X.env) = eval e X.env := by rfl) (hline : (apos.endLine == cpos.line) = true := by rfl) :
    PId X W (.Tuple elts kk tpos) (.Call (.Attribute e "items" apos) [] [] cpos) (rItems ra) := by
  obtain ⟨t, p1, s1⟩ := ha.ex
  refine ⟨_, pi_itemsU p1 hbase hline, fun α F σ H δ S Q hr hs h => ?_⟩
  refine s1 α F σ H δ S _ hr hs (wp.bind h fun d S1 e1 x H1 β F1 r1 q1 v1 h1 => ?_)
  obtain ⟨ds, e2, h2⟩ := wp.lift h1
  obtain ⟨kvs, e3, rfl⟩ := Option.map_eq_some_iff.mp e2
  obtain ⟨l, o, rfl, q⟩ := r1.locked v1 e3
  refine ⟨l, o, rfl, ?_⟩
  rcases q with ⟨ws, g1, g2⟩ | ⟨xs, g1, g2⟩
  · exact .inl ⟨ws, r1.sub _ _ g1, h2.now r1 (it_items g1 g2)⟩
  · exact .inr ⟨xs, r1.sub _ _ g1, h2.now r1 (it_itemsN g1 g2)⟩
end
end DL
set_option Elab.async false
set_option linter.all false
set_option maxRecDepth 100000
set_option maxHeartbeats 4000000
set_option autoImplicit false
/-! Data layer: a statement done while a dict is locked; what is never reached. -/
namespace DL
open PySem PySem.Spec PyProof.Rows L2
def isSq : HO → Prop
  | .tup _ => True
  | .lst _ => True
  | .frz _ (.tup _) => True
  | .frz _ (.lst _) => True
  | .ext _ => True
  | .xd _ => True
  | _ => False
/-- lists and tuples stay -/
def SubS (F F' : Hp) : Prop := ∀ a u, F a = some u → isSq u → F' a = some u
theorem SubS.t {F F' : Hp} (s : SubS F F') {a : Addr} {xs : List V} (h : Rd F a (.tup xs)) : Rd F' a (.tup xs) := h.imp (fun e => s _ _ e trivial) fun ⟨o, e⟩ => ⟨o, s _ _ e trivial⟩
theorem SubS.l {F F' : Hp} (s : SubS F F') {a : Addr} {xs : List V} (h : Rd F a (.lst xs)) : Rd F' a (.lst xs) := h.imp (fun e => s _ _ e trivial) fun ⟨o, e⟩ => ⟨o, s _ _ e trivial⟩
section
variable {wd : World} {K : Fg} {mg : Str → Option Value} {α β : List Addr} {F F' H H1 : Hp} {S : Sto}
mutual
theorem DV.stay {v : V} {d : D} (s : SubS F F') : DV wd K mg F α v d → DV wd K mg F' α v d
  | .non => .non
  | .bl b => .bl b
  | .int i => .int i
  | .str x => .str x
  | .tup h t => .tup ⟨h.1.imp s.t id, h.2.imp (fun ⟨o, e, q⟩ => ⟨o, s _ _ e trivial, q⟩) id⟩ (DVs.stay s t)
  | .tux h t => .tux (h.imp s.t id) (DVs.stay s t)
  | .lst h t => .lst (h.imp s.l id) (DVs.stay s t)
  | .ptr h => .ptr h
  | .fn h => .fn h
  | .ty n => .ty n
  | .exc h1 h2 h3 h4 h5 => .exc h1 (s _ _ h2 trivial) (h3.imp id fun ⟨dd, e, q⟩ => ⟨dd, e, s _ _ q trivial⟩) h4 (DVs.stay s h5)
  | .dc0 h1 h2 => .dc0 (s _ _ h1 trivial) (DV.stay s h2)
theorem DVs.stay {vs : List V} {ds : List D} (s : SubS F F') : DVs wd K mg F α vs ds → DVs wd K mg F' α vs ds
  | .nil => .nil
  | .cons h t => .cons (DV.stay s h) (DVs.stay s t)
end
theorem NVs.stay {xs : List (NestedKey × Addr × V)} {kvs : List (D × D)} (s : SubS F F') (h : NVs wd K mg F α xs kvs) : NVs wd K mg F' α xs kvs := by
  induction h with
  | nil => exact .nil
  | cons h1 h2 h3 h4 h5 _ ih => exact .cons h1 h2 (h3.stay s) h4 (h5.stay s) ih
/-- what may be locked -/
def Lkd (wd : World) (a : Addr) (u : HO) : Prop := (∃ ws, u = .dK ws) ∨ ∃ xs, u = dN wd a xs
theorem Lkd.mut {a : Addr} {u : HO} (h : Lkd wd a u) : Mut (some u) := by
  rcases h with ⟨ws, rfl⟩ | ⟨xs, rfl⟩ <;> exact True.intro
/-- F without a -/
def erase (F : Hp) (a : Addr) : Hp := fun b => if b = a then none else F b
theorem erase_same {a : Addr} : erase F a a = none := by unfold erase; rw [if_pos rfl]
theorem erase_ne {a b : Addr} (h : b ≠ a) : erase F a b = F b := by unfold erase; rw [if_neg h]
theorem erase_stay {a : Addr} {o : Obj} {u : HO} (h : F a = some (.frz o u)) (hu : Lkd wd a u) : SubS F (erase F a) := by
  intro b v e q
  have z : b ≠ a := fun z => by
    subst z
    rw [h] at e
    cases e
    rcases hu with ⟨ws, rfl⟩ | ⟨ys, rfl⟩ <;> exact q
  rw [erase_ne z]; exact e
theorem Own.toLck {a : Addr} {d : D} {u : HO} (od : Obj) (h : Own wd K mg F α H a d) (hF : F a = none) (hu : H a = some u) (hl : Lkd wd a u) (hd : (∃ kvs, d = .dct kvs) ∨ ∃ kvs, d = .dcn kvs) :
    Own wd K mg (upd F a (.frz od u)) α (upd H a (.frz od u)) a (.lck d) := by
  have sb : Sub F (upd F a (.frz od u)) := Sub.new hF
  rcases hd with ⟨kvs, rfl⟩ | ⟨kvs, rfl⟩
  · obtain ⟨ws, h1, h2, h3⟩ := h
    rw [hu] at h1
    cases h1
    have h4 := h3.mono (β := []) sb
    rw [List.append_nil] at h4
    exact ⟨od, ws, upd_same, upd_same, h2, h4⟩
  · obtain ⟨xs, h1, h2⟩ := h
    rw [hu] at h1
    cases h1
    have h4 := h2.mono (β := []) sb
    rw [List.append_nil] at h4
    exact ⟨od, xs, upd_same, upd_same, h4⟩
/-- the thing at k is locked -/
theorem Rel.lock (r : Rel wd K mg α F H S) {k : Nat} {a : Addr} {u : HO} {d : D} (od : Obj) (h1 : α[k]? = some a) (h2 : S[k]? = some d) (hd : (∃ kvs, d = .dct kvs) ∨ ∃ kvs, d = .dcn kvs) (hu : H a = some u) (hl : Lkd wd a u) :
    Rel wd K mg α (upd F a (.frz od u)) (upd H a (.frz od u)) (S.set k (.lck d)) ∧ Sub F (upd F a (.frz od u)) ∧ F a = none := by
  obtain ⟨o1, o2⟩ := r.own k a d h1 h2
  have hF : F a = none := o2 (by rcases hd with ⟨_, rfl⟩ | ⟨_, rfl⟩ <;> rfl)
  have sb : Sub F (upd F a (.frz od u)) := Sub.new hF
  have hn := r.nd
  refine ⟨⟨fun b v e => ?_, by rw [List.length_set]; exact r.len, r.nd, fun b hb => ?_, fun j b e g1 g2 => ?_⟩, sb, hF⟩
  · by_cases z : b = a
    · subst z; rw [upd_same] at e ⊢; exact e
    · rw [upd_ne z] at e ⊢; exact r.sub _ _ e
  · by_cases z : b = a
    · subst z; exact ⟨_, upd_same⟩
    · obtain ⟨v, e⟩ := r.here b hb
      exact ⟨v, by rw [upd_ne z]; exact e⟩
  · by_cases z : j = k
    · subst z
      rw [h1] at g1; cases g1
      rw [List.getElem?_set_self (List.getElem?_eq_some_iff.mp h2).1] at g2
      cases g2
      exact ⟨Own.toLck od o1 hF hu hl hd, fun z => by cases z⟩
    · rw [List.getElem?_set_ne (Ne.symm z)] at g2
      obtain ⟨h3, h4⟩ := r.own j b e g1 g2
      have y : b ≠ a := fun y => by
        subst y
        exact z ((List.getElem_inj hn).mp ((List.getElem?_eq_some_iff.mp g1).2.trans (List.getElem?_eq_some_iff.mp h1).2.symm))
      have h5 := h3.mono (β := []) (H' := upd H a (.frz od u)) sb (upd_ne y)
      rw [List.append_nil] at h5
      exact ⟨h5, fun hd => by rw [upd_ne y]; exact h4 hd⟩
/-- and let go again -/
theorem Rel.unlock (r : Rel wd K mg α F H S) {k : Nat} {a : Addr} {u : HO} {od : Obj} {d : D} (h1 : α[k]? = some a) (h2 : S[k]? = some (.lck d)) (hF : F a = some (.frz od u)) (hl : Lkd wd a u) :
    Rel wd K mg α (erase F a) (upd H a u) (S.set k d) := by
  have st : SubS F (erase F a) := erase_stay hF hl
  have hH : H a = some (.frz od u) := r.sub _ _ hF
  have hn := r.nd
  refine ⟨fun b v e => ?_, by rw [List.length_set]; exact r.len, r.nd, fun b hb => ?_, fun j b e g1 g2 => ?_⟩
  · by_cases z : b = a
    · subst z; rw [erase_same] at e; cases e
    · rw [erase_ne z] at e; rw [upd_ne z]; exact r.sub _ _ e
  · by_cases z : b = a
    · subst z; exact ⟨_, upd_same⟩
    · obtain ⟨v, e⟩ := r.here b hb
      exact ⟨v, by rw [upd_ne z]; exact e⟩
  · by_cases z : j = k
    · subst z
      rw [h1] at g1; cases g1
      rw [List.getElem?_set_self (List.getElem?_eq_some_iff.mp h2).1] at g2
      cases g2
      obtain ⟨o1, _⟩ := r.own j a _ h1 h2
      refine ⟨?_, fun _ => erase_same⟩
      cases d with
      | dct kvs =>
        obtain ⟨o, ws, q0, q1, q2, q3⟩ := o1
        rw [hF] at q0
        cases q0
        exact ⟨ws, upd_same, q2, q3.stay st⟩
      | dcn kvs =>
        obtain ⟨o, xs, q0, q1, q2⟩ := o1
        rw [hF] at q0
        cases q0
        exact ⟨xs, upd_same, q2.stay st⟩
      | _ => exact o1.elim
    · rw [List.getElem?_set_ne (Ne.symm z)] at g2
      obtain ⟨h3, h4⟩ := r.own j b e g1 g2
      have y : b ≠ a := fun y => by
        subst y
        exact z ((List.getElem_inj hn).mp ((List.getElem?_eq_some_iff.mp g1).2.trans (List.getElem?_eq_some_iff.mp h1).2.symm))
      refine ⟨?_, fun hd => by rw [erase_ne y]; exact h4 hd⟩
      cases e with
      | lst ds => obtain ⟨xs, q1, q2⟩ := h3; exact ⟨xs, by rw [upd_ne y]; exact q1, q2.stay st⟩
      | dct kvs => obtain ⟨ws, q1, q2, q3⟩ := h3; exact ⟨ws, by rw [upd_ne y]; exact q1, q2, q3.stay st⟩
      | dcn kvs => obtain ⟨ws, q1, q2⟩ := h3; exact ⟨ws, by rw [upd_ne y]; exact q1, q2.stay st⟩
      | lck e =>
        cases e with
        | dct kvs => obtain ⟨o, ws, q0, q1, q2, q3⟩ := h3; exact ⟨o, ws, by rw [erase_ne y]; exact q0, by rw [upd_ne y]; exact q1, q2, q3.stay st⟩
        | dcn kvs => obtain ⟨o, ws, q0, q1, q2⟩ := h3; exact ⟨o, ws, by rw [erase_ne y]; exact q0, by rw [upd_ne y]; exact q1, q2.stay st⟩
        | _ => exact h3.elim
      | non => trivial
      | _ => exact h3.elim
theorem Stp.lock {a : Addr} {u : HO} {od : Obj} {F2 H2 : Hp} (s : Stp α (upd F a (.frz od u)) (upd H a (.frz od u)) β F2 H2) (hF : F a = none) (hu : H a = some u) (ha : a ∈ α) : Stp α F H β (erase F2 a) (upd H2 a u) := by
  refine ⟨fun b hb => upd_none (s.new b hb), fun b v e => ?_, fun b o hb e => ?_, fun b e => ?_, fun b h1 h2 h3 => ?_⟩
  · have z : b ≠ a := fun z => by subst z; rw [hF] at e; cases e
    rw [erase_ne z]
    exact s.sub _ _ (by rw [upd_ne z]; exact e)
  · have z : b ≠ a := fun z => hb (z ▸ ha)
    rw [upd_ne z]
    exact s.frame b o hb (by rw [upd_ne z]; exact e)
  · have z : b ≠ a := fun z => by subst z; rw [upd_same] at e; cases e
    rw [upd_ne z] at e
    have := s.live b e
    rw [upd_ne z] at this
    exact this
  · have z : b ≠ a := fun z => h1 (z ▸ ha)
    rw [erase_ne z]
    exact s.fnew b h1 (by rw [upd_ne z]; exact h2) (by rw [upd_ne z]; exact h3)
theorem Slots.stay {σ : L2.St} {δ : Sl} (s : SubS F F') (h : Slots wd K mg F α σ δ) : Slots wd K mg F' α σ δ := ⟨h.1, fun i d e => let ⟨v, h1, h2⟩ := h.2 i d e; ⟨v, h1, h2.stay s⟩⟩
end
/-- the dict that slot i holds, if it is open -/
def lockAt (δ : Sl) (S : Sto) (i : Nat) : Option (Nat × D) := match δ[i]? with
  | some (some (.ptr k)) => (match S[k]? with
    | some (.dct kvs) => some (k, .dct kvs)
    | some (.dcn kvs) => some (k, .dcn kvs)
    | _ => none)
  | _ => none
def unlk (k : Nat) (S : Sto) : Option Sto := match S[k]? with
  | some (.lck d) => some (S.set k d)
  | _ => none
def unlkO (k : Nat) : Out → Out
  | .nx δ S => (match unlk k S with | some S' => .nx δ S' | none => .stuck)
  | .rt d S => (match unlk k S with | some S' => .rt d S' | none => .stuck)
  | .bk δ S => (match unlk k S with | some S' => .bk δ S' | none => .stuck)
  | .ct δ S => (match unlk k S with | some S' => .ct δ S' | none => .stuck)
  | o => o
/-- the dict of slot i is locked meanwhile -/
def sLock (i : Nat) (r : RS) : RS := fun δ S => match lockAt δ S i with
  | some (k, d) => unlkO k (r δ (S.set k (.lck d)))
  | none => r δ S
section
variable {X : Cx} {W : WX} {st : Stmt} {e : Expr} {r : RS} {ra : RE} {wd : World} {K : Fg} {mg : Str → Option Value} {α β : List Addr} {F F' H H1 : Hp} {S : Sto}
/-- locked, or not -/
def tMay (t : TS) : TS := fun D σ H => t D σ H ∨ tLock t D σ H
theorem ps_may {t : TS} (h : PS X st t) : PS X st (tMay t) := ⟨fun pins s σ H D I q => q.elim (h.run pins s σ H D I) ((ps_lock h).run pins s σ H D I)⟩
theorem psd_lock (i : Nat) (h : PSd X W st r) : PSd X W st (sLock i r) := by
  obtain ⟨t, p1, s1⟩ := h.ex
  refine ⟨_, ps_may p1, fun α F σ H δ S E hr hs q => ?_⟩
  unfold sLock at q
  split at q
  · rename_i k d e1
    refine .inr ?_
    unfold lockAt at e1
    split at e1
    · rename_i k' e2
      obtain ⟨v, g1, g2⟩ := hs.2 i _ e2
      cases g2 with
      | @ptr _ a ea =>
        have key : ∃ d', S[k']? = some d' ∧ k = k' ∧ d = d' ∧ ((∃ kvs, d' = .dct kvs) ∨ ∃ kvs, d' = .dcn kvs) := by
          split at e1
          · rename_i kvs e3; cases e1; exact ⟨_, e3, rfl, rfl, .inl ⟨_, rfl⟩⟩
          · rename_i kvs e3; cases e1; exact ⟨_, e3, rfl, rfl, .inr ⟨_, rfl⟩⟩
          · cases e1
        obtain ⟨d', e3, rfl, rfl, hd⟩ := key
        clear e1
        obtain ⟨o1, o2⟩ := hr.own _ _ _ ea e3
        obtain ⟨u, hu, hl⟩ : ∃ u, H a = some u ∧ Lkd X.w a u := by
          rcases hd with ⟨kvs, rfl⟩ | ⟨kvs, rfl⟩
          · obtain ⟨ws, q1, _⟩ := o1; exact ⟨_, q1, .inl ⟨ws, rfl⟩⟩
          · obtain ⟨xs, q1, _⟩ := o1; exact ⟨_, q1, .inr ⟨xs, rfl⟩⟩
        refine ⟨a, u, hu, hl.mut, fun od => ?_⟩
        obtain ⟨r1, sb, hF⟩ := hr.lock od ea e3 hd hu hl
        have hs1 := hs.mono (β := []) sb
        rw [List.append_nil] at hs1
        have ha : a ∈ α := List.mem_of_getElem? ea
        refine s1 α _ σ _ δ _ _ r1 hs1 ?_
        have fin : ∀ {S' : Sto} {β : List Addr} {F' H' : Hp}, Rel X.w X.K X.mg (α ++ β) F' H' S' → Stp α (upd F a (.frz od u)) (upd H a (.frz od u)) β F' H' → ∀ S2, unlk k S' = some S2 →
            H' a = some (.frz od u) ∧ Rel X.w X.K X.mg (α ++ β) (erase F' a) (upd H' a u) S2 ∧ Stp α F H β (erase F' a) (upd H' a u) ∧ SubS F' (erase F' a) := by
          intro S' β F' H' r2 st2 S2 e4
          have f1 : F' a = some (.frz od u) := st2.sub _ _ upd_same
          unfold unlk at e4
          split at e4
          · rename_i d2 e5
            cases e4
            exact ⟨r2.sub _ _ f1, r2.unlock (at_app ea) e5 f1 hl, st2.lock hF hu ha, erase_stay f1 hl⟩
          · cases e4
        cases c : r δ (S.set k (.lck d)) with
        | nx δ' S' =>
          rw [c] at q
          intro σ' H' β F' r2 st2 sl2
          unfold unlkO at q
          dsimp only at q
          split at q
          · rename_i S2 e4
            obtain ⟨f1, f2, f3, f4⟩ := fin r2 st2 S2 e4
            exact ⟨f1, q _ _ _ _ f2 f3 (sl2.stay f4)⟩
          · exact q.elim
        | rt v S' =>
          rw [c] at q
          intro σ' H' β F' r2 st2 sl2
          unfold unlkO at q
          dsimp only at q
          split at q
          · rename_i S2 e4
            obtain ⟨f1, f2, f3, f4⟩ := fin r2 st2 S2 e4
            exact ⟨f1, q _ _ _ _ f2 f3 (sl2.stay f4)⟩
          · exact q.elim
        | bk δ' S' =>
          rw [c] at q
          intro σ' H' β F' r2 st2 sl2
          unfold unlkO at q
          dsimp only at q
          split at q
          · rename_i S2 e4
            obtain ⟨f1, f2, f3, f4⟩ := fin r2 st2 S2 e4
            exact ⟨f1, q _ _ _ _ f2 f3 (sl2.stay f4)⟩
          · exact q.elim
        | ct δ' S' =>
          rw [c] at q
          intro σ' H' β F' r2 st2 sl2
          unfold unlkO at q
          dsimp only at q
          split at q
          · rename_i S2 e4
            obtain ⟨f1, f2, f3, f4⟩ := fin r2 st2 S2 e4
            exact ⟨f1, q _ _ _ _ f2 f3 (sl2.stay f4)⟩
          · exact q.elim
        | err cl fs δ' S' =>
          rw [c] at q
          intro cls dd σ' H' β F' r2 st2 sl2 er
          refine q cls dd σ' H' β F' r2 ⟨fun b hb => upd_none (st2.new b hb), sb.trans st2.sub, fun b o hb e => ?_, fun b e => upd_none (st2.live b e), fun b h1 h2 h3 => ?_⟩ sl2 er
          · have z : b ≠ a := fun z => hb (z ▸ ha)
            exact st2.frame b o hb (by rw [upd_ne z]; exact e)
          · have z : b ≠ a := fun z => h1 (z ▸ ha)
            exact st2.fnew b h1 (by rw [upd_ne z]; exact h2) (by rw [upd_ne z]; exact h3)
        | stuck => rw [c] at q; exact q.elim
    · cases e1
  · exact .inl (s1 α F σ H δ S E hr hs q)
end
end DL
set_option Elab.async false
set_option linter.all false
set_option maxRecDepth 100000
set_option maxHeartbeats 4000000
set_option autoImplicit false
/-! Data layer: order of data, sorting, the greatest and the least. -/
namespace DL
open PySem PySem.Spec PyProof.Rows L2
def notNone : PyData → Bool
  | .none => false
  | _ => true
/-- two data that may be compared -/
def twoD (S : Sto) (d e : D) : Option (PyData × PyData) := match toPy S (deref S d), toPy S (deref S e) with
  | some x, some y => if PySem.W.alike x y && (notNone x && decide (x.depth ≤ 40)) then some (x, y) else none
  | _, _ => none
def gLtU : Sto → D → D → Option D := fun S d e => match d, e with
  | .int i, .int j => some (.bl (decide (i < j)))
  | _, _ => (twoD S d e).map fun p => .bl (PySem.W.dataLt p.1 p.2)
def gLeU : Sto → D → D → Option D := fun S d e => match d, e with
  | .int i, .int j => some (.bl (decide (i ≤ j)))
  | _, _ => (twoD S d e).map fun p => .bl (!PySem.W.dataLt p.2 p.1)
def gGtU : Sto → D → D → Option D := fun S d e => match d, e with
  | .int i, .int j => some (.bl (decide (j < i)))
  | _, _ => (twoD S d e).map fun p => .bl (PySem.W.dataLt p.2 p.1)
def gGeU : Sto → D → D → Option D := fun S d e => match d, e with
  | .int i, .int j => some (.bl (decide (j ≤ i)))
  | _, _ => (twoD S d e).map fun p => .bl (!PySem.W.dataLt p.1 p.2)
def rCmp (K : Fg) (f : PyData → PyData → Bool) : R2 := fun x y H Q => ∃ d e, Dp K H x d ∧ Dp K H y e ∧ PySem.W.alike d e = true ∧ d ≠ .none ∧ d.depth ≤ 40 ∧ Q (.bl (f d e)) H
section
variable {X : Cx}
theorem op_ltU (hu : X.A.units + 64 < cLine) : OpR X (compareOp .Lt) (rCmp X.K PySem.W.dataLt) := by
  intro pins s σ H x y v u Q I rx ry h
  obtain ⟨d, e, hd, he, al, nn, dp, q⟩ := h
  obtain ⟨as, r1⟩ := Dp.reads I d x v hd rx
  obtain ⟨bs, r2⟩ := Dp.reads I e y u he ry
  exact PySem.W.lt_data r1 r2 al nn (by omega) ⟨.bl _, H, I, rfl, q⟩
theorem op_leU (hu : X.A.units + 64 < cLine) : OpR X (compareOp .LtE) (rCmp X.K fun d e => !PySem.W.dataLt e d) := by
  intro pins s σ H x y v u Q I rx ry h
  obtain ⟨d, e, hd, he, al, nn, dp, q⟩ := h
  obtain ⟨as, r1⟩ := Dp.reads I d x v hd rx
  obtain ⟨bs, r2⟩ := Dp.reads I e y u he ry
  exact PySem.W.le_data r1 r2 al nn (by omega) ⟨.bl _, H, I, rfl, q⟩
theorem op_gtU (hu : X.A.units + 64 < cLine) : OpR X (compareOp .Gt) (rCmp X.K fun d e => PySem.W.dataLt e d) := by
  intro pins s σ H x y v u Q I rx ry h
  obtain ⟨d, e, hd, he, al, nn, dp, q⟩ := h
  obtain ⟨as, r1⟩ := Dp.reads I d x v hd rx
  obtain ⟨bs, r2⟩ := Dp.reads I e y u he ry
  exact PySem.W.gt_data r1 r2 al nn (by omega) ⟨.bl _, H, I, rfl, q⟩
theorem op_geU (hu : X.A.units + 64 < cLine) : OpR X (compareOp .GtE) (rCmp X.K fun d e => !PySem.W.dataLt d e) := by
  intro pins s σ H x y v u Q I rx ry h
  obtain ⟨d, e, hd, he, al, nn, dp, q⟩ := h
  obtain ⟨as, r1⟩ := Dp.reads I d x v hd rx
  obtain ⟨bs, r2⟩ := Dp.reads I e y u he ry
  exact PySem.W.ge_data r1 r2 al nn (by omega) ⟨.bl _, H, I, rfl, q⟩
theorem alike_int (i j : Int) : PySem.W.alike (.int i) (.int j) = true := by simp [PySem.W.alike]
theorem depth_int (i : Int) : (PyData.int i).depth ≤ 40 := by simp [PyData.depth]
theorem cmpU {f : PyData → PyData → Bool} {g : Sto → D → D → Option D} {op : CmpOp} {h : Int → Int → Bool} (ho : OpR X (compareOp op) (rCmp X.K f)) (hi : ∀ i j, f (.int i) (.int j) = h i j)
    (hg : ∀ S d e z, g S d e = some z → (∃ i j, d = .int i ∧ e = .int j ∧ z = .bl (h i j)) ∨ ∃ p, twoD S d e = some p ∧ z = .bl (f p.1 p.2)) : OpG X (compareOp op) g := by
  refine ⟨_, ho, fun α F H S x y d e z Q hr hx hy hz q => ?_⟩
  rcases hg S d e z hz with ⟨i, j, rfl, rfl, rfl⟩ | ⟨p, h1, rfl⟩
  · cases hx; cases hy
    refine ⟨.int i, .int j, .int i, .int j, alike_int i j, by simp, depth_int i, ?_⟩
    rw [hi]
    exact fin_now hr (.bl _) q
  · unfold twoD at h1
    split at h1
    · rename_i x' y' e1 e2
      split at h1
      · rename_i hc
        cases h1
        rw [Bool.and_eq_true, Bool.and_eq_true] at hc
        exact ⟨x', y', hr.dp hx e1, hr.dp hy e2, hc.1, (by intro z; subst z; exact absurd hc.2.1 (by decide)), of_decide_eq_true hc.2.2, fin_now hr (.bl _) q⟩
      · cases h1
    · cases h1
theorem g_ltU (hu : X.A.units + 64 < cLine) : OpG X (compareOp .Lt) gLtU := cmpU (op_ltU hu) (h := fun i j => decide (i < j)) (fun i j => PySem.W.dataLt_int i j) fun S d e z hz => by
  unfold gLtU at hz
  split at hz
  · cases hz; exact .inl ⟨_, _, rfl, rfl, rfl⟩
  · obtain ⟨p, h1, h2⟩ := Option.map_eq_some_iff.mp hz
    exact .inr ⟨p, h1, h2.symm⟩
theorem g_gtU (hu : X.A.units + 64 < cLine) : OpG X (compareOp .Gt) gGtU := cmpU (op_gtU hu) (h := fun i j => decide (j < i)) (fun i j => PySem.W.dataLt_int j i) fun S d e z hz => by
  unfold gGtU at hz
  split at hz
  · cases hz; exact .inl ⟨_, _, rfl, rfl, rfl⟩
  · obtain ⟨p, h1, h2⟩ := Option.map_eq_some_iff.mp hz
    exact .inr ⟨p, h1, h2.symm⟩
theorem not_lt_le (i j : Int) : (!decide (j < i)) = decide (i ≤ j) := by
  by_cases h : j < i
  · rw [decide_eq_true h, decide_eq_false (by omega)]; rfl
  · rw [decide_eq_false h, decide_eq_true (by omega)]; rfl
theorem g_leU (hu : X.A.units + 64 < cLine) : OpG X (compareOp .LtE) gLeU := cmpU (op_leU hu) (h := fun i j => decide (i ≤ j)) (fun i j => by rw [PySem.W.dataLt_int]; exact not_lt_le i j) fun S d e z hz => by
  unfold gLeU at hz
  split at hz
  · cases hz; exact .inl ⟨_, _, rfl, rfl, rfl⟩
  · obtain ⟨p, h1, h2⟩ := Option.map_eq_some_iff.mp hz
    exact .inr ⟨p, h1, h2.symm⟩
theorem g_geU (hu : X.A.units + 64 < cLine) : OpG X (compareOp .GtE) gGeU := cmpU (op_geU hu) (h := fun i j => decide (j ≤ i)) (fun i j => by rw [PySem.W.dataLt_int]; exact not_lt_le j i) fun S d e z hz => by
  unfold gGeU at hz
  split at hz
  · cases hz; exact .inl ⟨_, _, rfl, rfl, rfl⟩
  · obtain ⟨p, h1, h2⟩ := Option.map_eq_some_iff.mp hz
    exact .inr ⟨p, h1, h2.symm⟩
end
/-! ### sorting -/
def tupFull : PyData → Bool
  | .tuple (_ :: _) => true
  | _ => false
def noTup : PyData → Bool
  | .none => false
  | .tuple _ => false
  | _ => true
def sortable (ps : List PyData) : Bool := (ps.all tupFull || ps.all noTup) && ((ps.all fun x => ps.all fun y => PySem.W.alike x y) && ps.all fun x => decide (x.depth ≤ 40))
def sortBy {A : Type} (xs : List A) (ps : List PyData) : List A := ((xs.zip ps).mergeSort (PySem.W.dataLe false (·.2))).map (·.1)
def sortD (S : Sto) (xs : List D) : Option (List D) := match toPys S xs with
  | some ps => if sortable ps && decide (xs.length ≤ sizeLine) then some (sortBy xs ps) else none
  | none => none
def gSorted : Sto → List D → Option D := fun S ds => match ds with
  | [d] => (match deref S d with
    | .lst xs => (sortD S xs).map .lst
    | _ => none)
  | _ => none
theorem sortBy_length {A : Type} {xs : List A} {ps : List PyData} (h : xs.length = ps.length) : (sortBy xs ps).length = xs.length := by
  unfold sortBy
  rw [List.length_map, List.length_mergeSort, List.length_zip, h, Nat.min_self]
section
open PySem.W
variable {wd : World} {K : Fg} {mg : Str → Option Value} {α β : List Addr} {F F1 H H1 : Hp} {S : Sto}
theorem dpAll_length {xs : List V} {ps : List PyData} (h : DpAll K H xs ps) : xs.length = ps.length := by
  match h with
  | .nil => rfl
  | .cons _ t => rw [List.length_cons, List.length_cons, dpAll_length t]
theorem zip_each {A B : Type} {R : A → B → Prop} : ∀ {as : List A} {bs : List B} (ps : List PyData), EachIs R as bs → EachIs (fun (x : A × PyData) (y : B × PyData) => R x.1 y.1 ∧ x.2 = y.2) (as.zip ps) (bs.zip ps)
  | _, _, _, .nil => .nil
  | _, _, [], .cons _ _ => .nil
  | _, _, p :: ps, .cons h t => .cons ⟨h, rfl⟩ (zip_each ps t)
theorem each_map2 {A B A' B' : Type} {R : A → B → Prop} {R' : A' → B' → Prop} (f : A → A') (g : B → B') (h : ∀ a b, R a b → R' (f a) (g b)) : ∀ {as : List A} {bs : List B}, EachIs R as bs → EachIs R' (as.map f) (bs.map g)
  | _, _, .nil => .nil
  | _, _, .cons a t => .cons (h _ _ a) (each_map2 f g h t)
/-- things sorted by the same data -/
theorem sortBy_each {A B : Type} {R : A → B → Prop} {as : List A} {bs : List B} (ps : List PyData) (h : EachIs R as bs) : EachIs R (sortBy as ps) (sortBy bs ps) := by
  unfold sortBy
  have z := zip_each ps h
  refine each_map2 (·.1) (·.1) (fun a b q => q.1) (sort_each z ?_)
  intro p hp q hq
  have e1 := (EachIs.zip z p hp).2
  have e2 := (EachIs.zip z q hq).2
  unfold dataLe sortLe
  dsimp only
  rw [e1, e2]
theorem each_dvs : ∀ {us : List V} {ds : List D}, EachIs (fun v d => DV wd K mg F α v d) us ds → DVs wd K mg F α us ds
  | _, _, .nil => .nil
  | _, _, .cons h t => .cons h (each_dvs t)
theorem dvs_each : ∀ {us : List V} {ds : List D}, DVs wd K mg F α us ds → EachIs (fun v d => DV wd K mg F α v d) us ds
  | _, _, .nil => .nil
  | _, _, .cons h t => .cons h (dvs_each t)
theorem DVs.sort {us : List V} {ds : List D} (h : DVs wd K mg F α us ds) (ps : List PyData) : DVs wd K mg F α (sortBy us ps) (sortBy ds ps) := each_dvs (sortBy_each ps (dvs_each h))
end
def rSortU (X : Cx) : List V → Hp → VK → Prop := fun vs H Q => ∃ (a : Addr) (us : List V) (ps : List PyData), vs = [.ref a] ∧ SqL X.K H a us ∧ DpAll X.K H us ps ∧ sortable ps = true ∧ us.length ≤ sizeLine ∧ Lays H (sortBy us ps) Q
section
open PySem.W
variable {X : Cx} {W : WX} {a b c e tg : Expr} {es rest : List Expr} {ra rb rc : RE} {rs : RA} {pos p : Pos}
theorem vals_each {s : Shared} {σ : L2.St} {H : Hp} {pins : List (Addr × Obj)} (I : Inv X pins σ H s) : ∀ {us : List V} {ps : List PyData} {vs : List Value}, DpAll X.K H us ps → Vals us vs →
    EachIs (fun u (b : V × PyData) => RelV b.1 u) vs (us.zip ps) ∧ EachIs (fun u (b : V × PyData) => ∃ as, Reads s.heap u b.2 as) vs (us.zip ps)
  | _, _, _, .nil, r => by cases r; exact ⟨.nil, .nil⟩
  | _, _, _, .cons h t, r => by
    cases r with
    | cons r1 r2 =>
      obtain ⟨h1, h2⟩ := vals_each I t r2
      exact ⟨.cons r1 h1, .cons (Dp.reads I _ _ _ h r1) h2⟩
theorem each_vals : ∀ {us : List V} {vs : List Value}, EachIs (fun u v => RelV v u) vs us → Vals us vs
  | _, _, .nil => .nil
  | _, _, .cons h t => .cons h (each_vals t)
theorem cr_sortU (hu : X.A.units + 64 < cLine) : CallR X (.builtin "sorted") (rSortU X) := by
  intro pins s σ H vs us Q I r h
  obtain ⟨a, xs, ps, rfl, hs, hd, hk, hl, q⟩ := h
  obtain ⟨its, rv, pl, _⟩ := I.list hs
  rw [Vals.ref1 r]
  obtain ⟨e1, e2⟩ := vals_each I hd rv
  unfold sortable at hk
  rw [Bool.and_eq_true, Bool.and_eq_true, Bool.or_eq_true] at hk
  obtain ⟨k1, k2, k3⟩ := hk
  have ml : (xs.zip ps).map (·.2) = ps := List.map_snd_zip (by rw [(dpAll_length hd)]; exact Nat.le_refl _)
  have hal : AllAlike ((xs.zip ps).map (·.2)) := by
    rw [ml]
    intro d hd d' hd'
    exact List.all_eq_true.mp (List.all_eq_true.mp k2 d hd) d' hd'
  have hso : Sortable ((xs.zip ps).map (·.2)) := by
    rw [ml]
    rcases k1 with k1 | k1
    · refine .inl fun d hd => ?_
      have := List.all_eq_true.mp k1 d hd
      match d, this with
      | .tuple (x :: r), _ => exact ⟨x, r, rfl⟩
    · refine .inr fun d hd => ?_
      have := List.all_eq_true.mp k1 d hd
      refine ⟨fun z => ?_, fun xs z => ?_⟩ <;> subst z <;> exact absurd this (by simp [noTup])
  refine sorted_data (enc := fun b : V × PyData => b.2) pl.isList e1 e2 hal hso (by rw [List.length_zip, (dpAll_length hd), Nat.min_self, ← (dpAll_length hd)]; exact hl) (fun b hb => ?_) fun out h1 h2 => ?_
  · have := of_decide_eq_true (List.all_eq_true.mp k3 b.2 (by rw [← ml]; exact List.mem_map.mpr ⟨b, hb, rfl⟩))
    omega
  · obtain ⟨ep, he'⟩ := PyProof.Rows.sortedAll_at s.heap its (List.toArray out)
    have hv : Vals (sortBy xs ps) out := each_vals (by
      have := each_map2 (R' := fun u v => RelV v u) (fun x => x) (fun b : V × PyData => b.1) (fun _ _ q => q) h2
      rw [List.map_id'] at this
      exact this)
    have hlen : (sortBy xs ps).length ≤ sizeLine := by rw [sortBy_length (dpAll_length hd)]; exact hl
    exact ⟨.ref _, upd H (s.heap.objs.size + 1) (.lst (sortBy xs ps)), I.laid (t' := s.toks) (fun _ _ => PyProof.Rows.sortedAll_old) (Nat.le_succ _) ⟨hlen, out, ep, hv, he'⟩, rfl, q _ (I.hok.fresh (Nat.le_succ _))⟩
/-- by a call of a built-in -/
theorem pf_callB {x : Str} {T : String} {g : Sto → List D → Option D} {r : List V → Hp → VK → Prop} (hc : CallR X (.builtin T) r) (hgk : ∀ α F H S xs ds z Q, Rel X.w X.K X.mg α F H S → DVs X.w X.K X.mg F α xs ds → g S ds = some z → ∃ es us, z = .lst es ∧ DVs X.w X.K X.mg F α us es ∧ (Lays H us Q → r xs H Q))
    (hm : X.mg x = none) (ha : PDs X W (e :: es) rs) (hg : Gl X x := by rfl) (hv : bootBuiltins x = some (.builtin T) := by decide +kernel) (hn : x ≠ "__name__" := by decide) (hdb : (x == ("__debug__" : Str)) = false := by decide)
    (he : starEach (e :: es) X.env = (false, eval e X.env) :: starEach es X.env := by rfl) (hpl : (backTo pos (starEach es X.env)).any (·.1) = false := by rfl) : PF X W (.Call (.Name x p) (e :: es) [] pos) (rAs g rs) := by
  obtain ⟨t, pt, st⟩ := ha.ex
  refine ⟨_, pe_callB hc hg hm hv pt hn hdb he hpl, fun α F σ H δ S Q hr hs h => ?_⟩
  refine st α F σ H δ S _ hr hs (wpF.bind h fun ds S1 _ xs H1 β F1 r1 q1 v1 h1 => ?_)
  cases eg : g S1 ds with
  | none => rw [eg] at h1; exact h1.elim
  | some z =>
    rw [eg] at h1
    obtain ⟨es', us, rfl, e1, e2⟩ := hgk _ F1 H1 S1 xs ds z Q r1 v1 eg
    exact e2 fun p hp => wpF.lay h1 r1 hp ⟨us, upd_same, e1⟩ rfl
theorem pf_sorted (hu : X.A.units + 64 < cLine) (hm : X.mg "sorted" = none) (ha : PDs X W (e :: es) rs) (hg : Gl X "sorted" := by rfl) (he : starEach (e :: es) X.env = (false, eval e X.env) :: starEach es X.env := by rfl) (hpl : (backTo pos (starEach es X.env)).any (·.1) = false := by rfl) :
    PF X W (.Call (.Name "sorted" p) (e :: es) [] pos) (rAs gSorted rs) := pf_callB (cr_sortU hu) (fun α F H S xs ds z Q hr hv hz => by
  unfold gSorted at hz
  split at hz
  · cases hv with
    | cons h1 h2 =>
      cases h2
      split at hz
      · rename_i ys e1
        obtain ⟨zs, e2, rfl⟩ := Option.map_eq_some_iff.mp hz
        obtain ⟨l, us, rfl, a1, a2⟩ := hr.viewL h1 e1
        unfold sortD at e2
        split at e2
        · rename_i ps e3
          split at e2
          · rename_i hc
            cases e2
            rw [Bool.and_eq_true] at hc
            exact ⟨_, sortBy us ps, rfl, a2.sort ps, fun q => ⟨l, us, ps, rfl, a1, a2.dp e3 hr.sub, hc.1, by rw [a2.length]; exact of_decide_eq_true hc.2, q⟩⟩
          · cases e2
        · cases e2
      · cases hz
  · cases hz) hm ha hg (by decide +kernel) (by decide) (by decide) he hpl
end
/-! ### the greatest and the least of numbers -/
def maxI : List Int → Option Int
  | [] => none
  | i :: r => some (r.foldl max i)
def minI : List Int → Option Int
  | [] => none
  | i :: r => some (r.foldl min i)
theorem foldl_max : ∀ (r : List Int) (i : Int), (r.foldl max i = i ∨ r.foldl max i ∈ r) ∧ i ≤ r.foldl max i ∧ ∀ y ∈ r, y ≤ r.foldl max i
  | [], i => ⟨.inl rfl, by simp, fun _ h => nomatch h⟩
  | a :: r, i => by
    obtain ⟨h1, h2, h3⟩ := foldl_max r (max i a)
    rw [List.foldl_cons]
    refine ⟨?_, by omega, fun y hy => ?_⟩
    · rcases h1 with h1 | h1
      · rcases Int.le_total i a with h | h
        · right; rw [h1, Int.max_eq_right h]; exact List.mem_cons_self
        · left; rw [h1, Int.max_eq_left h]
      · exact .inr (List.mem_cons_of_mem _ h1)
    · rcases List.mem_cons.mp hy with rfl | hy
      · omega
      · exact h3 y hy
theorem foldl_min : ∀ (r : List Int) (i : Int), (r.foldl min i = i ∨ r.foldl min i ∈ r) ∧ r.foldl min i ≤ i ∧ ∀ y ∈ r, r.foldl min i ≤ y
  | [], i => ⟨.inl rfl, by simp, fun _ h => nomatch h⟩
  | a :: r, i => by
    obtain ⟨h1, h2, h3⟩ := foldl_min r (min i a)
    rw [List.foldl_cons]
    refine ⟨?_, by omega, fun y hy => ?_⟩
    · rcases h1 with h1 | h1
      · rcases Int.le_total i a with h | h
        · left; rw [h1, Int.min_eq_left h]
        · right; rw [h1, Int.min_eq_right h]; exact List.mem_cons_self
      · exact .inr (List.mem_cons_of_mem _ h1)
    · rcases List.mem_cons.mp hy with rfl | hy
      · omega
      · exact h3 y hy
theorem maxI_of {ns : List Int} {m : Int} (h1 : m ∈ ns) (h2 : ∀ y ∈ ns, y ≤ m) : maxI ns = some m := by
  cases ns with
  | nil => cases h1
  | cons i r =>
    obtain ⟨g1, g2, g3⟩ := foldl_max r i
    have a : m ≤ r.foldl max i := by
      rcases List.mem_cons.mp h1 with rfl | h
      · exact g2
      · exact g3 m h
    have b : r.foldl max i ≤ m := by
      rcases g1 with g | g
      · rw [g]; exact h2 i List.mem_cons_self
      · exact h2 _ (List.mem_cons_of_mem _ g)
    exact congrArg some (Int.le_antisymm b a)
theorem minI_of {ns : List Int} {m : Int} (h1 : m ∈ ns) (h2 : ∀ y ∈ ns, m ≤ y) : minI ns = some m := by
  cases ns with
  | nil => cases h1
  | cons i r =>
    obtain ⟨g1, g2, g3⟩ := foldl_min r i
    have a : r.foldl min i ≤ m := by
      rcases List.mem_cons.mp h1 with rfl | h
      · exact g2
      · exact g3 m h
    have b : m ≤ r.foldl min i := by
      rcases g1 with g | g
      · rw [g]; exact h2 i List.mem_cons_self
      · exact h2 _ (List.mem_cons_of_mem _ g)
    exact congrArg some (Int.le_antisymm a b)
def gMax : Sto → List D → Option D := fun S ds => match ds with
  | [d] => (match deref S d with
    | .lst xs => (asInts xs).bind fun ns => (maxI ns).map .int
    | _ => none)
  | [.int i, .int j] => some (.int (if j > i then j else i))
  | _ => none
def gMin : Sto → List D → Option D := fun S ds => match ds with
  | [d] => (match deref S d with
    | .lst xs => (asInts xs).bind fun ns => (minI ns).map .int
    | _ => none)
  | [.int i, .int j] => some (.int (if j < i then j else i))
  | _ => none
section
variable {X : Cx}
theorem b_max (hc : X.calm = true) : BiG X (.builtin "max") gMax := by
  refine ⟨_, (cr_max hc).or (call_max2 hc), fun α F H S xs ds z Q hr hv hz q => ?_⟩
  unfold gMax at hz
  split at hz
  · cases hv with
    | cons h1 h2 =>
      cases h2
      split at hz
      · rename_i ys e1
        obtain ⟨ns, e2, e3⟩ := Option.bind_eq_some_iff.mp hz
        obtain ⟨m, e4, rfl⟩ := Option.map_eq_some_iff.mp e3
        obtain ⟨l, us, rfl, a1, a2⟩ := hr.viewL h1 e1
        have := asInts_eq e2
        subst this
        have := DVs.ints a2
        subst this
        refine .inl ⟨l, ns, rfl, a1, ?_, fun m' g1 g2 => ?_⟩
        · cases ns with
          | nil => cases e4
          | cons _ _ => exact Nat.succ_pos _
        · rw [maxI_of g1 g2] at e4
          cases e4
          exact fin_now hr (.int _) q
      · cases hz
  · cases hz
    cases hv with
    | cons h1 h2 => cases h2 with
      | cons h2 h3 => cases h1; cases h2; cases h3; exact .inr ⟨_, _, rfl, fin_now hr (.int _) q⟩
  · cases hz
theorem b_min (hc : X.calm = true) : BiG X (.builtin "min") gMin := by
  refine ⟨_, (cr_min hc).or (call_min2 hc), fun α F H S xs ds z Q hr hv hz q => ?_⟩
  unfold gMin at hz
  split at hz
  · cases hv with
    | cons h1 h2 =>
      cases h2
      split at hz
      · rename_i ys e1
        obtain ⟨ns, e2, e3⟩ := Option.bind_eq_some_iff.mp hz
        obtain ⟨m, e4, rfl⟩ := Option.map_eq_some_iff.mp e3
        obtain ⟨l, us, rfl, a1, a2⟩ := hr.viewL h1 e1
        have := asInts_eq e2
        subst this
        have := DVs.ints a2
        subst this
        refine .inl ⟨l, ns, rfl, a1, ?_, fun m' g1 g2 => ?_⟩
        · cases ns with
          | nil => cases e4
          | cons _ _ => exact Nat.succ_pos _
        · rw [minI_of g1 g2] at e4
          cases e4
          exact fin_now hr (.int _) q
      · cases hz
  · cases hz
    cases hv with
    | cons h1 h2 => cases h2 with
      | cons h2 h3 => cases h1; cases h2; cases h3; exact .inr ⟨_, _, rfl, fin_now hr (.int _) q⟩
  · cases hz
end
end DL
set_option Elab.async false
set_option linter.all false
set_option maxRecDepth 100000
set_option maxHeartbeats 4000000
set_option autoImplicit false
/-! Data layer: dict() of pairs. -/
namespace DL
open PySem PySem.Spec PyProof.Rows L2
/-! ### by values -/
/-- tuples of two -/
def PairsV (K : Fg) (H : Hp) : List V → List (V × V) → Prop := Paired fun u pr => ∃ p, u = .ref p ∧ SqT K H p [pr.1, pr.2]
def mergeV (xs more : List (NestedKey × Addr × V)) : List (NestedKey × Addr × V) := more.foldl (fun acc x => putV acc x.1 x.2.1 x.2.2) xs
theorem NV.merge : ∀ {ys : List (NestedKey × Addr × V)} {ws : List (NestedKey × Addr × Value)}, NV ys ws → ∀ {xs : List (NestedKey × Addr × V)} {vs : List (NestedKey × Addr × Value)}, NV xs vs → NV (mergeV xs ys) (storedAllH vs ws) := by
  intro ys ws h
  unfold NV at h
  induction h with
  | nil => exact fun g => g
  | @cons a b l₁ l₂ r t ih =>
    intro xs vs g
    show NV (mergeV (putV xs a.1 a.2.1 a.2.2) l₁) (storedAllH (storedH vs b.1 b.2.1 b.2.2) l₂)
    have := g.put a.1 a.2.1 r.2.2
    rw [← r.1, ← r.2.1]
    exact ih this
theorem mergeV_length (ys : List (NestedKey × Addr × V)) : ∀ xs : List (NestedKey × Addr × V), (mergeV xs ys).length ≤ xs.length + ys.length := by
  induction ys with
  | nil => intro xs; exact Nat.le_refl _
  | cons y ys ih =>
    intro xs
    have := ih (putV xs y.1 y.2.1 y.2.2)
    have := putV_length xs y.1 y.2.1 y.2.2
    rw [List.length_cons]
    show (mergeV (putV xs y.1 y.2.1 y.2.2) ys).length ≤ _
    omega
section
variable {X : Cx} {pins : List (Addr × Obj)} {σ : L2.St} {H : Hp} {s : Shared}
theorem pairs_vals (I : Inv X pins σ H s) : ∀ {us : List V} {prs : List (V × V)} {vs : List Value}, PairsV X.K H us prs → Vals us vs →
    ∃ (Ts : List Addr) (ps : List (Value × Value)), vs = Ts.map Value.ref ∧ Ts.length = ps.length ∧ Paired (fun a b => RelV a.1 b.1 ∧ RelV a.2 b.2) prs ps ∧ ∀ (j : Nat) (k v : Value), ps[j]? = some (k, v) → ∃ t, Ts[j]? = some t ∧ IsTup s.heap t #[k, v]
  | _, _, _, .nil, r => by cases r; exact ⟨[], [], rfl, rfl, .nil, fun j k v e => by simp at e⟩
  | _, _, _, .cons (a := u) (b := pr) h t, r => by
    cases r with
    | @cons _ w _ vs r1 r2 =>
      obtain ⟨p, rfl, hp⟩ := h
      obtain rfl : w = Value.ref p := r1
      obtain ⟨Ts, ps, e1, e2, e3, e4⟩ := pairs_vals I t r2
      obtain ⟨its, rv, ht, _⟩ := I.tuple hp
      obtain ⟨k, v, ei, rk, rv'⟩ := vals2 rv
      subst ei
      refine ⟨p :: Ts, (k, v) :: ps, by rw [e1]; rfl, by rw [List.length_cons, List.length_cons, e2], .cons ⟨rk, rv'⟩ e3, fun j k' v' e => ?_⟩
      cases j with
      | zero => simp at e; obtain ⟨rfl, rfl⟩ := e; exact ⟨p, rfl, ht⟩
      | succ j => simp at e; obtain ⟨t', h1, h2⟩ := e4 j k' v' e; exact ⟨t', by simpa using h1, h2⟩
/-- what may be handed to dict() -/
def DArg (K : Fg) (H : Hp) (a : Addr) (us : List V) : Prop := SqL K H a us ∨ PlT K H a us
theorem darg_at (I : Inv X pins σ H s) {a : Addr} {us : List V} (h : DArg X.K H a us) : ∃ (T : String) (its : List Value), (T = "list" ∨ T = "tuple") ∧ Vals us its ∧ us.length ≤ sizeLine ∧ PlainSeq T s.heap a its.toArray := by
  rcases h with h | ⟨h, q⟩
  · obtain ⟨its, rv, ⟨o, n, ho, hc, hd, hdat⟩, hz⟩ := I.list h
    exact ⟨"list", its, .inl rfl, rv, hz, o, n, ho, hc, hd, hdat⟩
  · obtain ⟨its, rv, ⟨o, ho, hc, n, hdat⟩, hz⟩ := I.tuple h
    refine ⟨"tuple", its, .inr rfl, rv, hz, o, n, ho, hc, ?_, hdat⟩
    rcases q with ⟨o', e, hd⟩ | ⟨o', e, hd⟩
    · obtain ⟨e', _⟩ := I.hok a _ e
      rw [ho] at e'; cases e'; exact hd
    · rw [I.kIn _ _ e] at ho; cases ho; exact hd
theorem pairItems_of {Ts : List Addr} {ps : List (Value × Value)} (hl : Ts.length = ps.length) (h : ∀ (j : Nat) (k v : Value), ps[j]? = some (k, v) → ∃ t, Ts[j]? = some t ∧ IsTup s.heap t #[k, v]) : PairItems s.heap (Ts.map Value.ref).toArray (fun j => Ts.getD j 0) ps := by
  refine ⟨by simp [hl], fun j k v e => ?_⟩
  obtain ⟨t, h1, h2⟩ := h j k v e
  have e2 : Ts.getD j 0 = t := by rw [List.getD_eq_getElem?_getD, h1]; rfl
  dsimp only
  rw [e2]
  exact ⟨by simp [h1], .inl h2⟩
theorem dict_arg {T : String} {a : Addr} {Ts : List Addr} {ps : List (Value × Value)} (hT : T = "list" ∨ T = "tuple") :
    PairArg X.prog X.w T a (a :: (List.range ps.length).map fun j => Ts.getD j 0) [] ps.length (PairRel ps) (fun h => PlainSeq T h a (Ts.map Value.ref).toArray ∧ PairItems h (Ts.map Value.ref).toArray (fun j => Ts.getD j 0) ps) := by
  rcases hT with rfl | rfl
  · exact PairArg.list a _ _ ps
  · exact PairArg.tuple a _ _ ps
end
section
variable {X : Cx}
/-- dict(pairs), keys ints and texts -/
theorem cr_dictK (hc : X.calm = true) : CallR X (.type "dict") (fun xs H Q => ∃ (a : Addr) (us : List V) (kvs : List (Key × V)), xs = [.ref a] ∧ DArg X.K H a us ∧ PairsV X.K H us (kvs.map fun p => (kV p.1, p.2)) ∧ ∀ p, H p = none → Q (.ref p) (upd H p (.dK (mergeK [] kvs)))) := by
  intro pins s σ H xs vs Q I r q
  obtain ⟨a, us, kvs, rfl, ha, hp, q⟩ := q
  rw [Vals.ref1 r]
  obtain ⟨T, its, hT, rv, hz, pl⟩ := darg_at I ha
  obtain ⟨Ts, ps, rfl, hl, rel, hat⟩ := pairs_vals I hp rv
  obtain ⟨kvs', rel', hk'⟩ : ∃ kvs' : List (Key × Value), KV kvs kvs' ∧ ∀ (i : Nat) (key v : Value), ps[i]? = some (key, v) → ∃ k, kvs'[i]? = some (k, v) ∧ (mixKind X.prog X.w).is k key = true := by
    clear hat hl pl hp q rv
    generalize e : kvs.map (fun p => (kV p.1, p.2)) = prs at rel
    induction rel generalizing kvs with
    | nil =>
      cases kvs with
      | nil => exact ⟨[], .nil, fun i k v e => by simp at e⟩
      | cons _ _ => cases e
    | @cons pr p l₁ l₂ h t ih =>
      cases kvs with
      | nil => cases e
      | cons kv kvs =>
        cases e
        obtain ⟨kvs', h1, h2⟩ := ih kvs rfl
        refine ⟨(kv.1, p.2) :: kvs', .cons ⟨rfl, h.2⟩ h1, fun i key v e => ?_⟩
        cases i with
        | zero => simp at e; subst e; exact ⟨kv.1, rfl, kV_is h.1⟩
        | succ i => simp at e; obtain ⟨k, e1, e2⟩ := h2 i key v e; exact ⟨k, by simpa using e1, e2⟩
  have hlen : kvs'.length = ps.length := by
    have h1 := Paired.length rel'
    have h2 := Paired.length rel
    rw [List.length_map] at h2
    omega
  have hzp : ps.length ≤ sizeLine := by
    have := rv.length
    rw [List.length_map] at this
    omega
  refine PySem.call_dict_pairs (knd := mixKind X.prog X.w) (kvs := kvs') (dict_arg (X := X) (a := a) (Ts := Ts) (ps := ps) hT) (I.ok.hd hc) ⟨pl, pairItems_of hl hat⟩ ⟨hlen, hk'⟩ hzp fun h' tk hd' k => ?_
  have hm : (s.heap.objs.size == sysModules) = false := beq_eq_false_iff_ne.mpr (Nat.ne_of_gt I.big)
  have hl2 : (mergeK [] kvs).length ≤ sizeLine := by
    refine Nat.le_trans (length_mergeK kvs []) ?_
    have := Paired.length rel'
    rw [List.length_nil, Nat.zero_add]
    omega
  exact ⟨.ref s.heap.objs.size, upd H s.heap.objs.size (.dK (mergeK [] kvs)), I.laid (t' := tk) (fun b o e => k b o (by simp) e) (Nat.le_refl _) (show ObjOk X.prog X.w _ _ _ (.dK (mergeK [] kvs)) from ⟨hl2, hm, merged [] kvs', KV.merge rel' .nil, hd'⟩), rfl, q _ (I.hok.fresh (Nat.le_refl _))⟩
/-- dict(pairs), keys tuples -/
theorem cr_dictN (hc : X.calm = true) (hu : X.A.units + 12 < cLine) : CallR X (.type "dict") (fun vs H Q => ∃ (a : Addr) (us : List V) (xs : List (NestedKey × Addr × V)), vs = [.ref a] ∧ DArg X.K H a us ∧ NKeys X.K H xs ∧ PairsV X.K H us (xs.map fun x => (.ref x.2.1, x.2.2)) ∧ ∀ p, H p = none → Q (.ref p) (upd H p (dN X.w p (mergeV [] xs)))) := by
  intro pins s σ H vs0 vs Q I r q
  obtain ⟨a, us, xs, rfl, ha, hk, hp, q⟩ := q
  rw [Vals.ref1 r]
  obtain ⟨T, its, hT, rv, hz, pl⟩ := darg_at I ha
  obtain ⟨Ts, ps, rfl, hl, rel, hat⟩ := pairs_vals I hp rv
  obtain ⟨ys, rel', hk'⟩ : ∃ ys : List (NestedKey × Addr × Value), NV xs ys ∧ ∀ (i : Nat) (key v : Value), ps[i]? = some (key, v) → ∃ k b, ys[i]? = some (k, b, v) ∧ key = .ref b := by
    clear hat hl pl hp q rv hk
    generalize e : xs.map (fun x => (V.ref x.2.1, x.2.2)) = prs at rel
    induction rel generalizing xs with
    | nil =>
      cases xs with
      | nil => exact ⟨[], .nil, fun i k v e => by simp at e⟩
      | cons _ _ => cases e
    | @cons pr p l₁ l₂ h t ih =>
      cases xs with
      | nil => cases e
      | cons x xs =>
        cases e
        obtain ⟨ys, h1, h2⟩ := ih xs rfl
        refine ⟨(x.1, x.2.1, p.2) :: ys, .cons ⟨rfl, rfl, h.2⟩ h1, fun i key v e => ?_⟩
        cases i with
        | zero => simp at e; subst e; exact ⟨x.1, x.2.1, rfl, h.1⟩
        | succ i => simp at e; obtain ⟨k, b, e1, e2⟩ := h2 i key v e; exact ⟨k, b, by simpa using e1, e2⟩
  have hlen : ys.length = ps.length := by
    have h1 := rel'.length
    have h2 := Paired.length rel
    rw [List.length_map] at h2
    omega
  have hzp : ps.length ≤ sizeLine := by
    have := rv.length
    rw [List.length_map] at this
    omega
  have hst : KeysStay (nestedKind X.prog X.w) s.heap s.heap.objs.size [] ys := by
    intro h' kp x hx
    obtain ⟨i, hi⟩ := List.mem_iff_getElem?.mp hx
    obtain ⟨y, hy⟩ : ∃ y, xs[i]? = some y := ⟨_, List.getElem?_eq_getElem (by rw [rel'.length]; exact (List.getElem?_eq_some_iff.mp hi).1)⟩
    obtain ⟨z, hz, q1, q2, _⟩ := paired_get rel' hy
    rw [hi] at hz
    cases hz
    obtain ⟨k1, k2⟩ := hk y (List.mem_of_getElem? hy)
    rw [← q1, ← q2]
    exact ⟨NestedIs.at (fun b o vs n hb _ => kp b o (Nat.ne_of_lt (Heap.lt_size hb)) (by simp) hb) _ _ (NK.is I k1 rfl), k2⟩
  refine PySem.call_dict_pairsH (knd := nestedKind X.prog X.w) (ps := ys) (dict_arg (X := X) (a := a) (Ts := Ts) (ps := ps) hT) (I.ok.hd hc) (show X.A.units + 1 + 1 + 8 < cLine by omega) ⟨pl, pairItems_of hl hat⟩ ⟨hlen, hk'⟩ hst hzp fun h' tk hd' k => ?_
  have hm : (s.heap.objs.size == sysModules) = false := beq_eq_false_iff_ne.mpr (Nat.ne_of_gt I.big)
  have hl2 : (mergeV [] xs).length ≤ sizeLine := by
    have h1 := mergeV_length xs []
    have h2 := rel'.length
    rw [List.length_nil] at h1
    omega
  have rm := NV.merge rel' (xs := []) (vs := []) .nil
  obtain ⟨o, es, ep, g1, g2, g3, g4, _, g5⟩ := hd'
  have new : ObjOk X.prog X.w (upd H s.heap.objs.size (dN X.w s.heap.objs.size (mergeV [] xs))) h' s.heap.objs.size (dN X.w s.heap.objs.size (mergeV [] xs)) :=
    ⟨⟨hm, hl2, by rw [rm.keys]; exact g5, _, rm, o, es, ep, g1, g2, g3, g4⟩, ⟨o, g1⟩, fun z1 z2 ⟨p1, p2, p3, vs', p4, o', es', ep', p5, p6⟩ st => ⟨p1, p2, p3, vs', p4, o', es', ep', st _ p5, p6⟩⟩
  exact ⟨.ref s.heap.objs.size, _, I.laid (t' := tk) (fun b o e => k b o (by simp) e) (Nat.le_refl _) new, rfl, q _ (I.hok.fresh (Nat.le_refl _))⟩
end
/-! ### by data -/
def pairOf : D → Option (D × D)
  | .tup [k, v] => some (k, v)
  | _ => none
def pairsOf : List D → Option (List (D × D))
  | [] => some []
  | d :: r => match pairOf d, pairsOf r with
    | some p, some ps => some (p :: ps)
    | _, _ => none
def dictOf (kvs : List (D × D)) : Option D := if kvs.all (fun p => isKey p.1) then some (.dct (mergeD [] kvs)) else if kvs.all (fun p => isKeyN p.1) then some (.dcn (mergeN [] kvs)) else none
def gDict : Sto → List D → Option D := fun S ds => match ds with
  | [d] => (match deref S d with
    | .lst xs => (pairsOf xs).bind dictOf
    | .tup xs => (pairsOf xs).bind dictOf
    | .dct kvs => some (.dct kvs)
    | _ => none)
  | _ => none
section
variable {wd : World} {K : Fg} {mg : Str → Option Value} {α β : List Addr} {F F1 H H1 : Hp} {S : Sto}
/-- the pairs, by values -/
theorem pairs_see (s : Sub F H) : ∀ {us : List V} {ds : List D} {kvs : List (D × D)}, DVs wd K mg F α us ds → pairsOf ds = some kvs → ∃ prs : List (V × V), PairsV K H us prs ∧ DVs wd K mg F α (prs.map (·.1)) (kvs.map (·.1)) ∧ DVs wd K mg F α (prs.map (·.2)) (kvs.map (·.2))
  | _, [], kvs, h, e => by
    unfold pairsOf at e
    cases e
    cases h
    exact ⟨[], .nil, .nil, .nil⟩
  | _, d :: ds, kvs, h, e => by
    unfold pairsOf at e
    split at e
    · rename_i p ps e1 e2
      cases e
      cases h with
      | cons h1 h2 =>
        obtain ⟨prs, g1, g2, g3⟩ := pairs_see s h2 e2
        unfold pairOf at e1
        split at e1
        · cases e1
          cases h1 with
          | tup q t =>
            cases t with
            | cons t1 t2 => cases t2 with
              | cons t2 t3 =>
                cases t3
                exact ⟨(_, _) :: prs, .cons ⟨_, rfl, s.sqT q.1⟩ g1, .cons t1 g2, .cons t2 g3⟩
        · cases e1
    · cases e
theorem nkeysOf (s : Sub F H) : ∀ {kvs : List (D × D)} {prs : List (V × V)}, kvs.all (fun p => isKeyN p.1) = true → DVs wd K mg F α (prs.map (·.1)) (kvs.map (·.1)) → DVs wd K mg F α (prs.map (·.2)) (kvs.map (·.2)) →
    ∃ xs : List (NestedKey × Addr × V), prs = xs.map (fun x => (.ref x.2.1, x.2.2)) ∧ NVs wd K mg F α xs kvs
  | [], [], _, _, _ => ⟨[], rfl, .nil⟩
  | [], _ :: _, _, h, _ => by have := h.length; simp at this
  | _ :: _, [], _, h, _ => by have := h.length; simp at this
  | (q, d) :: kvs, (x, y) :: ps, hk, h, g => by
    rw [List.all_cons, Bool.and_eq_true] at hk
    have h' : DVs wd K mg F α (x :: ps.map (·.1)) (q :: kvs.map (·.1)) := h
    have g' : DVs wd K mg F α (y :: ps.map (·.2)) (d :: kvs.map (·.2)) := g
    cases h' with
    | cons h1 h2 =>
      cases g' with
      | cons g1 g2 =>
        obtain ⟨xs, e1, e2⟩ := nkeysOf s hk.2 h2 g2
        obtain ⟨ds, nk, eq, k1, k2⟩ := isKeyN_ex hk.1
        have eq : q = .tup ds := eq
        subst eq
        obtain ⟨b, rfl⟩ := DV.isRef h1
        exact ⟨(nk, b, y) :: xs, by rw [e1]; rfl, .cons k1 k2 h1 ⟨_, rfl⟩ g1 e2⟩
theorem NVs.merge {more : List (NestedKey × Addr × V)} {mk : List (D × D)} (g : NVs wd K mg F α more mk) : ∀ {xs : List (NestedKey × Addr × V)} {kvs : List (D × D)}, NVs wd K mg F α xs kvs → NVs wd K mg F α (mergeV xs more) (mergeN kvs mk) := by
  induction g with
  | nil => exact fun h => h
  | cons h1 h2 h3 h4 h5 _ ih => exact fun h => ih (h.put h1 h2 h3 h4 h5)
end
section
variable {X : Cx} {W : WX} {a b c e tg : Expr} {es rest : List Expr} {ra rb rc : RE} {rs : RA} {pos p : Pos}
/-- a thing that a class makes -/
theorem pf_callTG {x : Str} {T : String} {g : Sto → List D → Option D} {r : List V → Hp → VK → Prop} (hc : CallR X (.type T) r) (hgk : ∀ α F H S xs ds z Q, Rel X.w X.K X.mg α F H S → DVs X.w X.K X.mg F α xs ds → g S ds = some z → z.open = true ∧ ((∀ p o, H p = none → Own X.w X.K X.mg F α (upd H p o) p z → Q (.ref p) (upd H p o)) → r xs H Q))
    (hm : X.mg x = none) (ha : PDs X W (e :: es) rs) (hg : Gl X x := by rfl) (hv : bootBuiltins x = some (.type T) := by decide +kernel) (hn : x ≠ "__name__" := by decide) (hdb : (x == ("__debug__" : Str)) = false := by decide)
    (he : starEach (e :: es) X.env = (false, eval e X.env) :: starEach es X.env := by rfl) (hpl : (backTo pos (starEach es X.env)).any (·.1) = false := by rfl) : PF X W (.Call (.Name x p) (e :: es) [] pos) (rAs g rs) := by
  obtain ⟨t, pt, st⟩ := ha.ex
  refine ⟨_, pe_callTy hc hg hm hv pt hn hdb he hpl, fun α F σ H δ S Q hr hs h => ?_⟩
  refine st α F σ H δ S _ hr hs (wpF.bind h fun ds S1 _ xs H1 β F1 r1 q1 v1 h1 => ?_)
  cases eg : g S1 ds with
  | none => rw [eg] at h1; exact h1.elim
  | some z =>
    rw [eg] at h1
    obtain ⟨e1, e2⟩ := hgk _ F1 H1 S1 xs ds z Q r1 v1 eg
    exact e2 fun p o hp ho => wpF.lay h1 r1 hp ho e1
theorem dictOf_see {α : List Addr} {F H : Hp} {S : Sto} {us : List V} {ds : List D} {z : D} {Q : VK} {a : Addr} (hr : Rel X.w X.K X.mg α F H S) (hv : DVs X.w X.K X.mg F α us ds) (e : (pairsOf ds).bind dictOf = some z) (ha : DArg X.K H a us) :
    z.open = true ∧ ((∀ p o, H p = none → Own X.w X.K X.mg F α (upd H p o) p z → Q (.ref p) (upd H p o)) →
      (∃ (a' : Addr) (us : List V) (kvs : List (Key × V)), [V.ref a] = [.ref a'] ∧ DArg X.K H a' us ∧ PairsV X.K H us (kvs.map fun p => (kV p.1, p.2)) ∧ ∀ p, H p = none → Q (.ref p) (upd H p (.dK (mergeK [] kvs)))) ∨
      ∃ (a' : Addr) (us : List V) (xs : List (NestedKey × Addr × V)), [V.ref a] = [.ref a'] ∧ DArg X.K H a' us ∧ NKeys X.K H xs ∧ PairsV X.K H us (xs.map fun x => (.ref x.2.1, x.2.2)) ∧ ∀ p, H p = none → Q (.ref p) (upd H p (dN X.w p (mergeV [] xs)))) := by
  obtain ⟨kvs, e1, e2⟩ := Option.bind_eq_some_iff.mp e
  obtain ⟨prs, g1, g2, g3⟩ := pairs_see hr.sub hv e1
  unfold dictOf at e2
  split at e2
  · rename_i hk
    cases e2
    obtain ⟨ws, k1, k2⟩ := keysOf hk g2 g3
    refine ⟨rfl, fun q => .inl ⟨a, us, ws, rfl, ha, by rw [k1] at g1; exact g1, fun p hp => q p _ hp (Own.dctK.mpr ⟨_, upd_same, KVs.merge k2 .nil⟩)⟩⟩
  · split at e2
    · rename_i hk
      cases e2
      obtain ⟨xs, k1, k2⟩ := nkeysOf hr.sub hk g2 g3
      exact ⟨rfl, fun q => .inr ⟨a, us, xs, rfl, ha, k2.keys hr.sub, by rw [k1] at g1; exact g1, fun p hp => q p _ hp ⟨_, upd_same, k2.merge .nil⟩⟩⟩
    · cases e2
theorem pf_dict (hc : X.calm = true) (hu : X.A.units + 12 < cLine) (hm : X.mg "dict" = none) (ha : PDs X W (e :: es) rs) (hg : Gl X "dict" := by rfl) (he : starEach (e :: es) X.env = (false, eval e X.env) :: starEach es X.env := by rfl) (hpl : (backTo pos (starEach es X.env)).any (·.1) = false := by rfl) :
    PF X W (.Call (.Name "dict" p) (e :: es) [] pos) (rAs gDict rs) := pf_callTG (((cr_dictK hc).or (cr_dictN hc hu)).or call_dictD) (fun α F H S xs ds z Q hr hv hz => by
  unfold gDict at hz
  split at hz
  · cases hv with
    | cons h1 h2 =>
      cases h2
      split at hz
      · rename_i ys e1
        obtain ⟨l, us, rfl, a1, a2⟩ := hr.viewL h1 e1
        obtain ⟨g1, g2⟩ := dictOf_see (Q := Q) hr a2 hz (.inl a1)
        exact ⟨g1, fun q => .inl (g2 q)⟩
      · rename_i ys e1
        have s := hr.see h1
        rw [e1] at s
        cases s with
        | «at» h _ =>
          cases h with
          | tup q t =>
            obtain ⟨g1, g2⟩ := dictOf_see (Q := Q) hr t hz (.inr (hr.sub.plT q))
            exact ⟨g1, fun q => .inl (g2 q)⟩
      · rename_i kvs e1
        cases hz
        obtain ⟨l, ws, rfl, a1, a2⟩ := hr.viewD h1 e1
        exact ⟨rfl, fun q => .inr ⟨l, ws, rfl, a1, fun p hp => q p _ hp (Own.dctK.mpr ⟨_, upd_same, a2⟩)⟩⟩
      · cases hz
  · cases hz) hm ha hg (by decide +kernel) (by decide) (by decide) he hpl
end
end DL
set_option Elab.async false
set_option linter.all false
set_option maxRecDepth 100000
set_option maxHeartbeats 4000000
set_option autoImplicit false
/-! Data layer: sorted(d.items()). -/
namespace DL
open PySem PySem.Spec PyProof.Rows L2
/-- tuples that are laid, one after the other, for good -/
inductive Grow : Hp → List Addr → List (V × V) → Hp → Prop
  | nil {H : Hp} : Grow H [] [] H
  | cons {H H2 : Hp} {T : Addr} {Ts : List Addr} {p : V × V} {ps : List (V × V)} {o : Obj} : H T = none → o.dict = none → Grow (upd H T (.frz o (.tup [p.1, p.2]))) Ts ps H2 → Grow H (T :: Ts) (p :: ps) H2
theorem Grow.keeps {H H2 : Hp} {Ts : List Addr} {ps : List (V × V)} (g : Grow H Ts ps H2) : ∀ {b : Addr} {o : HO}, H b = some o → H2 b = some o := by
  induction g with
  | nil => exact fun e => e
  | cons h _ _ ih => exact fun e => ih (upd_some h e)
section
open PySem.W
variable {X : Cx} {pins : List (Addr × Obj)} {σ : L2.St} {H H0 H1 : Hp} {s : Shared} {h' : Heap} {tk : Nat}
theorem takeG (I0 : Inv X pins σ H0 s) : ∀ (as : List Addr) (ps : List (V × V)) (H1 : Hp), Inv X pins σ H1 { s with heap := h', toks := tk } → as.Nodup →
    EachIs (fun a (p : V × V) => s.heap.objs.size ≤ a ∧ ∃ o : Obj, o.dict = none ∧ ∀ H2, ObjOk X.prog X.w H2 h' a (.frz o (.tup [p.1, p.2]))) as ps → (∀ a ∈ as, H1 a = none) →
    ∃ H2, Inv X pins σ H2 { s with heap := h', toks := tk } ∧ Grow H1 as ps H2 ∧ ∀ b, b ∉ as → H2 b = H1 b
  | _, _, H1, I1, _, .nil, _ => ⟨H1, I1, .nil, fun _ _ => rfl⟩
  | a :: as, p :: ps, H1, I1, hn, .cons h t, hf => by
    obtain ⟨hb, o, ho, ok⟩ := h
    have hnone := hf a List.mem_cons_self
    have I2 : Inv X pins σ (upd H1 a (.frz o (.tup [p.1, p.2]))) { s with heap := h', toks := tk } := I1.take (h' := h') (t' := tk) (fun b ob _ e => e) (I0.fpOk hb hnone) (ok _)
    rw [List.nodup_cons] at hn
    obtain ⟨H2, I3, g, q⟩ := takeG I0 as ps _ I2 hn.2 t fun c hc => by
      rw [upd_ne (fun z => hn.1 (by rw [← z]; exact hc))]
      exact hf c (List.mem_cons_of_mem _ hc)
    refine ⟨H2, I3, .cons hnone ho g, fun b hb => ?_⟩
    rw [List.mem_cons, not_or] at hb
    rw [q b hb.2, upd_ne hb.1]
end
/-- the pairs of the dict at a -/
def ItSrc (w : World) (H : Hp) (a : Addr) (prs : List (V × V)) : Prop :=
  (∃ ws : List (Key × V), Rd H a (.dK ws) ∧ prs = ws.map fun p => (kV p.1, p.2)) ∨ ∃ xs, Rd H a (dN w a xs) ∧ prs = xs.map fun x => (.ref x.2.1, x.2.2)
section
open PySem.W
variable {X : Cx} {pins : List (Addr × Obj)} {σ : L2.St} {H : Hp} {s : Shared} {a : Addr} {prs : List (V × V)}
theorem pairs_rel {P : Program} {w : World} : ∀ {es : List DictEntry} {vs : List (Key × Value)} {ws : List (Key × V)}, PySem.Pairs (mixKind P w) es vs → KV ws vs → EachIs (fun (e : DictEntry) (p : V × V) => RelV p.1 e.key ∧ RelV p.2 e.val) es (ws.map fun p => (kV p.1, p.2))
  | _, _, _, .nil, h => by cases h; exact .nil
  | _, _, _, .cons h1 h2 t, h => by
    cases h with
    | cons g gt => exact .cons ⟨by show RelV (kV _) _; rw [g.1]; exact relV_key h1, by rw [h2]; exact g.2⟩ (pairs_rel t gt)
theorem nv_rel {w : World} : ∀ {xs : List (NestedKey × Addr × V)} {vs : List (NestedKey × Addr × Value)}, NV xs vs → EachIs (fun (e : DictEntry) (p : V × V) => RelV p.1 e.key ∧ RelV p.2 e.val) (vs.map fun x => (⟨x.1.hash w, .ref x.2.1, x.2.2⟩ : DictEntry)) (xs.map fun x => (.ref x.2.1, x.2.2))
  | _, _, .nil => .nil
  | _, _, .cons h t => .cons ⟨by show Value.ref _ = Value.ref _; rw [h.2.1], h.2.2⟩ (nv_rel t)
theorem itsrc_at (I : Inv X pins σ H s) (h : ItSrc X.w H a prs) : (a == sysModules) = false ∧ prs.length ≤ sizeLine ∧ ∃ (es : Array DictEntry) (ep : Nat), DT.Raw s.heap a es ep ∧ EachIs (fun (e : DictEntry) (p : V × V) => RelV p.1 e.key ∧ RelV p.2 e.val) es.toList prs := by
  rcases h with ⟨ws, e, rfl⟩ | ⟨xs, e, rfl⟩
  · obtain ⟨z, hs, vs, kv, o, es, ep, ho, hx, hdt, r⟩ := (show ObjOk X.prog X.w H s.heap a (.dK ws) from e.ok I.hok)
    exact ⟨hs, by rw [List.length_map]; exact z, es, ep, ⟨o, ho, hx, hdt⟩, pairs_rel r.2.1 kv⟩
  · obtain ⟨⟨h1, h2, h3, vs, h4, o, es, ep, h5, h6, h7, h8⟩, _⟩ := (show ObjOk X.prog X.w H s.heap a (dN X.w a xs) from e.ok I.hok)
    exact ⟨h1, by rw [List.length_map]; exact h2, es, ep, ⟨o, h5, h6, h7⟩, by rw [h8]; exact nv_rel h4⟩
end
mutual
theorem reads_lt {h : Heap} : ∀ {v : Value} {d : PyData} {as : List Addr}, Reads h v d as → ∀ a ∈ as, a < h.objs.size
  | _, _, _, .none => fun _ z => nomatch z
  | _, _, _, .bool b => fun _ z => nomatch z
  | _, _, _, .int i t => fun _ z => nomatch z
  | _, _, _, .str x t => fun _ z => nomatch z
  | _, _, _, .list h1 h2 h3 h4 => fun a z => by
    rcases List.mem_cons.mp z with rfl | z
    · exact Heap.lt_size h1
    · exact readsAll_lt h4 a z
  | _, _, _, .tuple h1 h2 h3 h4 => fun a z => readsAll_lt h4 a z
  | _, _, _, .dict h1 h2 h3 h4 h5 => fun a z => by
    rcases List.mem_cons.mp z with rfl | z
    · exact Heap.lt_size h1
    · rcases List.mem_append.mp z with z | z
      · exact readsAll_lt h4 a z
      · exact readsAll_lt h5 a z
theorem readsAll_lt {h : Heap} : ∀ {vs : List Value} {ds : List PyData} {as : List Addr}, ReadsAll h vs ds as → ∀ a ∈ as, a < h.objs.size
  | _, _, _, .nil => fun _ z => nomatch z
  | _, _, _, .cons h1 h2 => fun a z => by
    rcases List.mem_append.mp z with z | z
    · exact reads_lt h1 a z
    · exact readsAll_lt h2 a z
end
/-- the pairs' data -/
inductive DpPs (K : Fg) (H : Hp) : List (V × V) → List PyData → Prop
  | nil : DpPs K H [] []
  | cons {p : V × V} {x y : PyData} {prs : List (V × V)} {ps : List PyData} : Dp K H p.1 x → Dp K H p.2 y → DpPs K H prs ps → DpPs K H (p :: prs) (.tuple [x, y] :: ps)
theorem DpPs.length {K : Fg} {H : Hp} {prs : List (V × V)} {ps : List PyData} (h : DpPs K H prs ps) : prs.length = ps.length := by
  induction h with
  | nil => rfl
  | cons _ _ _ ih => rw [List.length_cons, List.length_cons, ih]
def rSortIt (X : Cx) : List V → Hp → VK → Prop := fun vs H Q => ∃ (p a : Addr) (prs : List (V × V)) (ps : List PyData), vs = [.ref p] ∧ H p = some (L2.DX.itemsO p a) ∧ ItSrc X.w H a prs ∧ DpPs X.K H prs ps ∧ sortable ps = true ∧
  ∀ (Ts : List Addr) (H2 : Hp), Grow H Ts prs H2 → ∀ l, H2 l = none → H l = none → Q (.ref l) (upd H2 l (.lst (sortBy (Ts.map .ref) ps)))
def rItemsE (w : World) : V → List V → Hp → VK → Prop := fun x xs H Q => ∃ (a : Addr) (prs : List (V × V)), x = .ref a ∧ xs = [] ∧ ItSrc w H a prs ∧ ∀ p, H p = none → Q (.ref p) (upd H p (L2.DX.itemsO p a))
section
open PySem.W
variable {X : Cx} {W : WX} {o : Expr} {to : TE} {p : Pos} {apos cpos pos : Pos}
theorem each_get {A B : Type} {R : A → B → Prop} {as : List A} {bs : List B} (h : EachIs R as bs) : ∀ {i : Nat} {a : A}, as[i]? = some a → ∃ b, bs[i]? = some b ∧ R a b := by
  induction h with
  | nil => intro i a e; simp at e
  | cons r t ih =>
    intro i a' e
    cases i with
    | zero => simp at e; subst e; exact ⟨_, rfl, r⟩
    | succ j => simp at e; obtain ⟨b, h1, h2⟩ := ih e; exact ⟨b, by simpa using h1, h2⟩
theorem each_of {A B : Type} {R : A → B → Prop} : ∀ {as : List A} {bs : List B}, as.length = bs.length → (∀ (i : Nat) (a : A) (b : B), as[i]? = some a → bs[i]? = some b → R a b) → EachIs R as bs
  | [], [], _, _ => .nil
  | a :: as, b :: bs, hl, h => .cons (h 0 a b rfl rfl) (each_of (by simpa using hl) fun i x y e1 e2 => h (i + 1) x y (by simpa using e1) (by simpa using e2))
theorem each_len {A B : Type} {R : A → B → Prop} {as : List A} {bs : List B} (h : EachIs R as bs) : as.length = bs.length := by
  induction h with
  | nil => rfl
  | cons _ _ ih => rw [List.length_cons, List.length_cons, ih]
theorem dpps_get {K : Fg} {H : Hp} {prs : List (V × V)} {ps : List PyData} (h : DpPs K H prs ps) : ∀ {i : Nat} {q : V × V} {d : PyData}, prs[i]? = some q → ps[i]? = some d → ∃ x y, d = .tuple [x, y] ∧ Dp K H q.1 x ∧ Dp K H q.2 y := by
  induction h with
  | nil => intro i q d e; simp at e
  | cons h1 h2 _ ih =>
    intro i q d e1 e2
    cases i with
    | zero => simp at e1 e2; subst e1; subst e2; exact ⟨_, _, rfl, h1, h2⟩
    | succ j => simp at e1 e2; exact ih e1 e2
theorem reads2 {h : Heap} {a : Addr} {o : Obj} {u v : Value} {n : Nat} {x y : PyData} {as bs : List Addr} (ho : h.get? a = some o) (hc : o.cls = .type "tuple") (hd : o.data = .seq #[u, v] n) (h1 : Reads h u x as) (h2 : Reads h v y bs) : ∃ cs, Reads h (.ref a) (.tuple [x, y]) cs :=
  ⟨_, .tuple ho hc hd (.cons h1 (.cons h2 .nil))⟩
theorem sortable_ok {ps : List PyData} (h : sortable ps = true) : AllAlike ps ∧ Sortable ps ∧ ∀ d ∈ ps, d.depth ≤ 40 := by
  unfold sortable at h
  rw [Bool.and_eq_true, Bool.and_eq_true, Bool.or_eq_true] at h
  obtain ⟨k1, k2, k3⟩ := h
  refine ⟨fun d hd d' hd' => List.all_eq_true.mp (List.all_eq_true.mp k2 d hd) d' hd', ?_, fun d hd => of_decide_eq_true (List.all_eq_true.mp k3 d hd)⟩
  rcases k1 with k1 | k1
  · refine .inl fun d hd => ?_
    have := List.all_eq_true.mp k1 d hd
    match d, this with
    | .tuple (x :: r), _ => exact ⟨x, r, rfl⟩
  · refine .inr fun d hd => ?_
    have := List.all_eq_true.mp k1 d hd
    refine ⟨fun z => ?_, fun xs z => ?_⟩ <;> subst z <;> exact absurd this (by simp [noTup])
theorem cr_sortIt (hc : X.calm = true) (hu : X.A.units + 64 < cLine) : CallR X (.builtin "sorted") (rSortIt X) := by
  intro pins s σ H xs us Q I r h
  obtain ⟨p, a, prs, ps, rfl, hp, src, dp, so, q⟩ := h
  obtain rfl := Vals.ref1 r
  have view : s.heap.IsItemsView p a := (show ObjOk X.prog X.w H s.heap p (L2.DX.itemsO p a) from I.hok p _ hp).1
  obtain ⟨hd, hz, es, ep, raw, rel⟩ := itsrc_at I src
  have hes : es.size = prs.length := by rw [← Array.length_toList]; exact each_len rel
  refine DT.sortedI (es := es) (ep := ep) (I.ok.hd hc) view raw (by omega) fun h' tk as hk hlt hl hG => ?_
  have lak : as.length = prs.length := by omega
  have nd : as.Nodup := List.Pairwise.imp (fun h => Nat.ne_of_lt h) hG.rise
  have I1 : Inv X pins σ H { s with heap := h', toks := tk } := I.kept (t' := tk) hk
  have new : EachIs (fun a (p : V × V) => s.heap.objs.size ≤ a ∧ ∃ o : Obj, o.dict = none ∧ ∀ H2, ObjOk X.prog X.w H2 h' a (.frz o (.tup [p.1, p.2]))) as prs := each_of lak fun i b pr e1 e2 => by
    obtain ⟨e, h1, h2⟩ := hG.pairs i b e1
    refine ⟨Nat.le_of_lt (hG.above b (List.mem_of_getElem? e1)), _, rfl, fun H2 => ⟨h2, by show 2 ≤ sizeLine; decide, [e.key, e.val], ?_, _, h2, rfl, 0, rfl⟩⟩
    obtain ⟨pr', g1, g2, g3⟩ := each_get rel (i := i) (a := e) (by rw [Array.getElem?_toList]; exact h1)
    rw [e2] at g1
    cases g1
    exact .cons g2 (.cons g3 .nil)
  have fresh : ∀ b ∈ as, H b = none := fun b hb => I.hok.fresh (Nat.le_of_lt (hG.above b hb))
  obtain ⟨H2, I2, gr, oth⟩ := takeG I as prs H I1 nd new fresh
  have hob : (h'.push { cls := .type "list", data := .seq (as.map Value.ref).toArray }).get? h'.objs.size = some (seqObj "list" (as.map Value.ref).toArray 0) := Heap.get?_push_size _ rfl
  have ka : ∀ b o, h'.get? b = some o → (h'.push { cls := .type "list", data := .seq (as.map Value.ref).toArray }).get? b = some o := fun b o e => Heap.get?_push_of_some _ e
  generalize hh2 : h'.push { cls := .type "list", data := .seq (as.map Value.ref).toArray } = h2 at hob ka ⊢
  obtain ⟨hal, hso, hdp⟩ := sortable_ok so
  have lps : ps.length = as.length := by rw [lak, dp.length]
  have ml : ((as.map V.ref).zip ps).map (·.2) = ps := List.map_snd_zip (by rw [List.length_map, lps]; exact Nat.le_refl _)
  have e1 : EachIs (fun u (b : V × PyData) => RelV b.1 u) (as.map Value.ref) ((as.map V.ref).zip ps) := each_of (by rw [List.length_zip, List.length_map, List.length_map, lps, Nat.min_self]) fun i u b g1 g2 => by
    rw [List.getElem?_map] at g1
    obtain ⟨T, hT, rfl⟩ := Option.map_eq_some_iff.mp g1
    obtain ⟨g3, g4⟩ := List.getElem?_zip_eq_some.mp g2
    rw [List.getElem?_map, hT] at g3
    have g3' : V.ref T = b.1 := Option.some.inj g3
    show RelV b.1 (.ref T)
    rw [← g3']
    rfl
  have e2 : EachIs (fun u (b : V × PyData) => ∃ cs, Reads h2 u b.2 cs ∧ h'.objs.size ∉ cs) (as.map Value.ref) ((as.map V.ref).zip ps) := each_of (by rw [List.length_zip, List.length_map, List.length_map, lps, Nat.min_self]) fun i u b g1 g2 => by
    rw [List.getElem?_map] at g1
    obtain ⟨T, hT, rfl⟩ := Option.map_eq_some_iff.mp g1
    obtain ⟨g3, g4⟩ := List.getElem?_zip_eq_some.mp g2
    obtain ⟨e, h1, hTo⟩ := hG.pairs i T hT
    obtain ⟨pr', g5, g6, g7⟩ := each_get rel (i := i) (a := e) (by rw [Array.getElem?_toList]; exact h1)
    obtain ⟨x, y, g8, g9, g10⟩ := dpps_get dp g5 g4
    obtain ⟨as1, r1⟩ := Dp.reads I _ _ _ g9 g6
    obtain ⟨as2, r2⟩ := Dp.reads I _ _ _ g10 g7
    obtain ⟨cs, r3⟩ := reads2 hTo rfl rfl (PyProof.Rows.Reads.keeps hk r1) (PyProof.Rows.Reads.keeps hk r2)
    rw [g8]
    exact ⟨cs, PyProof.Rows.Reads.keeps ka r3, fun z => Nat.lt_irrefl _ (reads_lt r3 _ z)⟩
  have sl : ((as.map V.ref).zip ps).length = as.length := by rw [List.length_zip, List.length_map, lps, Nat.min_self]
  refine list_sort_data (s := { s with heap := h2, toks := tk }) (enc := fun b : V × PyData => b.2) hob e1 e2 (by rw [ml]; exact hal) (by rw [ml]; exact hso) (by rw [sl]; omega) (fun b hb => ?_) fun out o1 o2 => ?_
  · have := hdp b.2 (by rw [← ml]; exact List.mem_map.mpr ⟨b, hb, rfl⟩)
    show X.A.units + 1 + 1 + b.2.depth < cLine
    omega
  · show EP X pins σ Q (.ref h'.objs.size) { s with heap := sortedHeap h2 h'.objs.size (as.map Value.ref) (List.toArray out), toks := tk }
    have kF : ∀ b o, b ≠ h'.objs.size → h2.get? b = some o → (sortedHeap h2 h'.objs.size (as.map Value.ref) (List.toArray out)).get? b = some o := fun b o hb e => (PyProof.Rows.sortedHeap_old hb (Heap.lt_size e)).trans e
    have kS : ∀ b o, h'.get? b = some o → (sortedHeap h2 h'.objs.size (as.map Value.ref) (List.toArray out)).get? b = some o := fun b o e => kF b o (Nat.ne_of_lt (Heap.lt_size e)) (ka b o e)
    obtain ⟨eF, heF⟩ := PyProof.Rows.sortedHeap_at (vs := as.map Value.ref) (out := List.toArray out) hob
    have I3 : Inv X pins σ H2 { s with heap := sortedHeap h2 h'.objs.size (as.map Value.ref) (List.toArray out), toks := tk } := I2.kept (t' := tk) kS
    have hn0 : H h'.objs.size = none := I.hok.fresh (Nat.le_of_lt hlt)
    have hn : H2 h'.objs.size = none := by rw [oth _ (fun z => Nat.lt_irrefl _ (hG.there z))]; exact hn0
    have hv : Vals (sortBy (as.map V.ref) ps) out := each_vals (by
      have := each_map2 (R' := fun u v => RelV v u) (fun x => x) (fun b : V × PyData => b.1) (fun _ _ q => q) o2
      rw [List.map_id'] at this
      exact this)
    have hlen : (sortBy (as.map V.ref) ps).length ≤ sizeLine := by rw [sortBy_length (by rw [List.length_map, lps]), List.length_map]; omega
    exact ⟨.ref h'.objs.size, upd H2 h'.objs.size (.lst (sortBy (as.map V.ref) ps)), I3.take (h' := sortedHeap h2 h'.objs.size (as.map Value.ref) (List.toArray out)) (t' := tk) (fun b ob _ e => e) (I.fpOk (Nat.le_of_lt hlt) hn) ⟨hlen, out, eF, hv, heF⟩, rfl, q as H2 gr _ hn hn0⟩
theorem pe_itemsE (ho : PE X o to) (hbase : attributeBase o "items" X.env (eval o X.env) = eval o X.env := by rfl) (hline : (apos.endLine == cpos.line) = true := by rfl) :
    PE X (.Call (.Attribute o "items" apos) [] [] cpos) (fun σ H Q => to σ H fun x H1 => rItemsE X.w x [] H1 Q) := by
  refine ⟨fun pins s σ H Q I h => ?_⟩
  refine wpAny_Call_method (T := "dict") (id := "dict.items") hbase rfl hline PySem.F.plainAttrs_dict PySem.F.slot_dict_items PySem.F.type_dict_items (thn (ho.run pins s σ H _ I h) fun u s1 ⟨x, H1, I1, rx, a, prs, ex, _, src, q⟩ => ?_)
  subst ex
  obtain rfl : u = Value.ref a := rx
  obtain ⟨hd, _, es, ep, raw, _⟩ := itsrc_at I1 src
  refine ⟨raw.typeIs, fun b e => ?_, ?_⟩
  · cases e; obtain ⟨o, h1, h2, _⟩ := raw; exact ⟨o, h1, h2.2.1⟩
  · show wpAny _ _ (callWith cpos (.builtin "dict.items") [.ref a] [] []) _ X.xe s1
    refine Calls.callWith_builtin rfl (PySem.evalArgs_none (DT.callItems (es := es) (ep := ep) hd raw ?_))
    exact ⟨.ref s1.heap.objs.size, upd H1 s1.heap.objs.size (L2.DX.itemsO s1.heap.objs.size a), I1.laid (t' := s1.toks) (fun b u e => Heap.get?_push_of_some _ e) (Nat.le_refl _) (L2.DX.itemsO_ok (Heap.get?_push_size _ rfl)), rfl, q _ (I1.hok.fresh (Nat.le_refl _))⟩
end
/-! ### by data -/
/-- sorted(d.items()) -/
def itemsOf : D → Option (List D)
  | .dct kvs => some (kvs.map fun p => .tup [p.1, p.2])
  | .dcn kvs => some (kvs.map fun p => .tup [p.1, p.2])
  | _ => none
def rSortItems (a : RE) : RE := fun δ S => (a δ S).bind fun d S1 => .lift (((itemsOf (deref S1 d)).bind (sortD S1)).map .lst) S1
section
open PySem.W
variable {wd : World} {K : Fg} {mg : Str → Option Value} {α β : List Addr} {F F1 H H1 : Hp} {S : Sto}
theorem toPy_pair {x y : D} {r : PyData} (h : toPy S (.tup [x, y]) = some r) : ∃ p q, r = .tuple [p, q] ∧ toPy S x = some p ∧ toPy S y = some q := by
  unfold toPy toPys toPys toPys at h
  cases e1 : toPy S x with
  | none => rw [e1] at h; cases h
  | some p =>
    cases e2 : toPy S y with
    | none => rw [e1, e2] at h; cases h
    | some q => rw [e1, e2] at h; cases h; exact ⟨p, q, rfl, rfl, rfl⟩
theorem dp_pairs (s : Sub F H) : ∀ {prs : List (V × V)} {kvs : List (D × D)} {ps : List PyData}, EachIs (fun (p : V × V) (q : D × D) => DV wd K mg F α p.1 q.1 ∧ DV wd K mg F α p.2 q.2) prs kvs → toPys S (kvs.map fun p => .tup [p.1, p.2]) = some ps → DpPs K H prs ps
  | _, _, _, .nil, e => by cases e; exact .nil
  | _, _, _, .cons h t, e => by
    rw [List.map_cons] at e
    unfold toPys at e
    split at e
    · rename_i r rs e1 e2
      cases e
      obtain ⟨p, q, rfl, g1, g2⟩ := toPy_pair e1
      exact .cons (h.1.dp g1 s) (h.2.dp g2 s) (dp_pairs s t e2)
    · cases e
theorem Rel.items (hr : Rel wd K mg α F H S) {x : V} {d : D} {xs : List D} (hx : DV wd K mg F α x d) (e : itemsOf (deref S d) = some xs) :
    ∃ a prs kvs, x = .ref a ∧ ItSrc wd H a prs ∧ xs = kvs.map (fun p => .tup [p.1, p.2]) ∧ EachIs (fun (p : V × V) (q : D × D) => DV wd K mg F α p.1 q.1 ∧ DV wd K mg F α p.2 q.2) prs kvs := by
  have s := hr.see hx
  generalize hd : deref S d = dd at e s
  cases s with
  | «at» h _ => cases h <;> cases e
  | dead => cases e
  | lst _ _ => cases e
  | @dct a ws kvs rd k t =>
    cases e
    have kv := KVs.of k t
    refine ⟨a, _, kvs, rfl, .inl ⟨ws, rd, rfl⟩, rfl, each_of (by rw [List.length_map, kv.length]) fun i p q e1 e2 => ?_⟩
    obtain ⟨k, v, g1, g2, g3⟩ := kv.at e2
    rw [List.getElem?_map, g1] at e1
    cases e1
    exact ⟨by rw [g2]; exact DV.key k, g3⟩
  | @dcn a xs kvs rd t =>
    cases e
    refine ⟨a, _, kvs, rfl, .inr ⟨xs, rd, rfl⟩, rfl, each_of (by rw [List.length_map, t.length]) fun i p q e1 e2 => ?_⟩
    obtain ⟨k, b, v, g1, g2, g3⟩ := t.at e2
    rw [List.getElem?_map, g1] at e1
    cases e1
    exact ⟨g2, g3⟩
theorem Grow.rel : ∀ {Ts : List Addr} {prs : List (V × V)} {H H2 : Hp} {F : Hp}, Grow H Ts prs H2 → Rel wd K mg α F H S →
    ∃ F2, Rel wd K mg (α ++ []) F2 H2 S ∧ Stp α F H [] F2 H2 ∧ EachIs (fun T (p : V × V) => PlT K F2 T [p.1, p.2]) Ts prs
  | _, _, _, _, F, .nil, hr => ⟨F, by rw [List.append_nil]; exact hr, Stp.refl, .nil⟩
  | T :: Ts, p :: ps, H, H2, F, .cons (o := o) hn hd g, hr => by
    obtain ⟨r1, s1⟩ := hr.newF (o := .frz o (.tup [p.1, p.2])) hn
    rw [List.append_nil] at r1
    obtain ⟨F2, r2, s2, e2⟩ := Grow.rel g r1
    have s1' : Stp (α ++ []) (upd F T (.frz o (.tup [p.1, p.2]))) (upd H T (.frz o (.tup [p.1, p.2]))) [] F2 H2 := by rw [List.append_nil]; exact s2
    exact ⟨F2, r2, s1.trans s1', .cons (s2.sub.plT (PlT.new hd)) e2⟩
theorem pairs_dvs {F : Hp} : ∀ {Ts : List Addr} {prs : List (V × V)} {kvs : List (D × D)}, EachIs (fun T (p : V × V) => PlT K F T [p.1, p.2]) Ts prs → EachIs (fun (p : V × V) (q : D × D) => DV wd K mg F α p.1 q.1 ∧ DV wd K mg F α p.2 q.2) prs kvs → DVs wd K mg F α (Ts.map .ref) (kvs.map fun p => .tup [p.1, p.2])
  | _, _, _, .nil, .nil => .nil
  | _, _, _, .cons h t, .cons g u => .cons (.tup h (.cons g.1 (.cons g.2 .nil))) (pairs_dvs t u)
end
section
variable {X : Cx} {W : WX} {o : Expr} {ro : RE} {p apos cpos pos : Pos}
theorem pf_sortIt (hc : X.calm = true) (hu : X.A.units + 64 < cLine) (hm : X.mg "sorted" = none) (ho : PD X W o ro) (hg : Gl X "sorted" := by rfl)
    (hbase : attributeBase o "items" X.env (eval o X.env) = eval o X.env := by rfl) (hline : (apos.endLine == cpos.line) = true := by rfl)
    (he : starEach [.Call (.Attribute o "items" apos) [] [] cpos] X.env = (false, eval (.Call (.Attribute o "items" apos) [] [] cpos) X.env) :: starEach [] X.env := by rfl) (hpl : (backTo pos (starEach [] X.env)).any (·.1) = false := by rfl) :
    PF X W (.Call (.Name "sorted" p) [.Call (.Attribute o "items" apos) [] [] cpos] [] pos) (rSortItems ro) := by
  obtain ⟨to, po, so⟩ := ho.ex
  have inner := pe_itemsE (cpos := cpos) po hbase hline
  refine ⟨_, pe_callB (cr_sortIt hc hu) hg hm (by decide +kernel) (pa_cons inner pa_nil he) (by decide) (by decide) he hpl, fun α F σ H δ S Q hr hs h => ?_⟩
  refine so α F σ H δ S _ hr hs (wpF.bind h fun d S1 _ x H1 β F1 r1 q1 v1 h1 => ?_)
  cases e0 : itemsOf (deref S1 d) with
  | none => rw [e0] at h1; exact h1.elim
  | some ys =>
    rw [e0] at h1
    cases e3 : sortD S1 ys with
    | none => rw [Option.bind_some, e3] at h1; exact h1.elim
    | some zs =>
      rw [Option.bind_some, e3] at h1
      obtain ⟨a, prs, kvs, rfl, src, rfl, ev⟩ := r1.items v1 e0
      unfold sortD at e3
      split at e3
      · rename_i ps e4
        split at e3
        · rename_i hc4
          cases e3
          rw [Bool.and_eq_true] at hc4
          have dp := dp_pairs r1.sub ev e4
          refine ⟨a, prs, rfl, rfl, src, fun p hp => ?_⟩
          have n := r1.notin hp
          have f := r1.notF hp
          have r2 : Rel X.w X.K X.mg (α ++ β) F1 (upd H1 p (L2.DX.itemsO p a)) S1 := r1.other n f
          have sb2 : ∀ b u, H1 b = some u → upd H1 p (L2.DX.itemsO p a) b = some u := fun b u e => upd_some hp e
          refine ⟨p, a, prs, ps, rfl, upd_same, ?_, dp_pairs r2.sub ev e4, hc4.1, fun Ts H2 g l hl hl0 => ?_⟩
          · rcases src with ⟨ws, rd, e⟩ | ⟨xs, rd, e⟩
            · exact .inl ⟨ws, rd.imp (sb2 _ _) fun ⟨o, z⟩ => ⟨o, sb2 _ _ z⟩, e⟩
            · exact .inr ⟨xs, rd.imp (sb2 _ _) fun ⟨o, z⟩ => ⟨o, sb2 _ _ z⟩, e⟩
          · obtain ⟨F2, r3, s3, e5⟩ := g.rel r2
            have s2 : Stp (α ++ β) F1 H1 [] F1 (upd H1 p (L2.DX.itemsO p a)) := Stp.refl.other hp
            have s3' : Stp ((α ++ β) ++ []) F1 (upd H1 p (L2.DX.itemsO p a)) [] F2 H2 := by rw [List.append_nil]; exact s3
            have h3 := wpF.step (s2.trans s3') h1
            have dv := pairs_dvs (wd := X.w) (K := X.K) (mg := X.mg) (α := (α ++ β) ++ []) e5 (PySem.W.EachIs.mono (fun _ _ z => ⟨z.1.mono s3.sub, z.2.mono s3.sub⟩) ev)
            exact wpF.lay h3 r3 hl ⟨_, upd_same, dv.sort ps⟩ rfl
        · cases e3
      · cases e3
end
end DL
set_option Elab.async false
set_option linter.all false
set_option maxRecDepth 100000
set_option maxHeartbeats 4000000
set_option autoImplicit false
/-! Data layer: sorted(set(texts)). -/
namespace DL
open PySem PySem.Spec PyProof.Rows L2
def txV : Value → Str
  | .str x _ => x
  | _ => ⟨#[]⟩
def isTxV : Value → Bool
  | .str _ _ => true
  | _ => false
open PySem.Froz in
/-- the set of texts at a -/
def TxR (P : Program) (w : World) (h : Heap) (a : Addr) (l : List Str) : Prop :=
  ∃ D : SD, h.get? a = some (sObj "set" D) ∧ TxOk P w D l ∧ Ris D.2.2.place.toList ∧ (w.params.followText "set-order" = true ∨ D.2.2.led = true) ∧ (D.1.toList.map fun e => txV e.2).Perm l ∧ (∀ e ∈ D.1.toList, isTxV e.2 = true) ∧ l.Nodup
section
open PySem.Froz
variable {P : Program} {w : World} {A : Around} {E : Value → Shared → Prop} {s : Shared}
theorem TxR.keep {h h' : Heap} {a : Addr} {l : List Str} (R : TxR P w h a l) (k : ∀ o, h.get? a = some o → h'.get? a = some o) : TxR P w h' a l := by
  obtain ⟨D, ho, q⟩ := R
  exact ⟨D, k _ ho, q⟩
end
end DL
set_option Elab.async false
set_option linter.all false
set_option maxRecDepth 100000
set_option maxHeartbeats 4000000
set_option autoImplicit false
/-! Data layer: sorted(set(texts)), its end. -/
namespace DL
open PySem PySem.Spec PyProof.Rows L2
def leT (a b : Str) : Bool := decide (a.cps.toList ≤ b.cps.toList)
def sortT (l : List Str) : List Str := l.mergeSort leT
theorem leT_trans (a b c : Str) : leT a b = true → leT b c = true → leT a c = true := fun h g => decide_eq_true (List.le_trans (of_decide_eq_true h) (of_decide_eq_true g))
theorem leT_total (a b : Str) : (leT a b || leT b a) = true := by
  rw [Bool.or_eq_true]
  exact (List.le_total a.cps.toList b.cps.toList).imp decide_eq_true decide_eq_true
theorem strT_ext {a b : Str} (h : a.cps.toList = b.cps.toList) : a = b := by
  cases a; cases b
  exact congrArg Str.mk (Array.toList_inj.mp h)
theorem leT_anti (a b : Str) (h : leT a b = true) (g : leT b a = true) : a = b := strT_ext (List.le_antisymm (of_decide_eq_true h) (of_decide_eq_true g))
theorem sortT_pairwise (l : List Str) : (sortT l).Pairwise (fun a b => leT a b = true) := List.pairwise_mergeSort (le := leT) leT_trans leT_total l
theorem sortT_perm (l : List Str) : (sortT l).Perm l := List.mergeSort_perm l leT
end DL
set_option Elab.async false
set_option linter.all false
set_option maxRecDepth 100000
set_option maxHeartbeats 4000000
set_option autoImplicit false
/-! Data layer: slices with steps. -/
namespace DL
open PySem PySem.Spec PyProof.Rows L2
def SlRs (X : Cx) (r : V → Option Int → Option Int → Int → Hp → VK → Prop) : Prop :=
  ∀ (pins : List (Addr × Obj)) (s : Shared) (σ : L2.St) (H : Hp) (x : V) (v vl vu vk : Value) (lo hi : Option Int) (k : Int) (sl : Addr) (Q : VK), Inv X pins σ H s → RelV x v → s.heap.IsSliceOf sl vl vu vk → IsPart vl lo → IsPart vu hi → IsPart vk (some k) → r x lo hi k H Q →
    ∃ T id, typeLookup (.type T) "__getitem__" = pure (some (.builtin id)) ∧ s.TypeIs v T ∧ wpAny (model X.prog X.w) X.A (getItem v (.ref sl)) (EP X pins σ Q) X.xe s
section
variable {X : Cx} {e st : Expr} {te : TE} {lo hi : Option Expr} {tl th tk : TO} {pos p2 : Pos}
theorem SlRs.or {r r' : V → Option Int → Option Int → Int → Hp → VK → Prop} (h : SlRs X r) (h' : SlRs X r') : SlRs X (fun x lo hi k H Q => r x lo hi k H Q ∨ r' x lo hi k H Q) := by
  intro pins s σ H x v vl vu vk lo hi k sl Q I rx hs pl pu pk q
  rcases q with q | q
  · exact h pins s σ H x v vl vu vk lo hi k sl Q I rx hs pl pu pk q
  · exact h' pins s σ H x v vl vu vk lo hi k sl Q I rx hs pl pu pk q
end
/-! ### by data -/
end DL
set_option Elab.async false
set_option linter.all false
set_option maxRecDepth 100000
set_option maxHeartbeats 4000000
set_option autoImplicit false
/-! Data layer: sorted(set(texts)), zip of tuples, calls of defs that a name holds. -/
namespace DL
open PySem PySem.Spec PyProof.Rows L2
/-! ### sorted(set(texts)) -/
end DL
set_option Elab.async false
set_option linter.all false
set_option maxRecDepth 100000
set_option maxHeartbeats 4000000
set_option autoImplicit false
/-! Data layer: defs as values, small things. -/
namespace DL
open PySem PySem.Spec PyProof.Rows L2
section
variable {X : Cx} {W : WX} {pos p : Pos} {k n : Nat}
theorem Env1.u10 (h : Env1 X k) : X.A.units + 10 < cLine := by have := h.room.un; omega
theorem Env1.u12 (h : Env1 X k) : X.A.units + 12 < cLine := by have := h.room.un; omega
end
/-! ### a def that leaves what it made in the store -/
def mDefK (n : Nat) (b : RS) : Mir := fun ds S => match b (ds.map some ++ List.replicate (n - ds.length) none) S with
  | .rt d S1 => .ok d S1
  | .nx _ S1 => .ok .non S1
  | .err c fs _ S1 => .err c fs S1
  | _ => .stuck
theorem fn_okK {P : Program} {w : World} {K : Fg} {mg : Str → Option Value} {base : Heap} {x qual : Str} {st : Stmt} {f : Addr} {fd : FuncData} {N ps : List Str} {k : Nat} {r : RS} (Fu : Fun K x qual st f fd) (Sc : FnScope N ps (defScope st))
    (hbody : ∀ (cdv : Value) (A : Around) (outer : List Env) (s : Shared) (H : Hp) (E : XK), Room k (A.deeper (envOfC qual (defScope st) s.heap.objs.size f cdv)) → A.guards = some [] → PSds (cxOf (L2.CX P w) P w K mg base N qual (defScope st) f cdv A outer s H E) (fun cls d _ H => E cls d H) (defBody st) r) :
    FnG P w K mg base (k + 1) f fd ps (spD w K mg ps.length (mDefK N.length r)) := by
  refine fn_G Fu Sc (fun vs H Q E h => h.1) fun cdv A outer s H vs Q E hr hG h => ?_
  obtain ⟨hl, α, F, S, ds, h1, h2, h3⟩ := h
  obtain ⟨t, pt, st⟩ := (hbody cdv A outer s H E hr hG).ex
  refine ⟨t, pt, st α F _ H _ S _ h1 (slots_start h2) ?_⟩
  have h3 : wp w K mg α F H (relD w K mg) (mDefK N.length r ds S) Q E := h3
  unfold mDefK at h3
  cases q : r (ds.map some ++ List.replicate (N.length - ds.length) none) S with
  | nx δ S1 =>
    rw [q] at h3
    intro σ' H' β F' r1 s1 _
    exact h3 .non H' β F' r1 s1 .non
  | rt d S1 =>
    rw [q] at h3
    exact h3
  | err c fs δ S1 =>
    rw [q] at h3
    intro cls dd σ' H' β F' r1 s1 _ he
    exact h3 cls dd H' β F' r1 s1 he
  | bk δ S1 => rw [q] at h3; exact h3.elim
  | ct δ S1 => rw [q] at h3; exact h3.elim
  | stuck => rw [q] at h3; exact h3.elim
theorem fn_mkK {P : Program} {w : World} {K : Fg} {mg : Str → Option Value} {base : Heap} {x : Str} {st : Stmt} {N ps : List Str} {k : Nat} {r : RS} (Fu : Fd K mg x st ps) (Sc : FnScope N ps (defScope st))
    (hbody : ∀ (f : Addr) (cdv : Value) (A : Around) (outer : List Env) (s : Shared) (H : Hp) (E : XK), Env1 (cxOf (L2.CX P w) P w K mg base N x (defScope st) f cdv A outer s H E) k → Takes (cxOf (L2.CX P w) P w K mg base N x (defScope st) f cdv A outer s H E) (fun cls d _ H => E cls d H) →
      PSds (cxOf (L2.CX P w) P w K mg base N x (defScope st) f cdv A outer s H E) (fun cls d _ H => E cls d H) (defBody st) r) : Fn P w K mg base x ps.length (k + 1) (mDefK N.length r) := by
  obtain ⟨f, fd, h1, h2, h3⟩ := Fu.ex
  exact ⟨f, fd, ps, h2, h1.kp, h3, fn_okK h1 Sc fun cdv A outer s H E hr hG => hbody f cdv A outer s H E ⟨hr, hG, passes_of rfl⟩ (takes_of rfl rfl rfl rfl)⟩
section
variable {X : Cx} {pos : Pos} {k : Nat} {es : List Expr}
theorem plc_noT {vs : List Nat} {scope : Scope} {elt : Expr} {t : TGs} {u : List D → Sl → Sto → Res Sl} {re : RE} (hc : X.calm = true) (hg : ∀ (s : Shared) (H : Hp) (C : Addr) (cl : List (Str × Addr)) (fp : List Addr), PGxs (X.blk s H scope (compEnvC scope cl C X.env) fp) vs es t u)
    (he : ∀ (s : Shared) (H : Hp) (C : Addr) (cl : List (Str × Addr)) (fp : List Addr), PD (X.blk s H scope (compEnvC scope cl C X.env) fp) W0 elt re)
    (hn : ∀ (s : Shared) (H : Hp) (C : Addr) (cl : List (Str × Addr)) (fp : List Addr), (assignEach es (X.blk s H scope (compEnvC scope cl C X.env) fp).env).length = es.length := by intros; rfl)
    (hst : ∀ (s : Shared) (H : Hp) (C : Addr) (cl : List (Str × Addr)) (fp : List Addr), (assignEach es (X.blk s H scope (compEnvC scope cl C X.env) fp).env).findIdx? (·.1) = none := by intros; rfl) :
    PLc X vs scope (.Tuple es k pos) elt [] (L2.gTup X.K es.length t) tYes (gTup u) bYes re :=
  plc_no (fun s H C cl fp => pgx_tup (X := X.blk s H scope (compEnvC scope cl C X.env) fp) hc (hg s H C cl fp) (hn s H C cl fp) (hst s H C cl fp)) he
theorem plc_ifT {vs : List Nat} {scope : Scope} {elt c : Expr} {t : TGs} {u : List D → Sl → Sto → Res Sl} {bc : RB} {re : RE} (hca : X.calm = true) (hg : ∀ (s : Shared) (H : Hp) (C : Addr) (cl : List (Str × Addr)) (fp : List Addr), PGxs (X.blk s H scope (compEnvC scope cl C X.env) fp) vs es t u)
    (hc : ∀ (s : Shared) (H : Hp) (C : Addr) (cl : List (Str × Addr)) (fp : List Addr), PB (X.blk s H scope (compEnvC scope cl C X.env) fp) W0 c bc) (he : ∀ (s : Shared) (H : Hp) (C : Addr) (cl : List (Str × Addr)) (fp : List Addr), PD (X.blk s H scope (compEnvC scope cl C X.env) fp) W0 elt re)
    (hn : ∀ (s : Shared) (H : Hp) (C : Addr) (cl : List (Str × Addr)) (fp : List Addr), (assignEach es (X.blk s H scope (compEnvC scope cl C X.env) fp).env).length = es.length := by intros; rfl)
    (hst : ∀ (s : Shared) (H : Hp) (C : Addr) (cl : List (Str × Addr)) (fp : List Addr), (assignEach es (X.blk s H scope (compEnvC scope cl C X.env) fp).env).findIdx? (·.1) = none := by intros; rfl) :
    PLc X vs scope (.Tuple es k pos) elt [c] (L2.gTup X.K es.length t) (tCanB X.w X.K X.mg W0 bc) (gTup u) bc re :=
  plc_if (fun s H C cl fp => pgx_tup (X := X.blk s H scope (compEnvC scope cl C X.env) fp) hca (hg s H C cl fp) (hn s H C cl fp) (hst s H C cl fp)) hc he
end
/-! ### tests by cases, calls of nothing -/
def bIf (c a b : RB) : RB := fun δ S => (c δ S).bind fun k S1 => if k then a δ S1 else b δ S1
end DL
set_option Elab.async false
set_option linter.all false
set_option maxRecDepth 100000
set_option maxHeartbeats 4000000
set_option autoImplicit false
/-! Data layer: repr of data with numbers of up to 4300 figures. -/
namespace DL
open PySem PySem.Spec PyProof.Rows L2
mutual
def showW : PyData → Bool
  | .none => true
  | .bool _ => true
  | .str _ => true
  | .int i => decide (i.natAbs < 10 ^ 4300)
  | .list xs => showWs xs
  | .tuple xs => showWs xs
  | .dict _ => false
def showWs : List PyData → Bool
  | [] => true
  | x :: r => showW x && showWs r
end
section
variable {prog : Program} {w : World} {h₀ : Heap}
theorem call_int_reprW {A : Around} {E : Value → Shared → Prop} {s : Shared} {a : Int} {t : Tok} {Q : Value → Shared → Prop} (hn : s.heap.NoDigits) (ha : a.natAbs < 10 ^ 4300) (h : Q (.str (toString a) s.toks) { s with toks := s.toks + 1 }) : wpAny (model prog w) A (call (.builtin "int.__repr__") [.int a t]) Q E s := by
  refine wpAny_call_entry PySem.F.slot_int_repr (typeIs_int s a t) PySem.F.entry_int_repr ?_ (PySem.F.args_int_repr_1 _)
  unfold Builtin.«int.__repr__»
  show wpAny _ _ (do let r ← Builtin.overDigitLimit? a; _) _ _ s
  refine wpAny_bind (overDigitLimit_any hn (fun hlt => ?_) (fun hge => absurd ha (Nat.not_lt.mpr hge)))
  exact wpAny_bind (wpAny_mkStr (wpAny_pure ⟨_, rfl, h⟩) (int_text_fits10 hlt))
theorem reprK_int {as : List Addr} {d : Nat} {a : Int} {t : Tok} (hn : h₀.NoDigits) (ha : a.natAbs < 10 ^ 4300) : ReprK prog w as h₀ d (.int a t) (toString a) := by
  intro base hb A g E s Q hg hcl hu hk0 hQ
  rw [pyReprUnder_leaf (v := .int a t) (by omega) (fun _ e => nomatch e)]
  unfold pyRepr
  refine wpAny_bind (wpAny_pyReprObj_slot (by omega) (typeIs_int s a t) PySem.F.slot_int_repr.toG (call_int_reprW (hn.keeps hk0) ha ⟨_, _, rfl, wpAny_pure (hQ s.heap _ fun _ _ e => e)⟩))
mutual
theorem reprK_reads (hn : h₀.NoDigits) : ∀ {v : Value} {d : PyData} {as : List Addr}, Reads h₀ v d as → showW d = true → d.shown.length ≤ sizeLine → ∃ bs, ReadAtMost h₀ d.depth bs ∧ ReprK prog w bs h₀ d.depth v d.shown
  | _, _, _, .none, _, _ => ⟨[], (fun _ h => nomatch h), by simp only [PyData.shown]; exact .of_is ReprIs.none _ _ _⟩
  | _, _, _, .bool b, _, _ => ⟨[], (fun _ h => nomatch h), by simp only [PyData.shown]; exact .of_is (ReprIs.bool b) _ _ _⟩
  | _, _, _, .int i t, hs, _ => ⟨[], (fun _ h => nomatch h), by simp only [PyData.shown]; exact reprK_int hn (of_decide_eq_true (by unfold showW at hs; exact hs))⟩
  | _, _, _, .str x t, _, hz => ⟨[], (fun _ h => nomatch h), by simp only [PyData.shown]; exact .of_is (ReprIs.str x t (by simpa only [PyData.shown] using hz)) _ _ _⟩
  | _, _, _, .list (a := a) (vs := vs) (xs := xs) h1 h2 h3 h4, hs, hz => by
    have hz' : (listText (PyData.shownAll xs)).length ≤ sizeLine := by simpa only [PyData.shown] using hz
    unfold showW at hs
    obtain ⟨bs, hb, hk⟩ := reprAllK_reads hn h4 hs (fun t ht => Nat.le_trans (listText_mem_le ht) hz')
    have r : Reads h₀ (.ref a) (.list xs) _ := .list h1 h2 h3 h4
    have hna : a ∉ bs := not_mem_of_deeper r (by simp only [PyData.depth]; omega) hb
    refine ⟨a :: bs, ReadAtMost.cons r (by simp only [PyData.depth]; omega) hb, ?_⟩
    simp only [PyData.depth, PyData.shown]
    obtain ⟨l⟩ := vs
    cases l with
    | nil =>
      have h4' : ReadsAll h₀ [] xs _ := h4
      cases h4'
      simp only [PyData.shownAll, listText_nil]
      exact ReprK.listEmpty h1 h2 h3
    | cons x l => exact ReprK.list h1 h2 h3 hna (by simpa using hk.length_eq) (fun i y e => hk.item i y (by simpa using e))
  | _, _, _, .tuple (a := a) (xs := xs) h1 h2 h3 h4, hs, hz => by
    have hz' : (tupleText (PyData.shownAll xs)).length ≤ sizeLine := by simpa only [PyData.shown] using hz
    unfold showW at hs
    obtain ⟨bs, hb, hk⟩ := reprAllK_reads hn h4 hs (fun t ht => Nat.le_trans (tupleText_mem_le ht) hz')
    have r : Reads h₀ (.ref a) (.tuple xs) _ := .tuple h1 h2 h3 h4
    have hna : a ∉ bs := not_mem_of_deeper r (by simp only [PyData.depth]; omega) hb
    refine ⟨a :: bs, ReadAtMost.cons r (by simp only [PyData.depth]; omega) hb, ?_⟩
    simp only [PyData.depth, PyData.shown]
    exact ReprK.tuple h1 h2 h3 hna hk
  | _, _, _, .dict _ _ _ _ _, hs, _ => by unfold showW at hs; cases hs
theorem reprAllK_reads (hn : h₀.NoDigits) : ∀ {vs : List Value} {ds : List PyData} {as : List Addr}, ReadsAll h₀ vs ds as → showWs ds = true → (∀ t ∈ PyData.shownAll ds, t.length ≤ sizeLine) →
    ∃ bs, ReadAtMost h₀ (PyData.depthAll ds) bs ∧ ReprAllK prog w bs h₀ (PyData.depthAll ds) vs (PyData.shownAll ds)
  | _, _, _, .nil, _, _ => ⟨[], (fun _ h => nomatch h), by simp only [PyData.shownAll]; exact .nil⟩
  | _, _, _, .cons (d := d) (ds := ds) r rs, hs, hz => by
    unfold showWs at hs
    rw [Bool.and_eq_true] at hs
    obtain ⟨b1, hb1, k1⟩ := reprK_reads hn r hs.1 (hz _ (by simp only [PyData.shownAll]; exact List.mem_cons_self ..))
    obtain ⟨b2, hb2, k2⟩ := reprAllK_reads hn rs hs.2 (fun t ht => hz t (by simp only [PyData.shownAll]; exact List.mem_cons_of_mem _ ht))
    refine ⟨b1 ++ b2, ?_, ?_⟩
    · intro b hm
      simp only [PyData.depthAll]
      rcases List.mem_append.mp hm with hm | hm
      · obtain ⟨d', as', r', hd'⟩ := hb1 b hm
        exact ⟨d', as', r', Nat.le_trans hd' (Nat.le_max_left _ _)⟩
      · obtain ⟨d', as', r', hd'⟩ := hb2 b hm
        exact ⟨d', as', r', Nat.le_trans hd' (Nat.le_max_right _ _)⟩
    · simp only [PyData.depthAll, PyData.shownAll]
      exact .cons ((k1.more fun b hb => List.mem_append_left _ hb).level_le (Nat.le_max_left _ _)) (k2.more_le (fun b hb => List.mem_append_right _ hb) (Nat.le_max_right _ _))
end
theorem repr_of_readsW {a : Addr} {d : PyData} {as : List Addr} {A : Around} {E : Value → Shared → Prop} {s : Shared} {Q : Value → Shared → Prop} (hn : h₀.NoDigits) (r : Reads h₀ (.ref a) d as) (hs : showW d = true) (hg : A.guards = some []) (hu : A.units + (d.depth + 1) < cLine) (hk0 : ∀ b o, h₀.get? b = some o → s.heap.get? b = some o)
    (hQ : ∀ h' u tk, (∀ b o, s.heap.get? b = some o → h'.get? b = some o) → Q (.str d.shown u) { s with heap := h', toks := tk })
    (hsz : d.shown.length ≤ sizeLine) : wpAny (model prog w) A (call (.builtin "repr") [.ref a]) Q E s := by
  cases r with
  | list h1 h2 h3 h4 =>
    rename_i o vs n xs bs₀
    have hz' : (listText (PyData.shownAll xs)).length ≤ sizeLine := by simpa only [PyData.shown] using hsz
    unfold showW at hs
    obtain ⟨bs, hb, hk⟩ := reprAllK_reads (prog := prog) (w := w) hn h4 hs (fun t ht => Nat.le_trans (listText_mem_le ht) hz')
    have hna : a ∉ bs := not_mem_of_deeper (.list h1 h2 h3 h4) (by simp only [PyData.depth]; omega) hb
    refine call_repr_slot (by omega) ⟨o, hk0 _ _ h1, h2⟩ PySem.F.slot_list_repr.toG ?_
    simp only [PyData.depth] at hu
    simp only [PyData.shown] at hQ
    obtain ⟨l⟩ := vs
    cases l with
    | nil =>
      have h4' : ReadsAll h₀ [] xs _ := h4
      cases h4'
      simp only [PyData.shownAll, listText_nil] at hQ
      exact call_list_repr_empty ⟨o, hk0 _ _ h1, h2⟩ (hk0 _ _ h1) h3 ⟨_, _, rfl, hQ s.heap _ _ fun _ _ e => e⟩
    | cons x l =>
      exact call_list_reprK h1 h2 h3 hna (by simpa using hk.length_eq) (fun i y e => hk.item i y (by simpa using e)) (show A.in1.guards = some [] from hg) (fun b _ => Clear.nil b) (by show A.units + 1 + _ < cLine; omega) hk0 (fun h' u tk hk => ⟨_, _, rfl, hQ h' u tk hk⟩) hz'
  | tuple h1 h2 h3 h4 =>
    rename_i o vs n xs
    have hz' : (tupleText (PyData.shownAll xs)).length ≤ sizeLine := by simpa only [PyData.shown] using hsz
    unfold showW at hs
    obtain ⟨bs, hb, hk⟩ := reprAllK_reads (prog := prog) (w := w) hn h4 hs (fun t ht => Nat.le_trans (tupleText_mem_le ht) hz')
    have hna : a ∉ bs := not_mem_of_deeper (.tuple h1 h2 h3 h4) (by simp only [PyData.depth]; omega) hb
    refine call_repr_slot (by omega) ⟨o, hk0 _ _ h1, h2⟩ PySem.F.slot_tuple_repr ?_
    simp only [PyData.depth] at hu
    simp only [PyData.shown] at hQ
    exact call_tuple_reprK h1 h2 h3 hna hk (show A.in1.guards = some [] from hg) (fun b _ => Clear.nil b) (by show A.units + 1 + _ < cLine; omega) hk0 (fun h' u tk hk => ⟨_, _, rfl, hQ h' u tk hk⟩) hz'
  | dict _ _ _ _ _ => unfold showW at hs; cases hs
end
def NoDig (K : Fg) : Prop := PySem.W.nsIn K cStatics "sys.int_max_str_digits" = some none
section
variable {X : Cx} {pins : List (Addr × Obj)} {σ : L2.St} {H : Hp} {s : Shared}
theorem nodig (I : Inv X pins σ H s) (hd : NoDig X.K) : s.heap.NoDigits := by
  obtain ⟨mc, hns, _⟩ := I.nolimit
  refine ⟨mc, hns, ?_⟩
  obtain ⟨o, es, ep, ho, hda, _, hf⟩ := hns
  have e : PySem.W.nsIn X.K cStatics "sys.int_max_str_digits" = some none := hd
  unfold PySem.W.nsIn at e
  split at e
  · rename_i c d es' n' sl q
    have := I.kIn _ _ q
    rw [ho] at this
    cases this
    cases hda
    split at e
    · cases e
    · rename_i he
      rw [← hf]
      unfold nsFind findBy
      rw [← Array.find?_toList, he]
      rfl
  · cases e
theorem repr_okW (hG : X.A.guards = some []) (hu : X.A.units + 80 < cLine) (hd : NoDig X.K) : CallR X (.builtin "repr") (fun xs H Q => ∃ x d, xs = [x] ∧ Dp X.K H x d ∧ showW d = true ∧ d.depth ≤ 64 ∧ d.shown.length ≤ sizeLine ∧ Q (.str d.shown) H) := by
  intro pins s σ H xs us Q I rv h
  obtain ⟨x, d, rfl, hdp, h1, h2, h3, q⟩ := h
  obtain ⟨u, rfl, rx⟩ := vals1 rv
  have done : ∀ h' t tk, (∀ b o, s.heap.get? b = some o → h'.get? b = some o) → EP X pins σ Q (.str d.shown t) { s with heap := h', toks := tk } := fun h' t tk k => ⟨.str _, H, I.kept (t' := tk) k, ⟨_, rfl⟩, q⟩
  obtain ⟨as, r⟩ := Dp.reads I d x u hdp rx
  cases hdp with
  | non => cases rx; exact P.repr_of_none (done s.heap _ _ fun _ _ e => e)
  | bl b => cases rx; exact P.repr_of_bool (done s.heap _ _ fun _ _ e => e)
  | int i =>
    obtain ⟨t, rfl⟩ := rx
    exact call_repr_slot (by omega) (typeIs_int s i t) PySem.F.slot_int_repr.toG (call_int_reprW (nodig I hd) (of_decide_eq_true (by unfold showW at h1; exact h1)) ⟨_, _, rfl, by simpa only [PyData.shown] using done s.heap s.toks (s.toks + 1) fun _ _ e => e⟩)
  | str z => obtain ⟨t, rfl⟩ := rx; exact P.repr_of_str (by simpa [PyData.shown] using done s.heap s.toks (s.toks + 1) fun _ _ e => e) (by simpa [PyData.shown] using h3)
  | lst _ _ => cases rx; exact repr_of_readsW (nodig I hd) r h1 hG (by omega) (fun _ _ e => e) (fun h' u tk k => done h' u tk k) h3
  | tup _ _ => cases rx; exact repr_of_readsW (nodig I hd) r h1 hG (by omega) (fun _ _ e => e) (fun h' u tk k => done h' u tk k) h3
def gReprW : Sto → List D → Option D := fun S ds => match ds with
  | [d] => (match toPy S (deref S d) with
    | some x => if showW x && decide (x.depth ≤ 64) && decide (x.shown.length ≤ sizeLine) then some (.str x.shown) else none
    | none => gRepr S [d])
  | _ => none
theorem b_reprW (hG : X.A.guards = some []) (hu : X.A.units + 80 < cLine) (hd : NoDig X.K) : BiG X (.builtin "repr") gReprW := by
  obtain ⟨r, h1, h2⟩ := (b_repr hG hu).ex
  refine ⟨_, (repr_okW hG hu hd).or h1, fun α F H S xs ds z Q hr hv hz q => ?_⟩
  unfold gReprW at hz
  split at hz
  · rename_i d
    split at hz
    · rename_i x e
      split at hz
      · rename_i hc
        rw [Bool.and_eq_true, Bool.and_eq_true] at hc
        cases hz
        cases hv with
        | cons g1 g2 =>
          cases g2
          exact .inl ⟨_, x, rfl, hr.dp g1 e, hc.1.1, of_decide_eq_true hc.1.2, of_decide_eq_true hc.2, fin_now hr (.str _) q⟩
      · cases hz
    · exact .inr (h2 α F H S xs [d] z Q hr hv hz q)
  · cases hz
end
end DL
set_option Elab.async false
set_option linter.all false
set_option maxRecDepth 100000
set_option maxHeartbeats 4000000
set_option autoImplicit false
/-! The head's hook, with what the interpreter's own table lacks. -/
namespace DL
open PySem PySem.Spec PyProof.Rows L2
def digB (K : Fg) : Bool := decide (PySem.W.nsIn K cStatics "sys.int_max_str_digits" = some none)
end DL
set_option Elab.async false
set_option linter.all false
set_option maxRecDepth 100000
set_option maxHeartbeats 4000000
set_option autoImplicit false
/-! Plain part: the wider operations. -/
namespace DL
open PySem L2
section
variable {S : Sto} {i j : Int} {x y : Str} {Q : D → Sto → Prop} {QL : List D → Sto → Prop} {QB : Bool → Sto → Prop} {δ : Sl} {N B C : Sl → Sto → Prop} {T : D → Sto → Prop}
theorem o_ltU (h : Q (.bl (decide (i < j))) S) : (Res.lift (gLtU S (.int i) (.int j)) S).post Q := h
theorem o_leU (h : Q (.bl (decide (i ≤ j))) S) : (Res.lift (gLeU S (.int i) (.int j)) S).post Q := h
theorem o_gtU (h : Q (.bl (decide (j < i))) S) : (Res.lift (gGtU S (.int i) (.int j)) S).post Q := h
theorem o_geU (h : Q (.bl (decide (j ≤ i))) S) : (Res.lift (gGeU S (.int i) (.int j)) S).post Q := h
theorem p_cutT {a : RE} {l h : RO} (q : (a δ S).post fun x S1 => (l δ S1).post fun i S2 => (h δ S2).post fun j S3 => ∃ z, x = .tup z ∧ Q (.tup (cutD z i j)) S3) : (rCut a l h δ S).post Q :=
  p_bind (q.mono fun x S1 q => p_bind (q.mono fun i S2 q => p_bind (q.mono fun j S3 ⟨z, e, q'⟩ => by
    subst e
    exact q')))
theorem p_bif {c a b : RB} (h : (c δ S).post fun k S1 => (k = true → (a δ S1).post QB) ∧ (k = false → (b δ S1).post QB)) : (bIf c a b δ S).post QB := p_bind (h.mono fun k _ q => by
  cases k with
  | true => exact q.1 rfl
  | false => exact q.2 rfl)
theorem o_lenT {xs : List D} (q : Q (.int xs.length) S) : (Res.lift (gLen S [.tup xs]) S).post Q := q
theorem o_lenL {xs : List D} (q : Q (.int xs.length) S) : (Res.lift (gLen S [.lst xs]) S).post Q := q
theorem s_gtux {u : List D → Sl → Sto → Res Sl} {ds : List D} {QS : Sl → Sto → Prop} (h : (u ds δ S).post QS) : (gTup u (.tux ds) δ S).post QS := h
theorem atI_0 {a : D} {r : List D} : atI (a :: r) 0 = some a := by unfold atI ixN; simp
theorem atI_1 {a b : D} {r : List D} : atI (a :: b :: r) 1 = some b := by
  unfold atI ixN
  simp
  rw [if_pos (by omega)]
  rfl
theorem atI_2 {a b c : D} {r : List D} : atI (a :: b :: c :: r) 2 = some c := by
  unfold atI ixN
  simp
  rw [if_pos (by omega)]
  rfl
theorem asInts_map : ∀ ns : List Int, asInts (ns.map .int) = some ns
  | [] => rfl
  | b :: r => by unfold List.map asInts; rw [asInts_map r]; rfl
theorem o_sumI {ns : List Int} (h : Q (.int ns.sum) S) : (Res.lift (gSum S [.lst (ns.map .int)]) S).post Q := p_lift (by unfold gSum deref; dsimp only; rw [asInts_map]; rfl) h
end
/-- a comprehension that leaves the store: what each turn gives -/
theorem lcL_gen {g : RG} {t : RB} {e : RE} {f : D → Option D} {δ : Sl} {S : Sto} : ∀ {xs : List D}, (∀ x ∈ xs, ∃ δ1, g x δ S = .ok δ1 S ∧ ((f x = none ∧ t δ1 S = .ok false S) ∨ ∃ y, f x = some y ∧ t δ1 S = .ok true S ∧ e δ1 S = .ok y S)) → lcL g t e xs δ S = .ok (xs.filterMap f) S
  | [], _ => rfl
  | x :: xs, h => by
    have ih := lcL_gen (g := g) (t := t) (e := e) (f := f) (δ := δ) (S := S) (xs := xs) fun y hy => h y (List.mem_cons_of_mem _ hy)
    obtain ⟨δ1, h1, h2⟩ := h x List.mem_cons_self
    unfold lcL
    rw [h1]
    show (t δ1 S).bind _ = _
    rw [List.filterMap_cons]
    rcases h2 with ⟨e1, e2⟩ | ⟨y, e1, e2, e3⟩
    · rw [e2, e1]
      exact ih
    · rw [e2, e1]
      show (e δ1 S).bind _ = _
      rw [e3]
      show (lcL g t e xs δ S).bind _ = _
      rw [ih]
      rfl
end DL
set_option Elab.async false
set_option linter.all false
set_option maxRecDepth 100000
set_option maxHeartbeats 4000000
set_option autoImplicit false
/-! Plain part: how long a repr is, and of which signs. -/
namespace DL
open PySem L2
def OkS (x : Str) : Prop := ∀ c ∈ x.cps.toList, c < 0x110000
theorem okS_ok {x : Str} (h : OkS x) : PyData.strOk x = true := by
  unfold PyData.strOk
  rw [Array.all_eq_true']
  intro c hc
  exact decide_eq_true (h c (by simpa using hc))
theorem ok_okS {x : Str} (h : PyData.strOk x = true) : OkS x := fun c hc => by
  unfold PyData.strOk at h
  rw [Array.all_eq_true'] at h
  exact of_decide_eq_true (h c (by simpa using hc))
theorem okS_app {x y : Str} (h : OkS x) (g : OkS y) : OkS (x ++ y) := fun c hc => by
  have e : (x ++ y).cps.toList = x.cps.toList ++ y.cps.toList := by
    show (x.cps ++ y.cps).toList = _
    simp
  rw [e] at hc
  exact (List.mem_append.mp hc).elim (h c) (g c)
theorem char_lt (c : Char) : c.toNat < 0x110000 := by
  have := c.valid
  rcases this with h | ⟨_, h⟩
  · have h' : c.toNat < 0xd800 := h
    omega
  · exact h
theorem okS_of (s : String) : OkS (Str.ofString s) := fun c hc => by
  rw [Str.ofString_eq_toList] at hc
  have hc' : c ∈ s.toList.map Char.toNat := by simpa using hc
  obtain ⟨k, _, rfl⟩ := List.mem_map.mp hc'
  exact char_lt k
theorem okS_join {sep : Str} (hs : OkS sep) : ∀ {ts : List Str}, (∀ t ∈ ts, OkS t) → OkS (Str.join sep ts)
  | [], _ => fun c hc => by cases hc
  | [x], h => h x List.mem_cons_self
  | x :: y :: r, h => okS_app (okS_app (h x List.mem_cons_self) hs) (okS_join hs (ts := y :: r) fun t ht => h t (List.mem_cons_of_mem _ ht))
theorem fold_app (f : Nat → List Nat) : ∀ (l : List Nat) (acc : Array Nat), (l.foldl (fun out c => out ++ (f c).toArray) acc).toList = acc.toList ++ l.flatMap f
  | [], acc => by simp
  | c :: r, acc => by
    rw [List.foldl_cons, fold_app f r]
    simp
theorem reprChar_lt {q c : Nat} (hc : c < 0x110000) : ∀ z ∈ Builtin.Str.reprChar q c, z < 0x110000 := by
  intro z hz
  unfold Builtin.Str.reprChar at hz
  dsimp only at hz
  have dg : ∀ n : Nat, z ∈ List.replicate n 48 ++ (Nat.toDigits 16 c).map Char.toNat → z < 0x110000 := fun n h => by
    rcases List.mem_append.mp h with h | h
    · rw [(List.mem_replicate.mp h).2]; decide
    · obtain ⟨k, _, rfl⟩ := List.mem_map.mp h
      exact char_lt k
  have two : ∀ a b : Nat, a < 0x110000 → b < 0x110000 → z ∈ [a, b] → z < 0x110000 := fun a b ha hb h => by
    rcases List.mem_cons.mp h with rfl | h
    · exact ha
    · rw [List.mem_singleton.mp h]; exact hb
  split at hz
  · exact two _ _ (by decide) hc hz
  · split at hz
    · exact two _ _ (by decide) (by decide) hz
    · split at hz
      · exact two _ _ (by decide) (by decide) hz
      · split at hz
        · exact two _ _ (by decide) (by decide) hz
        · split at hz
          · rw [List.mem_singleton.mp hz]; exact hc
          · split at hz
            · rcases List.mem_append.mp hz with h | h
              · exact two _ _ (by decide) (by decide) h
              · exact dg _ h
            · split at hz
              · rcases List.mem_append.mp hz with h | h
                · exact two _ _ (by decide) (by decide) h
                · exact dg _ h
              · rcases List.mem_append.mp hz with h | h
                · exact two _ _ (by decide) (by decide) h
                · exact dg _ h
theorem okS_repr {x : Str} (h : OkS x) : OkS (reprText x) := by
  intro c hc
  have q : reprQuote x < 0x110000 := by
    unfold reprQuote
    split <;> decide
  unfold reprText at hc
  have hc' : c ∈ (x.cps.foldl (fun out c => out ++ (Builtin.Str.reprChar (reprQuote x) c).toArray) #[reprQuote x]).toList ++ [reprQuote x] := by simpa using hc
  rw [← Array.foldl_toList, fold_app] at hc'
  rcases List.mem_append.mp hc' with h1 | h1
  · rcases List.mem_append.mp h1 with h2 | h2
    · have : c = reprQuote x := by simpa using h2
      rw [this]; exact q
    · obtain ⟨z, hz, hz2⟩ := List.mem_flatMap.mp h2
      exact reprChar_lt (h z hz) c hz2
  · rw [List.mem_singleton.mp h1]; exact q
/-! ### data of bounded size -/
mutual
def fitP : PyData → Bool
  | .none => true
  | .bool _ => true
  | .int i => decide (i.natAbs < 10 ^ 1005)
  | .str x => PyData.strOk x
  | .list xs => fitPs xs
  | .tuple xs => fitPs xs
  | .dict _ => false
def fitPs : List PyData → Bool
  | [] => true
  | x :: r => fitP x && fitPs r
end
mutual
def wtP : PyData → Nat
  | .none => 4
  | .bool _ => 5
  | .int _ => 1006
  | .str x => 10 * x.length + 2
  | .list xs => 3 + wtPs xs
  | .tuple xs => 3 + wtPs xs
  | .dict _ => 0
def wtPs : List PyData → Nat
  | [] => 0
  | x :: r => wtP x + 2 + wtPs r
end
theorem join_len : ∀ ts : List Str, (Str.join (Str.ofString ", ") ts).length ≤ (ts.map fun t => t.length + 2).sum
  | [] => by show 0 ≤ _; exact Nat.zero_le _
  | [x] => by show x.length ≤ x.length + 2 + 0; omega
  | x :: y :: r => by
    have ih := join_len (y :: r)
    show (x ++ Str.ofString ", " ++ Str.join (Str.ofString ", ") (y :: r)).length ≤ x.length + 2 + ((y :: r).map fun t => t.length + 2).sum
    rw [strLen_append, strLen_append]
    have : (Str.ofString ", ").length = 2 := by decide +kernel
    omega
mutual
theorem shown_fit : ∀ {d : PyData}, fitP d = true → OkS d.shown ∧ d.shown.length ≤ wtP d ∧ showW d = true
  | .none, _ => by
    simp only [PyData.shown]
    exact ⟨okS_of _, by decide +kernel, by unfold showW; rfl⟩
  | .bool b, _ => by
    simp only [PyData.shown]
    refine ⟨by cases b <;> exact okS_of _, ?_, by unfold showW; rfl⟩
    cases b <;> decide +kernel
  | .int i, h => by
    unfold fitP at h
    have h := of_decide_eq_true h
    simp only [PyData.shown]
    refine ⟨okS_of _, ?_, ?_⟩
    · have := int_text_length_le10 (k := 1005) (by decide) h
      rw [ofString_length]
      unfold wtP
      omega
    · unfold showW
      exact decide_eq_true (Nat.lt_of_lt_of_le h (Nat.pow_le_pow_right (by decide) (by decide)))
  | .str x, h => by
    unfold fitP at h
    have hx := ok_okS h
    simp only [PyData.shown]
    refine ⟨okS_repr hx, ?_, by unfold showW; rfl⟩
    unfold wtP
    exact PySem.StrLaws.reprText_len x fun c hc => Nat.lt_of_lt_of_le (hx c hc) (by decide)
  | .list xs, h => by
    unfold fitP at h
    obtain ⟨h1, h2, h3⟩ := shown_fits h
    simp only [PyData.shown]
    rw [listText_eq_join]
    refine ⟨okS_app (okS_app (okS_of _) (okS_join (okS_of _) h1)) (okS_of _), ?_, by unfold showW; exact h3⟩
    rw [strLen_append, strLen_append]
    have e1 : (Str.ofString "[").length = 1 := by decide +kernel
    have e2 : (Str.ofString "]").length = 1 := by decide +kernel
    have e3 := join_len (PyData.shownAll xs)
    unfold wtP
    omega
  | .tuple xs, h => by
    unfold fitP at h
    obtain ⟨h1, h2, h3⟩ := shown_fits h
    simp only [PyData.shown]
    unfold tupleText
    refine ⟨okS_app (okS_app (okS_of _) (okS_join (okS_of _) h1)) (okS_of _), ?_, by unfold showW; exact h3⟩
    rw [strLen_append, strLen_append]
    have e1 : (Str.ofString "(").length = 1 := by decide +kernel
    have e2 : (Str.ofString (if (PyData.shownAll xs).length == 1 then ",)" else ")")).length ≤ 2 := by split <;> decide +kernel
    have e3 := join_len (PyData.shownAll xs)
    unfold wtP
    omega
  | .dict _, h => by unfold fitP at h; cases h
theorem shown_fits : ∀ {ds : List PyData}, fitPs ds = true → (∀ t ∈ PyData.shownAll ds, OkS t) ∧ ((PyData.shownAll ds).map fun t => t.length + 2).sum ≤ wtPs ds ∧ showWs ds = true
  | [], _ => by
    simp only [PyData.shownAll]
    exact ⟨(fun _ z => nomatch z), Nat.le_refl _, by unfold showWs; rfl⟩
  | d :: ds, h => by
    unfold fitPs at h
    rw [Bool.and_eq_true] at h
    obtain ⟨a1, a2, a3⟩ := shown_fit h.1
    obtain ⟨b1, b2, b3⟩ := shown_fits h.2
    simp only [PyData.shownAll]
    refine ⟨fun t ht => ?_, ?_, by unfold showWs; rw [a3, b3]; rfl⟩
    · rcases List.mem_cons.mp ht with rfl | ht
      · exact a1
      · exact b1 t ht
    · rw [List.map_cons, List.sum_cons]
      unfold wtPs
      omega
end
end DL
set_option Elab.async false
set_option linter.all false
set_option maxRecDepth 100000
set_option maxHeartbeats 4000000
set_option autoImplicit false
/-! Module's names that hold tuples. -/
namespace DL
open PySem PySem.Spec PyProof.Rows L2
mutual
def litB (K : Fg) : Nat → Value → D → Bool
  | _, .none, .non => true
  | _, .bool b, .bl c => decide (b = c)
  | _, .int i _, .int j => decide (i = j)
  | _, .str x _, .str y => decide (x = y)
  | n + 1, .ref a, .tup ds => (match K.lookup a with
    | some ⟨.type c, none, .seq us _, _⟩ => decide (c = "tuple") && (decide (us.size ≤ sizeLine) && litAll K n us.toList ds)
    | _ => false)
  | _, _, _ => false
def litAll (K : Fg) : Nat → List Value → List D → Bool
  | _, [], [] => true
  | n, u :: us, d :: ds => litB K n u d && litAll K n us ds
  | _, _, _ => false
end
section
variable {K : Fg} {w : World} {mg : Str → Option Value}
theorem litAll_of {n : Nat} (H : ∀ u d, litB K n u d = true → ∃ x, RelV x u ∧ ∀ F α, DV w K mg F α x d) : ∀ (us : List Value) (ds : List D), litAll K n us ds = true → ∃ xs, Vals xs us ∧ ∀ F α, DVs w K mg F α xs ds
  | [], [], _ => ⟨[], .nil, fun _ _ => .nil⟩
  | [], d :: ds, h => by unfold litAll at h; cases h
  | u :: us, [], h => by unfold litAll at h; cases h
  | u :: us, d :: ds, h => by
    unfold litAll at h
    rw [Bool.and_eq_true] at h
    obtain ⟨x, r1, h1⟩ := H u d h.1
    obtain ⟨xs, r2, h2⟩ := litAll_of H us ds h.2
    exact ⟨x :: xs, .cons r1 r2, fun F α => .cons (h1 F α) (h2 F α)⟩
theorem litB_ok : ∀ (n : Nat) (u : Value) (d : D), litB K n u d = true → ∃ x, RelV x u ∧ ∀ F α, DV w K mg F α x d := by
  intro n
  induction n with
  | zero =>
    intro u d h
    cases u <;> cases d <;> first
      | (unfold litB at h; exact absurd h Bool.false_ne_true)
      | exact ⟨.non, rfl, fun _ _ => .non⟩
      | (rename_i b c; unfold litB at h; have e : b = c := of_decide_eq_true h; subst e; exact ⟨.bl b, rfl, fun _ _ => .bl b⟩)
      | (rename_i i t j; unfold litB at h; have e : i = j := of_decide_eq_true h; subst e; exact ⟨.int i, ⟨t, rfl⟩, fun _ _ => .int i⟩)
      | (rename_i x t y; unfold litB at h; have e : x = y := of_decide_eq_true h; subst e; exact ⟨.str x, ⟨t, rfl⟩, fun _ _ => .str x⟩)
  | succ n ih =>
    intro u d h
    cases u <;> cases d <;> first
      | (unfold litB at h; exact absurd h Bool.false_ne_true)
      | exact ⟨.non, rfl, fun _ _ => .non⟩
      | (rename_i b c; unfold litB at h; have e : b = c := of_decide_eq_true h; subst e; exact ⟨.bl b, rfl, fun _ _ => .bl b⟩)
      | (rename_i i t j; unfold litB at h; have e : i = j := of_decide_eq_true h; subst e; exact ⟨.int i, ⟨t, rfl⟩, fun _ _ => .int i⟩)
      | (rename_i x t y; unfold litB at h; have e : x = y := of_decide_eq_true h; subst e; exact ⟨.str x, ⟨t, rfl⟩, fun _ _ => .str x⟩)
      | skip
    rename_i a ds
    unfold litB at h
    cases q : K.lookup a with
    | none => rw [q] at h; cases h
    | some o =>
      obtain ⟨oc, od, dt, osl⟩ := o
      rw [q] at h
      cases oc with
      | type c =>
        cases od with
        | none =>
          cases dt with
          | seq us m =>
            have h : (decide (c = "tuple") && (decide (us.size ≤ sizeLine) && litAll K n us.toList ds)) = true := h
            rw [Bool.and_eq_true, Bool.and_eq_true] at h
            obtain ⟨xs, r, hd⟩ := litAll_of ih us.toList ds h.2.2
            exact ⟨.ref a, rfl, fun F α => .tup ⟨.inr ⟨_, us, m, q, congrArg Value.type (of_decide_eq_true h.1), rfl, of_decide_eq_true h.2.1, r⟩, .inr ⟨_, q, rfl⟩⟩ (hd F α)⟩
          | _ => cases h
        | some _ => cases dt <;> cases h
      | _ => cases od <;> cases dt <;> cases h
/-- the module's name x holds this -/
structure Lit (w : World) (K : Fg) (mg : Str → Option Value) (x : Str) (d : D) : Prop where
  ex : ∃ u v, mg x = some u ∧ RelV v u ∧ ∀ F α, DV w K mg F α v d
def litF (K : Fg) (p : Str × D) : Bool := match PySem.W.nsIn K mainGlobals p.1 with
  | some (some u) => litB K 9 u p.2
  | _ => false
theorem litF_ok {h : Heap} {x : Str} {d : D} (X : K.In h) (G : h.Ns mainGlobals mg) (c : litF K (x, d) = true) : Lit w K mg x d := by
  have c2 : (match PySem.W.nsIn K mainGlobals x with
    | some (some u) => litB K 9 u d
    | _ => false) = true := c
  cases e : PySem.W.nsIn K mainGlobals x with
  | none => rw [e] at c2; cases c2
  | some o =>
    cases o with
    | none => rw [e] at c2; cases c2
    | some u =>
      rw [e] at c2
      obtain ⟨v, r, hv⟩ := litB_ok (w := w) (mg := mg) _ _ _ (show litB K 9 u d = true from c2)
      exact ⟨u, v, PySem.W.mg_of X G e, r, hv⟩
end
theorem pd_lit {X : Cx} {W : WX} {x : Str} {d : D} {pos : Pos} (hm : Lit X.w X.K X.mg x d) (hg : Gl X x := by rfl) (hd : (x == ("__debug__" : Str)) = false := by decide) : PD X W (.Name x pos) (rC d) := by
  obtain ⟨u, v, h1, h2, h3⟩ := hm.ex
  exact pd_c (v := v) (pe_glob hg h1 h2 hd) h3
/-! the head's hook with these -/
def obsL (fa : List He.Fa) (fn : List He.DefD) (li : List (Str × D)) (K : Fg) : He.AlD := (digB K && (li.all (litF K) && (He.obsD fa fn K).1), (He.obsD fa fn K).2)
def SaysL (fa : List He.Fa) (fn : List He.DefD) (li : List (Str × D)) (K : Fg) : Prop := obsL fa fn li K = He.valD fn
def obsLG (n : Nat) (fa : List He.Fa) (fn : List He.DefD) (li : List (Str × D)) (g : Addr → Option Obj) : He.AlD := obsL fa fn li (He.frG g (He.asD g n ++ [cStatics]))
def hookL (n : Nat) (fa : List He.Fa) (fn : List He.DefD) (li : List (Str × D)) : PySem.W.Hook where
  α := He.AlD
  obs := fun s => obsLG n fa fn li s.heap.get?
  val := fun _ => He.valD fn
  says := fun _ h => ∃ K : Fg, K.In h ∧ SaysL fa fn li K
  of := fun _ _ e => ⟨_, He.frG_in, e⟩
  keeps := fun _ _ _ ⟨K, hK, c⟩ k => ⟨K, PySem.W.Frag.In.keeps hK k, c⟩
theorem obsLG_eq {n : Nat} {fa : List He.Fa} {fn : List He.DefD} {li : List (Str × D)} {g : Addr → Option Obj} {s : Shared} (h : ∀ a, g a = s.heap.get? a) : obsLG n fa fn li g = (hookL n fa fn li).obs s := by
  have e : g = s.heap.get? := funext h
  rw [e] <;> rfl
theorem SaysL.all {fa : List He.Fa} {fn : List He.DefD} {li : List (Str × D)} {K : Fg} (h : SaysL fa fn li K) : He.SaysD fa fn K ∧ NoDig K ∧ ∀ (i : Nat) (p : Str × D), li[i]? = some p → litF K p = true := by
  have h0 : obsL fa fn li K = He.valD fn := h
  have h1 : (digB K && (li.all (litF K) && (He.obsD fa fn K).1)) = true := congrArg (fun z : He.AlD => z.1) h0
  have h2 : (obsL fa fn li K).2 = (He.valD fn).2 := congrArg (fun z : He.AlD => z.2) h0
  rw [Bool.and_eq_true, Bool.and_eq_true] at h1
  refine ⟨?_, ?_, fun i p hp => List.all_eq_true.mp h1.2.1 p (List.mem_of_getElem? hp)⟩
  · show He.obsD fa fn K = He.valD fn
    exact Prod.ext h1.2.2 h2
  · have h3 := h1.1
    unfold digB at h3
    unfold NoDig
    exact of_decide_eq_true h3
end DL
set_option Elab.async false
set_option linter.all false
set_option maxRecDepth 100000
set_option maxHeartbeats 4000000
set_option autoImplicit false
/-! Typed things as data: their order, sorting. -/
namespace DL
open PySem L2
class Emb (κ : Type) where
  toD : κ → D
  py : κ → PyData
  deg : Nat
  pyOk : ∀ (S : Sto) (a : κ), toPy S (toD a) = some (py a)
  np : ∀ (a : κ) (k : Nat), toD a ≠ .ptr k
  al : ∀ a b : κ, PySem.W.alike (py a) (py b) = true
  dep : ∀ a : κ, (py a).depth ≤ deg
  inj : ∀ a b : κ, PyData.eqv (py a) (py b) = true → a = b
  cl : ∀ (n : Nat) (a : κ), D.closed n (toD a) = true
open Emb
section
variable {κ ν : Type} [Emb κ] [Emb ν]
theorem emb_pys (S : Sto) : ∀ xs : List κ, toPys S (xs.map toD) = some (xs.map py)
  | [] => rfl
  | x :: r => by unfold List.map toPys; rw [pyOk S x, emb_pys S r]
theorem emb_closed (n : Nat) : ∀ xs : List κ, closedL n (xs.map toD) = true
  | [] => rfl
  | x :: r => by unfold List.map closedL; rw [cl n x, emb_closed n r]; rfl
theorem emb_al : ∀ xs ys : List κ, PySem.W.alikeAll (xs.map py) (ys.map py) = true
  | [], _ => by unfold List.map PySem.W.alikeAll; rfl
  | _ :: _, [] => by unfold List.map PySem.W.alikeAll; rfl
  | x :: r, y :: q => by unfold List.map PySem.W.alikeAll; rw [al x y, emb_al r q]; rfl
theorem emb_dep : ∀ xs : List κ, PyData.depthAll (xs.map py) ≤ deg κ
  | [] => by simp [PyData.depthAll]
  | x :: r => by
    have h1 := dep x
    have h2 := emb_dep r
    simp only [List.map_cons, PyData.depthAll]
    omega
theorem emb_injs : ∀ xs ys : List κ, PyData.eqvAll (xs.map py) (ys.map py) = true → xs = ys
  | [], [], _ => rfl
  | [], _ :: _, h => by simp [PyData.eqvAll] at h
  | _ :: _, [], h => by simp [PyData.eqvAll] at h
  | x :: r, y :: q, h => by
    simp only [List.map_cons, PyData.eqvAll, Bool.and_eq_true] at h
    rw [inj x y h.1, emb_injs r q h.2]
theorem deref_emb (S : Sto) (a : κ) : deref S (toD a) = toD a := by
  have h := np a
  cases q : (toD a : D) with
  | ptr k => exact absurd q (h k)
  | _ => rfl
end
instance : Emb Int where
  toD := .int
  py := .int
  deg := 0
  pyOk := fun _ _ => rfl
  np := fun _ _ h => nomatch h
  al := fun a b => by simp [PySem.W.alike]
  dep := fun a => by simp [PyData.depth]
  inj := fun a b h => by simpa [PyData.eqv] using h
  cl := fun _ _ => rfl
instance : Emb Str where
  toD := .str
  py := .str
  deg := 0
  pyOk := fun _ _ => rfl
  np := fun _ _ h => nomatch h
  al := fun a b => by simp [PySem.W.alike]
  dep := fun a => by simp [PyData.depth]
  inj := fun a b h => by simpa [PyData.eqv] using h
  cl := fun _ _ => rfl
instance {α β : Type} [Emb α] [Emb β] : Emb (α × β) where
  toD := fun p => .tup [toD p.1, toD p.2]
  py := fun p => .tuple [py p.1, py p.2]
  deg := max (deg α) (deg β) + 1
  pyOk := fun S p => by unfold toPy toPys toPys toPys; rw [pyOk, pyOk]; rfl
  np := fun _ _ h => nomatch h
  al := fun a b => by simp [PySem.W.alike, PySem.W.alikeAll, al]
  dep := fun a => by
    have h1 := dep a.1
    have h2 := dep a.2
    simp only [PyData.depth, PyData.depthAll]
    omega
  inj := fun a b h => by
    simp only [PyData.eqv, PyData.eqvAll, Bool.and_eq_true] at h
    exact Prod.ext (inj _ _ h.1) (inj _ _ h.2.1)
  cl := fun n p => by unfold D.closed closedL closedL closedL; rw [cl, cl]; rfl
instance {α : Type} [Emb α] : Emb (List α) where
  toD := fun xs => .tup (xs.map toD)
  py := fun xs => .tuple (xs.map py)
  deg := deg α + 1
  pyOk := fun S xs => by unfold toPy; rw [emb_pys]; rfl
  np := fun _ _ h => nomatch h
  al := fun a b => by unfold PySem.W.alike; exact emb_al a b
  dep := fun a => by
    have := emb_dep a
    simp only [PyData.depth]
    omega
  inj := fun a b h => by
    simp only [PyData.eqv] at h
    exact emb_injs a b h
  cl := fun n xs => by unfold D.closed; exact emb_closed n xs
/-! ### order -/
section
variable {κ ν : Type} [Emb κ] [Emb ν]
def ltE (a b : κ) : Bool := PySem.W.dataLt (py a) (py b)
def leE (a b : κ) : Bool := !ltE b a
theorem leE_sort : (leE : κ → κ → Bool) = PySem.W.sortLe (PyProof.Rows.listOrd PyProof.Rows.itemOrd) false (fun a : κ => PySem.W.keyToks (py a)) := rfl
theorem leE_total : PySem.W.TotalLe (leE : κ → κ → Bool) := by rw [leE_sort]; exact PySem.W.sortLe_total _ _ _
theorem toks_inj {a b : κ} (h : PySem.W.keyToks (py a) = PySem.W.keyToks (py b)) : a = b := by
  obtain ⟨_, h2⟩ := PySem.W.toks_eqv (py a) (py b) (al a b)
  cases q : PyData.eqv (py a) (py b) with
  | true => exact inj a b q
  | false =>
    have e1 := h2 q [] [.inl 0]
    have e2 := h2 q [] []
    rw [h] at e1 e2
    rw [PySem.W.lex_pre] at e1 e2
    rw [← e2] at e1
    cases e1
theorem leE_anti {a b : κ} (h1 : leE a b = true) (h2 : leE b a = true) : a = b := by
  unfold leE ltE at h1 h2
  rw [Bool.not_eq_true'] at h1 h2
  exact toks_inj ((PyProof.Rows.listOrd PyProof.Rows.itemOrd).total _ _ h2 h1)
theorem ltE_irr (a : κ) : ltE a a = false := (PyProof.Rows.listOrd PyProof.Rows.itemOrd).irrefl _
theorem ltE_ne {a b : κ} (h : ltE a b = true) : a ≠ b := fun e => by subst e; rw [ltE_irr] at h; cases h
theorem ltE_trans {a b c : κ} (h : ltE a b = true) (g : ltE b c = true) : ltE a c = true := (PyProof.Rows.listOrd PyProof.Rows.itemOrd).trans _ _ _ h g
theorem leE_of_lt {a b : κ} (h : ltE a b = true) : leE a b = true := by
  unfold leE
  cases q : ltE b a with
  | false => rfl
  | true => exact absurd (ltE_trans h q) (by rw [ltE_irr]; decide)
theorem ltE_of_le {a b : κ} (h : leE a b = true) (hn : a ≠ b) : ltE a b = true := by
  cases q : ltE a b with
  | true => rfl
  | false => exact absurd (leE_anti h (by unfold leE; rw [q]; rfl)) hn
/-- pairs of unlike firsts -/
theorem ltE_fst {p q : κ × ν} (h : p.1 ≠ q.1) : ltE p q = ltE p.1 q.1 := by
  unfold ltE
  show PySem.W.dataLt (.tuple [py p.1, py p.2]) (.tuple [py q.1, py q.2]) = _
  rw [PySem.W.dataLt_pair (al _ _) (al _ _)]
  have : PyData.eqv (py p.1) (py q.1) = false := by
    cases e : PyData.eqv (py p.1) (py q.1) with
    | false => rfl
    | true => exact absurd (inj _ _ e) h
  rw [this]
  rfl
def srt (xs : List κ) : List κ := xs.mergeSort leE
theorem srt_perm (xs : List κ) : (srt xs).Perm xs := List.mergeSort_perm _ _
theorem srt_pair (xs : List κ) : (srt xs).Pairwise fun a b => leE a b = true := PySem.W.sort_pairwise leE_total xs
theorem sorted_one {xs ys : List κ} (h1 : xs.Pairwise fun a b => leE a b = true) (h2 : ys.Pairwise fun a b => leE a b = true) (p : xs.Perm ys) : xs = ys := p.eq_of_pairwise (fun _ _ _ _ a b => leE_anti a b) h1 h2
theorem srt_len (xs : List κ) : (srt xs).length = xs.length := (srt_perm xs).length_eq
theorem srt_mem {xs : List κ} {a : κ} : a ∈ srt xs ↔ a ∈ xs := (srt_perm xs).mem_iff
class Sok (κ : Type) [Emb κ] : Prop where
  sok : (∀ a : κ, tupFull (py a) = true) ∨ ∀ a : κ, noTup (py a) = true
  low : deg κ ≤ 40
theorem sortD_emb [Sok κ] (S : Sto) (xs : List κ) (hl : xs.length ≤ sizeLine) : sortD S (xs.map toD) = some ((srt xs).map toD) := by
  unfold sortD
  rw [emb_pys]
  dsimp only
  have so : sortable (xs.map py) = true := by
    unfold sortable
    rw [Bool.and_eq_true, Bool.and_eq_true, Bool.or_eq_true]
    refine ⟨(Sok.sok (κ := κ)).imp (fun h => List.all_eq_true.mpr fun x hx => ?_) (fun h => List.all_eq_true.mpr fun x hx => ?_), List.all_eq_true.mpr fun x hx => List.all_eq_true.mpr fun y hy => ?_, List.all_eq_true.mpr fun x hx => decide_eq_true ?_⟩
    · obtain ⟨a, _, rfl⟩ := List.mem_map.mp hx; exact h a
    · obtain ⟨a, _, rfl⟩ := List.mem_map.mp hx; exact h a
    · obtain ⟨a, _, rfl⟩ := List.mem_map.mp hx
      obtain ⟨b, _, rfl⟩ := List.mem_map.mp hy
      exact al a b
    · obtain ⟨a, _, rfl⟩ := List.mem_map.mp hx
      exact Nat.le_trans (dep a) (Sok.low (κ := κ))
  rw [so, List.length_map, decide_eq_true hl]
  show some _ = some _
  congr 1
  unfold sortBy srt
  rw [show (xs.map toD).zip (xs.map py) = xs.map fun a : κ => ((toD a : D), py a) from by rw [List.zip_map']]
  rw [← PySem.W.sort_maps (r := leE) (s := PySem.W.dataLe false fun p : D × PyData => p.2) (fun a : κ => ((toD a : D), py a)) (fun a _ b _ => rfl), List.map_map]
  rfl
instance : Sok Int := ⟨.inr fun _ => rfl, by decide⟩
instance : Sok Str := ⟨.inr fun _ => rfl, by decide⟩
end
/-! ### rows of pairs: dicts -/
section
variable {κ ν : Type} [DecidableEq κ]
def getT : List (κ × ν) → κ → Option ν
  | [], _ => none
  | (k, v) :: r, q => if k = q then some v else getT r q
def replT : List (κ × ν) → κ → ν → List (κ × ν)
  | [], _, _ => []
  | (k, v) :: r, q, y => if k = q then (k, y) :: replT r q y else (k, v) :: replT r q y
def putT (kvs : List (κ × ν)) (q : κ) (y : ν) : List (κ × ν) := if (getT kvs q).isSome then replT kvs q y else kvs ++ [(q, y)]
def mergeT (kvs more : List (κ × ν)) : List (κ × ν) := more.foldl (fun acc p => putT acc p.1 p.2) kvs
def ND (kvs : List (κ × ν)) : Prop := (kvs.map (·.1)).Nodup
theorem getT_nil (q : κ) : getT ([] : List (κ × ν)) q = none := rfl
theorem getT_cons (k : κ) (v : ν) (r : List (κ × ν)) (q : κ) : getT ((k, v) :: r) q = if k = q then some v else getT r q := rfl
theorem getT_app (a b : List (κ × ν)) (q : κ) : getT (a ++ b) q = (getT a q).or (getT b q) := by
  induction a with
  | nil => rfl
  | cons p r ih =>
    show getT ((p.1, p.2) :: (r ++ b)) q = (getT ((p.1, p.2) :: r) q).or _
    rw [getT_cons, getT_cons]
    split
    · rfl
    · exact ih
theorem getT_repl (kvs : List (κ × ν)) (k q : κ) (v : ν) : getT (replT kvs k v) q = if q = k then (getT kvs k).map (fun _ => v) else getT kvs q := by
  induction kvs with
  | nil => show none = _; rw [getT_nil, getT_nil]; split <;> rfl
  | cons p r ih =>
    obtain ⟨k', v'⟩ := p
    show getT (if k' = k then (k', v) :: replT r k v else (k', v') :: replT r k v) q = _
    rw [getT_cons, getT_cons]
    by_cases h : k' = k
    · subst h
      rw [if_pos rfl, if_pos rfl, getT_cons]
      by_cases z : k' = q
      · subst z; rw [if_pos rfl, if_pos rfl]; rfl
      · rw [if_neg z, ih, if_neg (Ne.symm z), if_neg (Ne.symm z), if_neg z]
    · rw [if_neg h, if_neg h, getT_cons]
      by_cases z : k' = q
      · subst z; rw [if_pos rfl, if_neg h, if_pos rfl]
      · rw [if_neg z, ih]
        by_cases y : q = k
        · rw [if_pos y, if_pos y]
        · rw [if_neg y, if_neg y, if_neg z]
theorem getT_put (kvs : List (κ × ν)) (k q : κ) (v : ν) : getT (putT kvs k v) q = if q = k then some v else getT kvs q := by
  unfold putT
  split
  · rename_i h
    rw [getT_repl]
    split
    · cases e : getT kvs k with
      | none => rw [e] at h; cases h
      | some _ => rfl
    · rfl
  · rename_i h
    have h : getT kvs k = none := by simpa using h
    rw [getT_app, getT_cons, getT_nil]
    by_cases z : q = k
    · subst z
      rw [h]
      simp
    · rw [if_neg z, if_neg (Ne.symm z)]
      cases getT kvs q <;> rfl
theorem repl_keys (kvs : List (κ × ν)) (k : κ) (v : ν) : (replT kvs k v).map (·.1) = kvs.map (·.1) := by
  induction kvs with
  | nil => rfl
  | cons p r ih =>
    unfold replT
    split <;> rw [List.map_cons, ih] <;> rfl
theorem getT_none {kvs : List (κ × ν)} {q : κ} : getT kvs q = none ↔ q ∉ kvs.map (·.1) := by
  induction kvs with
  | nil => exact ⟨fun _ h => (nomatch h), fun _ => rfl⟩
  | cons p r ih =>
    obtain ⟨k', v'⟩ := p
    rw [getT_cons]
    by_cases h : k' = q
    · subst h; rw [if_pos rfl]; exact ⟨fun z => (nomatch z), fun z => absurd (List.mem_cons_self ..) z⟩
    · rw [if_neg h, ih]
      exact ⟨fun z y => by
        rcases List.mem_cons.mp y with y | y
        · exact h y.symm
        · exact z y, fun z y => z (List.mem_cons_of_mem _ y)⟩
theorem nd_put {kvs : List (κ × ν)} (h : ND kvs) (k : κ) (v : ν) : ND (putT kvs k v) := by
  unfold putT
  split
  · unfold ND; rw [repl_keys]; exact h
  · rename_i z
    have z : getT kvs k = none := by simpa using z
    unfold ND
    rw [List.map_append]
    refine List.nodup_append.mpr ⟨h, by simp, fun a ha b hb e => ?_⟩
    have : b = k := by simpa using hb
    subst this; subst e
    exact getT_none.mp z ha
theorem getT_mem {kvs : List (κ × ν)} {k : κ} {v : ν} (h : getT kvs k = some v) : (k, v) ∈ kvs := by
  induction kvs with
  | nil => cases h
  | cons p r ih =>
    obtain ⟨k', v'⟩ := p
    rw [getT_cons] at h
    split at h
    · rename_i e; subst e; cases h; exact List.mem_cons_self
    · exact List.mem_cons_of_mem _ (ih h)
theorem mem_getT {kvs : List (κ × ν)} (hn : ND kvs) {k : κ} {v : ν} (h : (k, v) ∈ kvs) : getT kvs k = some v := by
  induction kvs with
  | nil => cases h
  | cons p r ih =>
    obtain ⟨k', v'⟩ := p
    unfold ND at hn
    rw [List.map_cons, List.nodup_cons] at hn
    rw [getT_cons]
    rcases List.mem_cons.mp h with e | h
    · cases e; rw [if_pos rfl]
    · have : k' ≠ k := fun z => by subst z; exact hn.1 (List.mem_map.mpr ⟨_, h, rfl⟩)
      rw [if_neg this]
      exact ih hn.2 h
theorem nd_pairs {kvs : List (κ × ν)} (h : ND kvs) : kvs.Nodup := by
  unfold ND at h
  exact (List.pairwise_map.mp h).imp fun a b => a (congrArg (·.1) b)
theorem perm_of_get {a b : List (κ × ν)} (ha : ND a) (hb : ND b) (h : ∀ q, getT a q = getT b q) : a.Perm b :=
  (List.perm_ext_iff_of_nodup (nd_pairs ha) (nd_pairs hb)).mpr fun p => ⟨fun hp => getT_mem (by rw [← h]; exact mem_getT ha hp), fun hp => getT_mem (by rw [h]; exact mem_getT hb hp)⟩
theorem nd_perm {a b : List (κ × ν)} (h : a.Perm b) (ha : ND a) : ND b := (h.map _).nodup_iff.mp ha
theorem get_perm {a b : List (κ × ν)} (h : a.Perm b) (ha : ND a) (q : κ) : getT a q = getT b q := by
  have hb := nd_perm h ha
  cases e : getT a q with
  | some v => exact (mem_getT hb (h.mem_iff.mp (getT_mem e))).symm
  | none =>
    rw [getT_none] at e
    exact (getT_none.mpr fun z => e ((h.map _).mem_iff.mpr z)).symm
theorem nd_filter {a : List (κ × ν)} (f : κ × ν → Bool) (ha : ND a) : ND (a.filter f) := by
  unfold ND at *
  exact (List.filter_sublist.map _).nodup ha
theorem get_filter {a : List (κ × ν)} (f : κ × ν → Bool) (ha : ND a) (q : κ) : getT (a.filter f) q = (getT a q).filter fun v => f (q, v) := by
  cases e : getT a q with
  | none =>
    rw [getT_none] at e
    exact getT_none.mpr fun z => e ((List.filter_sublist.map _).subset z)
  | some v =>
    have hm := getT_mem e
    cases hf : f (q, v) with
    | true =>
      rw [mem_getT (nd_filter f ha) (List.mem_filter.mpr ⟨hm, hf⟩)]
      simp [Option.filter, hf]
    | false =>
      rw [show (some v).filter (fun v => f (q, v)) = none by simp [Option.filter, hf]]
      refine getT_none.mpr fun z => ?_
      obtain ⟨p, hp, e2⟩ := List.mem_map.mp z
      obtain ⟨hp1, hp2⟩ := List.mem_filter.mp hp
      have : p.2 = v := by
        have := mem_getT ha (show (q, p.2) ∈ a by rw [← e2]; exact hp1)
        rw [e] at this; cases this; rfl
      rw [show p = (q, v) from Prod.ext e2 this, hf] at hp2
      cases hp2
theorem nd_merge {b : List (κ × ν)} : ∀ {a : List (κ × ν)}, ND a → ND (mergeT a b) := by
  induction b with
  | nil => exact fun h => h
  | cons p r ih => exact fun h => ih (nd_put h _ _)
theorem merge_new : ∀ {b a : List (κ × ν)}, ND (a ++ b) → mergeT a b = a ++ b
  | [], a, _ => by rw [List.append_nil]; rfl
  | p :: r, a, h => by
    have e : putT a p.1 p.2 = a ++ [p] := by
      unfold putT
      have : getT a p.1 = none := getT_none.mpr fun z => by
        unfold ND at h
        rw [List.map_append] at h
        exact (List.nodup_append.mp h).2.2 p.1 z p.1 (by simp) rfl
      rw [this]
      rfl
    show mergeT (putT a p.1 p.2) r = _
    rw [e, merge_new (by rw [List.append_assoc]; exact h), List.append_assoc]
    rfl
theorem merge_id {b : List (κ × ν)} (h : ND b) : mergeT [] b = b := merge_new h
theorem put_len (kvs : List (κ × ν)) (k : κ) (v : ν) : (putT kvs k v).length ≤ kvs.length + 1 := by
  unfold putT
  split
  · have := congrArg List.length (repl_keys kvs k v)
    rw [List.length_map, List.length_map] at this
    omega
  · rw [List.length_append]; exact Nat.le_refl _
theorem put_all {P : κ × ν → Prop} {kvs : List (κ × ν)} (h : ∀ p ∈ kvs, P p) {k : κ} {v : ν} (hv : P (k, v)) : ∀ p ∈ putT kvs k v, P p := by
  have rp : ∀ {kvs : List (κ × ν)}, (∀ p ∈ kvs, P p) → ∀ p ∈ replT kvs k v, P p := by
    intro kvs
    induction kvs with
    | nil => exact fun _ _ z => nomatch z
    | cons p r ih =>
      obtain ⟨k', v'⟩ := p
      intro h p hp
      unfold replT at hp
      split at hp
      · rename_i e
        subst e
        rcases List.mem_cons.mp hp with rfl | hp
        · exact hv
        · exact ih (fun q hq => h q (List.mem_cons_of_mem _ hq)) p hp
      · rcases List.mem_cons.mp hp with rfl | hp
        · exact h _ List.mem_cons_self
        · exact ih (fun q hq => h q (List.mem_cons_of_mem _ hq)) p hp
  unfold putT
  split
  · exact rp h
  · intro p hp
    rcases List.mem_append.mp hp with hp | hp
    · exact h p hp
    · rw [List.mem_singleton.mp hp]; exact hv
end
/-! ### rows in order -/
section
variable {κ ν : Type} [Emb κ] [Emb ν] [DecidableEq κ]
def Inc (xs : List (κ × ν)) : Prop := xs.Pairwise fun p q => ltE p.1 q.1 = true
theorem inc_nd {xs : List (κ × ν)} (h : Inc xs) : ND xs := by
  unfold ND
  exact List.pairwise_map.mpr (h.imp fun a => ltE_ne a)
theorem inc_sorted {xs : List (κ × ν)} (h : Inc xs) : xs.Pairwise fun a b => leE a b = true := h.imp fun {a b} q => leE_of_lt (by rw [ltE_fst (ltE_ne q)]; exact q)
theorem inc_srt {xs : List (κ × ν)} (h : ND xs) : Inc (srt xs) := by
  have h1 := srt_pair xs
  have h2 := nd_perm (srt_perm xs).symm h
  unfold ND at h2
  exact (h1.and (List.pairwise_map.mp h2)).imp fun {a b} ⟨q1, q2⟩ => by
    have := ltE_of_le q1 fun e => q2 (congrArg (·.1) e)
    rwa [ltE_fst q2] at this
theorem inc_one {a b : List (κ × ν)} (ha : Inc a) (hb : Inc b) (h : ∀ q, getT a q = getT b q) : a = b := sorted_one (inc_sorted ha) (inc_sorted hb) (perm_of_get (inc_nd ha) (inc_nd hb) h)
theorem get_srt {xs : List (κ × ν)} (h : ND xs) (q : κ) : getT (srt xs) q = getT xs q := (get_perm (srt_perm xs).symm h q).symm
end
end DL
set_option Elab.async false
set_option linter.all false
set_option maxRecDepth 100000
set_option maxHeartbeats 4000000
set_option autoImplicit false
/-! Typed dicts in the store. -/
namespace DL
open PySem L2
open Emb
/-- what may be a key: texts, numbers (pk), tuples -/
class KeyE (κ : Type) [Emb κ] [DecidableEq κ] where
  pk : Bool
  plain : pk = true → ∀ a : κ, isKey (toD a) = true ∧ ∀ b : κ, keyEq (toD a) (toD b) = decide (a = b)
  nest : pk = false → ∀ a : κ, isKey (toD a) = false ∧ isKeyN (toD a) = true ∧ ∀ b : κ, eqN (toD a) (toD b) = decide (a = b)
/-- things that can be tuple keys, and stand in such -/
class NkE (κ : Type) [Emb κ] where
  nk : κ → NestedKey
  nkOk : ∀ a : κ, keyN (toD a) = some (nk a)
  nkInj : ∀ a b : κ, nk a = nk b → a = b
  kdeg : Nat
  nkDep : ∀ a : κ, (nk a).depth ≤ kdeg
open NkE
instance : NkE Int where
  nk := .num
  nkOk := fun _ => by unfold keyN; rfl
  nkInj := fun a b h => by cases h; rfl
  kdeg := 0
  nkDep := fun a => by simp [NestedKey.depth]
instance : NkE Str where
  nk := .text
  nkOk := fun _ => by unfold keyN; rfl
  nkInj := fun a b h => by cases h; rfl
  kdeg := 0
  nkDep := fun a => by simp [NestedKey.depth]
section
variable {α β : Type} [Emb α] [Emb β] [NkE α] [NkE β]
theorem nks_ok : ∀ xs : List α, keyNs (xs.map toD) = some (xs.map nk)
  | [] => by unfold List.map keyNs; rfl
  | x :: r => by unfold List.map keyNs; rw [nkOk x, nks_ok r]
theorem nks_inj : ∀ xs ys : List α, xs.map nk = ys.map nk → xs = ys
  | [], [], _ => rfl
  | [], _ :: _, h => nomatch h
  | _ :: _, [], h => nomatch h
  | x :: r, y :: q, h => by
    simp only [List.map_cons, List.cons.injEq] at h
    rw [nkInj x y h.1, nks_inj r q h.2]
theorem nks_dep : ∀ xs : List α, NestedKey.depthAll (xs.map nk) ≤ kdeg α
  | [] => by simp [NestedKey.depthAll]
  | x :: r => by
    have h1 := nkDep x
    have h2 := nks_dep r
    simp only [List.map_cons, NestedKey.depthAll]
    omega
instance : NkE (α × β) where
  nk := fun p => .tup [nk p.1, nk p.2]
  nkOk := fun p => by
    show keyN (.tup [toD p.1, toD p.2]) = _
    unfold keyN keyNs keyNs keyNs
    rw [nkOk, nkOk]; rfl
  nkInj := fun a b h => by
    simp only [NestedKey.tup.injEq, List.cons.injEq] at h
    exact Prod.ext (nkInj _ _ h.1) (nkInj _ _ h.2.1)
  kdeg := max (kdeg α) (kdeg β) + 1
  nkDep := fun a => by
    have h1 := nkDep a.1
    have h2 := nkDep a.2
    simp only [NestedKey.depth, NestedKey.depthAll]
    omega
instance : NkE (List α) where
  nk := fun xs => .tup (xs.map nk)
  nkOk := fun xs => by
    show keyN (.tup (xs.map toD)) = _
    unfold keyN
    rw [nks_ok]; rfl
  nkInj := fun a b h => by
    simp only [NestedKey.tup.injEq] at h
    exact nks_inj _ _ h
  kdeg := kdeg α + 1
  nkDep := fun a => by
    have := nks_dep a
    simp only [NestedKey.depth]
    omega
end
theorem nest_of {κ : Type} [Emb κ] [DecidableEq κ] [NkE κ] (ht : ∀ a : κ, ∃ ds, (toD a : D) = .tup ds) (hd : kdeg κ ≤ 8) (a : κ) : isKey (toD a) = false ∧ isKeyN (toD a) = true ∧ ∀ b : κ, eqN (toD a) (toD b) = decide (a = b) := by
  obtain ⟨ds, e⟩ := ht a
  refine ⟨by rw [e]; rfl, ?_, fun b => ?_⟩
  · have h := nkOk a
    rw [e] at h ⊢
    unfold isKeyN
    dsimp only
    rw [h]
    exact decide_eq_true (Nat.le_trans (nkDep a) hd)
  · rw [eqN_dec (nkOk a) (nkOk b)]
    by_cases h : a = b
    · subst h; rw [decide_eq_true rfl, decide_eq_true rfl]
    · rw [decide_eq_false h, decide_eq_false fun z => h (nkInj _ _ z)]
instance : KeyE Str where
  pk := true
  plain := fun _ a => ⟨rfl, fun b => by
    show keyEq (kD (.inr a)) (kD (.inr b)) = _
    rw [keyEq_kD]
    by_cases h : a = b
    · subst h; rw [decide_eq_true rfl, decide_eq_true rfl]
    · rw [decide_eq_false h, decide_eq_false fun z => h (by cases z; rfl)]⟩
  nest := fun h => nomatch h
instance : KeyE Int where
  pk := true
  plain := fun _ a => ⟨rfl, fun b => by
    show keyEq (kD (.inl a)) (kD (.inl b)) = _
    rw [keyEq_kD]
    by_cases h : a = b
    · subst h; rw [decide_eq_true rfl, decide_eq_true rfl]
    · rw [decide_eq_false h, decide_eq_false fun z => h (by cases z; rfl)]⟩
  nest := fun h => nomatch h
section
variable {κ ν : Type} [Emb κ] [Emb ν] [DecidableEq κ] [KeyE κ]
def kvD (kvs : List (κ × ν)) : List (D × D) := kvs.map fun p => (toD p.1, toD p.2)
theorem kvD_len (kvs : List (κ × ν)) : (kvD kvs).length = kvs.length := List.length_map _
theorem lookD_kv (hp : KeyE.pk κ = true) (kvs : List (κ × ν)) (k : κ) : lookD (kvD kvs) (toD k) = (getT kvs k).map toD := by
  induction kvs with
  | nil => rfl
  | cons p r ih =>
    show (if keyEq (toD p.1) (toD k) = true then some (toD p.2) else lookD (kvD r) (toD k)) = Option.map toD (if p.1 = k then some p.2 else getT r k)
    rw [((KeyE.plain hp p.1).2 k), ih]
    by_cases h : p.1 = k
    · rw [decide_eq_true h, if_pos h, if_pos rfl]; rfl
    · rw [decide_eq_false h, if_neg h, if_neg Bool.false_ne_true]
theorem lookN_kv (hp : KeyE.pk κ = false) (kvs : List (κ × ν)) (k : κ) : lookN (kvD kvs) (toD k) = (getT kvs k).map toD := by
  induction kvs with
  | nil => rfl
  | cons p r ih =>
    show (if eqN (toD p.1) (toD k) = true then some (toD p.2) else lookN (kvD r) (toD k)) = Option.map toD (if p.1 = k then some p.2 else getT r k)
    rw [((KeyE.nest hp p.1).2.2 k), ih]
    by_cases h : p.1 = k
    · rw [decide_eq_true h, if_pos h, if_pos rfl]; rfl
    · rw [decide_eq_false h, if_neg h, if_neg Bool.false_ne_true]
theorem replD_kv (hp : KeyE.pk κ = true) (kvs : List (κ × ν)) (k : κ) (v : ν) : replD (kvD kvs) (toD k) (toD v) = kvD (replT kvs k v) := by
  induction kvs with
  | nil => rfl
  | cons p r ih =>
    show (if keyEq (toD p.1) (toD k) = true then (toD p.1, toD v) :: replD (kvD r) (toD k) (toD v) else (toD p.1, toD p.2) :: replD (kvD r) (toD k) (toD v)) = kvD (if p.1 = k then (p.1, v) :: replT r k v else (p.1, p.2) :: replT r k v)
    rw [((KeyE.plain hp p.1).2 k), ih]
    by_cases h : p.1 = k
    · rw [decide_eq_true h, if_pos h, if_pos rfl]; rfl
    · rw [decide_eq_false h, if_neg h, if_neg Bool.false_ne_true]; rfl
theorem replN_kv (hp : KeyE.pk κ = false) (kvs : List (κ × ν)) (k : κ) (v : ν) : replN (kvD kvs) (toD k) (toD v) = kvD (replT kvs k v) := by
  induction kvs with
  | nil => rfl
  | cons p r ih =>
    show (if eqN (toD p.1) (toD k) = true then (toD p.1, toD v) :: replN (kvD r) (toD k) (toD v) else (toD p.1, toD p.2) :: replN (kvD r) (toD k) (toD v)) = kvD (if p.1 = k then (p.1, v) :: replT r k v else (p.1, p.2) :: replT r k v)
    rw [((KeyE.nest hp p.1).2.2 k), ih]
    by_cases h : p.1 = k
    · rw [decide_eq_true h, if_pos h, if_pos rfl]; rfl
    · rw [decide_eq_false h, if_neg h, if_neg Bool.false_ne_true]; rfl
theorem putD_kv (hp : KeyE.pk κ = true) (kvs : List (κ × ν)) (k : κ) (v : ν) : putD (kvD kvs) (toD k) (toD v) = kvD (putT kvs k v) := by
  unfold putD putT
  rw [lookD_kv hp, replD_kv hp, Option.isSome_map]
  cases (getT kvs k).isSome with
  | true => rfl
  | false => show kvD kvs ++ _ = kvD (kvs ++ _); unfold kvD; rw [List.map_append]; rfl
theorem putN_kv (hp : KeyE.pk κ = false) (kvs : List (κ × ν)) (k : κ) (v : ν) : putN (kvD kvs) (toD k) (toD v) = kvD (putT kvs k v) := by
  unfold putN putT
  rw [lookN_kv hp, replN_kv hp, Option.isSome_map]
  cases (getT kvs k).isSome with
  | true => rfl
  | false => show kvD kvs ++ _ = kvD (kvs ++ _); unfold kvD; rw [List.map_append]; rfl
theorem mergeD_kv (hp : KeyE.pk κ = true) : ∀ (more kvs : List (κ × ν)), mergeD (kvD kvs) (kvD more) = kvD (mergeT kvs more)
  | [], _ => rfl
  | p :: r, kvs => by
    show mergeD (putD (kvD kvs) (toD p.1) (toD p.2)) (kvD r) = kvD (mergeT (putT kvs p.1 p.2) r)
    rw [putD_kv hp, mergeD_kv hp r]
theorem mergeN_kv (hp : KeyE.pk κ = false) : ∀ (more kvs : List (κ × ν)), mergeN (kvD kvs) (kvD more) = kvD (mergeT kvs more)
  | [], _ => rfl
  | p :: r, kvs => by
    show mergeN (putN (kvD kvs) (toD p.1) (toD p.2)) (kvD r) = kvD (mergeT (putT kvs p.1 p.2) r)
    rw [putN_kv hp, mergeN_kv hp r]
/-- u is the dict of these -/
def IsDic (u : D) (kvs : List (κ × ν)) : Prop := (kvs = [] ∧ u = .dct []) ∨ (KeyE.pk κ = true ∧ u = .dct (kvD kvs)) ∨ (KeyE.pk κ = false ∧ u = .dcn (kvD kvs))
theorem isDic_nil : IsDic (.dct []) ([] : List (κ × ν)) := .inl ⟨rfl, rfl⟩
theorem isDic_closed {u : D} {kvs : List (κ × ν)} (h : IsDic u kvs) (n : Nat) : D.closed n u = true := by
  have key : ∀ kvs : List (κ × ν), closedK n (kvD kvs) = true := fun kvs => by
    induction kvs with
    | nil => rfl
    | cons p r ih => show closedK n ((toD p.1, toD p.2) :: kvD r) = true; unfold closedK; rw [cl, cl, ih]; rfl
  rcases h with ⟨_, rfl⟩ | ⟨_, rfl⟩ | ⟨_, rfl⟩
  · rfl
  · unfold D.closed; exact key kvs
  · unfold D.closed; exact key kvs
theorem dic_deref {S : Sto} {j : Nat} {u : D} {kvs : List (κ × ν)} (h : IsDic u kvs) (hj : S[j]? = some u) : deref S (.ptr j) = u := by
  unfold deref
  dsimp only
  rw [show S.getD j .non = u by rw [List.getD_eq_getElem?_getD, hj]; rfl]
  rcases h with ⟨_, rfl⟩ | ⟨_, rfl⟩ | ⟨_, rfl⟩ <;> rfl
theorem dic_isDct {S : Sto} {j : Nat} {u : D} {kvs : List (κ × ν)} (h : IsDic u kvs) (hj : S[j]? = some u) : isDct S (.ptr j) = true := by
  unfold isDct
  rw [dic_deref h hj]
  rcases h with ⟨_, rfl⟩ | ⟨_, rfl⟩ | ⟨_, rfl⟩ <;> rfl
theorem dic_lookU {S : Sto} {j : Nat} {u : D} {kvs : List (κ × ν)} (h : IsDic u kvs) (hj : S[j]? = some u) (k : κ) : lookU S (.ptr j) (toD k) = some ((getT kvs k).map toD) := by
  unfold lookU
  rw [dic_deref h hj]
  rcases h with ⟨rfl, rfl⟩ | ⟨hp, rfl⟩ | ⟨hp, rfl⟩
  · dsimp only
    cases hp : KeyE.pk κ with
    | true => rw [if_pos (KeyE.plain hp k).1]; rfl
    | false =>
      rw [if_neg (by rw [(KeyE.nest hp k).1]; decide)]
      first
        | (rw [if_pos (by simp [(KeyE.nest hp k).2.1])]; rfl)
        | rfl
  · dsimp only
    rw [if_pos (KeyE.plain hp k).1, lookD_kv hp]
  · dsimp only
    rw [if_pos (KeyE.nest hp k).2.1, lookN_kv hp]
theorem dic_putU {u : D} {kvs : List (κ × ν)} (h : IsDic u kvs) (hl : kvs.length < sizeLine) (k : κ) (v : ν) : ∃ u', putU u (toD k) (toD v) = some u' ∧ IsDic u' (putT kvs k v) := by
  rcases h with ⟨rfl, rfl⟩ | ⟨hp, rfl⟩ | ⟨hp, rfl⟩
  · cases hp : KeyE.pk κ with
    | true =>
      refine ⟨.dct (kvD (putT ([] : List (κ × ν)) k v)), ?_, .inr (.inl ⟨hp, rfl⟩)⟩
      unfold putU
      dsimp only
      rw [if_pos (KeyE.plain hp k).1]
      rfl
    | false =>
      refine ⟨.dcn (kvD (putT ([] : List (κ × ν)) k v)), ?_, .inr (.inr ⟨hp, rfl⟩)⟩
      unfold putU
      dsimp only
      rw [if_neg (by rw [(KeyE.nest hp k).1]; decide), (KeyE.nest hp k).2.1]
      rfl
  · refine ⟨.dct (kvD (putT kvs k v)), ?_, .inr (.inl ⟨hp, rfl⟩)⟩
    unfold putU
    dsimp only
    rw [if_pos (KeyE.plain hp k).1, kvD_len, if_pos hl, putD_kv hp]
  · refine ⟨.dcn (kvD (putT kvs k v)), ?_, .inr (.inr ⟨hp, rfl⟩)⟩
    unfold putU
    dsimp only
    rw [(KeyE.nest hp k).2.1, kvD_len, decide_eq_true hl, putN_kv hp]
    rfl
theorem pairsOf_kv : ∀ kvs : List (κ × ν), pairsOf (kvs.map toD) = some (kvD kvs)
  | [] => rfl
  | p :: r => by
    show pairsOf (.tup [toD p.1, toD p.2] :: r.map toD) = some ((toD p.1, toD p.2) :: kvD r)
    unfold pairsOf
    rw [pairsOf_kv r]
    rfl
theorem dictOf_kv (kvs : List (κ × ν)) : ∃ u, dictOf (kvD kvs) = some u ∧ IsDic u (mergeT [] kvs) := by
  unfold dictOf
  cases kvs with
  | nil => exact ⟨.dct [], rfl, .inl ⟨rfl, rfl⟩⟩
  | cons p r =>
    cases hp : KeyE.pk κ with
    | true =>
      have e : (kvD (p :: r)).all (fun p => isKey p.1) = true := List.all_eq_true.mpr fun q hq => by
        obtain ⟨a, _, rfl⟩ := List.mem_map.mp hq
        exact (KeyE.plain hp a.1).1
      rw [e]
      exact ⟨_, rfl, .inr (.inl ⟨hp, congrArg D.dct (mergeD_kv hp (p :: r) [])⟩)⟩
    | false =>
      have e : (kvD (p :: r)).all (fun p => isKey p.1) = false := by
        show (isKey (toD p.1) && _) = false
        rw [(KeyE.nest hp p.1).1]; rfl
      have e2 : (kvD (p :: r)).all (fun p => isKeyN p.1) = true := List.all_eq_true.mpr fun q hq => by
        obtain ⟨a, _, rfl⟩ := List.mem_map.mp hq
        exact (KeyE.nest hp a.1).2.1
      rw [e, e2]
      exact ⟨_, rfl, .inr (.inr ⟨hp, congrArg D.dcn (mergeN_kv hp (p :: r) [])⟩)⟩
theorem dict_of (S : Sto) (kvs : List (κ × ν)) : ∃ u, gDict S [.lst (kvs.map toD)] = some u ∧ gDict S [.tup (kvs.map toD)] = some u ∧ IsDic u (mergeT [] kvs) := by
  obtain ⟨u, h1, h2⟩ := dictOf_kv kvs
  refine ⟨u, ?_, ?_, h2⟩
  · show (pairsOf (kvs.map toD)).bind dictOf = some u
    rw [pairsOf_kv]; exact h1
  · show (pairsOf (kvs.map toD)).bind dictOf = some u
    rw [pairsOf_kv]; exact h1
/-- the pairs of a dict that is walked -/
theorem dic_items {S : Sto} {j : Nat} {u : D} {kvs : List (κ × ν)} (h : IsDic u kvs) (hj : S[j]? = some u) : lckOf (S.set j (.lck u)) (.ptr j) = some (kvD kvs) := by
  have hlt := (List.getElem?_eq_some_iff.mp hj).1
  unfold lckOf
  dsimp only
  rw [List.getElem?_set_self hlt]
  rcases h with ⟨rfl, rfl⟩ | ⟨_, rfl⟩ | ⟨_, rfl⟩ <;> rfl
theorem dic_itemsOf {S : Sto} {j : Nat} {u : D} {kvs : List (κ × ν)} (h : IsDic u kvs) (hj : S[j]? = some u) : itemsOf (deref S (.ptr j)) = some (kvs.map toD) := by
  rw [dic_deref h hj]
  have e : (kvD kvs).map (fun p => D.tup [p.1, p.2]) = kvs.map toD := by unfold kvD; rw [List.map_map]; rfl
  rcases h with ⟨rfl, rfl⟩ | ⟨_, rfl⟩ | ⟨_, rfl⟩
  · rfl
  · show some _ = some _; rw [e]
  · show some _ = some _; rw [e]
end
end DL
set_option Elab.async false
set_option linter.all false
set_option maxRecDepth 100000
set_option maxHeartbeats 4000000
set_option autoImplicit false
/-! Plain tools, for every law. -/
namespace DL
open PySem L2
open Emb
theorem closedL_iff {n : Nat} : ∀ {xs : List D}, closedL n xs = true ↔ ∀ (i : Nat) (x : D), xs[i]? = some x → D.closed n x = true
  | [] => ⟨fun _ i x h => by simp at h, fun _ => rfl⟩
  | a :: r => by
    unfold closedL
    rw [Bool.and_eq_true, closedL_iff (xs := r)]
    constructor
    · rintro ⟨h1, h2⟩ i x hx
      cases i with
      | zero => simp at hx; subst hx; exact h1
      | succ i => exact h2 i x (by simpa using hx)
    · intro h
      exact ⟨h 0 a rfl, fun i x hx => h (i + 1) x (by simpa using hx)⟩
theorem take_app {S : Sto} {a : D} : (S ++ [a]).take S.length = S := List.take_left' rfl
theorem set_app {S : Sto} {a b : D} : (S ++ [a]).set S.length b = S ++ [b] := by
  rw [List.set_append_right _ _ (Nat.le_refl _), Nat.sub_self]
  rfl
theorem get_app {S : Sto} {a : D} : (S ++ [a])[S.length]? = some a := by
  rw [List.getElem?_append_right (Nat.le_refl _), Nat.sub_self]
  rfl
theorem deref_app {S : Sto} {xs : List D} : deref (S ++ [.lst xs]) (.ptr S.length) = .lst xs := by
  unfold deref
  dsimp only
  rw [List.getD_eq_getElem?_getD, get_app]
  rfl
/-- a def that drops what it made -/
theorem m_defJ {n : Nat} {b : RS} {ds : List D} {S : Sto} {d : D} (hS : Sane S) (hd : D.closed S.length d = true) (h : (b (ds.map some ++ List.replicate (n - ds.length) none) S).post NoS (fun z S1 => z = d ∧ S1.take S.length = S) NoS NoS) : mDef n b ds S = .ok d S :=
  same_of (m_def (h.mono (fun _ _ z => z.elim) (fun z S1 ⟨e1, e2⟩ => by
    rw [e1, hd, e2, show closedL S.length S = true from hS]
    exact ⟨rfl, rfl, rfl⟩) (fun _ _ z => z) (fun _ _ z => z)))
theorem p_append {δ : Sl} {S S0 : Sto} {x e : RE} {xs : List D} {Q : D → Sto → Prop} (h : (x δ S).post fun d S1 => d = .ptr S0.length ∧ S1 = S0 ++ [.lst xs] ∧ xs.length < sizeLine ∧ (e δ S1).post fun y S2 => S2 = S1 ∧ Q .non (S0 ++ [.lst (xs ++ [y])])) : (rMeth "list" mAppend x (rCons e rNil) δ S).post Q := by
  refine p_meth (h.mono fun d S1 ⟨e1, e2, e3, q⟩ => ?_)
  subst e1
  subst e2
  refine ⟨?_, ?_⟩
  · unfold isTy
    rw [deref_app]
    rfl
  · refine p_cons (q.mono fun y S2 ⟨e4, q2⟩ => p_nil ?_)
    subst e4
    refine ⟨.non, S0 ++ [.lst (xs ++ [y])], ?_, q2⟩
    unfold mAppend
    dsimp only
    rw [get_app]
    dsimp only
    rw [if_pos e3, set_app]
theorem o_getU {S : Sto} {k : Nat} {q v : D} {kvs : List (D × D)} {Q : D → Sto → Prop} (h : S[k]? = some (.dct kvs)) (hq : isKey q = true) (e : lookD kvs q = some v) (f : Q v S) : (Res.lift (gGetU S (.ptr k) q) S).post Q :=
  p_lift (by
    have hd : deref S (.ptr k) = .dct kvs := by
      unfold deref
      dsimp only
      rw [show S.getD k .non = .dct kvs by rw [List.getD_eq_getElem?_getD, h]; rfl]
    unfold gGetU lookU
    rw [hd]
    dsimp only
    rw [if_pos hq, e]) f
theorem s_putU {δ : Sl} {S : Sto} {d k v : RE} {N B C : Sl → Sto → Prop} {T : D → Sto → Prop} (h : (v δ S).post fun z S1 => (d δ S1).post fun x S2 => (k δ S2).post fun y S3 => ∃ n u u', x = .ptr n ∧ S3[n]? = some u ∧ putU u y z = some u' ∧ N δ (S3.set n u')) : (sPutU d k v δ S).post N T B C :=
  p_out (h.mono fun z S1 q => p_out (q.mono fun x S2 q => p_out (q.mono fun y S3 ⟨n, u, u', e1, e2, e3, q'⟩ => by
    subst e1
    dsimp only
    rw [e2]
    dsimp only
    rw [e3]
    exact q')))
theorem s_setL {δ : Sl} {S : Sto} {d k v : RE} {N B C : Sl → Sto → Prop} {T : D → Sto → Prop} (h : (v δ S).post fun z S1 => (d δ S1).post fun x S2 => (k δ S2).post fun y S3 => ∃ n i xs j, x = .ptr n ∧ y = .int i ∧ S3[n]? = some (.lst xs) ∧ ixN xs.length i = some j ∧ N δ (S3.set n (.lst (xs.set j z)))) : (sSetL d k v δ S).post N T B C :=
  p_out (h.mono fun z S1 q => p_out (q.mono fun x S2 q => p_out (q.mono fun y S3 ⟨n, i, xs, j, e1, e2, e3, e4, q'⟩ => by
    subst e1
    subst e2
    dsimp only
    rw [e3]
    dsimp only
    rw [e4]
    exact q')))
theorem deref_at {S : Sto} {k : Nat} {xs : List D} (h : S[k]? = some (.lst xs)) : deref S (.ptr k) = .lst xs := by
  unfold deref
  dsimp only
  rw [show S.getD k .non = .lst xs by rw [List.getD_eq_getElem?_getD, h]; rfl]
theorem set_ints {rs : List Int} {j : Nat} {z : Int} : (rs.map D.int).set j (.int z) = (rs.set j z).map D.int := by rw [List.map_set]
theorem closed_ints' {m : Nat} : ∀ ns : List Int, closedL m (ns.map D.int) = true
  | [] => rfl
  | _ :: r => by unfold List.map closedL; rw [closed_ints' r]; rfl
theorem pow6 {δ : Sl} {S : Sto} {Q : D → Sto → Prop} {n : Nat} (hn : n ≤ 1000) (h : Q (.int (10 ^ n)) S) : (Res.lift (gPow S (.int 10) (.int n)) S).post Q := o_pow ⟨by omega, by omega, by decide⟩ (by
  have e : (n : Int).toNat = n := by omega
  rw [e]; exact h)
theorem p_get2 {a k x : RE} {δ : Sl} {S : Sto} {Q : D → Sto → Prop} (h : (a δ S).post fun d S1 => isDct S1 d = true ∧ (k δ S1).post fun q S2 => (x δ S2).post fun z S3 => ∃ o, lookU S3 d q = some o ∧ Q (o.getD z) S3) : (rGet2 a k x δ S).post Q :=
  p_bind (h.mono fun d S1 ⟨e, q⟩ => by
    rw [if_pos e]
    exact p_bind (q.mono fun y S2 q => p_bind (q.mono fun z S3 ⟨o, e2, q⟩ => p_lift (by rw [e2]; rfl) q)))
theorem p_items {a : RE} {δ : Sl} {S : Sto} {Q : List D → Sto → Prop} (h : (a δ S).post fun d S1 => ∃ kvs, lckOf S1 d = some kvs ∧ Q (pairsD kvs) S1) : (rItems a δ S).post Q := p_bind (h.mono fun d S1 ⟨kvs, e, q⟩ => p_lift (by rw [e]; rfl) q)
theorem s_lockN {i k : Nat} {δ : Sl} {S : Sto} {u : D} {r : RS} {N B C : Sl → Sto → Prop} {T : D → Sto → Prop} (e : δ[i]? = some (some (.ptr k))) (hk : S[k]? = some u) (hu : (∃ kvs, u = .dct kvs) ∨ ∃ kvs, u = .dcn kvs)
    (h : (r δ (S.set k (.lck u))).post (fun δ' S1 => S1[k]? = some (.lck u) ∧ N δ' (S1.set k u)) (fun z S1 => S1[k]? = some (.lck u) ∧ T z (S1.set k u)) NoS NoS) : (sLock i r δ S).post N T B C := by
  have hL : lockAt δ S i = some (k, u) := by
    unfold lockAt
    rw [e]
    dsimp only
    rw [hk]
    rcases hu with ⟨kvs, rfl⟩ | ⟨kvs, rfl⟩ <;> rfl
  unfold sLock
  rw [hL]
  dsimp only
  cases q : r δ (S.set k (.lck u)) with
  | rt z S1 =>
    rw [q] at h
    obtain ⟨h1, hT⟩ : S1[k]? = some (.lck u) ∧ T z (S1.set k u) := h
    unfold unlkO unlk
    dsimp only
    rw [h1]
    exact hT
  | nx δ' S1 =>
    rw [q] at h
    obtain ⟨h1, hT⟩ : S1[k]? = some (.lck u) ∧ N δ' (S1.set k u) := h
    unfold unlkO unlk
    dsimp only
    rw [h1]
    exact hT
  | _ => rw [q] at h; exact h.elim
theorem unset {S : Sto} {k : Nat} {u x : D} (hk : S[k]? = some u) : (S.set k x).set k u = S := by
  have hlt := (List.getElem?_eq_some_iff.mp hk).1
  rw [List.set_set]
  have := (List.getElem?_eq_some_iff.mp hk).2
  rw [← this]
  exact List.set_getElem_self hlt
/-- a walk over a locked dict that leaves the store -/
theorem s_lockS {κ ν : Type} [Emb κ] [Emb ν] [DecidableEq κ] [KeyE κ] {i k : Nat} {δ : Sl} {S : Sto} {u : D} {kvs : List (κ × ν)} {r : RS} {N B C : Sl → Sto → Prop} {T : D → Sto → Prop} (hd : IsDic u kvs) (hk : S[k]? = some u) (e : δ[i]? = some (some (.ptr k)))
    (h : (r δ (S.set k (.lck u))).post (fun δ' S1 => S1 = S.set k (.lck u) ∧ N δ' S) (fun z S1 => S1 = S.set k (.lck u) ∧ T z S) NoS NoS) : (sLock i r δ S).post N T B C := by
  have hlt := (List.getElem?_eq_some_iff.mp hk).1
  refine s_lockN e hk (by rcases hd with ⟨_, rfl⟩ | ⟨_, rfl⟩ | ⟨_, rfl⟩ <;> first | exact .inl ⟨_, rfl⟩ | exact .inr ⟨_, rfl⟩) (h.mono ?_ ?_ (fun _ _ z => z) (fun _ _ z => z))
  · rintro δ' S1 ⟨rfl, hN⟩
    exact ⟨List.getElem?_set_self hlt, by rw [unset hk]; exact hN⟩
  · rintro z S1 ⟨rfl, hT⟩
    exact ⟨List.getElem?_set_self hlt, by rw [unset hk]; exact hT⟩
/-- a comprehension over things of a kind, that leaves the store -/
theorem lcT {α β : Type} (ta : α → D) (tb : β → D) (f : α → Option β) {g : RG} {t : RB} {e : RE} {δ : Sl} {S : Sto} : ∀ {xs : List α}, (∀ a ∈ xs, ∃ δ1, g (ta a) δ S = .ok δ1 S ∧ ((f a = none ∧ t δ1 S = .ok false S) ∨ ∃ b, f a = some b ∧ t δ1 S = .ok true S ∧ e δ1 S = .ok (tb b) S)) → lcL g t e (xs.map ta) δ S = .ok ((xs.filterMap f).map tb) S
  | [], _ => rfl
  | x :: xs, h => by
    have ih := lcT ta tb f (g := g) (t := t) (e := e) (δ := δ) (S := S) (xs := xs) fun y hy => h y (List.mem_cons_of_mem _ hy)
    obtain ⟨δ1, h1, h2⟩ := h x List.mem_cons_self
    rw [List.map_cons]
    unfold lcL
    rw [h1]
    show (t δ1 S).bind _ = _
    rw [List.filterMap_cons]
    rcases h2 with ⟨e1, e2⟩ | ⟨y, e1, e2, e3⟩
    · rw [e2, e1]
      exact ih
    · rw [e2, e1]
      show (e δ1 S).bind _ = _
      rw [e3]
      show (lcL g t e (xs.map ta) δ S).bind _ = _
      rw [ih]
      rfl
/-- each turn one thing -/
theorem lcTm {α β : Type} (ta : α → D) (tb : β → D) (f : α → β) {g : RG} {e : RE} {δ : Sl} {S : Sto} {xs : List α} (h : ∀ a ∈ xs, ∃ δ1, g (ta a) δ S = .ok δ1 S ∧ e δ1 S = .ok (tb (f a)) S) : lcL g bYes e (xs.map ta) δ S = .ok ((xs.map f).map tb) S := by
  rw [lcT ta tb (fun a => some (f a)) fun a ha => by
    obtain ⟨δ1, h1, h2⟩ := h a ha
    exact ⟨δ1, h1, .inr ⟨_, rfl, rfl, h2⟩⟩]
  rw [show xs.filterMap (fun a => some (f a)) = xs.map f from congrFun (List.filterMap_eq_map) xs]
/-- each turn the thing itself, or nothing -/
theorem lcTf {α : Type} (ta tb : α → D) (p : α → Bool) {g : RG} {t : RB} {e : RE} {δ : Sl} {S : Sto} {xs : List α} (h : ∀ a ∈ xs, ∃ δ1, g (ta a) δ S = .ok δ1 S ∧ t δ1 S = .ok (p a) S ∧ (p a = true → e δ1 S = .ok (tb a) S)) : lcL g t e (xs.map ta) δ S = .ok ((xs.filter p).map tb) S := by
  rw [lcT ta tb (fun a => if p a = true then some a else none) fun a ha => by
    obtain ⟨δ1, h1, h2, h3⟩ := h a ha
    refine ⟨δ1, h1, ?_⟩
    cases q : p a with
    | true => exact .inr ⟨a, by simp, by rw [h2, q], h3 q⟩
    | false => exact .inl ⟨by simp, by rw [h2, q]⟩]
  congr 2
  clear h
  induction xs with
  | nil => rfl
  | cons x r ih =>
    rw [List.filterMap_cons, List.filter_cons, ih]
    cases p x <;> rfl
/-- a def that leaves what it made -/
theorem m_defK {n : Nat} {b : RS} {ds : List D} {S : Sto} {Q : D → Sto → Prop} (h : (b (ds.map some ++ List.replicate (n - ds.length) none) S).post (fun _ S1 => Q .non S1) Q NoS NoS) : (mDefK n b ds S).post Q := by
  unfold mDefK
  cases q : b (ds.map some ++ List.replicate (n - ds.length) none) S with
  | nx δ S1 => rw [q] at h; exact h
  | rt d S1 => rw [q] at h; exact h
  | _ => rw [q] at h; exact h.elim
theorem p_sortIt {a : RE} {δ : Sl} {S : Sto} {Q : D → Sto → Prop} (h : (a δ S).post fun d S1 => ∃ xs, (itemsOf (deref S1 d)).bind (sortD S1) = some xs ∧ Q (.lst xs) S1) : (rSortItems a δ S).post Q :=
  p_bind (h.mono fun d S1 ⟨xs, e, q⟩ => p_lift (a := .lst xs) (by rw [e]; rfl) q)
/-- the loop's law over things of a kind: I what is left -/
theorem s_forT {α : Type} (ta : α → D) {g : RG} {b : RS} {N B C : Sl → Sto → Prop} {T : D → Sto → Prop} (I : List α → Sl → Sto → Prop) (step : ∀ x xs δ S, I (x :: xs) δ S → (g (ta x) δ S).post fun δ1 S1 => (b δ1 S1).post (fun δ2 S2 => I xs δ2 S2) T N fun δ2 S2 => I xs δ2 S2) (fin : ∀ δ S, I [] δ S → N δ S)
    (xs : List α) (δ : Sl) (S : Sto) (h : I xs δ S) : (forL g b (xs.map ta) δ S).post N T B C :=
  s_forL (fun ds δ S => ∃ xs : List α, ds = xs.map ta ∧ I xs δ S) (fun x ds δ S ⟨xs, e, h⟩ => by
    cases xs with
    | nil => cases e
    | cons y ys =>
      rw [List.map_cons, List.cons.injEq] at e
      obtain ⟨rfl, rfl⟩ := e
      exact (step y ys δ S h).mono fun δ1 S1 q => q.mono (fun _ _ z => ⟨ys, rfl, z⟩) (fun _ _ z => z) (fun _ _ z => z) (fun _ _ z => ⟨ys, rfl, z⟩)) (fun δ S ⟨xs, e, h⟩ => by
    cases xs with
    | nil => exact fin δ S h
    | cons y ys => cases e) (xs.map ta) δ S ⟨xs, rfl, h⟩
mutual
theorem eqv_refl : ∀ x : PyData, fitP x = true → PyData.eqv x x = true
  | .none, _ => by simp [PyData.eqv]
  | .bool b, _ => by simp [PyData.eqv]
  | .int i, _ => by simp [PyData.eqv]
  | .str x, _ => by simp [PyData.eqv]
  | .list xs, h => by simp only [PyData.eqv]; exact eqvs_refl xs (by unfold fitP at h; exact h)
  | .tuple xs, h => by simp only [PyData.eqv]; exact eqvs_refl xs (by unfold fitP at h; exact h)
  | .dict _, h => by unfold fitP at h; cases h
theorem eqvs_refl : ∀ xs : List PyData, fitPs xs = true → PyData.eqvAll xs xs = true
  | [], _ => by simp [PyData.eqvAll]
  | x :: r, h => by
    unfold fitPs at h
    rw [Bool.and_eq_true] at h
    simp only [PyData.eqvAll, eqv_refl x h.1, eqvs_refl r h.2, Bool.and_self]
end
end DL
set_option Elab.async false
set_option linter.all false
set_option maxRecDepth 100000
set_option maxHeartbeats 4000000
set_option autoImplicit false
/-! Products of boxes, kinds, fractions: typed. -/
namespace DL
open PySem L2
open Emb
/-! ### fractions -/
instance : Emb Rat where
  toD := fun q => .tup [.int q.num, .int q.den]
  py := fun q => .tuple [.int q.num, .int q.den]
  deg := 1
  pyOk := fun _ _ => rfl
  np := fun _ _ h => nomatch h
  al := fun a b => by simp [PySem.W.alike, PySem.W.alikeAll]
  dep := fun a => by simp [PyData.depth, PyData.depthAll]
  inj := fun a b h => by
    simp only [PyData.eqv, PyData.eqvAll, Bool.and_eq_true, beq_iff_eq] at h
    exact Rat.ext h.1 (Int.ofNat.inj h.2.1)
  cl := fun _ _ => rfl
theorem rat_nd (q : Rat) : (q.num : Rat) / ((q.den : Nat) : Rat) = q := by
  have h := Rat.num_divInt_den q
  rw [Rat.divInt_eq_div] at h
  exact_mod_cast h
theorem toD_rat (q : Rat) : (toD q : D) = .tup [.int q.num, .int q.den] := rfl
theorem rat_of {a b : Int} (hb : 0 < b) : ((a : Rat) / (b : Rat)).num = a.fdiv (Int.gcd a b) ∧ (((a : Rat) / (b : Rat)).den : Int) = b.fdiv (Int.gcd a b) := by
  have hg : 0 < Int.gcd a b := Int.gcd_pos_of_ne_zero_right _ (by omega)
  have d1 : (Int.gcd a b : Int) ∣ a := Int.gcd_dvd_left ..
  have d2 : (Int.gcd a b : Int) ∣ b := Int.gcd_dvd_right ..
  rw [Int.fdiv_eq_ediv_of_nonneg _ (by omega), Int.fdiv_eq_ediv_of_nonneg _ (by omega)]
  have y0 : 0 < b / (Int.gcd a b : Int) := Int.ediv_pos_of_pos_of_dvd hb (by omega) d2
  have cop : Int.gcd (a / (Int.gcd a b : Int)) (b / (Int.gcd a b : Int)) = 1 := by
    have := Int.gcd_ediv d1 d2
    rw [this]
    exact Nat.div_self (by simpa using hg)
  obtain ⟨n, hn⟩ : ∃ n : Nat, b / (Int.gcd a b : Int) = n := ⟨(b / (Int.gcd a b : Int)).toNat, by omega⟩
  have hn0 : n ≠ 0 := by omega
  have hc : (a / (Int.gcd a b : Int)).natAbs.Coprime n := by
    unfold Nat.Coprime
    rw [hn] at cop
    exact cop
  have e : (a : Rat) / (b : Rat) = Rat.mk' (a / (Int.gcd a b : Int)) n hn0 hc := by
    have h1 := rat_nd (Rat.mk' (a / (Int.gcd a b : Int)) n hn0 hc)
    have h1 : ((a / (Int.gcd a b : Int) : Int) : Rat) / ((n : Nat) : Rat) = Rat.mk' (a / (Int.gcd a b : Int)) n hn0 hc := h1
    rw [← h1]
    have hb' : (b : Rat) ≠ 0 := by simp; omega
    have hn' : (n : Rat) ≠ 0 := by simp; omega
    have hx : a * (n : Int) = (a / (Int.gcd a b : Int)) * b := by
      rw [← hn]
      obtain ⟨x, hx⟩ := d1
      obtain ⟨y, hy⟩ := d2
      have hgg : (Int.gcd a b : Int) ≠ 0 := by omega
      generalize (Int.gcd a b : Int) = g at *
      subst hx; subst hy
      rw [Int.mul_ediv_cancel_left _ hgg, Int.mul_ediv_cancel_left _ hgg]
      grind
    have hx' : (a : Rat) * (n : Rat) = ((a / (Int.gcd a b : Int) : Int) : Rat) * (b : Rat) := by exact_mod_cast hx
    generalize ((a / (Int.gcd a b : Int) : Int) : Rat) = z at *
    grind
  rw [e]
  exact ⟨rfl, hn.symm⟩
theorem rat_add (x y : Rat) : x + y = ((x.num * y.den + y.num * x.den : Int) : Rat) / ((x.den * y.den : Int) : Rat) := by
  have h1 := rat_nd x
  have h2 := rat_nd y
  have hx : ((x.den : Nat) : Rat) ≠ 0 := by have := x.den_nz; simp; omega
  have hy : ((y.den : Nat) : Rat) ≠ 0 := by have := y.den_nz; simp; omega
  have e1 : ((x.num * y.den + y.num * x.den : Int) : Rat) = (x.num : Rat) * (y.den : Rat) + (y.num : Rat) * (x.den : Rat) := by push_cast; rfl
  have e2 : ((x.den * y.den : Int) : Rat) = (x.den : Rat) * (y.den : Rat) := by push_cast; rfl
  rw [e1, e2]
  generalize (x.num : Rat) = a at *
  generalize (y.num : Rat) = b at *
  generalize (x.den : Rat) = c at *
  generalize (y.den : Rat) = d at *
  subst h1; subst h2
  grind
theorem rat_mul (x y : Rat) : x * y = ((x.num * y.num : Int) : Rat) / ((x.den * y.den : Int) : Rat) := by
  have h1 := rat_nd x
  have h2 := rat_nd y
  have hx : ((x.den : Nat) : Rat) ≠ 0 := by have := x.den_nz; simp; omega
  have hy : ((y.den : Nat) : Rat) ≠ 0 := by have := y.den_nz; simp; omega
  have e1 : ((x.num * y.num : Int) : Rat) = (x.num : Rat) * (y.num : Rat) := by push_cast; rfl
  have e2 : ((x.den * y.den : Int) : Rat) = (x.den : Rat) * (y.den : Rat) := by push_cast; rfl
  rw [e1, e2]
  generalize (x.num : Rat) = a at *
  generalize (y.num : Rat) = b at *
  generalize (x.den : Rat) = c at *
  generalize (y.den : Rat) = d at *
  subst h1; subst h2
  grind
/-- not greater than B, above and below -/
def RB' (B : Nat) (q : Rat) : Prop := q.num.natAbs ≤ B ∧ q.den ≤ B
theorem rb_of {a b : Int} {B : Nat} (hb : 0 < b) (ha : a.natAbs ≤ B) (hb2 : b.natAbs ≤ B) : RB' B ((a : Rat) / (b : Rat)) := by
  obtain ⟨h1, h2⟩ := rat_of (a := a) hb
  have hg : 0 < Int.gcd a b := Int.gcd_pos_of_ne_zero_right _ (by omega)
  have bd : ∀ (z : Int), (Int.fdiv z (Int.gcd a b)).natAbs ≤ z.natAbs := fun z => by
    rw [Int.fdiv_eq_ediv_of_nonneg _ (by omega)]
    exact Int.natAbs_ediv_le_natAbs z _
  refine ⟨by rw [h1]; exact Nat.le_trans (bd a) ha, ?_⟩
  have := Nat.le_trans (bd b) hb2
  rw [← h2] at this
  simpa using this
theorem rb_mono {B C : Nat} {q : Rat} (h : RB' B q) (hc : B ≤ C) : RB' C q := ⟨Nat.le_trans h.1 hc, Nat.le_trans h.2 hc⟩
theorem rb_add {A B : Nat} {x y : Rat} (hx : RB' A x) (hy : RB' B y) : RB' (2 * (A * B)) (x + y) := by
  rw [rat_add]
  have hp : (0 : Int) < x.den * y.den := by
    have := x.den_pos
    have := y.den_pos
    exact Int.mul_pos (by omega) (by omega)
  refine rb_of hp ?_ ?_
  · have h1 : (x.num * y.den).natAbs ≤ A * B := by rw [Int.natAbs_mul]; exact Nat.mul_le_mul hx.1 (by simpa using hy.2)
    have h2 : (y.num * x.den).natAbs ≤ A * B := by rw [Int.natAbs_mul, Nat.mul_comm]; exact Nat.mul_le_mul (by simpa using hx.2) hy.1
    omega
  · have : ((x.den * y.den : Int)).natAbs ≤ A * B := by rw [Int.natAbs_mul]; exact Nat.mul_le_mul (by simpa using hx.2) (by simpa using hy.2)
    omega
theorem rat_num0 {q : Rat} : q.num = 0 ↔ q = 0 := Rat.num_eq_zero
/-! ### products of boxes, kinds -/
abbrev Mono := List (Str × Int)
structure Kind where
  m : Mono
  p : Int
  b : Int
  deriving DecidableEq
instance : Emb Kind where
  toD := fun k => .tup [toD k.m, .int k.p, .int k.b]
  py := fun k => .tuple [py k.m, .int k.p, .int k.b]
  deg := deg Mono + 1
  pyOk := fun S k => by unfold toPy toPys toPys toPys toPys; rw [pyOk]; rfl
  np := fun _ _ h => nomatch h
  al := fun a b => by simp [PySem.W.alike, PySem.W.alikeAll, al]
  dep := fun a => by
    have h1 := dep a.m
    simp only [PyData.depth, PyData.depthAll]
    omega
  inj := fun a b h => by
    simp only [PyData.eqv, PyData.eqvAll, Bool.and_eq_true, beq_iff_eq] at h
    have h1 := inj _ _ h.1
    obtain ⟨_, _, _⟩ := a
    obtain ⟨_, _, _⟩ := b
    simp only [Kind.mk.injEq]
    exact ⟨h1, h.2.1, h.2.2.1⟩
  cl := fun n k => by unfold D.closed closedL closedL closedL closedL; rw [cl]; rfl
theorem toD_kind (k : Kind) : (toD k : D) = .tup [toD k.m, .int k.p, .int k.b] := rfl
instance : NkE Kind where
  nk := fun k => .tup [NkE.nk k.m, .num k.p, .num k.b]
  nkOk := fun k => by
    show keyN (.tup [toD k.m, .int k.p, .int k.b]) = _
    unfold keyN keyNs keyNs keyNs keyNs
    rw [NkE.nkOk]; unfold keyN; rfl
  nkInj := fun a b h => by
    simp only [NestedKey.tup.injEq, List.cons.injEq, NestedKey.num.injEq] at h
    have h1 := NkE.nkInj _ _ h.1
    obtain ⟨_, _, _⟩ := a
    obtain ⟨_, _, _⟩ := b
    simp only [Kind.mk.injEq]
    exact ⟨h1, h.2.1, h.2.2.1⟩
  kdeg := NkE.kdeg Mono + 1
  nkDep := fun a => by
    have h1 := NkE.nkDep a.m
    simp only [NestedKey.depth, NestedKey.depthAll]
    omega
instance : KeyE Mono where
  pk := false
  plain := fun h => nomatch h
  nest := fun _ a => nest_of (fun a => ⟨_, rfl⟩) (by decide) a
instance : KeyE Kind where
  pk := false
  plain := fun h => nomatch h
  nest := fun _ a => nest_of (fun a => ⟨_, rfl⟩) (by decide) a
instance : Sok (Str × Int) := ⟨.inl fun _ => rfl, by decide⟩
instance : Sok (Mono × Int) := ⟨.inl fun _ => rfl, by decide⟩
instance : Sok (Mono × Rat) := ⟨.inl fun _ => rfl, by decide⟩
instance : Sok (Kind × Rat) := ⟨.inl fun _ => rfl, by decide⟩
end DL
set_option Elab.async false
set_option linter.all false
set_option maxRecDepth 100000
set_option maxHeartbeats 4000000
set_option autoImplicit false
/-! Items of tuples. -/
namespace DL
open PySem L2
open Emb
theorem o_ix0 {S : Sto} {a : D} {r : List D} {Q : D → Sto → Prop} (h : Q a S) : (Res.lift (gIx S (.tup (a :: r)) (.int 0)) S).post Q := o_ixT atI_0 h
theorem o_ix1 {S : Sto} {a b : D} {r : List D} {Q : D → Sto → Prop} (h : Q b S) : (Res.lift (gIx S (.tup (a :: b :: r)) (.int 1)) S).post Q := o_ixT atI_1 h
theorem o_ix2 {S : Sto} {a b c : D} {r : List D} {Q : D → Sto → Prop} (h : Q c S) : (Res.lift (gIx S (.tup (a :: b :: c :: r)) (.int 2)) S).post Q := o_ixT atI_2 h
theorem o_ix0L {S : Sto} {a : D} {r : List D} {Q : D → Sto → Prop} (h : Q a S) : (Res.lift (gIx S (.lst (a :: r)) (.int 0)) S).post Q := o_ixL atI_0 h
theorem o_ix1L {S : Sto} {a b : D} {r : List D} {Q : D → Sto → Prop} (h : Q b S) : (Res.lift (gIx S (.lst (a :: b :: r)) (.int 1)) S).post Q := o_ixL atI_1 h
theorem o_ix2L {S : Sto} {a b c : D} {r : List D} {Q : D → Sto → Prop} (h : Q c S) : (Res.lift (gIx S (.lst (a :: b :: c :: r)) (.int 2)) S).post Q := o_ixL atI_2 h
theorem s_gtupl {u : List D → Sl → Sto → Res Sl} {ds : List D} {δ : Sl} {S : Sto} {QS : Sl → Sto → Prop} (h : (u ds δ S).post QS) : (gTup u (.tup ds) δ S).post QS := s_gtup rfl h
end DL
set_option Elab.async false
set_option linter.all false
set_option maxRecDepth 100000
set_option maxHeartbeats 4000000
set_option autoImplicit false
/-! Products of terms of the count: plain. -/
namespace DL
open PySem L2
open Emb
def bin : Nat → Nat → Nat
  | _, 0 => 1
  | 0, _ + 1 => 0
  | n + 1, k + 1 => bin n k + bin n (k + 1)
theorem bin_gt : ∀ {n k : Nat}, n < k → bin n k = 0
  | 0, k + 1, _ => rfl
  | n + 1, k + 1, h => by
    show bin n k + bin n (k + 1) = 0
    rw [bin_gt (by omega), bin_gt (by omega)]
theorem bin_self : ∀ n : Nat, bin n n = 1
  | 0 => rfl
  | n + 1 => by
    show bin n n + bin n (n + 1) = 1
    rw [bin_self n, bin_gt (by omega)]
theorem bin_le : ∀ n k : Nat, bin n k ≤ 2 ^ n
  | n, 0 => by cases n <;> exact Nat.one_le_two_pow
  | 0, k + 1 => by show 0 ≤ _; omega
  | n + 1, k + 1 => by
    show bin n k + bin n (k + 1) ≤ 2 ^ (n + 1)
    have h1 := bin_le n k
    have h2 := bin_le n (k + 1)
    rw [Nat.pow_succ]; omega
theorem bin_step : ∀ {n k : Nat}, k ≤ n → bin n (k + 1) * (k + 1) = bin n k * (n - k)
  | 0, k, h => by
    obtain rfl : k = 0 := by omega
    rfl
  | n + 1, 0, _ => by
    show (bin n 0 + bin n 1) * 1 = bin (n + 1) 0 * (n + 1 - 0)
    have h : bin n 1 * 1 = bin n 0 * (n - 0) := bin_step (Nat.zero_le _)
    have e : bin n 0 = 1 := by cases n <;> rfl
    have e2 : bin (n + 1) 0 = 1 := rfl
    rw [e, e2]; rw [e] at h; omega
  | n + 1, k + 1, h => by
    have h1 : bin n (k + 1) * (k + 1) = bin n k * (n - k) := bin_step (by omega)
    show (bin n (k + 1) + bin n (k + 2)) * (k + 2) = (bin n k + bin n (k + 1)) * (n + 1 - (k + 1))
    rw [show n + 1 - (k + 1) = n - k by omega]
    by_cases q : k + 1 ≤ n
    · have h2 : bin n (k + 2) * (k + 2) = bin n (k + 1) * (n - (k + 1)) := bin_step q
      obtain ⟨m, rfl⟩ : ∃ m, n = k + 1 + m := ⟨n - (k + 1), by omega⟩
      rw [show k + 1 + m - (k + 1) = m by omega] at h2
      rw [show k + 1 + m - k = m + 1 by omega] at h1 ⊢
      generalize bin (k + 1 + m) (k + 1) = A at *
      generalize bin (k + 1 + m) (k + 2) = B at *
      generalize bin (k + 1 + m) k = C at *
      grind
    · obtain rfl : n = k := by omega
      rw [bin_gt (show n < n + 1 by omega), bin_gt (show n < n + 2 by omega), Nat.sub_self]
      simp
/-! ### factorials, trinomials -/
theorem bin_zero (n : Nat) : bin n 0 = 1 := by cases n <;> rfl
end DL
set_option Elab.async false
set_option linter.all false
set_option maxRecDepth 100000
set_option maxHeartbeats 4000000
set_option autoImplicit false
/-! list(range(n)): a new list of numbers. -/
namespace DL
open PySem PySem.Spec PyProof.Rows L2
end DL
set_option Elab.async false
set_option linter.all false
set_option maxRecDepth 100000
set_option maxHeartbeats 4000000
set_option autoImplicit false
/-! d.update(e), both dicts with keys ints and texts. -/
namespace L2
open PySem PySem.Spec PyProof.Rows
def tDUpd (td ty : TE) : TE := fun σ H Q => td σ H fun x H1 => ∃ a, x = .ref a ∧ IsD H1 a ∧ ty σ H1 fun y H2 => ∃ o kvs more, y = .ref o ∧ H2 a = some (.dK kvs) ∧ H2 o = some (.dK more) ∧ a ≠ o ∧ kvs.length + more.length ≤ sizeLine ∧ Q .non (upd H2 a (.dK (mergeK kvs more)))
section
variable {X : Cx} {o e f : Expr} {apos cpos : Pos} {td ty tx : TE}
theorem pe_dupd (ho : PE X o td) (he : PE X e ty) (m : M1 X o "update" apos e cpos) : PE X (.Call (.Attribute o "update" apos) [e] [] cpos) (tDUpd td ty) := by
  refine ⟨fun pins s σ H Q I h => ?_⟩
  refine wpAny_Call_method m.base m.few m.line PySem.F.plainAttrs_dict PySem.F.slot_dict_update PySem.F.type_dict_update (thn (ho.run pins s σ H _ I h) fun u s1 ⟨x, H1, I1, rx, a, ex, d, q1⟩ => ?_)
  subst ex
  obtain rfl : u = Value.ref a := rx
  obtain ⟨t1, t2, _⟩ := isD_at I1 d
  refine ⟨t1, t2, ?_⟩
  rw [m.trees]
  refine Calls.callWith_builtin rfl (Calls.evalArgs_plain (Calls.spliced_cons (thn (he.run pins s1 σ H1 _ I1 q1) fun iv s2 ⟨y, H2, I2, ry, b, kvs, more, ey, e1, e2, hne, hz, q2⟩ => Calls.spliced_nil ?_)))
  subst ey
  obtain rfl : iv = Value.ref b := ry
  obtain ⟨z, hd, vs, rel, dd⟩ := dk_of I2.hok e1
  obtain ⟨z2, hd2, vs2, rel2, dd2⟩ := dk_of I2.hok e2
  refine call_meetsIn PySem.F.slot_dict_update dd.typeIs PySem.F.entry_dict_update (PySem.F.args_dict_update_2 _ _) (meets_dict_update (mixKind X.prog X.w) a b hne hd2)
    ⟨vs, vs2, dd, dd2, (by rw [← rel.length, ← rel2.length]; exact hz), fun h' dd' _ hs => ?_⟩
  have he' : ∃ q, h'.get? a = some q := let ⟨q, _, _, hq, _⟩ := dd'; ⟨q, hq⟩
  have hl : (mergeK kvs more).length ≤ sizeLine := Nat.le_trans (length_mergeK more kvs) hz
  exact ⟨.non, _, d_write I2 (by rw [e1]; exact True.intro) hs he' (dk_new hl hd (rel2.merge rel) dd'), rfl, q2⟩
end
end L2
namespace DL
open PySem PySem.Spec PyProof.Rows L2
def updD (n : Nat) (y : D) (S2 : Sto) : Res D := match y with
  | .ptr m => if n = m then .stuck else (match S2[n]?, S2[m]? with
    | some (.dct kvs), some (.dct more) => if kvs.length + more.length ≤ sizeLine then .ok .non (S2.set n (.dct (mergeD kvs more))) else .stuck
    | _, _ => .stuck)
  | _ => .stuck
def rUpd (d e : RE) : RE := fun δ S => (d δ S).bind fun x S1 => match x with
  | .ptr n => (match S1[n]? with
    | some (.dct _) => (e δ S1).bind fun y S2 => updD n y S2
    | _ => .stuck)
  | _ => .stuck
section
variable {X : Cx} {W : WX} {a b : Expr} {ra rb : RE}
theorem pd_upd {apos cpos : Pos} (ha : PD X W a ra) (hb : PD X W b rb) (m : M1 X a "update" apos b cpos := by exact ⟨rfl, rfl, rfl, rfl⟩) : PD X W (.Call (.Attribute a "update" apos) [b] [] cpos) (rUpd ra rb) := by
  obtain ⟨ta, pa, sa⟩ := ha.ex
  obtain ⟨tb, pb, sb⟩ := hb.ex
  refine ⟨_, pe_dupd pa pb m, fun α F σ H δ S Q hr hs h => ?_⟩
  refine sa α F σ H δ S _ hr hs (wp.bind h fun d S1 _ x H1 β F1 r1 s1 v1 h1 => ?_)
  split at h1
  · rename_i n _
    split at h1
    · rename_i kv0 e0
      cases v1 with
      | @ptr _ ad ea =>
        obtain ⟨o0, _⟩ := r1.own _ _ _ ea e0
        obtain ⟨ws0, o1, _⟩ := Own.dctK.mp o0
        refine ⟨ad, rfl, .inl ⟨ws0, .of o1⟩, ?_⟩
        refine sb (α ++ β) F1 σ H1 δ S1 _ r1 (hs.mono s1.sub) (wp.bind h1 fun y S2 _ yv H2 γ F2 r2 s2 v2 h2 => ?_)
        unfold updD at h2
        split at h2
        · rename_i m'
          split at h2
          · exact h2.elim
          · rename_i hnm
            split at h2
            · rename_i kvs more q1 q2
              split at h2
              · rename_i hz
                cases v2 with
                | @ptr _ bd eb =>
                  have ea2 : (α ++ β ++ γ)[n]? = some ad := by rw [List.getElem?_append_left (List.getElem?_eq_some_iff.mp ea).1]; exact ea
                  obtain ⟨p0, _⟩ := r2.own _ _ _ ea2 q1
                  obtain ⟨ws, p1, p2⟩ := Own.dctK.mp p0
                  obtain ⟨g0, _⟩ := r2.own _ _ _ eb q2
                  obtain ⟨wm, g1, g2⟩ := Own.dctK.mp g0
                  have hne : ad ≠ bd := fun z => hnm (by
                    subst z
                    exact (List.getElem?_inj (List.getElem?_eq_some_iff.mp ea2).1 r2.nd).mp (ea2.trans eb.symm))
                  obtain ⟨a1, a2⟩ := r2.setO (o := .dK (mergeK ws wm)) (d := .dct (mergeD kvs more)) ea2 q1 rfl (Own.dctK.mpr ⟨_, upd_same, g2.merge p2⟩)
                  exact ⟨bd, ws, wm, rfl, p1, g1, hne, by rw [p2.length, g2.length]; exact hz, h2 _ _ _ _ a1 a2 .non⟩
              · exact h2.elim
            · exact h2.elim
        · exact h2.elim
    · exact h1.elim
  · exact h1.elim
end
end DL
set_option Elab.async false
set_option linter.all false
set_option maxRecDepth 100000
set_option maxHeartbeats 4000000
set_option autoImplicit false
/-! sorted(d) of a dict with texts for keys, fewer than 64. -/
namespace DL
open PySem PySem.Spec PyProof.Rows L2
def strKeys : List (D × D) → Option (List Str)
  | [] => some []
  | (.str x, _) :: r => (strKeys r).map (x :: ·)
  | _ => none
/-- sorted(d) -/
def gSortKeys : Sto → List D → Option D := fun S ds => match ds with
  | [d] => (match deref S d with
    | .dct kvs => (match strKeys kvs with
      | some ks => if ks.length < 64 then some (.lst ((sortT ks).map .str)) else none
      | none => none)
    | _ => none)
  | _ => none
theorem leT_of {x p : Str} (h : ltCps x.cps.toList p.cps.toList = false) : leT p x = true := by
  rw [ltCps_eq] at h
  exact decide_eq_true (List.not_lt.mp (of_decide_eq_false h))
theorem rising_pairwise : ∀ (r : List Str) (p : Str), risingS p r = true → (p :: r).Pairwise fun a b => leT a b = true
  | [], p, _ => List.pairwise_singleton _ _
  | x :: r, p, h => by
    unfold risingS at h
    rw [Bool.and_eq_true, Bool.not_eq_true'] at h
    have ih := rising_pairwise r x h.2
    refine List.Pairwise.cons (fun y hy => ?_) ih
    rcases List.mem_cons.mp hy with rfl | hy
    · exact leT_of h.1
    · exact leT_trans _ _ _ (leT_of h.1) (List.rel_of_pairwise_cons ih hy)
theorem sorted_is {ys ks : List Str} (p : ys.Perm ks) (h : sortedS ys = true) : ys = sortT ks := by
  have hp : ys.Pairwise fun a b => leT a b = true := by
    cases ys with
    | nil => exact List.Pairwise.nil
    | cons x r => exact rising_pairwise r x h
  exact List.Perm.eq_of_pairwise (le := fun a b => leT a b = true) (fun a b _ _ => leT_anti a b) hp (sortT_pairwise ks) (p.trans (sortT_perm ks).symm)
section
variable {X : Cx} {W : WX} {e : Expr} {es : List Expr} {rs : RA} {pos p : Pos} {wd : World} {K : Fg} {mg : Str → Option Value} {F : Hp} {α : List Addr}
theorem strKeys_of {ws : List (Key × V)} {kvs : List (D × D)} (h : KVs wd K mg F α ws kvs) : ∀ {ks : List Str}, strKeys kvs = some ks → ws.map (·.1) = ks.map Sum.inr := by
  induction h with
  | nil => intro ks e; cases e; rfl
  | @cons j u e ws kvs h1 _ ih =>
    intro ks e1
    cases j with
    | inl i => cases e1
    | inr x =>
      obtain ⟨k2, e2, rfl⟩ := Option.map_eq_some_iff.mp (show (strKeys kvs).map (x :: ·) = some ks from e1)
      rw [List.map_cons, List.map_cons, ih e2]
theorem pf_sortKeys (hcalm : X.calm = true) (hm : X.mg "sorted" = none) (ha : PDs X W (e :: es) rs) (hg : Gl X "sorted" := by rfl) (he : starEach (e :: es) X.env = (false, eval e X.env) :: starEach es X.env := by rfl) (hpl : (backTo pos (starEach es X.env)).any (·.1) = false := by rfl) :
    PF X W (.Call (.Name "sorted" p) (e :: es) [] pos) (rAs gSortKeys rs) := pf_callB (call_sortedD hcalm) (fun α F H S xs ds z Q hr hv hz => by
  unfold gSortKeys at hz
  split at hz
  · cases hv with
    | cons h1 h2 =>
      cases h2
      split at hz
      · rename_i kvs e1
        split at hz
        · rename_i ks e2
          split at hz
          · rename_i hl
            cases hz
            obtain ⟨a, ws, rfl, q, k⟩ := hr.viewD h1 e1
            refine ⟨_, (sortT ks).map .str, rfl, DVs.of_strs _, fun hq => ⟨a, ws, ks, rfl, q, strKeys_of k e2, hl, fun ys p hp hs hn => ?_⟩⟩
            rw [sorted_is hp hs]
            exact hq p hn
          · cases hz
        · cases hz
      · cases hz
  · cases hz) hm ha hg (he := he) (hpl := hpl)
end
end DL
set_option Elab.async false
set_option linter.all false
set_option maxRecDepth 100000
set_option maxHeartbeats 4000000
set_option autoImplicit false
/-! a != b of two dicts whose values are numbers. -/
namespace DL
open PySem PySem.Spec PyProof.Rows L2
end DL
set_option Elab.async false
set_option linter.all false
set_option maxRecDepth 100000
set_option maxHeartbeats 4000000
set_option autoImplicit false
/-! d.clear() of a dict with keys ints and texts. -/
namespace DL
open PySem PySem.Spec PyProof.Rows L2
end DL
set_option Elab.async false
set_option linter.all false
set_option maxRecDepth 100000
set_option maxHeartbeats 4000000
set_option autoImplicit false
/-! a != b of two dicts whose values are data. -/
namespace DL
open PySem PySem.Spec PyProof.Rows L2
end DL
set_option Elab.async false
set_option linter.all false
set_option maxRecDepth 100000
set_option maxHeartbeats 4000000
set_option autoImplicit false
/-! sorted(d) of a dict with ints for keys, any number of them. -/
namespace L2
open PySem PySem.Spec PyProof.Rows
end L2
namespace DL
open PySem PySem.Spec PyProof.Rows L2
end DL
set_option Elab.async false
set_option linter.all false
set_option maxRecDepth 100000
set_option maxHeartbeats 4000000
set_option autoImplicit false
/-! enumerate(tuple). -/
namespace PySem
open Sem (wp)
open AutoSeq1 (wpAny_loadPart')
end PySem
namespace L2
open PySem PySem.Spec PyProof.Rows
end L2
namespace DL
open PySem PySem.Spec PyProof.Rows L2
end DL
set_option Elab.async false
set_option linter.all false
set_option maxRecDepth 100000
set_option maxHeartbeats 4000000
set_option autoImplicit false
/-! t[:0:-1] of a tuple that is not empty. -/
namespace DL
open PySem PySem.Spec PyProof.Rows L2
end DL
set_option Elab.async false
set_option linter.all false
set_option maxRecDepth 100000
set_option maxHeartbeats 4000000
set_option autoImplicit false
/-! xs.count(n) of ints. -/
namespace L2
open PySem PySem.Spec PyProof.Rows
end L2
namespace DL
open PySem PySem.Spec PyProof.Rows L2
end DL
set_option Elab.async false
set_option linter.all false
set_option maxRecDepth 100000
set_option maxHeartbeats 4000000
set_option autoImplicit false
/-! xs.extend(ys), ys a list of the store. -/
namespace DL
open PySem PySem.Spec PyProof.Rows L2
end DL
set_option Elab.async false
set_option linter.all false
set_option maxRecDepth 100000
set_option maxHeartbeats 4000000
set_option autoImplicit false
/-! == of a list whose items are lists of the store, with data. -/
namespace DL
open PySem PySem.Spec PyProof.Rows L2
end DL
set_option Elab.async false
set_option linter.all false
set_option maxRecDepth 100000
set_option maxHeartbeats 4000000
set_option autoImplicit false
/-! zip(tuple, list). -/
namespace L2
open PySem PySem.Spec PyProof.Rows
end L2
namespace DL
open PySem PySem.Spec PyProof.Rows L2
end DL
set_option Elab.async false
set_option linter.all false
set_option maxRecDepth 100000
set_option maxHeartbeats 4000000
set_option autoImplicit false
/-! range by a step of -1; zip of three lists. -/
namespace L2
open PySem PySem.Spec PyProof.Rows
end L2
namespace DL
open PySem PySem.Spec PyProof.Rows L2
end DL
set_option Elab.async false
set_option linter.all false
set_option maxRecDepth 100000
set_option maxHeartbeats 4000000
set_option autoImplicit false
/-! sorted of a tuple; len of a dict. -/
namespace PySem.W
open PySem PySem.Calls PyProof.Rows
end PySem.W
namespace DL
open PySem PySem.Spec PyProof.Rows L2
open PySem.W
end DL
set_option Elab.async false
set_option linter.all false
set_option maxRecDepth 100000
set_option maxHeartbeats 4000000
set_option autoImplicit false
/-! a, b, c = x, y, z. -/
namespace DL
open PySem PySem.Spec PyProof.Rows L2
end DL
set_option Elab.async false
set_option linter.all false
set_option maxRecDepth 100000
set_option maxHeartbeats 4000000
set_option autoImplicit false
/-! list(d.items()), list(d), displays with tuple keys, d.values(), isinstance of one of some classes, defs that call themselves. -/
namespace DL
open PySem PySem.Spec PyProof.Rows L2
/-! ### list(d.items()) -/
/-! ### list(d) -/
end DL
set_option Elab.async false
set_option linter.all false
set_option maxRecDepth 100000
set_option maxHeartbeats 4000000
set_option autoImplicit false
/-! Displays with tuple keys, d.values(), isinstance of one of some classes, defs that call themselves. -/
namespace DL
open PySem PySem.Spec PyProof.Rows L2
/-! ### {t: v, ..} with tuples for keys -/
/-! ### for v in d.values(), d locked -/
/-! ### isinstance(x, (T, U, ..)) -/
/-! ### in, by itself -/
/-! ### defs that call themselves -/
end DL
set_option Elab.async false
set_option linter.all false
set_option maxRecDepth 100000
set_option maxHeartbeats 4000000
set_option autoImplicit false
/-! t * n of tuples, d == e of dicts. -/
namespace DL
open PySem PySem.Spec PyProof.Rows L2
end DL
set_option Elab.async false
set_option linter.all false
set_option maxRecDepth 100000
set_option maxHeartbeats 1000000
set_option autoImplicit false
/-! x += e, x -= e of whole numbers. -/
namespace DL
open PySem PySem.Spec PyProof.Rows L2
end DL
set_option Elab.async false
set_option linter.all false
set_option maxRecDepth 100000
set_option maxHeartbeats 1000000
set_option autoImplicit false
/-! t * n of tuples, empty or once. -/
namespace DL
open PySem PySem.Spec PyProof PyProof.Rows L2
end DL
set_option Elab.async false
set_option linter.all false
set_option maxRecDepth 100000
set_option maxHeartbeats 1000000
set_option autoImplicit false
/-! list.pop(i). -/
namespace DL
open PySem PySem.Spec PyProof.Rows L2
end DL
set_option Elab.async false
set_option linter.all false
set_option maxRecDepth 100000
set_option maxHeartbeats 3000000
set_option autoImplicit false
/-! Exceptions: an object in the heap is tracked; except clauses whose exception is kept. -/
namespace L2
open PySem PySem.Spec PyProof.Rows DL
end L2
set_option Elab.async false
set_option linter.all false
set_option maxRecDepth 100000
set_option maxHeartbeats 2000000
set_option autoImplicit false
/-! Exceptions: facts about the classes; raise, try. -/
namespace DL
open PySem PySem.Spec PyProof.Rows L2
/-- which class is under which -/
def subC (c x : Str) : Bool := decide (c = x) || decide (x = "LoopError")
/-! ### raise -/
end DL
set_option Elab.async false
set_option linter.all false
set_option maxRecDepth 100000
set_option maxHeartbeats 2000000
set_option autoImplicit false
/-! Exceptions whose class has an own __init__. -/
namespace DL
open PySem PySem.Spec PyProof.Rows L2
end DL
set_option Elab.async false
set_option linter.all false
set_option maxRecDepth 100000
set_option maxHeartbeats 2000000
set_option autoImplicit false
/-! isinstance of what was caught, its fields; count and index of flat things; upper. -/
namespace L2
open PySem PySem.Spec PyProof.Rows DL
end L2
namespace DL
open PySem PySem.Spec PyProof.Rows L2
end DL
set_option Elab.async false
set_option linter.all false
set_option maxRecDepth 100000
set_option maxHeartbeats 2000000
set_option autoImplicit false
/-! What the head shows of the exception classes; except clauses without a name. -/
namespace DL
open PySem PySem.Spec PyProof.Rows L2
/-! ### except C: suite -/
/-! ### checks -/
def flds : List Str := ["row", "word", "boxes", "what", "place"]
def ecB (K : Fg) (D : Addr) : Bool := decide (PySem.W.findIn K (.ref D) "__getattribute__" = some (some (.builtin "BaseException.__getattribute__"))) && (decide (PySem.W.findIn K (.ref D) "__getattr__" = some none) && (decide (PySem.W.subIn K (.ref D) (.type "BaseException") = some true) &&
  (PySem.W.hasDictIn K D && (decide (PySem.W.findIn K (.ref D) "__class__" = some (some (.builtin "object.__class__"))) && (decide (PySem.W.specialIn K (.builtin "object.__class__") "__get__" = some (some (.builtin "getset_descriptor.__get__"))) &&
  (decide (PySem.W.takesIn K (.builtin "object.__class__") = some true) && decide (PySem.W.mroIn K D (.type "object") = some true)))))))
theorem both {a b : Bool} (h : (a && b) = true) : a = true ∧ b = true := Bool.and_eq_true_iff.mp h
def pairB (K : Fg) (c x : Str) : Bool := decide (PySem.W.exmOne K (.ref (He.ga K c)) (.ref (He.ga K x)) = some (subC c x)) && decide (PySem.W.kitOne K (.ref (He.ga K c)) (.ref (He.ga K x)) = some (subC c x))
def oneB (K : Fg) (c : Str) : Bool := decide (PySem.W.nsIn K mainGlobals c = some (some (.ref (He.ga K c)))) && (decide (PySem.W.kitOne K (.ref (He.ga K c)) (.type "ValueError") = some true) && (ecB K (He.ga K c) && (xfB K (He.ga K c) && (decide (PySem.W.typeIn K (.ref (He.ga K c)) = some (.type "type")) &&
  flds.all fun f => decide (PySem.W.findIn K (.ref (He.ga K c)) f = some none)))))
def clsB (K : Fg) (cl : List Str) : Bool := (cl.all (oneB K)) && cl.all fun c => cl.all fun x => pairB K c x
def oexB (K : Fg) (C : Addr) : Bool := (match K.lookup C with
  | some ⟨.type "type", _, .cls cd, sl⟩ => (match cd.mro, sl.toList with
    | .ref D :: bm, [_, _, _, _, some (.builtin n), _] => decide (D = C) && (decide (n = "ValueError.__new__") && (!cd.hasDel && (cd.hasDict && PySem.HandSPX.refsVE bm)))
    | _, _ => false)
  | _ => false) && (decide (PySem.W.findIn K (.ref C) "__setattr__" = some (some (.builtin "object.__setattr__"))) && (decide (PySem.W.subIn K (.ref C) (.type "BaseException") = some true) && (decide (PySem.W.typeIn K (.ref C) = some (.type "type")) && PySem.W.keepIn K (.ref C))))
def leB (K : Fg) : Bool := decide (PySem.W.nsIn K mainGlobals "LoopError" = some (some (.ref (He.ga K "LoopError")))) && (decide (PySem.W.specialIn K (.ref (He.ga K "LoopError")) "__getattribute__" = some (some (.builtin "type.__getattribute__"))) &&
  (PySem.W.readsIn K (He.ga K "LoopError") (.type "type") && (match PySem.W.findCls K (.ref (He.ga K "LoopError")) (.type "type") "__init__" with
  | some (.val v) => decide (v = .builtin "ValueError.__init__")
  | _ => false)))
/-! ### the head's hook -/
def raB (K : Fg) (c : Str) : Bool := (He.Fa.exc c).ok K && decide (PySem.W.nsIn K mainGlobals c = some (some (.ref (He.ga K c))))
def inB (K : Fg) (c : Str) : Bool := oexB K (He.ga K c) && ((He.Fa.meth c "__init__").ok K && (decide (PySem.W.typeIn K (.ref (He.ma K (He.ga K c) "__init__")) = some (.type "function")) && oneB K c))
structure Xh where
  cl : List Str
  r0 : List Str
  rn : List Str
def xhB (xh : Xh) (K : Fg) : Bool := clsB K xh.cl && (leB K && (xh.r0.all (raB K) && xh.rn.all (inB K)))
def obsX (fa : List He.Fa) (fn : List He.DefD) (li : List (Str × D)) (xh : Xh) (K : Fg) : He.AlD := (digB K && (xhB xh K && (li.all (litF K) && (He.obsD fa fn K).1)), (He.obsD fa fn K).2)
def SaysX (fa : List He.Fa) (fn : List He.DefD) (li : List (Str × D)) (xh : Xh) (K : Fg) : Prop := obsX fa fn li xh K = He.valD fn
theorem SaysX.all {fa : List He.Fa} {fn : List He.DefD} {li : List (Str × D)} {xh : Xh} {K : Fg} (h : SaysX fa fn li xh K) : He.SaysD fa fn K ∧ NoDig K ∧ (∀ (i : Nat) (p : Str × D), li[i]? = some p → litF K p = true) ∧ xhB xh K = true := by
  have h0 : obsX fa fn li xh K = He.valD fn := h
  have h1 : (digB K && (xhB xh K && (li.all (litF K) && (He.obsD fa fn K).1))) = true := congrArg (fun z : He.AlD => z.1) h0
  have h2 : (obsX fa fn li xh K).2 = (He.valD fn).2 := congrArg (fun z : He.AlD => z.2) h0
  obtain ⟨g1, h1⟩ := both h1
  obtain ⟨g2, h1⟩ := both h1
  obtain ⟨g3, g4⟩ := both h1
  refine ⟨?_, ?_, fun i p hp => List.all_eq_true.mp g3 p (List.mem_of_getElem? hp), g2⟩
  · show He.obsD fa fn K = He.valD fn
    exact Prod.ext g4 h2
  · unfold digB at g1
    unfold NoDig
    exact of_decide_eq_true g1
end DL
set_option Elab.async false
set_option linter.all false
set_option maxRecDepth 100000
set_option maxHeartbeats 1000000
set_option autoImplicit false
/-! A made list that is told once stands for good. -/
namespace DL
open PySem PySem.Spec PyProof.Rows L2
end DL
set_option Elab.async false
set_option linter.all false
set_option maxRecDepth 100000
set_option maxHeartbeats 2000000
set_option autoImplicit false
/-! isinstance of what was caught with a tuple of the program's classes. -/
namespace L2
open PySem PySem.Spec PyProof.Rows DL
end L2
namespace DL
open PySem PySem.Spec PyProof.Rows L2
end DL
set_option Elab.async false
set_option linter.all false
set_option maxRecDepth 100000
set_option maxHeartbeats 1000000
set_option autoImplicit false
/-! Calls during which everything stands; {None: v}; isinstance with dict of any dict; items of these. -/
namespace DL
open PySem PySem.Spec PyProof.Rows L2
/-! ### a call during which all stands -/
end DL
set_option Elab.async false
set_option linter.all false
set_option maxRecDepth 100000
set_option maxHeartbeats 1000000
set_option autoImplicit false
/-! {None: v}; isinstance with dict of any dict; the items of these. -/
namespace DL
open PySem PySem.Spec PyProof.Rows L2
/-! ### isinstance(x, dict) -/
/-! ### d.items() -/
end DL
set_option Elab.async false
set_option linter.all false
set_option maxRecDepth 100000
set_option maxHeartbeats 1000000
set_option autoImplicit false
/-! sum(d.values()). -/
namespace DL
open PySem PySem.Spec PyProof.Rows L2
def valsO (p d : Addr) : HO := .ext fun h => h.IsValuesView p d
theorem valsO_ok {P : Program} {w : World} {H : Hp} {h : Heap} {p d : Addr} (e : h.get? p = some { cls := .type "dict_values", data := .fields #[.ref d] }) : ObjOk P w H h p (valsO p d) :=
  ⟨⟨_, e, rfl, rfl⟩, ⟨_, e⟩, fun h1 h2 x k => let ⟨o, ho, r⟩ := x; ⟨o, k o ho, r⟩⟩
section
open PySem.W
variable {prog : Program} {w : World} {A : Around} {E : Value → Shared → Prop} {s : Shared} {r d : Addr} {es : Array DictEntry} {ep : Nat}
theorem call_sumV {Q : Value → Shared → Prop} (hh : A.handled = none) (hv : s.heap.IsValuesView r d) (hm : s.heap.DictRaw d es ep) (val : Nat → Int)
    (hval : ∀ (i : Nat) (v : Value), (∃ hi : i < es.size, v = es[i].val) → ∃ t : Tok, v = Value.int (val i) t)
    (h : ∀ (h' : Heap) (tk : Nat) (t' : Tok), (∀ b o, s.heap.get? b = some o → h'.get? b = some o) → Q (.int (preSum val es.size) t') { s with heap := h', toks := tk }) :
    wpAny (model prog w) A (call (.builtin "sum") [.ref r]) Q E s := by
  have K := KdlSrc.rawValues (prog := prog) (w := w) (r := r) (d := d) (es := es) (ep := ep)
  refine call_sum_walkAnyS ?_
  obtain ⟨oI, St, hit, W, st⟩ := K.iter A.in1 s hh ⟨hv, hm⟩
  refine hit _ _ ⟨s.heap.objs.size, _, _, _, es.size, _, _, val, rfl, W.toS, st, fun b hb => ?_, hval, fun s' t' hm' => ?_⟩
  · show b < (s.heap.push oI).objs.size
    rw [size_push']
    rcases List.mem_cons.mp hb with e | hb
    · rw [e]; exact Nat.lt_succ_self _
    · rw [List.mem_singleton.mp hb]; exact Nat.lt_succ_of_lt (K.there _ ⟨hv, hm⟩).2
  · have hk : ∀ b o, s.heap.get? b = some o → s'.heap.get? b = some o := fun b o e =>
      hm'.heap b o (fun hI => absurd (Heap.lt_size e) (by rw [List.mem_singleton.mp hI]; exact Nat.lt_irrefl _)) (Heap.get?_push_of_some _ e)
    rw [Moved.eq_with hm']
    exact h s'.heap s'.toks t' hk
end
def rSumV (X : Cx) : List V → Hp → VK → Prop := fun vs H Q => ∃ (p a : Addr) (prs : List (V × V)) (ns : List Int), vs = [.ref p] ∧ H p = some (valsO p a) ∧ ItSrc X.w H a prs ∧ prs.map (·.2) = ns.map V.int ∧ Q (.int ns.sum) H
def rValsE (w : World) : V → List V → Hp → VK → Prop := fun x xs H Q => ∃ (a : Addr) (prs : List (V × V)), x = .ref a ∧ xs = [] ∧ ItSrc w H a prs ∧ ∀ p, H p = none → Q (.ref p) (upd H p (valsO p a))
theorem preSum_list : ∀ (ns : List Int), preSum (fun i => ns.getD i 0) ns.length = ns.sum
  | [] => rfl
  | n :: r => by
    have e : (fun i => (n :: r).getD (i + 1) 0) = fun i => r.getD i 0 := rfl
    show preSum _ (r.length + 1) = _
    rw [PySem.W.kdu_shift, e, preSum_list r, List.sum_cons]
    rfl
section
open PySem.W
variable {X : Cx} {W : WX} {o : Expr} {ro : RE} {to : TE} {p apos cpos pos : Pos}
theorem cr_sumV (hc : X.calm = true) : CallR X (.builtin "sum") (rSumV X) := by
  intro pins s σ H xs us Q I r h
  obtain ⟨p, a, prs, ns, rfl, hp, src, en, q⟩ := h
  obtain rfl := Vals.ref1 r
  have view : s.heap.IsValuesView p a := (show ObjOk X.prog X.w H s.heap p (valsO p a) from I.hok p _ hp).1
  obtain ⟨hd, hz, es, ep, raw, rel⟩ := itsrc_at I src
  have hes : es.size = ns.length := by rw [← Array.length_toList, each_len rel, ← List.length_map (f := (·.2)), en, List.length_map]
  refine call_sumV (es := es) (ep := ep) (I.ok.hd hc) view raw (fun i => ns.getD i 0) (fun i v hv => ?_) fun h' tk t' hk => ?_
  · obtain ⟨hi, rfl⟩ := hv
    obtain ⟨pr, g1, g2, g3⟩ := each_get rel (i := i) (a := es[i]) (by rw [Array.getElem?_toList, Array.getElem?_eq_getElem hi])
    have g4 : (prs.map (·.2))[i]? = some pr.2 := by rw [List.getElem?_map, g1]; rfl
    rw [en, List.getElem?_map] at g4
    obtain ⟨n, g5, g6⟩ := Option.map_eq_some_iff.mp g4
    rw [← g6] at g3
    obtain ⟨t, e⟩ := g3
    refine ⟨t, ?_⟩
    show es[i].val = Value.int (ns.getD i 0) t
    rw [List.getD_eq_getElem?_getD, g5]
    exact e
  · rw [hes, preSum_list]
    exact ⟨.int _, H, I.kept hk, ⟨_, rfl⟩, q⟩
theorem pe_valsE (ho : PE X o to) (hbase : attributeBase o "values" X.env (eval o X.env) = eval o X.env := by rfl) (hline : (apos.endLine == cpos.line) = true := by rfl) :
    PE X (.Call (.Attribute o "values" apos) [] [] cpos) (fun σ H Q => to σ H fun x H1 => rValsE X.w x [] H1 Q) := by
  refine ⟨fun pins s σ H Q I h => ?_⟩
  refine wpAny_Call_method (T := "dict") (id := "dict.values") hbase rfl hline PySem.F.plainAttrs_dict PySem.F.slot_dict_values PySem.F.type_dict_values (thn (ho.run pins s σ H _ I h) fun u s1 ⟨x, H1, I1, rx, a, prs, ex, _, src, q⟩ => ?_)
  subst ex
  obtain rfl : u = Value.ref a := rx
  obtain ⟨hd, _, es, ep, raw, _⟩ := itsrc_at I1 src
  refine ⟨raw.typeIs, fun b e => ?_, ?_⟩
  · cases e; obtain ⟨o, h1, h2, _⟩ := raw; exact ⟨o, h1, h2.2.1⟩
  · show wpAny _ _ (callWith cpos (.builtin "dict.values") [.ref a] [] []) _ X.xe s1
    refine Calls.callWith_builtin rfl (PySem.evalArgs_none (call_meetsIn PySem.F.slot_dict_values raw.typeIs PySem.F.entry_dict_values (PySem.F.args_dict_values_1 _) (meets_dict_values_raw a hd) ⟨⟨es, ep, raw⟩, ?_⟩))
    exact ⟨.ref s1.heap.objs.size, upd H1 s1.heap.objs.size (valsO s1.heap.objs.size a), I1.laid (t' := s1.toks) (fun b u e => Heap.get?_push_of_some _ e) (Nat.le_refl _) (valsO_ok (Heap.get?_push_size _ rfl)), rfl, q _ (I1.hok.fresh (Nat.le_refl _))⟩
end
/-- the sum of the second ones of pairs -/
def sumIt : List D → Option Int
  | [] => some 0
  | .tup [_, .int n] :: r => (sumIt r).map (n + ·)
  | _ => none
/-- sum(d.values()) -/
def rSumVals (a : RE) : RE := fun δ S => (a δ S).bind fun d S1 => .lift (((itemsOf (deref S1 d)).bind sumIt).map .int) S1
theorem sumIt_pairs {wd : World} {K : Fg} {mg : Str → Option Value} {F : Hp} {α : List Addr} : ∀ {prs : List (V × V)} {kvs : List (D × D)} {n : Int},
    PySem.W.EachIs (fun (p : V × V) (q : D × D) => DV wd K mg F α p.1 q.1 ∧ DV wd K mg F α p.2 q.2) prs kvs → sumIt (kvs.map fun p => .tup [p.1, p.2]) = some n → ∃ ns : List Int, prs.map (·.2) = ns.map V.int ∧ ns.sum = n
  | _, _, n, .nil, e => by cases e; exact ⟨[], rfl, rfl⟩
  | _, _, n, .cons (a := p) (b := q) h t, e => by
    obtain ⟨k, v⟩ := q
    rw [List.map_cons] at e
    cases v <;> try (cases e; done)
    rename_i m
    unfold sumIt at e
    obtain ⟨n', e1, rfl⟩ := Option.map_eq_some_iff.mp e
    obtain ⟨ns, g1, rfl⟩ := sumIt_pairs t e1
    have h2 := h.2
    have this : p.2 = V.int m := by
      obtain ⟨p1, p2⟩ := p
      have h2 : DV wd K mg F α p2 (.int m) := h2
      show p2 = V.int m
      cases h2
      rfl
    exact ⟨m :: ns, by rw [List.map_cons, List.map_cons, g1, this], by rw [List.sum_cons]⟩
section
open PySem.W
variable {X : Cx} {W : WX} {o : Expr} {ro : RE} {p apos cpos pos : Pos}
theorem pd_sumV (hc : X.calm = true) (hm : X.mg "sum" = none) (ho : PD X W o ro) (hg : Gl X "sum" := by rfl)
    (hbase : attributeBase o "values" X.env (eval o X.env) = eval o X.env := by rfl) (hline : (apos.endLine == cpos.line) = true := by rfl)
    (he : starEach [.Call (.Attribute o "values" apos) [] [] cpos] X.env = (false, eval (.Call (.Attribute o "values" apos) [] [] cpos) X.env) :: starEach [] X.env := by rfl) (hpl : (backTo pos (starEach [] X.env)).any (·.1) = false := by rfl) :
    PD X W (.Call (.Name "sum" p) [.Call (.Attribute o "values" apos) [] [] cpos] [] pos) (rSumVals ro) := by
  obtain ⟨to, po, so⟩ := ho.ex
  have inner := pe_valsE (cpos := cpos) po hbase hline
  refine ⟨_, pe_callB (cr_sumV hc) hg hm (by decide +kernel) (pa_cons inner pa_nil he) (by decide) (by decide) he hpl, fun α F σ H δ S Q hr hs h => ?_⟩
  refine so α F σ H δ S _ hr hs (wp.bind h fun d S1 _ x H1 β F1 r1 q1 v1 h1 => ?_)
  cases e0 : itemsOf (deref S1 d) with
  | none => rw [e0] at h1; exact h1.elim
  | some ys =>
    rw [e0] at h1
    cases e3 : sumIt ys with
    | none => rw [Option.bind_some, e3] at h1; exact h1.elim
    | some n =>
      rw [Option.bind_some, e3] at h1
      obtain ⟨a, prs, kvs, rfl, src, rfl, ev⟩ := r1.items v1 e0
      obtain ⟨ns, g1, rfl⟩ := sumIt_pairs ev e3
      refine ⟨a, prs, rfl, rfl, src, fun p hp => ?_⟩
      have n := r1.notin hp
      have f := r1.notF hp
      have r2 : Rel X.w X.K X.mg (α ++ β) F1 (upd H1 p (valsO p a)) S1 := r1.other n f
      have sb2 : ∀ b u, H1 b = some u → upd H1 p (valsO p a) b = some u := fun b u e => upd_some hp e
      have s2 : Stp (α ++ β) F1 H1 [] F1 (upd H1 p (valsO p a)) := Stp.refl.other hp
      refine ⟨p, a, prs, ns, rfl, upd_same, ?_, g1, ?_⟩
      · rcases src with ⟨ws, rd, e⟩ | ⟨xs, rd, e⟩
        · exact .inl ⟨ws, rd.imp (sb2 _ _) fun ⟨o, z⟩ => ⟨o, sb2 _ _ z⟩, e⟩
        · exact .inr ⟨xs, rd.imp (sb2 _ _) fun ⟨o, z⟩ => ⟨o, sb2 _ _ z⟩, e⟩
      · have h2 := wp.step s2 h1
        rw [List.append_nil] at h2
        exact h2.now r2 (.int _)
end
end DL
set_option Elab.async false
set_option linter.all false
set_option maxRecDepth 100000
set_option maxHeartbeats 0
set_option autoImplicit false
namespace DL
open PySem L2
def fuel_common_divisor_0 : Sl → Sto → Nat := fun δ _ => natAt δ 1 + 1
def b_common_divisor : RS := (sSeq (sPar 0 1 (rCons (rAs gAbs (rCons (rVar 0) rNil)) (rCons (rAs gAbs (rCons (rVar 1) rNil)) rNil)))
    (sSeq (sWhile fuel_common_divisor_0 (bVal (rBin gGtU (rVar 1) (rC (.int 0)))) (sPar 0 1 (rCons (rVar 1) (rCons (rBin gMod (rVar 0) (rVar 1)) rNil))))
    (sRet (rVar 0))))
def m_common_divisor : Mir := mDef 2 b_common_divisor
def b_fraction : RS := (sSeq (sAsg (rBin gMul (rCall m_common_divisor (rCons (rVar 0) (rCons (rVar 1) rNil))) (rIf (bVal (rBin gGtU (rVar 1) (rC (.int 0)))) (rC (.int 1)) (rUn gNeg (rC (.int 1))))) (gName 2))
    (sRet (rTup (rCons (rBin gDiv (rVar 0) (rVar 2)) (rCons (rBin gDiv (rVar 1) (rVar 2)) rNil)))))
def m_fraction : Mir := mDef 3 b_fraction
def b_times : RS := (sRet (rCall m_fraction (rCons (rBin gMul (rBin gIx (rVar 0) (rC (.int 0))) (rBin gIx (rVar 1) (rC (.int 0)))) (rCons (rBin gMul (rBin gIx (rVar 0) (rC (.int 1))) (rBin gIx (rVar 1) (rC (.int 1)))) rNil))))
def m_times : Mir := mDef 2 b_times
def b_is_small : RS := (sRet (rChain gLeU gLeU (rBin gSub (rC (.int 0)) (rC (.int 10000000000000000000000000000000000000000000000000000000000000000000000000000000000000000000000000000000000000000000000000000000000000000000000000000000000000000000000000000000000000000000000000000000000000000000000000000000000000000000000000000000000000000000000000000000000000000000000000000000000000000000000000000000000000000000000000000000000000000000000000000000000000000000000000000000000000000000000000000000000000000000000000000000000000000000000000000000000000000000000000000000000000000000000000000000000000000000000000000000000000000000000000000000000000000000000000000000000000000000000000000000000000000000000000000000000000000000000000000000000000000000000000000000000000000000000000000000000000000000000000000000000000000000000000000000000000000000000000000000000000000000000000000000000000000000000000000000000000000000000000000000000000000000000000000000000000000000000000000000000000000000000000000000000000000000000000000000000000000000000000000000000000000000000000000000000000000))) (rVar 0) (rC (.int 10000000000000000000000000000000000000000000000000000000000000000000000000000000000000000000000000000000000000000000000000000000000000000000000000000000000000000000000000000000000000000000000000000000000000000000000000000000000000000000000000000000000000000000000000000000000000000000000000000000000000000000000000000000000000000000000000000000000000000000000000000000000000000000000000000000000000000000000000000000000000000000000000000000000000000000000000000000000000000000000000000000000000000000000000000000000000000000000000000000000000000000000000000000000000000000000000000000000000000000000000000000000000000000000000000000000000000000000000000000000000000000000000000000000000000000000000000000000000000000000000000000000000000000000000000000000000000000000000000000000000000000000000000000000000000000000000000000000000000000000000000000000000000000000000000000000000000000000000000000000000000000000000000000000000000000000000000000000000000000000000000000000000000000000000000000000000000))))
def m_is_small : Mir := mDef 1 b_is_small
def b_pairs_of : RS := (sSeq (sLock 0 (sAsg (rAs gTuple (rCons (rKeep (rAs gSorted (rCons (rKeep (rLc (rItems (rVar 0)) (gTup (gCons (gName 2) (gCons (gName 3) gNil))) [2, 3] (bVal (rBin gNe (rVar 3) (rC (.tup [(.int 0), (.int 1)])))) (rTup (rCons (rVar 2) (rCons (rVar 3) rNil))))) rNil))) rNil)) (gName 1)))
    (sSeq (sIf (bOr (bVal (rBin gGtU (rAs gLen (rCons (rVar 1) rNil)) (rC (.int 1000)))) (bNot (bTru (rAs gAll (rCons (rKeep (rLc (rSeq (rVar 1)) (gTup (gCons (gName 2) (gCons (gName 3) gNil))) [2, 3] bYes (rAnd (rCall m_is_small (rCons (rBin gIx (rVar 3) (rC (.int 0))) rNil)) (rCall m_is_small (rCons (rBin gIx (rVar 3) (rC (.int 1))) rNil))))) rNil))))) sNever sNext)
    (sRet (rVar 1))))
def m_pairs_of : Mir := mDef 4 b_pairs_of
def b_plus : RS := (sRet (rCall m_fraction (rCons (rBin gAdd (rBin gMul (rBin gIx (rVar 0) (rC (.int 0))) (rBin gIx (rVar 1) (rC (.int 1)))) (rBin gMul (rBin gIx (rVar 1) (rC (.int 0))) (rBin gIx (rVar 0) (rC (.int 1))))) (rCons (rBin gMul (rBin gIx (rVar 0) (rC (.int 1))) (rBin gIx (rVar 1) (rC (.int 1)))) rNil))))
def m_plus : Mir := mDef 2 b_plus
def b_added : RS := (sPutU (rVar 0) (rVar 1) (rCall m_plus (rCons (rGet2 (rVar 0) (rVar 1) (rC (.tup [(.int 0), (.int 1)]))) (rCons (rVar 2) rNil))))
def m_added : Mir := mDef 3 b_added
def b_choose : RS := (sSeq (sIf (bVal (rBin gGtU (rVar 1) (rVar 0))) (sRet (rC (.int 0))) sNext)
    (sSeq (sAsg (rC (.int 1)) (gName 2))
    (sSeq (sFor (rRange (rCons (rVar 1) rNil)) (gName 3) (sAsg (rBin gDiv (rBin gMul (rVar 2) (rBin gSub (rVar 0) (rVar 3))) (rBin gAdd (rVar 3) (rC (.int 1)))) (gName 2)))
    (sRet (rVar 2)))))
def m_choose : Mir := mDef 4 b_choose
def fuel_raised_0 : Sl → Sto → Nat := fun δ _ => natAt δ 3 + 1
def b_raised : RS := (sSeq (sAsg (rC (.int 1)) (gName 2))
    (sSeq (sAsg (rVar 1) (gName 3))
    (sSeq (sWhile fuel_raised_0 (bVal (rBin gGtU (rVar 3) (rC (.int 0)))) (sSeq (sIf (bVal (rBin gEq (rBin gMod (rVar 3) (rC (.int 2))) (rC (.int 1)))) (sAsg (rBin gMul (rVar 2) (rVar 0)) (gName 2)) sNext)
    (sSeq (sAsg (rBin gDiv (rVar 3) (rC (.int 2))) (gName 3))
    (sAsg (rIf (bVal (rBin gGtU (rVar 3) (rC (.int 0)))) (rBin gMul (rVar 0) (rVar 0)) (rVar 0)) (gName 0)))))
    (sRet (rVar 2)))))
def m_raised : Mir := mDef 4 b_raised
def b_term_at : RS := (sRet (rIf (bVal (rBin gGeU (rVar 2) (rVar 0))) (rBin gMul (rCall m_choose (rCons (rVar 2) (rCons (rVar 0) rNil))) (rCall m_raised (rCons (rVar 1) (rCons (rBin gSub (rVar 2) (rVar 0)) rNil)))) (rC (.int 0))))
def m_term_at : Mir := mDef 3 b_term_at
def b_at_count : RS := (sSeq (sAsg (rOwn (rC (.dct []))) (gName 2))
    (sSeq (sFor (rSeq (rVar 0)) (gTup (gCons (gTup (gCons (gName 3) (gCons (gName 4) (gCons (gName 5) gNil)))) (gCons (gName 6) gNil))) (sExpr (rCall m_added (rCons (rVar 2) (rCons (rVar 3) (rCons (rCall m_times (rCons (rVar 6) (rCons (rCall m_fraction (rCons (rCall m_term_at (rCons (rVar 4) (rCons (rVar 5) (rCons (rVar 1) rNil)))) (rCons (rC (.int 1)) rNil))) rNil))) rNil))))))
    (sRet (rCall m_pairs_of (rCons (rVar 2) rNil)))))
def m_at_count : Mir := mDef 7 b_at_count
def b_plain_value : RS := (sSeq (sAsg (rC (.tup [(.int 0), (.int 1)])) (gName 2))
    (sSeq (sFor (rSeq (rVar 0)) (gTup (gCons (gName 3) (gCons (gName 4) gNil))) (sSeq (sAsg (rC (.int 1)) (gName 5))
    (sSeq (sFor (rSeq (rVar 3)) (gTup (gCons (gName 6) (gCons (gName 7) gNil))) (sAsg (rBin gMul (rVar 5) (rCall m_raised (rCons (rBin gGetU (rVar 1) (rVar 6)) (rCons (rVar 7) rNil)))) (gName 5)))
    (sAsg (rCall m_plus (rCons (rVar 2) (rCons (rCall m_times (rCons (rVar 4) (rCons (rCall m_fraction (rCons (rVar 5) (rCons (rC (.int 1)) rNil))) rNil))) rNil))) (gName 2)))))
    (sRet (rVar 2))))
def m_plain_value : Mir := mDef 8 b_plain_value
def b__law_started : RS := (sRet (rOwn (rDisp [((rC (.str "script")), (rVar 0)), ((rC (.str "at")), (rC (.int 0))), ((rC (.str "rest")), (rOwn (rLc (rSeq (rVar 0)) (gName 1) [1] bYes (rBin gMul (rVar 1) (rAs gInt (rCons (rBin gGeU (rVar 1) (rBin gPow (rC (.int 10)) (rC (.int 18)))) rNil))))))])))
def m__law_started : Mir := mDefK 2 b__law_started
def fuel__law_common_0 : Sl → Sto → Nat := fun δ _ => natAt δ 1 + 1
def b__law_common : RS := (sSeq (sWhile fuel__law_common_0 (bVal (rBin gGtU (rVar 1) (rC (.int 0)))) (sPar 0 1 (rCons (rVar 1) (rCons (rBin gMod (rVar 0) (rVar 1)) rNil))))
    (sRet (rVar 0)))
def m__law_common : Mir := mDef 2 b__law_common
def b__law_share : RS := (sSeq (sAsg (rCall m__law_common (rCons (rAs gAbs (rCons (rVar 0) rNil)) (rCons (rVar 1) rNil))) (gName 2))
    (sRet (rTup (rCons (rBin gDiv (rVar 0) (rVar 2)) (rCons (rBin gDiv (rVar 1) (rVar 2)) rNil)))))
def m__law_share : Mir := mDef 3 b__law_share
def b__law_plus : RS := (sRet (rCall m__law_share (rCons (rBin gAdd (rBin gMul (rBin gIx (rVar 0) (rC (.int 0))) (rBin gIx (rVar 1) (rC (.int 1)))) (rBin gMul (rBin gIx (rVar 1) (rC (.int 0))) (rBin gIx (rVar 0) (rC (.int 1))))) (rCons (rBin gMul (rBin gIx (rVar 0) (rC (.int 1))) (rBin gIx (rVar 1) (rC (.int 1)))) rNil))))
def m__law_plus : Mir := mDef 2 b__law_plus
def b__law_put : RS := (sPutU (rVar 0) (rVar 1) (rCall m__law_plus (rCons (rGet2 (rVar 0) (rVar 1) (rTup (rCons (rC (.int 0)) (rCons (rC (.int 1)) rNil)))) (rCons (rVar 2) rNil))))
def m__law_put : Mir := mDef 3 b__law_put
def b__law_pairs : RS := (sLock 0 (sRet (rAs gTuple (rCons (rKeep (rAs gSorted (rCons (rKeep (rLc (rItems (rVar 0)) (gTup (gCons (gName 1) (gCons (gName 2) gNil))) [1, 2] (bVal (rBin gNe (rBin gIx (rVar 2) (rC (.int 0))) (rC (.int 0)))) (rTup (rCons (rVar 1) (rCons (rVar 2) rNil))))) rNil))) rNil))))
def m__law_pairs : Mir := mDef 3 b__law_pairs
def b__law_draw : RS := (sSeq (sAsg (rBin gGetU (rVar 0) (rC (.str "at"))) (gName 2))
    (sSeq (sPutU (rVar 0) (rC (.str "at")) (rBin gAdd (rVar 2) (rC (.int 1))))
    (sSeq (sAsg (rBin gGetU (rVar 0) (rC (.str "script"))) (gName 3))
    (sSeq (sAsg (rIf (bVal (rBin gNe (rBin gGetU (rVar 0) (rC (.str "rest"))) (rKeep (rLst rNil)))) (rBin gIx (rBin gGetU (rVar 0) (rC (.str "rest"))) (rBin gMod (rVar 2) (rAs gLen (rCons (rVar 3) rNil)))) (rC (.int 0))) (gName 4))
    (sSeq (sIf (bVal (rBin gGtU (rVar 4) (rC (.int 0)))) (sSeq (sSetL (rBin gGetU (rVar 0) (rC (.str "rest"))) (rBin gMod (rVar 2) (rAs gLen (rCons (rVar 3) rNil))) (rBin gDiv (rVar 4) (rVar 1)))
    (sRet (rBin gMod (rVar 4) (rVar 1)))) sNext)
    (sSeq (sAsg (rIf (bVal (rBin gNe (rVar 3) (rKeep (rLst rNil)))) (rBin gIx (rVar 3) (rBin gMod (rVar 2) (rAs gLen (rCons (rVar 3) rNil)))) (rC (.int 0))) (gName 5))
    (sSeq (sAsg (rBin gMod (rBin gAdd (rBin gAdd (rBin gMul (rBin gMod (rVar 5) (rC (.int 2147483629))) (rC (.int 48271))) (rBin gMul (rBin gMul (rC (.int 69621)) (rVar 2)) (rVar 2))) (rC (.int 104729))) (rC (.int 2147483647))) (gName 6))
    (sSeq (sAsg (rBin gMod (rBin gMul (rVar 6) (rBin gAdd (rC (.int 16807)) (rBin gMul (rC (.int 2)) (rVar 2)))) (rC (.int 2147483629))) (gName 6))
    (sRet (rBin gMod (rBin gDiv (rBin gMod (rBin gMul (rVar 6) (rVar 6)) (rC (.int 1000000007))) (rC (.int 7))) (rVar 1)))))))))))
def m__law_draw : Mir := mDef 7 b__law_draw
def b__law_of : RS := (sRet (rBin gIx (rVar 1) (rCall m__law_draw (rCons (rVar 0) (rCons (rAs gLen (rCons (rVar 1) rNil)) rNil)))))
def m__law_of : Mir := mDef 2 b__law_of
def b__law_mono : RS := (sSeq (sAsg (rOwn (rC (.dct []))) (gName 2))
    (sSeq (sFor (rRange (rCons (rCall m__law_draw (rCons (rVar 0) (rCons (rBin gAdd (rVar 1) (rC (.int 1))) rNil))) rNil)) (gName 3) (sSeq (sAsg (rCall m__law_of (rCons (rVar 0) (rCons (rKeep (rLst (rCons (rC (.str "gull")) (rCons (rC (.str "x")) (rCons (rC (.str "arc")) (rCons (rC (.str "zz")) (rCons (rC (.str "b")) rNil))))))) rNil))) (gName 4))
    (sPutU (rVar 2) (rVar 4) (rBin gAdd (rGet2 (rVar 2) (rVar 4) (rC (.int 0))) (rC (.int 1))))))
    (sRet (rAs gTuple (rCons (rKeep (rSortItems (rVar 2))) rNil)))))
def m__law_mono : Mir := mDef 5 b__law_mono
def b__law_number : RS := (sSeq (sAsg (rKeep (rLst (rCons (rC (.int 1)) (rCons (rUn gNeg (rC (.int 1))) (rCons (rC (.int 2)) (rCons (rC (.int 3)) (rCons (rUn gNeg (rC (.int 5))) (rCons (rCall m__law_draw (rCons (rVar 0) (rCons (rC (.int 12)) rNil))) (rCons (rBin gSub (rC (.int 0)) (rCall m__law_draw (rCons (rVar 0) (rCons (rBin gPow (rC (.int 10)) (rC (.int 6))) rNil)))) (rCons (rBin gAdd (rBin gPow (rC (.int 10)) (rC (.int 20))) (rCall m__law_draw (rCons (rVar 0) (rCons (rBin gPow (rC (.int 10)) (rC (.int 6))) rNil)))) rNil)))))))))) (gName 1))
    (sSeq (sAsg (rCall m__law_of (rCons (rVar 0) (rCons (rVar 1) rNil))) (gName 2))
    (sRet (rIf (bVal (rBin gNe (rVar 2) (rC (.int 0)))) (rVar 2) (rC (.int 4))))))
def m__law_number : Mir := mDef 3 b__law_number
def b__law_base : RS := (sRet (rCall m__law_of (rCons (rVar 0) (rCons (rKeep (rLst (rCons (rC (.int 0)) (rCons (rC (.int 0)) (rCons (rC (.int 1)) (rCons (rC (.int 1)) (rCons (rUn gNeg (rC (.int 1))) (rCons (rC (.int 2)) (rCons (rUn gNeg (rC (.int 2))) (rCons (rC (.int 3)) (rCons (rUn gNeg (rC (.int 7))) (rCons (rC (.int 10)) (rCons (rBin gSub (rCall m__law_draw (rCons (rVar 0) (rCons (rBin gPow (rC (.int 10)) (rC (.int 9))) rNil))) (rBin gPow (rC (.int 10)) (rC (.int 8)))) rNil))))))))))))) rNil))))
def m__law_base : Mir := mDef 1 b__law_base
def b__law_form : RS := (sSeq (sAsg (rOwn (rC (.dct []))) (gName 3))
    (sSeq (sFor (rRange (rCons (rCall m__law_draw (rCons (rVar 0) (rCons (rBin gAdd (rVar 1) (rC (.int 1))) rNil))) rNil)) (gName 4) (sSeq (sAsg (rTup (rCons (rCall m__law_mono (rCons (rVar 0) (rCons (rVar 2) rNil))) (rCons (rCall m__law_of (rCons (rVar 0) (rCons (rKeep (rLst (rCons (rC (.int 0)) (rCons (rC (.int 0)) (rCons (rC (.int 0)) (rCons (rC (.int 1)) (rCons (rC (.int 1)) (rCons (rC (.int 2)) (rCons (rC (.int 3)) rNil))))))))) rNil))) (rCons (rCall m__law_base (rCons (rVar 0) rNil)) rNil)))) (gName 5))
    (sPutU (rVar 3) (rVar 5) (rCall m__law_share (rCons (rCall m__law_number (rCons (rVar 0) rNil)) (rCons (rBin gAdd (rC (.int 1)) (rCall m__law_draw (rCons (rVar 0) (rCons (rCall m__law_of (rCons (rVar 0) (rCons (rKeep (rLst (rCons (rC (.int 1)) (rCons (rC (.int 1)) (rCons (rC (.int 6)) (rCons (rC (.int 60)) rNil)))))) rNil))) rNil)))) rNil))))))
    (sRet (rCall m__law_pairs (rCons (rVar 3) rNil)))))
def m__law_form : Mir := mDef 6 b__law_form
def b__law_power : RS := (sSeq (sAsg (rC (.int 1)) (gName 2))
    (sSeq (sFor (rRange (rCons (rVar 1) rNil)) (gName 3) (sAsg (rBin gMul (rVar 2) (rVar 0)) (gName 2)))
    (sRet (rVar 2))))
def m__law_power : Mir := mDef 4 b__law_power
def b__law_term : RS := (sSeq (sIf (bVal (rBin gLtU (rVar 2) (rVar 0))) (sRet (rC (.int 0))) sNext)
    (sSeq (sAsg (rC (.int 1)) (gName 3))
    (sSeq (sFor (rRange (rCons (rVar 0) rNil)) (gName 4) (sAsg (rBin gDiv (rBin gMul (rVar 3) (rBin gSub (rVar 2) (rVar 4))) (rBin gAdd (rVar 4) (rC (.int 1)))) (gName 3)))
    (sRet (rBin gMul (rVar 3) (rCall m__law_power (rCons (rVar 1) (rCons (rBin gSub (rVar 2) (rVar 0)) rNil))))))))
def m__law_term : Mir := mDef 5 b__law_term
def b__law_at : RS := (sSeq (sAsg (rOwn (rC (.dct []))) (gName 2))
    (sSeq (sFor (rSeq (rVar 0)) (gTup (gCons (gTup (gCons (gName 3) (gCons (gName 4) (gCons (gName 5) gNil)))) (gCons (gName 6) gNil))) (sExpr (rCall m__law_put (rCons (rVar 2) (rCons (rVar 3) (rCons (rCall m__law_share (rCons (rBin gMul (rBin gIx (rVar 6) (rC (.int 0))) (rCall m__law_term (rCons (rVar 4) (rCons (rVar 5) (rCons (rVar 1) rNil))))) (rCons (rBin gIx (rVar 6) (rC (.int 1))) rNil))) rNil))))))
    (sRet (rCall m__law_pairs (rCons (rVar 2) rNil)))))
def m__law_at : Mir := mDef 7 b__law_at
def b_form_of : RS := (sSeq (sAsg (rCall m_pairs_of (rCons (rVar 0) rNil)) (gName 1))
    (sSeq (sIf (bNot (bTru (rAs gAll (rCons (rKeep (rLc (rSeq (rVar 1)) (gTup (gCons (gName 2) (gCons (gName 3) gNil))) [2, 3] bYes (rAnd (rBin gLeU (rBin gIx (rVar 2) (rC (.int 1))) (rC (.int 99))) (rCall m_is_small (rCons (rBin gIx (rVar 2) (rC (.int 2))) rNil))))) rNil)))) sNever sNext)
    (sRet (rVar 1))))
def m_form_of : Mir := mDef 4 b_form_of
def b_summed : RS := (sSeq (sAsg (rOwn (rAs gDict (rCons (rVar 0) rNil))) (gName 2))
    (sSeq (sFor (rSeq (rVar 1)) (gTup (gCons (gName 3) (gCons (gName 4) gNil))) (sExpr (rCall m_added (rCons (rVar 2) (rCons (rVar 3) (rCons (rVar 4) rNil))))))
    (sRet (rVar 2))))
def m_summed : Mir := mDefK 5 b_summed
def b_form_sum : RS := (sRet (rCall m_form_of (rCons (rCall m_summed (rCons (rVar 0) (rCons (rVar 1) rNil))) rNil)))
def m_form_sum : Mir := mDef 2 b_form_sum
def b_form_times : RS := (sRet (rCall m_form_of (rCons (rOwn (rAs gDict (rCons (rKeep (rLc (rSeq (rVar 1)) (gTup (gCons (gName 2) (gCons (gName 3) gNil))) [2, 3] bYes (rTup (rCons (rVar 2) (rCons (rCall m_times (rCons (rVar 0) (rCons (rVar 3) rNil))) rNil))))) rNil))) rNil)))
def m_form_times : Mir := mDef 4 b_form_times
def b__law_near : RS := (sSeq (sAsg (rCall m__law_draw (rCons (rVar 0) (rCons (rC (.int 7)) rNil))) (gName 2))
    (sSeq (sAsg (rCall m__law_mono (rCons (rVar 0) (rCons (rC (.int 3)) rNil))) (gName 3))
    (sSeq (sAsg (rCall m__law_share (rCons (rCall m__law_number (rCons (rVar 0) rNil)) (rCons (rBin gAdd (rC (.int 1)) (rCall m__law_draw (rCons (rVar 0) (rCons (rC (.int 9)) rNil)))) rNil))) (gName 4))
    (sSeq (sIf (bVal (rBin gEq (rVar 2) (rC (.int 0)))) (sRet (rCall m_form_sum (rCons (rVar 1) (rCons (rTup (rCons (rTup (rCons (rTup (rCons (rVar 3) (rCons (rCall m__law_draw (rCons (rVar 0) (rCons (rC (.int 4)) rNil))) (rCons (rC (.int 0)) rNil)))) (rCons (rVar 4) rNil))) rNil)) rNil)))) sNext)
    (sSeq (sIf (bVal (rBin gEq (rVar 2) (rC (.int 1)))) (sRet (rCall m_form_sum (rCons (rVar 1) (rCons (rTup (rCons (rTup (rCons (rTup (rCons (rVar 3) (rCons (rC (.int 7)) (rCons (rCall m__law_base (rCons (rVar 0) rNil)) rNil)))) (rCons (rVar 4) rNil))) rNil)) rNil)))) sNext)
    (sSeq (sIf (bAnd (bVal (rBin gEq (rVar 2) (rC (.int 2)))) (bVal (rBin gNe (rVar 1) (rTup rNil)))) (sSeq (sAsg (rCall m__law_of (rCons (rVar 0) (rCons (rKeep (rAs gList (rCons (rVar 1) rNil))) rNil))) (gTup (gCons (gName 5) (gCons (gName 6) gNil))))
    (sRet (rCall m_form_sum (rCons (rVar 1) (rCons (rTup (rCons (rTup (rCons (rVar 5) (rCons (rCall m__law_share (rCons (rBin gIx (rVar 6) (rC (.int 0))) (rCons (rBin gMul (rBin gIx (rVar 6) (rC (.int 1))) (rBin gPow (rC (.int 10)) (rC (.int 20)))) rNil))) rNil))) rNil)) rNil))))) sNext)
    (sSeq (sIf (bAnd (bVal (rBin gEq (rVar 2) (rC (.int 3)))) (bVal (rBin gNe (rVar 1) (rTup rNil)))) (sSeq (sAsg (rCall m__law_of (rCons (rVar 0) (rCons (rKeep (rAs gList (rCons (rVar 1) rNil))) rNil))) (gTup (gCons (gName 5) (gCons (gName 6) gNil))))
    (sRet (rCall m_form_sum (rCons (rVar 1) (rCons (rTup (rCons (rTup (rCons (rBin gAdd (rCut (rVar 5) oNone (oSome (rC (.int 2)))) (rTup (rCons (rBin gAdd (rBin gIx (rVar 5) (rC (.int 2))) (rC (.int 1))) rNil))) (rCons (rVar 6) rNil))) rNil)) rNil))))) sNext)
    (sSeq (sIf (bVal (rBin gEq (rVar 2) (rC (.int 4)))) (sRet (rCall m__law_form (rCons (rVar 0) (rCons (rC (.int 5)) (rCons (rC (.int 3)) rNil))))) sNext)
    (sSeq (sAsg (rCall m__law_form (rCons (rVar 0) (rCons (rC (.int 3)) (rCons (rC (.int 3)) rNil)))) (gName 7))
    (sRet (rCall m_form_sum (rCons (rCall m_form_sum (rCons (rVar 7) (rCons (rVar 1) rNil))) (rCons (rCall m_form_times (rCons (rTup (rCons (rUn gNeg (rC (.int 1))) (rCons (rC (.int 1)) rNil))) (rCons (rVar 7) rNil))) rNil)))))))))))))
def m__law_near : Mir := mDef 8 b__law_near
def b__law_places : RS := (sSeq (sAsg (rOwn (rC (.dct []))) (gName 1))
    (sSeq (sFor (rSeq (rVar 0)) (gName 2) (sFor (rSeq (rVar 2)) (gTup (gCons (gTup (gCons (gName 3) (gCons (gName 4) (gCons (gName 5) gNil)))) (gCons (gName 6) gNil))) (sPutU (rVar 1) (rVar 5) (rAs gMax (rCons (rGet2 (rVar 1) (rVar 5) (rC (.int 0))) (rCons (rBin gAdd (rVar 4) (rC (.int 1))) rNil))))))
    (sRet (rSumVals (rVar 1)))))
def m__law_places : Mir := mDef 7 b__law_places
def b__law_parting : RS := (sSeq (sIf (bVal (rBin gEq (rVar 0) (rTup rNil))) (sRet (rC .non)) sNext)
    (sSeq (sAsg (rOwn (rC (.dct []))) (gName 1))
    (sSeq (sFor (rSeq (rVar 0)) (gTup (gCons (gName 2) (gCons (gName 3) gNil))) (sExpr (rUpd (rVar 1) (rOwn (rAs gDict (rCons (rVar 2) rNil))))))
    (sSeq (sAsg (rBin gAdd (rC (.int 2)) (rBin gMul (rAs gSum (rCons (rKeep (rLc (rSeq (rVar 0)) (gTup (gCons (gName 2) (gCons (gName 3) gNil))) [2, 3] bYes (rAs gAbs (rCons (rBin gIx (rVar 3) (rC (.int 0))) rNil)))) rNil)) (rAs gMax (rCons (rKeep (rLc (rSeq (rVar 0)) (gTup (gCons (gName 2) (gCons (gName 3) gNil))) [2, 3] bYes (rBin gIx (rVar 3) (rC (.int 1))))) rNil)))) (gName 4))
    (sSeq (sAsg (rOwn (rC (.dct []))) (gName 5))
    (sSeq (sAsg (rVar 4) (gName 6))
    (sSeq (sFor (rSeq (rKeep (rAs gSortKeys (rCons (rVar 1) rNil)))) (gName 7) (sSeq (sPutU (rVar 5) (rVar 7) (rVar 6))
    (sAsg (rBin gPow (rVar 6) (rC (.int 4))) (gName 6))))
    (sRet (rVar 5)))))))))
def m__law_parting : Mir := mDef 8 b__law_parting
def b_law : RS := (sSeq (sAsg (rCall m__law_started (rCons (rVar 0) rNil)) (gName 1))
    (sSeq (sFor (rRange (rCons (rAs gMax (rCons (rC (.int 4)) (rCons (rAs gMin (rCons (rC (.int 16)) (rCons (rAs gLen (rCons (rVar 0) rNil)) rNil))) rNil))) rNil)) (gName 2) (sSeq (sAsg (rCall m__law_form (rCons (rVar 1) (rCons (rC (.int 5)) (rCons (rC (.int 3)) rNil)))) (gName 3))
    (sSeq (sAsg (rCall m__law_near (rCons (rVar 1) (rCons (rVar 3) rNil))) (gName 4))
    (sSeq (sAsg (rOwn (rLst rNil)) (gName 5))
    (sSeq (sFor (rRange (rCons (rCall m__law_places (rCons (rKeep (rLst (rCons (rVar 3) (rCons (rVar 4) rNil)))) rNil)) rNil)) (gName 6) (sSeq (sPar 7 8 (rCons (rCall m_at_count (rCons (rVar 3) (rCons (rVar 6) rNil))) (rCons (rCall m_at_count (rCons (rVar 4) (rCons (rVar 6) rNil))) rNil)))
    (sSeq (sIf (bOr (bVal (rBin gNe (rAs gReprW (rCons (rVar 7) rNil)) (rAs gReprW (rCons (rCall m__law_at (rCons (rVar 3) (rCons (rVar 6) rNil))) rNil)))) (bVal (rBin gNe (rAs gReprW (rCons (rVar 8) rNil)) (rAs gReprW (rCons (rCall m__law_at (rCons (rVar 4) (rCons (rVar 6) rNil))) rNil))))) (sRet (rC (.bl false))) sNext)
    (sIf (bVal (rBin gNe (rVar 7) (rVar 8))) (sExpr (rMeth "list" mAppend (rVar 5) (rCons (rTup (rCons (rVar 7) (rCons (rVar 8) rNil))) rNil))) sNext))))
    (sSeq (sIf (bVal (rBin gNe (rBin gEq (rVar 3) (rVar 4)) (rBin gEq (rVar 5) (rKeep (rLst rNil))))) (sRet (rC (.bl false))) sNext)
    (sFor (rSeq (rCut (rVar 5) oNone (oSome (rC (.int 2))))) (gTup (gCons (gName 7) (gCons (gName 8) gNil))) (sSeq (sAsg (rOwn (rAs gDict (rCons (rVar 7) rNil))) (gName 9))
    (sSeq (sFor (rSeq (rVar 8)) (gTup (gCons (gName 10) (gCons (gName 11) gNil))) (sExpr (rCall m__law_put (rCons (rVar 9) (rCons (rVar 10) (rCons (rTup (rCons (rBin gSub (rC (.int 0)) (rBin gIx (rVar 11) (rC (.int 0)))) (rCons (rBin gIx (rVar 11) (rC (.int 1))) rNil))) rNil))))))
    (sSeq (sAsg (rCall m__law_parting (rCons (rCall m__law_pairs (rCons (rVar 9) rNil)) rNil)) (gName 12))
    (sSeq (sFor (rSeq (rBin gAdd (rVar 7) (rVar 8))) (gTup (gCons (gName 10) (gCons (gName 11) gNil))) (sExpr (rUpd (rVar 12) (rOwn (rAs gDict (rCons (rKeep (rLc (rSeq (rVar 10)) (gTup (gCons (gName 13) (gCons (gName 14) gNil))) [13, 14] bYes (rTup (rCons (rVar 13) (rCons (rGet2 (rVar 12) (rVar 13) (rC (.int 1))) rNil))))) rNil))))))
    (sIf (bVal (rBin gEq (rCall m_plain_value (rCons (rVar 7) (rCons (rVar 12) rNil))) (rCall m_plain_value (rCons (rVar 8) (rCons (rVar 12) rNil))))) (sRet (rC (.bl false))) sNext))))))))))))
    (sRet (rC (.bl true)))))
def m_law : Mir := mDef 15 b_law
end DL
set_option Elab.async false
set_option linter.all false
set_option maxRecDepth 100000
set_option maxHeartbeats 0
set_option autoImplicit false
namespace DL
open PySem PySem.Spec PyProof.Rows L2
def top (i : Nat) : Stmt := PySem.Challenge.pw_roundless_k24_whole_unlike_forms_part.main.body.getD i (.Pass ⟨0, 0, 0, 0⟩)
abbrev st_common_divisor : Stmt := top 5
abbrev st_fraction : Stmt := top 6
abbrev st_times : Stmt := top 8
abbrev st_is_small : Stmt := top 14
abbrev st_pairs_of : Stmt := top 15
abbrev st_plus : Stmt := top 7
abbrev st_added : Stmt := top 17
abbrev st_choose : Stmt := top 9
abbrev st_raised : Stmt := top 19
abbrev st_term_at : Stmt := top 20
abbrev st_at_count : Stmt := top 23
abbrev st_plain_value : Stmt := top 24
abbrev st__law_started : Stmt := top 26
abbrev st__law_common : Stmt := top 29
abbrev st__law_share : Stmt := top 30
abbrev st__law_plus : Stmt := top 31
abbrev st__law_put : Stmt := top 32
abbrev st__law_pairs : Stmt := top 33
abbrev st__law_draw : Stmt := top 27
abbrev st__law_of : Stmt := top 28
abbrev st__law_mono : Stmt := top 34
abbrev st__law_number : Stmt := top 35
abbrev st__law_base : Stmt := top 36
abbrev st__law_form : Stmt := top 37
abbrev st__law_power : Stmt := top 38
abbrev st__law_term : Stmt := top 39
abbrev st__law_at : Stmt := top 40
abbrev st_form_of : Stmt := top 16
abbrev st_summed : Stmt := top 18
abbrev st_form_sum : Stmt := top 21
abbrev st_form_times : Stmt := top 22
abbrev st__law_near : Stmt := top 41
abbrev st__law_places : Stmt := top 42
abbrev st__law_parting : Stmt := top 43
abbrev st_law : Stmt := top 44
/-- what the text gives -/
structure Txt (K : Fg) (mg : Str → Option Value) : Prop where
  d_common_divisor : Fd K mg "common_divisor" st_common_divisor ["one", "other"]
  d_fraction : Fd K mg "fraction" st_fraction ["above", "below"]
  d_times : Fd K mg "times" st_times ["one", "other"]
  d_is_small : Fd K mg "is_small" st_is_small ["number"]
  d_pairs_of : Fd K mg "pairs_of" st_pairs_of ["found"]
  d_plus : Fd K mg "plus" st_plus ["one", "other"]
  d_added : Fd K mg "added" st_added ["found", "key", "share"]
  d_choose : Fd K mg "choose" st_choose ["many", "some"]
  d_raised : Fd K mg "raised" st_raised ["number", "often"]
  d_term_at : Fd K mg "term_at" st_term_at ["place", "base", "count"]
  d_at_count : Fd K mg "at_count" st_at_count ["form", "count"]
  d_plain_value : Fd K mg "plain_value" st_plain_value ["plain", "values"]
  d__law_started : Fd K mg "_law_started" st__law_started ["_law_script"]
  d__law_common : Fd K mg "_law_common" st__law_common ["_law_one", "_law_other"]
  d__law_share : Fd K mg "_law_share" st__law_share ["_law_above", "_law_below"]
  d__law_plus : Fd K mg "_law_plus" st__law_plus ["_law_one", "_law_other"]
  d__law_put : Fd K mg "_law_put" st__law_put ["_law_found", "_law_key", "_law_share_here"]
  d__law_pairs : Fd K mg "_law_pairs" st__law_pairs ["_law_found"]
  d__law_draw : Fd K mg "_law_draw" st__law_draw ["_law_m", "_law_many"]
  d__law_of : Fd K mg "_law_of" st__law_of ["_law_m", "_law_some"]
  d__law_mono : Fd K mg "_law_mono" st__law_mono ["_law_m", "_law_most"]
  d__law_number : Fd K mg "_law_number" st__law_number ["_law_m"]
  d__law_base : Fd K mg "_law_base" st__law_base ["_law_m"]
  d__law_form : Fd K mg "_law_form" st__law_form ["_law_m", "_law_many", "_law_most"]
  d__law_power : Fd K mg "_law_power" st__law_power ["_law_number_here", "_law_often"]
  d__law_term : Fd K mg "_law_term" st__law_term ["_law_place", "_law_base_here", "_law_count"]
  d__law_at : Fd K mg "_law_at" st__law_at ["_law_form_here", "_law_count"]
  d_form_of : Fd K mg "form_of" st_form_of ["found"]
  d_summed : Fd K mg "summed" st_summed ["one", "other"]
  d_form_sum : Fd K mg "form_sum" st_form_sum ["one", "other"]
  d_form_times : Fd K mg "form_times" st_form_times ["share", "form"]
  d__law_near : Fd K mg "_law_near" st__law_near ["_law_m", "_law_form_here"]
  d__law_places : Fd K mg "_law_places" st__law_places ["_law_forms"]
  d__law_parting : Fd K mg "_law_parting" st__law_parting ["_law_plain"]
  d_law : Fd K mg "law" st_law ["_law_script"]
  n_abs : mg "abs" = none
  n_all : mg "all" = none
  n_dict : mg "dict" = none
  n_int : mg "int" = none
  n_len : mg "len" = none
  n_list : mg "list" = none
  n_max : mg "max" = none
  n_min : mg "min" = none
  n_range : mg "range" = none
  n_repr : mg "repr" = none
  n_sorted : mg "sorted" = none
  n_sum : mg "sum" = none
  n_tuple : mg "tuple" = none
  g_GREATEST : ∃ t, mg "GREATEST" = some (.int 10000000000000000000000000000000000000000000000000000000000000000000000000000000000000000000000000000000000000000000000000000000000000000000000000000000000000000000000000000000000000000000000000000000000000000000000000000000000000000000000000000000000000000000000000000000000000000000000000000000000000000000000000000000000000000000000000000000000000000000000000000000000000000000000000000000000000000000000000000000000000000000000000000000000000000000000000000000000000000000000000000000000000000000000000000000000000000000000000000000000000000000000000000000000000000000000000000000000000000000000000000000000000000000000000000000000000000000000000000000000000000000000000000000000000000000000000000000000000000000000000000000000000000000000000000000000000000000000000000000000000000000000000000000000000000000000000000000000000000000000000000000000000000000000000000000000000000000000000000000000000000000000000000000000000000000000000000000000000000000000000000000000000000000000000000000000000000 t)
  g_MOST_PAIRS : ∃ t, mg "MOST_PAIRS" = some (.int 1000 t)
  g_MOST_PLACE : ∃ t, mg "MOST_PLACE" = some (.int 99 t)
  g_NOUGHT : ∀ w, Lit w K mg "NOUGHT" (.tup [(.int 0), (.int 1)])
  dig : NoDig K
section
variable {P : Program} {w : World} {K : Fg} {mg : Str → Option Value} {base : Heap}
theorem sc_common_divisor : FnScope ["one", "other"] ["one", "other"] (defScope st_common_divisor) := ⟨rfl, rfl, rfl, by decide +kernel, rfl, by decide +kernel, by decide +kernel⟩
theorem ok_common_divisor (T : Txt K mg) : Fn P w K mg base "common_divisor" 2 1 m_common_divisor := fn_mk (N := ["one", "other"]) (ps := ["one", "other"]) (r := b_common_divisor) T.d_common_divisor sc_common_divisor fun f cdv A outer s H E en tk =>
  have nd := sc_common_divisor.nd
  (psds_cons (psd_par rfl nd (pds_cons (pd_callB (hv := bv_abs) b_abs T.n_abs (pds_cons (pd_var 0) pds_nil)) (pds_cons (pd_callB (hv := bv_abs) b_abs T.n_abs (pds_cons (pd_var 1) pds_nil)) pds_nil)))
    (psds_cons (psd_while fuel_common_divisor_0 en.hp (pb_cmp (g_gtU en.u64) (pd_var 1) pd_int (by rfl)) (psds_one (psd_par rfl nd (pds_cons (pd_var 1) (pds_cons (pd_bin g_mod (pd_var 0) (pd_var 1)) pds_nil)))))
    (psds_one (psd_ret (pd_var 0)))))
theorem sc_fraction : FnScope ["above", "below", "divisor"] ["above", "below"] (defScope st_fraction) := ⟨rfl, rfl, rfl, by decide +kernel, rfl, by decide +kernel, by decide +kernel⟩
theorem ok_fraction (T : Txt K mg) : Fn P w K mg base "fraction" 2 2 m_fraction := fn_mk (N := ["above", "below", "divisor"]) (ps := ["above", "below"]) (r := b_fraction) T.d_fraction sc_fraction fun f cdv A outer s H E en tk =>
  have nd := sc_fraction.nd
  (psds_cons (psd_asg (pd_bin g_mul (pd_fn (ok_common_divisor T) (en.room.mono (by decide)) en.gu tk (pds_cons (pd_var 0) (pds_cons (pd_var 1) pds_nil))) (pd_if (pb_cmp (g_gtU en.u64) (pd_var 1) pd_int (by rfl)) pd_int (pd_neg pd_int))) (pgd_name 2 nd).pg)
    (psds_one (psd_ret (pd_tup (pds_cons (pd_bin g_div (pd_var 0) (pd_var 2)) (pds_cons (pd_bin g_div (pd_var 1) (pd_var 2)) pds_nil))))))
theorem sc_times : FnScope ["one", "other"] ["one", "other"] (defScope st_times) := ⟨rfl, rfl, rfl, by decide +kernel, rfl, by decide +kernel, by decide +kernel⟩
theorem ok_times (T : Txt K mg) : Fn P w K mg base "times" 2 3 m_times := fn_mk (N := ["one", "other"]) (ps := ["one", "other"]) (r := b_times) T.d_times sc_times fun f cdv A outer s H E en tk =>
  have nd := sc_times.nd
  (psds_one (psd_ret (pd_fn (ok_fraction T) (en.room.mono (by decide)) en.gu tk (pds_cons (pd_bin g_mul (pd_ix (pd_var 0) pd_int) (pd_ix (pd_var 1) pd_int)) (pds_cons (pd_bin g_mul (pd_ix (pd_var 0) pd_int) (pd_ix (pd_var 1) pd_int)) pds_nil)))))
theorem sc_is_small : FnScope ["number"] ["number"] (defScope st_is_small) := ⟨rfl, rfl, rfl, by decide +kernel, rfl, by decide +kernel, by decide +kernel⟩
theorem ok_is_small (T : Txt K mg) : Fn P w K mg base "is_small" 1 1 m_is_small := fn_mk (N := ["number"]) (ps := ["number"]) (r := b_is_small) T.d_is_small sc_is_small fun f cdv A outer s H E en tk =>
  have nd := sc_is_small.nd
  (psds_one (psd_ret (pd_chain2 (g_leU en.u64) (g_leU en.u64) (pd_bin g_sub pd_int (pd_giE T.g_GREATEST)) (pd_var 0) (pd_giE T.g_GREATEST)).1))
theorem sc_pairs_of : FnScope ["found", "pairs", "key", "share"] ["found"] (defScope st_pairs_of) := ⟨rfl, rfl, rfl, by decide +kernel, rfl, by decide +kernel, by decide +kernel⟩
theorem ok_pairs_of (T : Txt K mg) : Fn P w K mg base "pairs_of" 1 2 m_pairs_of := fn_mk (N := ["found", "pairs", "key", "share"]) (ps := ["found"]) (r := b_pairs_of) T.d_pairs_of sc_pairs_of fun f cdv A outer s H E en tk =>
  have nd := sc_pairs_of.nd
  (psds_cons (psd_lock 0 (psd_asg (pd_callT (hv := bv_tuple) b_tuple T.n_tuple (pds_cons (pd_keep (pf_sorted en.u64 T.n_sorted (pds_cons (pd_keep (pf_lc rfl nd (pid_items (pd_var 0)) (own := [("key", 2), ("share", 3)]) (blkOk_by (by kernel_rfl)) (plc_ifT rfl (fun _ _ _ _ _ => (pgxs_cons (pgx_name 2 nd) (pgxs_cons (pgx_name 3 nd) pgxs_nil))) (fun _ _ _ _ _ => (pb_cmp (g_ne en.u64) (pd_var 3) (pd_lit (T.g_NOUGHT _)) (by rfl))) (fun _ _ _ _ _ => (pd_tup (pds_cons (pd_var 2) (pds_cons (pd_var 3) pds_nil))))))) pds_nil))) pds_nil)) (pgd_name 1 nd).pg))
    (psds_cons (psd_if (pb_w (pw_orD (pb_cmp (g_gtU en.u64) (pd_callB (hv := bv_len) b_len T.n_len (pds_cons (pd_var 1) pds_nil)) (pd_giE T.g_MOST_PAIRS) (by rfl)) (pw_or1D (pb_not (pb_tru (pd_callB (hv := bv_all) (b_all rfl) T.n_all (pds_cons (pd_keep (pf_lc rfl nd (pid_seq (pd_var 1)) (own := [("key", 2), ("share", 3)]) (blkOk_by (by kernel_rfl)) (plc_noT rfl (fun _ _ _ _ _ => (pgxs_cons (pgx_name 2 nd) (pgxs_cons (pgx_name 3 nd) pgxs_nil))) (fun _ _ _ _ _ => (pd_and (pd_fn (ok_is_small T) (en.room.mono (by decide)) en.gu takes0 (pds_cons (pd_ix (pd_var 3) pd_int) pds_nil)) (pd_one (pd_fn (ok_is_small T) (en.room.mono (by decide)) en.gu takes0 (pds_cons (pd_ix (pd_var 3) pd_int) pds_nil)))))))) pds_nil))))))) (psds_one psd_never) psds_nil)
    (psds_one (psd_ret (pd_var 1)))))
theorem sc_plus : FnScope ["one", "other"] ["one", "other"] (defScope st_plus) := ⟨rfl, rfl, rfl, by decide +kernel, rfl, by decide +kernel, by decide +kernel⟩
theorem ok_plus (T : Txt K mg) : Fn P w K mg base "plus" 2 3 m_plus := fn_mk (N := ["one", "other"]) (ps := ["one", "other"]) (r := b_plus) T.d_plus sc_plus fun f cdv A outer s H E en tk =>
  have nd := sc_plus.nd
  (psds_one (psd_ret (pd_fn (ok_fraction T) (en.room.mono (by decide)) en.gu tk (pds_cons (pd_bin g_add (pd_bin g_mul (pd_ix (pd_var 0) pd_int) (pd_ix (pd_var 1) pd_int)) (pd_bin g_mul (pd_ix (pd_var 1) pd_int) (pd_ix (pd_var 0) pd_int))) (pds_cons (pd_bin g_mul (pd_ix (pd_var 0) pd_int) (pd_ix (pd_var 1) pd_int)) pds_nil)))))
theorem sc_added : FnScope ["found", "key", "share"] ["found", "key", "share"] (defScope st_added) := ⟨rfl, rfl, rfl, by decide +kernel, rfl, by decide +kernel, by decide +kernel⟩
theorem ok_added (T : Txt K mg) : Fn P w K mg base "added" 3 4 m_added := fn_mk (N := ["found", "key", "share"]) (ps := ["found", "key", "share"]) (r := b_added) T.d_added sc_added fun f cdv A outer s H E en tk =>
  have nd := sc_added.nd
  (psds_one (psd_putU en.u10 (pd_var 0) (pd_var 1) (pd_fn (ok_plus T) (en.room.mono (by decide)) en.gu tk (pds_cons (pd_get2 en.u10 (pd_var 0) (pd_var 1) (pd_lit (T.g_NOUGHT _))) (pds_cons (pd_var 2) pds_nil)))))
theorem sc_choose : FnScope ["many", "some", "found", "place"] ["many", "some"] (defScope st_choose) := ⟨rfl, rfl, rfl, by decide +kernel, rfl, by decide +kernel, by decide +kernel⟩
theorem ok_choose (T : Txt K mg) : Fn P w K mg base "choose" 2 1 m_choose := fn_mk (N := ["many", "some", "found", "place"]) (ps := ["many", "some"]) (r := b_choose) T.d_choose sc_choose fun f cdv A outer s H E en tk =>
  have nd := sc_choose.nd
  (psds_cons (psd_if (pb_cmp (g_gtU en.u64) (pd_var 1) (pd_var 0) (by rfl)) (psds_one (psd_ret pd_int)) psds_nil)
    (psds_cons (psd_asg pd_int (pgd_name 2 nd).pg)
    (psds_cons (psd_for en.hp rfl (pid_range1 T.n_range (pds_cons (pd_var 1) pds_nil)) (pgd_name 3 nd).pg (psds_one (psd_asg (pd_bin g_div (pd_bin g_mul (pd_var 2) (pd_bin g_sub (pd_var 0) (pd_var 3))) (pd_bin g_add (pd_var 3) pd_int)) (pgd_name 2 nd).pg)))
    (psds_one (psd_ret (pd_var 2))))))
theorem sc_raised : FnScope ["number", "often", "found", "left"] ["number", "often"] (defScope st_raised) := ⟨rfl, rfl, rfl, by decide +kernel, rfl, by decide +kernel, by decide +kernel⟩
theorem ok_raised (T : Txt K mg) : Fn P w K mg base "raised" 2 1 m_raised := fn_mk (N := ["number", "often", "found", "left"]) (ps := ["number", "often"]) (r := b_raised) T.d_raised sc_raised fun f cdv A outer s H E en tk =>
  have nd := sc_raised.nd
  (psds_cons (psd_asg pd_int (pgd_name 2 nd).pg)
    (psds_cons (psd_asg (pd_var 1) (pgd_name 3 nd).pg)
    (psds_cons (psd_while fuel_raised_0 en.hp (pb_cmp (g_gtU en.u64) (pd_var 3) pd_int (by rfl)) (psds_cons (psd_if (pb_cmp (g_eq en.u64) (pd_bin g_mod (pd_var 3) pd_int) pd_int (by rfl)) (psds_one (psd_asg (pd_bin g_mul (pd_var 2) (pd_var 0)) (pgd_name 2 nd).pg)) psds_nil)
    (psds_cons (psd_asg (pd_bin g_div (pd_var 3) pd_int) (pgd_name 3 nd).pg)
    (psds_one (psd_asg (pd_if (pb_cmp (g_gtU en.u64) (pd_var 3) pd_int (by rfl)) (pd_bin g_mul (pd_var 0) (pd_var 0)) (pd_var 0)) (pgd_name 0 nd).pg)))))
    (psds_one (psd_ret (pd_var 2))))))
theorem sc_term_at : FnScope ["place", "base", "count"] ["place", "base", "count"] (defScope st_term_at) := ⟨rfl, rfl, rfl, by decide +kernel, rfl, by decide +kernel, by decide +kernel⟩
theorem ok_term_at (T : Txt K mg) : Fn P w K mg base "term_at" 3 2 m_term_at := fn_mk (N := ["place", "base", "count"]) (ps := ["place", "base", "count"]) (r := b_term_at) T.d_term_at sc_term_at fun f cdv A outer s H E en tk =>
  have nd := sc_term_at.nd
  (psds_one (psd_ret (pd_if (pb_cmp (g_geU en.u64) (pd_var 2) (pd_var 0) (by rfl)) (pd_bin g_mul (pd_fn (ok_choose T) (en.room.mono (by decide)) en.gu tk (pds_cons (pd_var 2) (pds_cons (pd_var 0) pds_nil))) (pd_fn (ok_raised T) (en.room.mono (by decide)) en.gu tk (pds_cons (pd_var 1) (pds_cons (pd_bin g_sub (pd_var 2) (pd_var 0)) pds_nil)))) pd_int)))
theorem sc_at_count : FnScope ["form", "count", "found", "mono", "place", "base", "share"] ["form", "count"] (defScope st_at_count) := ⟨rfl, rfl, rfl, by decide +kernel, rfl, by decide +kernel, by decide +kernel⟩
theorem ok_at_count (T : Txt K mg) : Fn P w K mg base "at_count" 2 5 m_at_count := fn_mk (N := ["form", "count", "found", "mono", "place", "base", "share"]) (ps := ["form", "count"]) (r := b_at_count) T.d_at_count sc_at_count fun f cdv A outer s H E en tk =>
  have nd := sc_at_count.nd
  (psds_cons (psd_asg (pd_own pf_dnew) (pgd_name 2 nd).pg)
    (psds_cons (psd_for en.hp rfl (pid_seq (pd_var 0)) (pgn_tup rfl (pgds_cons (pgn_tup rfl (pgds_cons (pgd_name 3 nd) (pgds_cons (pgd_name 4 nd) (pgds_cons (pgd_name 5 nd) pgds_nil)))) (pgds_cons (pgd_name 6 nd) pgds_nil))).pg (psds_one (psd_expr (pd_fn (ok_added T) (en.room.mono (by decide)) en.gu tk (pds_cons (pd_var 2) (pds_cons (pd_var 3) (pds_cons (pd_fn (ok_times T) (en.room.mono (by decide)) en.gu tk (pds_cons (pd_var 6) (pds_cons (pd_fn (ok_fraction T) (en.room.mono (by decide)) en.gu tk (pds_cons (pd_fn (ok_term_at T) (en.room.mono (by decide)) en.gu tk (pds_cons (pd_var 4) (pds_cons (pd_var 5) (pds_cons (pd_var 1) pds_nil)))) (pds_cons pd_int pds_nil))) pds_nil))) pds_nil)))))))
    (psds_one (psd_ret (pd_fn (ok_pairs_of T) (en.room.mono (by decide)) en.gu tk (pds_cons (pd_var 2) pds_nil))))))
theorem sc_plain_value : FnScope ["plain", "values", "found", "mono", "share", "own", "box", "power"] ["plain", "values"] (defScope st_plain_value) := ⟨rfl, rfl, rfl, by decide +kernel, rfl, by decide +kernel, by decide +kernel⟩
theorem ok_plain_value (T : Txt K mg) : Fn P w K mg base "plain_value" 2 4 m_plain_value := fn_mk (N := ["plain", "values", "found", "mono", "share", "own", "box", "power"]) (ps := ["plain", "values"]) (r := b_plain_value) T.d_plain_value sc_plain_value fun f cdv A outer s H E en tk =>
  have nd := sc_plain_value.nd
  (psds_cons (psd_asg (pd_lit (T.g_NOUGHT _)) (pgd_name 2 nd).pg)
    (psds_cons (psd_for en.hp rfl (pid_seq (pd_var 0)) (pgn_tup rfl (pgds_cons (pgd_name 3 nd) (pgds_cons (pgd_name 4 nd) pgds_nil))).pg (psds_cons (psd_asg pd_int (pgd_name 5 nd).pg)
    (psds_cons (psd_for en.hp rfl (pid_seq (pd_var 3)) (pgn_tup rfl (pgds_cons (pgd_name 6 nd) (pgds_cons (pgd_name 7 nd) pgds_nil))).pg (psds_one (psd_asg (pd_bin g_mul (pd_var 5) (pd_fn (ok_raised T) (en.room.mono (by decide)) en.gu tk (pds_cons (pd_uget en.u10 (pd_var 1) (pd_var 6)) (pds_cons (pd_var 7) pds_nil)))) (pgd_name 5 nd).pg)))
    (psds_one (psd_asg (pd_fn (ok_plus T) (en.room.mono (by decide)) en.gu tk (pds_cons (pd_var 2) (pds_cons (pd_fn (ok_times T) (en.room.mono (by decide)) en.gu tk (pds_cons (pd_var 4) (pds_cons (pd_fn (ok_fraction T) (en.room.mono (by decide)) en.gu tk (pds_cons (pd_var 5) (pds_cons pd_int pds_nil))) pds_nil))) pds_nil))) (pgd_name 2 nd).pg)))))
    (psds_one (psd_ret (pd_var 2)))))
theorem sc__law_started : FnScope ["_law_script", "_law_cell"] ["_law_script"] (defScope st__law_started) := ⟨rfl, rfl, rfl, by decide +kernel, rfl, by decide +kernel, by decide +kernel⟩
theorem ok__law_started (T : Txt K mg) : Fn P w K mg base "_law_started" 1 1 m__law_started := fn_mkK (N := ["_law_script", "_law_cell"]) (ps := ["_law_script"]) (r := b__law_started) T.d__law_started sc__law_started fun f cdv A outer s H E en tk =>
  have nd := sc__law_started.nd
  (psds_one (psd_ret (pd_own (pf_disp (ppd_cons pd_str (pd_var 0) (ppd_cons pd_str pd_int (ppd_cons pd_str (pd_own (pf_lc rfl nd (pid_seq (pd_var 0)) (own := [("_law_cell", 1)]) (blkOk_by (by kernel_rfl)) (plc_no (fun _ _ _ _ _ => (pgx_name 1 nd)) (fun _ _ _ _ _ => (pd_bin g_mul (pd_var 1) (pd_callT (hv := bv_int) b_int T.n_int (pds_cons (pd_cmp (g_geU en.u64) (pd_var 1) (pd_bin g_pow pd_int pd_int) (by rfl)) pds_nil))))))) ppd_nil)))))))
theorem sc__law_common : FnScope ["_law_one", "_law_other"] ["_law_one", "_law_other"] (defScope st__law_common) := ⟨rfl, rfl, rfl, by decide +kernel, rfl, by decide +kernel, by decide +kernel⟩
theorem ok__law_common (T : Txt K mg) : Fn P w K mg base "_law_common" 2 1 m__law_common := fn_mk (N := ["_law_one", "_law_other"]) (ps := ["_law_one", "_law_other"]) (r := b__law_common) T.d__law_common sc__law_common fun f cdv A outer s H E en tk =>
  have nd := sc__law_common.nd
  (psds_cons (psd_while fuel__law_common_0 en.hp (pb_cmp (g_gtU en.u64) (pd_var 1) pd_int (by rfl)) (psds_one (psd_par rfl nd (pds_cons (pd_var 1) (pds_cons (pd_bin g_mod (pd_var 0) (pd_var 1)) pds_nil)))))
    (psds_one (psd_ret (pd_var 0))))
theorem sc__law_share : FnScope ["_law_above", "_law_below", "_law_part"] ["_law_above", "_law_below"] (defScope st__law_share) := ⟨rfl, rfl, rfl, by decide +kernel, rfl, by decide +kernel, by decide +kernel⟩
theorem ok__law_share (T : Txt K mg) : Fn P w K mg base "_law_share" 2 2 m__law_share := fn_mk (N := ["_law_above", "_law_below", "_law_part"]) (ps := ["_law_above", "_law_below"]) (r := b__law_share) T.d__law_share sc__law_share fun f cdv A outer s H E en tk =>
  have nd := sc__law_share.nd
  (psds_cons (psd_asg (pd_fn (ok__law_common T) (en.room.mono (by decide)) en.gu tk (pds_cons (pd_callB (hv := bv_abs) b_abs T.n_abs (pds_cons (pd_var 0) pds_nil)) (pds_cons (pd_var 1) pds_nil))) (pgd_name 2 nd).pg)
    (psds_one (psd_ret (pd_tup (pds_cons (pd_bin g_div (pd_var 0) (pd_var 2)) (pds_cons (pd_bin g_div (pd_var 1) (pd_var 2)) pds_nil))))))
theorem sc__law_plus : FnScope ["_law_one", "_law_other"] ["_law_one", "_law_other"] (defScope st__law_plus) := ⟨rfl, rfl, rfl, by decide +kernel, rfl, by decide +kernel, by decide +kernel⟩
theorem ok__law_plus (T : Txt K mg) : Fn P w K mg base "_law_plus" 2 3 m__law_plus := fn_mk (N := ["_law_one", "_law_other"]) (ps := ["_law_one", "_law_other"]) (r := b__law_plus) T.d__law_plus sc__law_plus fun f cdv A outer s H E en tk =>
  have nd := sc__law_plus.nd
  (psds_one (psd_ret (pd_fn (ok__law_share T) (en.room.mono (by decide)) en.gu tk (pds_cons (pd_bin g_add (pd_bin g_mul (pd_ix (pd_var 0) pd_int) (pd_ix (pd_var 1) pd_int)) (pd_bin g_mul (pd_ix (pd_var 1) pd_int) (pd_ix (pd_var 0) pd_int))) (pds_cons (pd_bin g_mul (pd_ix (pd_var 0) pd_int) (pd_ix (pd_var 1) pd_int)) pds_nil)))))
theorem sc__law_put : FnScope ["_law_found", "_law_key", "_law_share_here"] ["_law_found", "_law_key", "_law_share_here"] (defScope st__law_put) := ⟨rfl, rfl, rfl, by decide +kernel, rfl, by decide +kernel, by decide +kernel⟩
theorem ok__law_put (T : Txt K mg) : Fn P w K mg base "_law_put" 3 4 m__law_put := fn_mk (N := ["_law_found", "_law_key", "_law_share_here"]) (ps := ["_law_found", "_law_key", "_law_share_here"]) (r := b__law_put) T.d__law_put sc__law_put fun f cdv A outer s H E en tk =>
  have nd := sc__law_put.nd
  (psds_one (psd_putU en.u10 (pd_var 0) (pd_var 1) (pd_fn (ok__law_plus T) (en.room.mono (by decide)) en.gu tk (pds_cons (pd_get2 en.u10 (pd_var 0) (pd_var 1) (pd_tup (pds_cons pd_int (pds_cons pd_int pds_nil)))) (pds_cons (pd_var 2) pds_nil)))))
theorem sc__law_pairs : FnScope ["_law_found", "_law_key", "_law_share_here"] ["_law_found"] (defScope st__law_pairs) := ⟨rfl, rfl, rfl, by decide +kernel, rfl, by decide +kernel, by decide +kernel⟩
theorem ok__law_pairs (T : Txt K mg) : Fn P w K mg base "_law_pairs" 1 1 m__law_pairs := fn_mk (N := ["_law_found", "_law_key", "_law_share_here"]) (ps := ["_law_found"]) (r := b__law_pairs) T.d__law_pairs sc__law_pairs fun f cdv A outer s H E en tk =>
  have nd := sc__law_pairs.nd
  (psds_one (psd_lock 0 (psd_ret (pd_callT (hv := bv_tuple) b_tuple T.n_tuple (pds_cons (pd_keep (pf_sorted en.u64 T.n_sorted (pds_cons (pd_keep (pf_lc rfl nd (pid_items (pd_var 0)) (own := [("_law_key", 1), ("_law_share_here", 2)]) (blkOk_by (by kernel_rfl)) (plc_ifT rfl (fun _ _ _ _ _ => (pgxs_cons (pgx_name 1 nd) (pgxs_cons (pgx_name 2 nd) pgxs_nil))) (fun _ _ _ _ _ => (pb_cmp (g_ne en.u64) (pd_ix (pd_var 2) pd_int) pd_int (by rfl))) (fun _ _ _ _ _ => (pd_tup (pds_cons (pd_var 1) (pds_cons (pd_var 2) pds_nil))))))) pds_nil))) pds_nil)))))
theorem sc__law_draw : FnScope ["_law_m", "_law_many", "_law_k", "_law_cells", "_law_left", "_law_cell", "_law_number_here"] ["_law_m", "_law_many"] (defScope st__law_draw) := ⟨rfl, rfl, rfl, by decide +kernel, rfl, by decide +kernel, by decide +kernel⟩
theorem ok__law_draw (T : Txt K mg) : Fn P w K mg base "_law_draw" 2 1 m__law_draw := fn_mk (N := ["_law_m", "_law_many", "_law_k", "_law_cells", "_law_left", "_law_cell", "_law_number_here"]) (ps := ["_law_m", "_law_many"]) (r := b__law_draw) T.d__law_draw sc__law_draw fun f cdv A outer s H E en tk =>
  have nd := sc__law_draw.nd
  (psds_cons (psd_asg (pd_uget en.u10 (pd_var 0) pd_str) (pgd_name 2 nd).pg)
    (psds_cons (psd_putU en.u10 (pd_var 0) pd_str (pd_bin g_add (pd_var 2) pd_int))
    (psds_cons (psd_asg (pd_uget en.u10 (pd_var 0) pd_str) (pgd_name 3 nd).pg)
    (psds_cons (psd_asg (pd_if (pb_cmp (g_ne en.u64) (pd_uget en.u10 (pd_var 0) pd_str) (pd_keep (pf_lst pds_nil)) (by rfl)) (pd_ix (pd_uget en.u10 (pd_var 0) pd_str) (pd_bin g_mod (pd_var 2) (pd_callB (hv := bv_len) b_len T.n_len (pds_cons (pd_var 3) pds_nil)))) pd_int) (pgd_name 4 nd).pg)
    (psds_cons (psd_if (pb_cmp (g_gtU en.u64) (pd_var 4) pd_int (by rfl)) (psds_cons (psd_setL (pd_uget en.u10 (pd_var 0) pd_str) (pd_bin g_mod (pd_var 2) (pd_callB (hv := bv_len) b_len T.n_len (pds_cons (pd_var 3) pds_nil))) (pd_bin g_div (pd_var 4) (pd_var 1)))
    (psds_one (psd_ret (pd_bin g_mod (pd_var 4) (pd_var 1))))) psds_nil)
    (psds_cons (psd_asg (pd_if (pb_cmp (g_ne en.u64) (pd_var 3) (pd_keep (pf_lst pds_nil)) (by rfl)) (pd_ix (pd_var 3) (pd_bin g_mod (pd_var 2) (pd_callB (hv := bv_len) b_len T.n_len (pds_cons (pd_var 3) pds_nil)))) pd_int) (pgd_name 5 nd).pg)
    (psds_cons (psd_asg (pd_bin g_mod (pd_bin g_add (pd_bin g_add (pd_bin g_mul (pd_bin g_mod (pd_var 5) pd_int) pd_int) (pd_bin g_mul (pd_bin g_mul pd_int (pd_var 2)) (pd_var 2))) pd_int) pd_int) (pgd_name 6 nd).pg)
    (psds_cons (psd_asg (pd_bin g_mod (pd_bin g_mul (pd_var 6) (pd_bin g_add pd_int (pd_bin g_mul pd_int (pd_var 2)))) pd_int) (pgd_name 6 nd).pg)
    (psds_one (psd_ret (pd_bin g_mod (pd_bin g_div (pd_bin g_mod (pd_bin g_mul (pd_var 6) (pd_var 6)) pd_int) pd_int) (pd_var 1))))))))))))
theorem sc__law_of : FnScope ["_law_m", "_law_some"] ["_law_m", "_law_some"] (defScope st__law_of) := ⟨rfl, rfl, rfl, by decide +kernel, rfl, by decide +kernel, by decide +kernel⟩
theorem ok__law_of (T : Txt K mg) : Fn P w K mg base "_law_of" 2 2 m__law_of := fn_mk (N := ["_law_m", "_law_some"]) (ps := ["_law_m", "_law_some"]) (r := b__law_of) T.d__law_of sc__law_of fun f cdv A outer s H E en tk =>
  have nd := sc__law_of.nd
  (psds_one (psd_ret (pd_ix (pd_var 1) (pd_fn (ok__law_draw T) (en.room.mono (by decide)) en.gu tk (pds_cons (pd_var 0) (pds_cons (pd_callB (hv := bv_len) b_len T.n_len (pds_cons (pd_var 1) pds_nil)) pds_nil))))))
theorem sc__law_mono : FnScope ["_law_m", "_law_most", "_law_found", "_law_k", "_law_box"] ["_law_m", "_law_most"] (defScope st__law_mono) := ⟨rfl, rfl, rfl, by decide +kernel, rfl, by decide +kernel, by decide +kernel⟩
theorem ok__law_mono (T : Txt K mg) : Fn P w K mg base "_law_mono" 2 3 m__law_mono := fn_mk (N := ["_law_m", "_law_most", "_law_found", "_law_k", "_law_box"]) (ps := ["_law_m", "_law_most"]) (r := b__law_mono) T.d__law_mono sc__law_mono fun f cdv A outer s H E en tk =>
  have nd := sc__law_mono.nd
  (psds_cons (psd_asg (pd_own pf_dnew) (pgd_name 2 nd).pg)
    (psds_cons (psd_for en.hp rfl (pid_range1 T.n_range (pds_cons (pd_fn (ok__law_draw T) (en.room.mono (by decide)) en.gu tk (pds_cons (pd_var 0) (pds_cons (pd_bin g_add (pd_var 1) pd_int) pds_nil))) pds_nil)) (pgd_name 3 nd).pg (psds_cons (psd_asg (pd_fn (ok__law_of T) (en.room.mono (by decide)) en.gu tk (pds_cons (pd_var 0) (pds_cons (pd_keep (pf_lst (pds_cons pd_str (pds_cons pd_str (pds_cons pd_str (pds_cons pd_str (pds_cons pd_str pds_nil))))))) pds_nil))) (pgd_name 4 nd).pg)
    (psds_one (psd_putU en.u10 (pd_var 2) (pd_var 4) (pd_bin g_add (pd_get2 en.u10 (pd_var 2) (pd_var 4) pd_int) pd_int)))))
    (psds_one (psd_ret (pd_callT (hv := bv_tuple) b_tuple T.n_tuple (pds_cons (pd_keep (pf_sortIt rfl en.u64 T.n_sorted (pd_var 2))) pds_nil))))))
theorem sc__law_number : FnScope ["_law_m", "_law_some", "_law_number_here"] ["_law_m"] (defScope st__law_number) := ⟨rfl, rfl, rfl, by decide +kernel, rfl, by decide +kernel, by decide +kernel⟩
theorem ok__law_number (T : Txt K mg) : Fn P w K mg base "_law_number" 1 3 m__law_number := fn_mk (N := ["_law_m", "_law_some", "_law_number_here"]) (ps := ["_law_m"]) (r := b__law_number) T.d__law_number sc__law_number fun f cdv A outer s H E en tk =>
  have nd := sc__law_number.nd
  (psds_cons (psd_asg (pd_keep (pf_lst (pds_cons pd_int (pds_cons (pd_neg pd_int) (pds_cons pd_int (pds_cons pd_int (pds_cons (pd_neg pd_int) (pds_cons (pd_fn (ok__law_draw T) (en.room.mono (by decide)) en.gu tk (pds_cons (pd_var 0) (pds_cons pd_int pds_nil))) (pds_cons (pd_bin g_sub pd_int (pd_fn (ok__law_draw T) (en.room.mono (by decide)) en.gu tk (pds_cons (pd_var 0) (pds_cons (pd_bin g_pow pd_int pd_int) pds_nil)))) (pds_cons (pd_bin g_add (pd_bin g_pow pd_int pd_int) (pd_fn (ok__law_draw T) (en.room.mono (by decide)) en.gu tk (pds_cons (pd_var 0) (pds_cons (pd_bin g_pow pd_int pd_int) pds_nil)))) pds_nil)))))))))) (pgd_name 1 nd).pg)
    (psds_cons (psd_asg (pd_fn (ok__law_of T) (en.room.mono (by decide)) en.gu tk (pds_cons (pd_var 0) (pds_cons (pd_var 1) pds_nil))) (pgd_name 2 nd).pg)
    (psds_one (psd_ret (pd_if (pb_cmp (g_ne en.u64) (pd_var 2) pd_int (by rfl)) (pd_var 2) pd_int)))))
theorem sc__law_base : FnScope ["_law_m"] ["_law_m"] (defScope st__law_base) := ⟨rfl, rfl, rfl, by decide +kernel, rfl, by decide +kernel, by decide +kernel⟩
theorem ok__law_base (T : Txt K mg) : Fn P w K mg base "_law_base" 1 3 m__law_base := fn_mk (N := ["_law_m"]) (ps := ["_law_m"]) (r := b__law_base) T.d__law_base sc__law_base fun f cdv A outer s H E en tk =>
  have nd := sc__law_base.nd
  (psds_one (psd_ret (pd_fn (ok__law_of T) (en.room.mono (by decide)) en.gu tk (pds_cons (pd_var 0) (pds_cons (pd_keep (pf_lst (pds_cons pd_int (pds_cons pd_int (pds_cons pd_int (pds_cons pd_int (pds_cons (pd_neg pd_int) (pds_cons pd_int (pds_cons (pd_neg pd_int) (pds_cons pd_int (pds_cons (pd_neg pd_int) (pds_cons pd_int (pds_cons (pd_bin g_sub (pd_fn (ok__law_draw T) (en.room.mono (by decide)) en.gu tk (pds_cons (pd_var 0) (pds_cons (pd_bin g_pow pd_int pd_int) pds_nil))) (pd_bin g_pow pd_int pd_int)) pds_nil))))))))))))) pds_nil)))))
theorem sc__law_form : FnScope ["_law_m", "_law_many", "_law_most", "_law_found", "_law_k", "_law_kind"] ["_law_m", "_law_many", "_law_most"] (defScope st__law_form) := ⟨rfl, rfl, rfl, by decide +kernel, rfl, by decide +kernel, by decide +kernel⟩
theorem ok__law_form (T : Txt K mg) : Fn P w K mg base "_law_form" 3 4 m__law_form := fn_mk (N := ["_law_m", "_law_many", "_law_most", "_law_found", "_law_k", "_law_kind"]) (ps := ["_law_m", "_law_many", "_law_most"]) (r := b__law_form) T.d__law_form sc__law_form fun f cdv A outer s H E en tk =>
  have nd := sc__law_form.nd
  (psds_cons (psd_asg (pd_own pf_dnew) (pgd_name 3 nd).pg)
    (psds_cons (psd_for en.hp rfl (pid_range1 T.n_range (pds_cons (pd_fn (ok__law_draw T) (en.room.mono (by decide)) en.gu tk (pds_cons (pd_var 0) (pds_cons (pd_bin g_add (pd_var 1) pd_int) pds_nil))) pds_nil)) (pgd_name 4 nd).pg (psds_cons (psd_asg (pd_tup (pds_cons (pd_fn (ok__law_mono T) (en.room.mono (by decide)) en.gu tk (pds_cons (pd_var 0) (pds_cons (pd_var 2) pds_nil))) (pds_cons (pd_fn (ok__law_of T) (en.room.mono (by decide)) en.gu tk (pds_cons (pd_var 0) (pds_cons (pd_keep (pf_lst (pds_cons pd_int (pds_cons pd_int (pds_cons pd_int (pds_cons pd_int (pds_cons pd_int (pds_cons pd_int (pds_cons pd_int pds_nil))))))))) pds_nil))) (pds_cons (pd_fn (ok__law_base T) (en.room.mono (by decide)) en.gu tk (pds_cons (pd_var 0) pds_nil)) pds_nil)))) (pgd_name 5 nd).pg)
    (psds_one (psd_putU en.u10 (pd_var 3) (pd_var 5) (pd_fn (ok__law_share T) (en.room.mono (by decide)) en.gu tk (pds_cons (pd_fn (ok__law_number T) (en.room.mono (by decide)) en.gu tk (pds_cons (pd_var 0) pds_nil)) (pds_cons (pd_bin g_add pd_int (pd_fn (ok__law_draw T) (en.room.mono (by decide)) en.gu tk (pds_cons (pd_var 0) (pds_cons (pd_fn (ok__law_of T) (en.room.mono (by decide)) en.gu tk (pds_cons (pd_var 0) (pds_cons (pd_keep (pf_lst (pds_cons pd_int (pds_cons pd_int (pds_cons pd_int (pds_cons pd_int pds_nil)))))) pds_nil))) pds_nil)))) pds_nil)))))))
    (psds_one (psd_ret (pd_fn (ok__law_pairs T) (en.room.mono (by decide)) en.gu tk (pds_cons (pd_var 3) pds_nil))))))
theorem sc__law_power : FnScope ["_law_number_here", "_law_often", "_law_found", "_law_turn"] ["_law_number_here", "_law_often"] (defScope st__law_power) := ⟨rfl, rfl, rfl, by decide +kernel, rfl, by decide +kernel, by decide +kernel⟩
theorem ok__law_power (T : Txt K mg) : Fn P w K mg base "_law_power" 2 1 m__law_power := fn_mk (N := ["_law_number_here", "_law_often", "_law_found", "_law_turn"]) (ps := ["_law_number_here", "_law_often"]) (r := b__law_power) T.d__law_power sc__law_power fun f cdv A outer s H E en tk =>
  have nd := sc__law_power.nd
  (psds_cons (psd_asg pd_int (pgd_name 2 nd).pg)
    (psds_cons (psd_for en.hp rfl (pid_range1 T.n_range (pds_cons (pd_var 1) pds_nil)) (pgd_name 3 nd).pg (psds_one (psd_asg (pd_bin g_mul (pd_var 2) (pd_var 0)) (pgd_name 2 nd).pg)))
    (psds_one (psd_ret (pd_var 2)))))
theorem sc__law_term : FnScope ["_law_place", "_law_base_here", "_law_count", "_law_many", "_law_k"] ["_law_place", "_law_base_here", "_law_count"] (defScope st__law_term) := ⟨rfl, rfl, rfl, by decide +kernel, rfl, by decide +kernel, by decide +kernel⟩
theorem ok__law_term (T : Txt K mg) : Fn P w K mg base "_law_term" 3 2 m__law_term := fn_mk (N := ["_law_place", "_law_base_here", "_law_count", "_law_many", "_law_k"]) (ps := ["_law_place", "_law_base_here", "_law_count"]) (r := b__law_term) T.d__law_term sc__law_term fun f cdv A outer s H E en tk =>
  have nd := sc__law_term.nd
  (psds_cons (psd_if (pb_cmp (g_ltU en.u64) (pd_var 2) (pd_var 0) (by rfl)) (psds_one (psd_ret pd_int)) psds_nil)
    (psds_cons (psd_asg pd_int (pgd_name 3 nd).pg)
    (psds_cons (psd_for en.hp rfl (pid_range1 T.n_range (pds_cons (pd_var 0) pds_nil)) (pgd_name 4 nd).pg (psds_one (psd_asg (pd_bin g_div (pd_bin g_mul (pd_var 3) (pd_bin g_sub (pd_var 2) (pd_var 4))) (pd_bin g_add (pd_var 4) pd_int)) (pgd_name 3 nd).pg)))
    (psds_one (psd_ret (pd_bin g_mul (pd_var 3) (pd_fn (ok__law_power T) (en.room.mono (by decide)) en.gu tk (pds_cons (pd_var 1) (pds_cons (pd_bin g_sub (pd_var 2) (pd_var 0)) pds_nil)))))))))
theorem sc__law_at : FnScope ["_law_form_here", "_law_count", "_law_found", "_law_mono_here", "_law_place", "_law_base_here", "_law_share_here"] ["_law_form_here", "_law_count"] (defScope st__law_at) := ⟨rfl, rfl, rfl, by decide +kernel, rfl, by decide +kernel, by decide +kernel⟩
theorem ok__law_at (T : Txt K mg) : Fn P w K mg base "_law_at" 2 5 m__law_at := fn_mk (N := ["_law_form_here", "_law_count", "_law_found", "_law_mono_here", "_law_place", "_law_base_here", "_law_share_here"]) (ps := ["_law_form_here", "_law_count"]) (r := b__law_at) T.d__law_at sc__law_at fun f cdv A outer s H E en tk =>
  have nd := sc__law_at.nd
  (psds_cons (psd_asg (pd_own pf_dnew) (pgd_name 2 nd).pg)
    (psds_cons (psd_for en.hp rfl (pid_seq (pd_var 0)) (pgn_tup rfl (pgds_cons (pgn_tup rfl (pgds_cons (pgd_name 3 nd) (pgds_cons (pgd_name 4 nd) (pgds_cons (pgd_name 5 nd) pgds_nil)))) (pgds_cons (pgd_name 6 nd) pgds_nil))).pg (psds_one (psd_expr (pd_fn (ok__law_put T) (en.room.mono (by decide)) en.gu tk (pds_cons (pd_var 2) (pds_cons (pd_var 3) (pds_cons (pd_fn (ok__law_share T) (en.room.mono (by decide)) en.gu tk (pds_cons (pd_bin g_mul (pd_ix (pd_var 6) pd_int) (pd_fn (ok__law_term T) (en.room.mono (by decide)) en.gu tk (pds_cons (pd_var 4) (pds_cons (pd_var 5) (pds_cons (pd_var 1) pds_nil))))) (pds_cons (pd_ix (pd_var 6) pd_int) pds_nil))) pds_nil)))))))
    (psds_one (psd_ret (pd_fn (ok__law_pairs T) (en.room.mono (by decide)) en.gu tk (pds_cons (pd_var 2) pds_nil))))))
theorem sc_form_of : FnScope ["found", "pairs", "kind", "share"] ["found"] (defScope st_form_of) := ⟨rfl, rfl, rfl, by decide +kernel, rfl, by decide +kernel, by decide +kernel⟩
theorem ok_form_of (T : Txt K mg) : Fn P w K mg base "form_of" 1 3 m_form_of := fn_mk (N := ["found", "pairs", "kind", "share"]) (ps := ["found"]) (r := b_form_of) T.d_form_of sc_form_of fun f cdv A outer s H E en tk =>
  have nd := sc_form_of.nd
  (psds_cons (psd_asg (pd_fn (ok_pairs_of T) (en.room.mono (by decide)) en.gu tk (pds_cons (pd_var 0) pds_nil)) (pgd_name 1 nd).pg)
    (psds_cons (psd_if (pb_not (pb_tru (pd_callB (hv := bv_all) (b_all rfl) T.n_all (pds_cons (pd_keep (pf_lc rfl nd (pid_seq (pd_var 1)) (own := [("kind", 2), ("share", 3)]) (blkOk_by (by kernel_rfl)) (plc_noT rfl (fun _ _ _ _ _ => (pgxs_cons (pgx_name 2 nd) (pgxs_cons (pgx_name 3 nd) pgxs_nil))) (fun _ _ _ _ _ => (pd_and (pd_cmp (g_leU en.u64) (pd_ix (pd_var 2) pd_int) (pd_giE T.g_MOST_PLACE) (by rfl)) (pd_one (pd_fn (ok_is_small T) (en.room.mono (by decide)) en.gu takes0 (pds_cons (pd_ix (pd_var 2) pd_int) pds_nil)))))))) pds_nil)))) (psds_one psd_never) psds_nil)
    (psds_one (psd_ret (pd_var 1)))))
theorem sc_summed : FnScope ["one", "other", "found", "key", "share"] ["one", "other"] (defScope st_summed) := ⟨rfl, rfl, rfl, by decide +kernel, rfl, by decide +kernel, by decide +kernel⟩
theorem ok_summed (T : Txt K mg) : Fn P w K mg base "summed" 2 5 m_summed := fn_mkK (N := ["one", "other", "found", "key", "share"]) (ps := ["one", "other"]) (r := b_summed) T.d_summed sc_summed fun f cdv A outer s H E en tk =>
  have nd := sc_summed.nd
  (psds_cons (psd_asg (pd_own (pf_dict rfl en.u12 T.n_dict (pds_cons (pd_var 0) pds_nil))) (pgd_name 2 nd).pg)
    (psds_cons (psd_for en.hp rfl (pid_seq (pd_var 1)) (pgn_tup rfl (pgds_cons (pgd_name 3 nd) (pgds_cons (pgd_name 4 nd) pgds_nil))).pg (psds_one (psd_expr (pd_fn (ok_added T) (en.room.mono (by decide)) en.gu tk (pds_cons (pd_var 2) (pds_cons (pd_var 3) (pds_cons (pd_var 4) pds_nil)))))))
    (psds_one (psd_ret (pd_var 2)))))
theorem sc_form_sum : FnScope ["one", "other"] ["one", "other"] (defScope st_form_sum) := ⟨rfl, rfl, rfl, by decide +kernel, rfl, by decide +kernel, by decide +kernel⟩
theorem ok_form_sum (T : Txt K mg) : Fn P w K mg base "form_sum" 2 6 m_form_sum := fn_mk (N := ["one", "other"]) (ps := ["one", "other"]) (r := b_form_sum) T.d_form_sum sc_form_sum fun f cdv A outer s H E en tk =>
  have nd := sc_form_sum.nd
  (psds_one (psd_ret (pd_fn (ok_form_of T) (en.room.mono (by decide)) en.gu tk (pds_cons (pd_fn (ok_summed T) (en.room.mono (by decide)) en.gu tk (pds_cons (pd_var 0) (pds_cons (pd_var 1) pds_nil))) pds_nil))))
theorem sc_form_times : FnScope ["share", "form", "kind", "own"] ["share", "form"] (defScope st_form_times) := ⟨rfl, rfl, rfl, by decide +kernel, rfl, by decide +kernel, by decide +kernel⟩
theorem ok_form_times (T : Txt K mg) : Fn P w K mg base "form_times" 2 4 m_form_times := fn_mk (N := ["share", "form", "kind", "own"]) (ps := ["share", "form"]) (r := b_form_times) T.d_form_times sc_form_times fun f cdv A outer s H E en tk =>
  have nd := sc_form_times.nd
  (psds_one (psd_ret (pd_fn (ok_form_of T) (en.room.mono (by decide)) en.gu tk (pds_cons (pd_own (pf_dict rfl en.u12 T.n_dict (pds_cons (pd_keep (pf_lc rfl nd (pid_seq (pd_var 1)) (own := [("kind", 2), ("own", 3)]) (blkOk_by (by kernel_rfl)) (plc_noT rfl (fun _ _ _ _ _ => (pgxs_cons (pgx_name 2 nd) (pgxs_cons (pgx_name 3 nd) pgxs_nil))) (fun _ _ _ _ _ => (pd_tup (pds_cons (pd_var 2) (pds_cons (pd_fn (ok_times T) (en.room.mono (by decide)) en.gu takes0 (pds_cons (pd_var 0) (pds_cons (pd_var 3) pds_nil))) pds_nil))))))) pds_nil))) pds_nil))))
theorem sc__law_near : FnScope ["_law_m", "_law_form_here", "_law_way", "_law_mono_here", "_law_share_here", "_law_kind", "_law_own", "_law_other"] ["_law_m", "_law_form_here"] (defScope st__law_near) := ⟨rfl, rfl, rfl, by decide +kernel, rfl, by decide +kernel, by decide +kernel⟩
theorem ok__law_near (T : Txt K mg) : Fn P w K mg base "_law_near" 2 7 m__law_near := fn_mk (N := ["_law_m", "_law_form_here", "_law_way", "_law_mono_here", "_law_share_here", "_law_kind", "_law_own", "_law_other"]) (ps := ["_law_m", "_law_form_here"]) (r := b__law_near) T.d__law_near sc__law_near fun f cdv A outer s H E en tk =>
  have nd := sc__law_near.nd
  (psds_cons (psd_asg (pd_fn (ok__law_draw T) (en.room.mono (by decide)) en.gu tk (pds_cons (pd_var 0) (pds_cons pd_int pds_nil))) (pgd_name 2 nd).pg)
    (psds_cons (psd_asg (pd_fn (ok__law_mono T) (en.room.mono (by decide)) en.gu tk (pds_cons (pd_var 0) (pds_cons pd_int pds_nil))) (pgd_name 3 nd).pg)
    (psds_cons (psd_asg (pd_fn (ok__law_share T) (en.room.mono (by decide)) en.gu tk (pds_cons (pd_fn (ok__law_number T) (en.room.mono (by decide)) en.gu tk (pds_cons (pd_var 0) pds_nil)) (pds_cons (pd_bin g_add pd_int (pd_fn (ok__law_draw T) (en.room.mono (by decide)) en.gu tk (pds_cons (pd_var 0) (pds_cons pd_int pds_nil)))) pds_nil))) (pgd_name 4 nd).pg)
    (psds_cons (psd_if (pb_cmp (g_eq en.u64) (pd_var 2) pd_int (by rfl)) (psds_one (psd_ret (pd_fn (ok_form_sum T) (en.room.mono (by decide)) en.gu tk (pds_cons (pd_var 1) (pds_cons (pd_tup (pds_cons (pd_tup (pds_cons (pd_tup (pds_cons (pd_var 3) (pds_cons (pd_fn (ok__law_draw T) (en.room.mono (by decide)) en.gu tk (pds_cons (pd_var 0) (pds_cons pd_int pds_nil))) (pds_cons pd_int pds_nil)))) (pds_cons (pd_var 4) pds_nil))) pds_nil)) pds_nil))))) psds_nil)
    (psds_cons (psd_if (pb_cmp (g_eq en.u64) (pd_var 2) pd_int (by rfl)) (psds_one (psd_ret (pd_fn (ok_form_sum T) (en.room.mono (by decide)) en.gu tk (pds_cons (pd_var 1) (pds_cons (pd_tup (pds_cons (pd_tup (pds_cons (pd_tup (pds_cons (pd_var 3) (pds_cons pd_int (pds_cons (pd_fn (ok__law_base T) (en.room.mono (by decide)) en.gu tk (pds_cons (pd_var 0) pds_nil)) pds_nil)))) (pds_cons (pd_var 4) pds_nil))) pds_nil)) pds_nil))))) psds_nil)
    (psds_cons (psd_if (pb_w (pw_andD (pb_cmp (g_eq en.u64) (pd_var 2) pd_int (by rfl)) (pw_and1D (pb_cmp (g_ne en.u64) (pd_var 1) (pd_tup pds_nil) (by rfl))))) (psds_cons (psd_asg (pd_fn (ok__law_of T) (en.room.mono (by decide)) en.gu tk (pds_cons (pd_var 0) (pds_cons (pd_keep (pf_list rfl T.n_list (pds_cons (pd_var 1) pds_nil))) pds_nil))) (pgn_tup rfl (pgds_cons (pgd_name 5 nd) (pgds_cons (pgd_name 6 nd) pgds_nil))).pg)
    (psds_one (psd_ret (pd_fn (ok_form_sum T) (en.room.mono (by decide)) en.gu tk (pds_cons (pd_var 1) (pds_cons (pd_tup (pds_cons (pd_tup (pds_cons (pd_var 5) (pds_cons (pd_fn (ok__law_share T) (en.room.mono (by decide)) en.gu tk (pds_cons (pd_ix (pd_var 6) pd_int) (pds_cons (pd_bin g_mul (pd_ix (pd_var 6) pd_int) (pd_bin g_pow pd_int pd_int)) pds_nil))) pds_nil))) pds_nil)) pds_nil)))))) psds_nil)
    (psds_cons (psd_if (pb_w (pw_andD (pb_cmp (g_eq en.u64) (pd_var 2) pd_int (by rfl)) (pw_and1D (pb_cmp (g_ne en.u64) (pd_var 1) (pd_tup pds_nil) (by rfl))))) (psds_cons (psd_asg (pd_fn (ok__law_of T) (en.room.mono (by decide)) en.gu tk (pds_cons (pd_var 0) (pds_cons (pd_keep (pf_list rfl T.n_list (pds_cons (pd_var 1) pds_nil))) pds_nil))) (pgn_tup rfl (pgds_cons (pgd_name 5 nd) (pgds_cons (pgd_name 6 nd) pgds_nil))).pg)
    (psds_one (psd_ret (pd_fn (ok_form_sum T) (en.room.mono (by decide)) en.gu tk (pds_cons (pd_var 1) (pds_cons (pd_tup (pds_cons (pd_tup (pds_cons (pd_bin g_add (pd_cut (pd_var 5) pod_none (pod_some pd_int)) (pd_tup (pds_cons (pd_bin g_add (pd_ix (pd_var 5) pd_int) pd_int) pds_nil))) (pds_cons (pd_var 6) pds_nil))) pds_nil)) pds_nil)))))) psds_nil)
    (psds_cons (psd_if (pb_cmp (g_eq en.u64) (pd_var 2) pd_int (by rfl)) (psds_one (psd_ret (pd_fn (ok__law_form T) (en.room.mono (by decide)) en.gu tk (pds_cons (pd_var 0) (pds_cons pd_int (pds_cons pd_int pds_nil)))))) psds_nil)
    (psds_cons (psd_asg (pd_fn (ok__law_form T) (en.room.mono (by decide)) en.gu tk (pds_cons (pd_var 0) (pds_cons pd_int (pds_cons pd_int pds_nil)))) (pgd_name 7 nd).pg)
    (psds_one (psd_ret (pd_fn (ok_form_sum T) (en.room.mono (by decide)) en.gu tk (pds_cons (pd_fn (ok_form_sum T) (en.room.mono (by decide)) en.gu tk (pds_cons (pd_var 7) (pds_cons (pd_var 1) pds_nil))) (pds_cons (pd_fn (ok_form_times T) (en.room.mono (by decide)) en.gu tk (pds_cons (pd_tup (pds_cons (pd_neg pd_int) (pds_cons pd_int pds_nil))) (pds_cons (pd_var 7) pds_nil))) pds_nil))))))))))))))
theorem sc__law_places : FnScope ["_law_forms", "_law_found", "_law_form_here", "_law_mono_here", "_law_place", "_law_base_here", "_law_share_here"] ["_law_forms"] (defScope st__law_places) := ⟨rfl, rfl, rfl, by decide +kernel, rfl, by decide +kernel, by decide +kernel⟩
theorem ok__law_places (T : Txt K mg) : Fn P w K mg base "_law_places" 1 1 m__law_places := fn_mk (N := ["_law_forms", "_law_found", "_law_form_here", "_law_mono_here", "_law_place", "_law_base_here", "_law_share_here"]) (ps := ["_law_forms"]) (r := b__law_places) T.d__law_places sc__law_places fun f cdv A outer s H E en tk =>
  have nd := sc__law_places.nd
  (psds_cons (psd_asg (pd_own pf_dnew) (pgd_name 1 nd).pg)
    (psds_cons (psd_for en.hp rfl (pid_seq (pd_var 0)) (pgd_name 2 nd).pg (psds_one (psd_for en.hp rfl (pid_seq (pd_var 2)) (pgn_tup rfl (pgds_cons (pgn_tup rfl (pgds_cons (pgd_name 3 nd) (pgds_cons (pgd_name 4 nd) (pgds_cons (pgd_name 5 nd) pgds_nil)))) (pgds_cons (pgd_name 6 nd) pgds_nil))).pg (psds_one (psd_putU en.u10 (pd_var 1) (pd_var 5) (pd_callB (hv := bv_max) (b_max rfl) T.n_max (pds_cons (pd_get2 en.u10 (pd_var 1) (pd_var 5) pd_int) (pds_cons (pd_bin g_add (pd_var 4) pd_int) pds_nil))))))))
    (psds_one (psd_ret (pd_sumV rfl T.n_sum (pd_var 1))))))
theorem sc__law_parting : FnScope ["_law_plain", "_law_names", "_law_mono_here", "_law_share_here", "_law_great", "_law_values", "_law_number_here", "_law_box"] ["_law_plain"] (defScope st__law_parting) := ⟨rfl, rfl, rfl, by decide +kernel, rfl, by decide +kernel, by decide +kernel⟩
theorem ok__law_parting (T : Txt K mg) : Fn P w K mg base "_law_parting" 1 1 m__law_parting := fn_mk (N := ["_law_plain", "_law_names", "_law_mono_here", "_law_share_here", "_law_great", "_law_values", "_law_number_here", "_law_box"]) (ps := ["_law_plain"]) (r := b__law_parting) T.d__law_parting sc__law_parting fun f cdv A outer s H E en tk =>
  have nd := sc__law_parting.nd
  (psds_cons (psd_if (pb_cmp (g_eq en.u64) (pd_var 0) (pd_tup pds_nil) (by rfl)) (psds_one (psd_ret pd_non)) psds_nil)
    (psds_cons (psd_asg (pd_own pf_dnew) (pgd_name 1 nd).pg)
    (psds_cons (psd_for en.hp rfl (pid_seq (pd_var 0)) (pgn_tup rfl (pgds_cons (pgd_name 2 nd) (pgds_cons (pgd_name 3 nd) pgds_nil))).pg (psds_one (psd_expr (pd_upd (pd_var 1) (pd_own (pf_dict rfl en.u12 T.n_dict (pds_cons (pd_var 2) pds_nil)))))))
    (psds_cons (psd_asg (pd_bin g_add pd_int (pd_bin g_mul (pd_callB (hv := bv_sum) (b_sum rfl) T.n_sum (pds_cons (pd_keep (pf_lc rfl nd (pid_seq (pd_var 0)) (own := [("_law_mono_here", 2), ("_law_share_here", 3)]) (blkOk_by (by kernel_rfl)) (plc_noT rfl (fun _ _ _ _ _ => (pgxs_cons (pgx_name 2 nd) (pgxs_cons (pgx_name 3 nd) pgxs_nil))) (fun _ _ _ _ _ => (pd_callB (hv := bv_abs) b_abs T.n_abs (pds_cons (pd_ix (pd_var 3) pd_int) pds_nil)))))) pds_nil)) (pd_callB (hv := bv_max) (b_max rfl) T.n_max (pds_cons (pd_keep (pf_lc rfl nd (pid_seq (pd_var 0)) (own := [("_law_mono_here", 2), ("_law_share_here", 3)]) (blkOk_by (by kernel_rfl)) (plc_noT rfl (fun _ _ _ _ _ => (pgxs_cons (pgx_name 2 nd) (pgxs_cons (pgx_name 3 nd) pgxs_nil))) (fun _ _ _ _ _ => (pd_ix (pd_var 3) pd_int))))) pds_nil)))) (pgd_name 4 nd).pg)
    (psds_cons (psd_asg (pd_own pf_dnew) (pgd_name 5 nd).pg)
    (psds_cons (psd_asg (pd_var 4) (pgd_name 6 nd).pg)
    (psds_cons (psd_for en.hp rfl (pid_seq (pd_keep (pf_sortKeys rfl T.n_sorted (pds_cons (pd_var 1) pds_nil)))) (pgd_name 7 nd).pg (psds_cons (psd_putU en.u10 (pd_var 5) (pd_var 7) (pd_var 6))
    (psds_one (psd_asg (pd_bin g_pow (pd_var 6) pd_int) (pgd_name 6 nd).pg))))
    (psds_one (psd_ret (pd_var 5))))))))))
theorem sc_law : FnScope ["_law_script", "_law_m", "_law_k", "_law_one", "_law_other", "_law_unlike", "_law_count", "_law_mine", "_law_its", "_law_both", "_law_mono_here", "_law_share_here", "_law_values", "_law_box", "_law_power_here"] ["_law_script"] (defScope st_law) := ⟨rfl, rfl, rfl, by decide +kernel, rfl, by decide +kernel, by decide +kernel⟩
theorem ok_law (T : Txt K mg) : Fn P w K mg base "law" 1 8 m_law := fn_mk (N := ["_law_script", "_law_m", "_law_k", "_law_one", "_law_other", "_law_unlike", "_law_count", "_law_mine", "_law_its", "_law_both", "_law_mono_here", "_law_share_here", "_law_values", "_law_box", "_law_power_here"]) (ps := ["_law_script"]) (r := b_law) T.d_law sc_law fun f cdv A outer s H E en tk =>
  have nd := sc_law.nd
  (psds_cons (psd_asg (pd_fn (ok__law_started T) (en.room.mono (by decide)) en.gu tk (pds_cons (pd_var 0) pds_nil)) (pgd_name 1 nd).pg)
    (psds_cons (psd_for en.hp rfl (pid_range1 T.n_range (pds_cons (pd_callB (hv := bv_max) (b_max rfl) T.n_max (pds_cons pd_int (pds_cons (pd_callB (hv := bv_min) (b_min rfl) T.n_min (pds_cons pd_int (pds_cons (pd_callB (hv := bv_len) b_len T.n_len (pds_cons (pd_var 0) pds_nil)) pds_nil))) pds_nil))) pds_nil)) (pgd_name 2 nd).pg (psds_cons (psd_asg (pd_fn (ok__law_form T) (en.room.mono (by decide)) en.gu tk (pds_cons (pd_var 1) (pds_cons pd_int (pds_cons pd_int pds_nil)))) (pgd_name 3 nd).pg)
    (psds_cons (psd_asg (pd_fn (ok__law_near T) (en.room.mono (by decide)) en.gu tk (pds_cons (pd_var 1) (pds_cons (pd_var 3) pds_nil))) (pgd_name 4 nd).pg)
    (psds_cons (psd_asg (pd_own (pf_lst pds_nil)) (pgd_name 5 nd).pg)
    (psds_cons (psd_for en.hp rfl (pid_range1 T.n_range (pds_cons (pd_fn (ok__law_places T) (en.room.mono (by decide)) en.gu tk (pds_cons (pd_keep (pf_lst (pds_cons (pd_var 3) (pds_cons (pd_var 4) pds_nil)))) pds_nil)) pds_nil)) (pgd_name 6 nd).pg (psds_cons (psd_par rfl nd (pds_cons (pd_fn (ok_at_count T) (en.room.mono (by decide)) en.gu tk (pds_cons (pd_var 3) (pds_cons (pd_var 6) pds_nil))) (pds_cons (pd_fn (ok_at_count T) (en.room.mono (by decide)) en.gu tk (pds_cons (pd_var 4) (pds_cons (pd_var 6) pds_nil))) pds_nil)))
    (psds_cons (psd_if (pb_w (pw_orD (pb_cmp (g_ne en.u64) (pd_callB (hv := bv_repr) (b_reprW en.gu en.u80 T.dig) T.n_repr (pds_cons (pd_var 7) pds_nil)) (pd_callB (hv := bv_repr) (b_reprW en.gu en.u80 T.dig) T.n_repr (pds_cons (pd_fn (ok__law_at T) (en.room.mono (by decide)) en.gu tk (pds_cons (pd_var 3) (pds_cons (pd_var 6) pds_nil))) pds_nil)) (by rfl)) (pw_or1D (pb_cmp (g_ne en.u64) (pd_callB (hv := bv_repr) (b_reprW en.gu en.u80 T.dig) T.n_repr (pds_cons (pd_var 8) pds_nil)) (pd_callB (hv := bv_repr) (b_reprW en.gu en.u80 T.dig) T.n_repr (pds_cons (pd_fn (ok__law_at T) (en.room.mono (by decide)) en.gu tk (pds_cons (pd_var 4) (pds_cons (pd_var 6) pds_nil))) pds_nil)) (by rfl))))) (psds_one (psd_ret pd_bl)) psds_nil)
    (psds_one (psd_if (pb_cmp (g_ne en.u64) (pd_var 7) (pd_var 8) (by rfl)) (psds_one (psd_expr (pd_meth m_append PySem.F.plainAttrs_list PySem.F.slot_list_append PySem.F.type_list_append (pd_var 5) (pds_cons (pd_tup (pds_cons (pd_var 7) (pds_cons (pd_var 8) pds_nil))) pds_nil)))) psds_nil)))))
    (psds_cons (psd_if (pb_cmp (g_ne en.u64) (pd_cmp (g_eq en.u64) (pd_var 3) (pd_var 4) (by rfl)) (pd_cmp (g_eq en.u64) (pd_var 5) (pd_keep (pf_lst pds_nil)) (by rfl)) (by rfl)) (psds_one (psd_ret pd_bl)) psds_nil)
    (psds_one (psd_for en.hp rfl (pid_seq (pd_cut (pd_var 5) pod_none (pod_some pd_int))) (pgn_tup rfl (pgds_cons (pgd_name 7 nd) (pgds_cons (pgd_name 8 nd) pgds_nil))).pg (psds_cons (psd_asg (pd_own (pf_dict rfl en.u12 T.n_dict (pds_cons (pd_var 7) pds_nil))) (pgd_name 9 nd).pg)
    (psds_cons (psd_for en.hp rfl (pid_seq (pd_var 8)) (pgn_tup rfl (pgds_cons (pgd_name 10 nd) (pgds_cons (pgd_name 11 nd) pgds_nil))).pg (psds_one (psd_expr (pd_fn (ok__law_put T) (en.room.mono (by decide)) en.gu tk (pds_cons (pd_var 9) (pds_cons (pd_var 10) (pds_cons (pd_tup (pds_cons (pd_bin g_sub pd_int (pd_ix (pd_var 11) pd_int)) (pds_cons (pd_ix (pd_var 11) pd_int) pds_nil))) pds_nil)))))))
    (psds_cons (psd_asg (pd_fn (ok__law_parting T) (en.room.mono (by decide)) en.gu tk (pds_cons (pd_fn (ok__law_pairs T) (en.room.mono (by decide)) en.gu tk (pds_cons (pd_var 9) pds_nil)) pds_nil)) (pgd_name 12 nd).pg)
    (psds_cons (psd_for en.hp rfl (pid_seq (pd_bin g_add (pd_var 7) (pd_var 8))) (pgn_tup rfl (pgds_cons (pgd_name 10 nd) (pgds_cons (pgd_name 11 nd) pgds_nil))).pg (psds_one (psd_expr (pd_upd (pd_var 12) (pd_own (pf_dict rfl en.u12 T.n_dict (pds_cons (pd_keep (pf_lc rfl nd (pid_seq (pd_var 10)) (own := [("_law_box", 13), ("_law_power_here", 14)]) (blkOk_by (by kernel_rfl)) (plc_noT rfl (fun _ _ _ _ _ => (pgxs_cons (pgx_name 13 nd) (pgxs_cons (pgx_name 14 nd) pgxs_nil))) (fun _ _ _ _ _ => (pd_tup (pds_cons (pd_var 13) (pds_cons (pd_get2 en.u10 (pd_var 12) (pd_var 13) pd_int) pds_nil))))))) pds_nil)))))))
    (psds_one (psd_if (pb_cmp (g_eq en.u64) (pd_fn (ok_plain_value T) (en.room.mono (by decide)) en.gu tk (pds_cons (pd_var 7) (pds_cons (pd_var 12) pds_nil))) (pd_fn (ok_plain_value T) (en.room.mono (by decide)) en.gu tk (pds_cons (pd_var 8) (pds_cons (pd_var 12) pds_nil))) (by rfl)) (psds_one (psd_ret pd_bl)) psds_nil))))))))))))))
    (psds_one (psd_ret pd_bl))))
end
/-! the head -/
def dd_common_divisor : He.DefD := ⟨("common_divisor", none), "common_divisor", "common_divisor", defArgs st_common_divisor, defBody st_common_divisor, defScope st_common_divisor, [], []⟩
def dd_fraction : He.DefD := ⟨("fraction", none), "fraction", "fraction", defArgs st_fraction, defBody st_fraction, defScope st_fraction, [], []⟩
def dd_times : He.DefD := ⟨("times", none), "times", "times", defArgs st_times, defBody st_times, defScope st_times, [], []⟩
def dd_is_small : He.DefD := ⟨("is_small", none), "is_small", "is_small", defArgs st_is_small, defBody st_is_small, defScope st_is_small, [], []⟩
def dd_pairs_of : He.DefD := ⟨("pairs_of", none), "pairs_of", "pairs_of", defArgs st_pairs_of, defBody st_pairs_of, defScope st_pairs_of, [], []⟩
def dd_plus : He.DefD := ⟨("plus", none), "plus", "plus", defArgs st_plus, defBody st_plus, defScope st_plus, [], []⟩
def dd_added : He.DefD := ⟨("added", none), "added", "added", defArgs st_added, defBody st_added, defScope st_added, [], []⟩
def dd_choose : He.DefD := ⟨("choose", none), "choose", "choose", defArgs st_choose, defBody st_choose, defScope st_choose, [], []⟩
def dd_raised : He.DefD := ⟨("raised", none), "raised", "raised", defArgs st_raised, defBody st_raised, defScope st_raised, [], []⟩
def dd_term_at : He.DefD := ⟨("term_at", none), "term_at", "term_at", defArgs st_term_at, defBody st_term_at, defScope st_term_at, [], []⟩
def dd_at_count : He.DefD := ⟨("at_count", none), "at_count", "at_count", defArgs st_at_count, defBody st_at_count, defScope st_at_count, [], []⟩
def dd_plain_value : He.DefD := ⟨("plain_value", none), "plain_value", "plain_value", defArgs st_plain_value, defBody st_plain_value, defScope st_plain_value, [], []⟩
def dd__law_started : He.DefD := ⟨("_law_started", none), "_law_started", "_law_started", defArgs st__law_started, defBody st__law_started, defScope st__law_started, [], []⟩
def dd__law_common : He.DefD := ⟨("_law_common", none), "_law_common", "_law_common", defArgs st__law_common, defBody st__law_common, defScope st__law_common, [], []⟩
def dd__law_share : He.DefD := ⟨("_law_share", none), "_law_share", "_law_share", defArgs st__law_share, defBody st__law_share, defScope st__law_share, [], []⟩
def dd__law_plus : He.DefD := ⟨("_law_plus", none), "_law_plus", "_law_plus", defArgs st__law_plus, defBody st__law_plus, defScope st__law_plus, [], []⟩
def dd__law_put : He.DefD := ⟨("_law_put", none), "_law_put", "_law_put", defArgs st__law_put, defBody st__law_put, defScope st__law_put, [], []⟩
def dd__law_pairs : He.DefD := ⟨("_law_pairs", none), "_law_pairs", "_law_pairs", defArgs st__law_pairs, defBody st__law_pairs, defScope st__law_pairs, [], []⟩
def dd__law_draw : He.DefD := ⟨("_law_draw", none), "_law_draw", "_law_draw", defArgs st__law_draw, defBody st__law_draw, defScope st__law_draw, [], []⟩
def dd__law_of : He.DefD := ⟨("_law_of", none), "_law_of", "_law_of", defArgs st__law_of, defBody st__law_of, defScope st__law_of, [], []⟩
def dd__law_mono : He.DefD := ⟨("_law_mono", none), "_law_mono", "_law_mono", defArgs st__law_mono, defBody st__law_mono, defScope st__law_mono, [], []⟩
def dd__law_number : He.DefD := ⟨("_law_number", none), "_law_number", "_law_number", defArgs st__law_number, defBody st__law_number, defScope st__law_number, [], []⟩
def dd__law_base : He.DefD := ⟨("_law_base", none), "_law_base", "_law_base", defArgs st__law_base, defBody st__law_base, defScope st__law_base, [], []⟩
def dd__law_form : He.DefD := ⟨("_law_form", none), "_law_form", "_law_form", defArgs st__law_form, defBody st__law_form, defScope st__law_form, [], []⟩
def dd__law_power : He.DefD := ⟨("_law_power", none), "_law_power", "_law_power", defArgs st__law_power, defBody st__law_power, defScope st__law_power, [], []⟩
def dd__law_term : He.DefD := ⟨("_law_term", none), "_law_term", "_law_term", defArgs st__law_term, defBody st__law_term, defScope st__law_term, [], []⟩
def dd__law_at : He.DefD := ⟨("_law_at", none), "_law_at", "_law_at", defArgs st__law_at, defBody st__law_at, defScope st__law_at, [], []⟩
def dd_form_of : He.DefD := ⟨("form_of", none), "form_of", "form_of", defArgs st_form_of, defBody st_form_of, defScope st_form_of, [], []⟩
def dd_summed : He.DefD := ⟨("summed", none), "summed", "summed", defArgs st_summed, defBody st_summed, defScope st_summed, [], []⟩
def dd_form_sum : He.DefD := ⟨("form_sum", none), "form_sum", "form_sum", defArgs st_form_sum, defBody st_form_sum, defScope st_form_sum, [], []⟩
def dd_form_times : He.DefD := ⟨("form_times", none), "form_times", "form_times", defArgs st_form_times, defBody st_form_times, defScope st_form_times, [], []⟩
def dd__law_near : He.DefD := ⟨("_law_near", none), "_law_near", "_law_near", defArgs st__law_near, defBody st__law_near, defScope st__law_near, [], []⟩
def dd__law_places : He.DefD := ⟨("_law_places", none), "_law_places", "_law_places", defArgs st__law_places, defBody st__law_places, defScope st__law_places, [], []⟩
def dd__law_parting : He.DefD := ⟨("_law_parting", none), "_law_parting", "_law_parting", defArgs st__law_parting, defBody st__law_parting, defScope st__law_parting, [], []⟩
def dd_law : He.DefD := ⟨("law", none), "law", "law", defArgs st_law, defBody st_law, defScope st_law, [], []⟩
def fn : List He.DefD := [dd_common_divisor, dd_fraction, dd_times, dd_is_small, dd_pairs_of, dd_plus, dd_added, dd_choose, dd_raised, dd_term_at, dd_at_count, dd_plain_value, dd__law_started, dd__law_common, dd__law_share, dd__law_plus, dd__law_put, dd__law_pairs, dd__law_draw, dd__law_of, dd__law_mono, dd__law_number, dd__law_base, dd__law_form, dd__law_power, dd__law_term, dd__law_at, dd_form_of, dd_summed, dd_form_sum, dd_form_times, dd__law_near, dd__law_places, dd__law_parting, dd_law]
def li : List (Str × D) := [("NOUGHT", (.tup [(.int 0), (.int 1)]))]
def fa : List He.Fa := [.glo "common_divisor", .glo "fraction", .glo "times", .glo "is_small", .glo "pairs_of", .glo "plus", .glo "added", .glo "choose", .glo "raised", .glo "term_at", .glo "at_count", .glo "plain_value", .glo "_law_started", .glo "_law_common", .glo "_law_share", .glo "_law_plus", .glo "_law_put", .glo "_law_pairs", .glo "_law_draw", .glo "_law_of", .glo "_law_mono", .glo "_law_number", .glo "_law_base", .glo "_law_form", .glo "_law_power", .glo "_law_term", .glo "_law_at", .glo "form_of", .glo "summed", .glo "form_sum", .glo "form_times", .glo "_law_near", .glo "_law_places", .glo "_law_parting", .glo "law", .free "abs", .free "all", .free "dict", .free "int", .free "len", .free "list", .free "max", .free "min", .free "range", .free "repr", .free "sorted", .free "sum", .free "tuple", .int "GREATEST" 10000000000000000000000000000000000000000000000000000000000000000000000000000000000000000000000000000000000000000000000000000000000000000000000000000000000000000000000000000000000000000000000000000000000000000000000000000000000000000000000000000000000000000000000000000000000000000000000000000000000000000000000000000000000000000000000000000000000000000000000000000000000000000000000000000000000000000000000000000000000000000000000000000000000000000000000000000000000000000000000000000000000000000000000000000000000000000000000000000000000000000000000000000000000000000000000000000000000000000000000000000000000000000000000000000000000000000000000000000000000000000000000000000000000000000000000000000000000000000000000000000000000000000000000000000000000000000000000000000000000000000000000000000000000000000000000000000000000000000000000000000000000000000000000000000000000000000000000000000000000000000000000000000000000000000000000000000000000000000000000000000000000000000000000000000000000000000, .int "MOST_PAIRS" 1000, .int "MOST_PLACE" 99]
theorem txt {K : Fg} {h : Heap} {mg : Str → Option Value} (X : K.In h) (G : h.Ns mainGlobals mg) (c : He.SaysD fa fn K) (hd : NoDig K) (hl : ∀ (i : Nat) (p : Str × D), li[i]? = some p → litF K p = true) : Txt K mg where
  d_common_divisor := (c.def_ 0 (d := dd_common_divisor) rfl).elim fun fd F => ⟨_, fd, fun_of F, He.glo_ok X G (c.fact 0 (f := .glo "common_divisor") rfl), F.bindsN fun _ _ _ _ _ _ us hl => match us, hl with | [_, _], _ => rfl⟩
  d_fraction := (c.def_ 1 (d := dd_fraction) rfl).elim fun fd F => ⟨_, fd, fun_of F, He.glo_ok X G (c.fact 1 (f := .glo "fraction") rfl), F.bindsN fun _ _ _ _ _ _ us hl => match us, hl with | [_, _], _ => rfl⟩
  d_times := (c.def_ 2 (d := dd_times) rfl).elim fun fd F => ⟨_, fd, fun_of F, He.glo_ok X G (c.fact 2 (f := .glo "times") rfl), F.bindsN fun _ _ _ _ _ _ us hl => match us, hl with | [_, _], _ => rfl⟩
  d_is_small := (c.def_ 3 (d := dd_is_small) rfl).elim fun fd F => ⟨_, fd, fun_of F, He.glo_ok X G (c.fact 3 (f := .glo "is_small") rfl), F.bindsN fun _ _ _ _ _ _ us hl => match us, hl with | [_], _ => rfl⟩
  d_pairs_of := (c.def_ 4 (d := dd_pairs_of) rfl).elim fun fd F => ⟨_, fd, fun_of F, He.glo_ok X G (c.fact 4 (f := .glo "pairs_of") rfl), F.bindsN fun _ _ _ _ _ _ us hl => match us, hl with | [_], _ => rfl⟩
  d_plus := (c.def_ 5 (d := dd_plus) rfl).elim fun fd F => ⟨_, fd, fun_of F, He.glo_ok X G (c.fact 5 (f := .glo "plus") rfl), F.bindsN fun _ _ _ _ _ _ us hl => match us, hl with | [_, _], _ => rfl⟩
  d_added := (c.def_ 6 (d := dd_added) rfl).elim fun fd F => ⟨_, fd, fun_of F, He.glo_ok X G (c.fact 6 (f := .glo "added") rfl), F.bindsN fun _ _ _ _ _ _ us hl => match us, hl with | [_, _, _], _ => rfl⟩
  d_choose := (c.def_ 7 (d := dd_choose) rfl).elim fun fd F => ⟨_, fd, fun_of F, He.glo_ok X G (c.fact 7 (f := .glo "choose") rfl), F.bindsN fun _ _ _ _ _ _ us hl => match us, hl with | [_, _], _ => rfl⟩
  d_raised := (c.def_ 8 (d := dd_raised) rfl).elim fun fd F => ⟨_, fd, fun_of F, He.glo_ok X G (c.fact 8 (f := .glo "raised") rfl), F.bindsN fun _ _ _ _ _ _ us hl => match us, hl with | [_, _], _ => rfl⟩
  d_term_at := (c.def_ 9 (d := dd_term_at) rfl).elim fun fd F => ⟨_, fd, fun_of F, He.glo_ok X G (c.fact 9 (f := .glo "term_at") rfl), F.bindsN fun _ _ _ _ _ _ us hl => match us, hl with | [_, _, _], _ => rfl⟩
  d_at_count := (c.def_ 10 (d := dd_at_count) rfl).elim fun fd F => ⟨_, fd, fun_of F, He.glo_ok X G (c.fact 10 (f := .glo "at_count") rfl), F.bindsN fun _ _ _ _ _ _ us hl => match us, hl with | [_, _], _ => rfl⟩
  d_plain_value := (c.def_ 11 (d := dd_plain_value) rfl).elim fun fd F => ⟨_, fd, fun_of F, He.glo_ok X G (c.fact 11 (f := .glo "plain_value") rfl), F.bindsN fun _ _ _ _ _ _ us hl => match us, hl with | [_, _], _ => rfl⟩
  d__law_started := (c.def_ 12 (d := dd__law_started) rfl).elim fun fd F => ⟨_, fd, fun_of F, He.glo_ok X G (c.fact 12 (f := .glo "_law_started") rfl), F.bindsN fun _ _ _ _ _ _ us hl => match us, hl with | [_], _ => rfl⟩
  d__law_common := (c.def_ 13 (d := dd__law_common) rfl).elim fun fd F => ⟨_, fd, fun_of F, He.glo_ok X G (c.fact 13 (f := .glo "_law_common") rfl), F.bindsN fun _ _ _ _ _ _ us hl => match us, hl with | [_, _], _ => rfl⟩
  d__law_share := (c.def_ 14 (d := dd__law_share) rfl).elim fun fd F => ⟨_, fd, fun_of F, He.glo_ok X G (c.fact 14 (f := .glo "_law_share") rfl), F.bindsN fun _ _ _ _ _ _ us hl => match us, hl with | [_, _], _ => rfl⟩
  d__law_plus := (c.def_ 15 (d := dd__law_plus) rfl).elim fun fd F => ⟨_, fd, fun_of F, He.glo_ok X G (c.fact 15 (f := .glo "_law_plus") rfl), F.bindsN fun _ _ _ _ _ _ us hl => match us, hl with | [_, _], _ => rfl⟩
  d__law_put := (c.def_ 16 (d := dd__law_put) rfl).elim fun fd F => ⟨_, fd, fun_of F, He.glo_ok X G (c.fact 16 (f := .glo "_law_put") rfl), F.bindsN fun _ _ _ _ _ _ us hl => match us, hl with | [_, _, _], _ => rfl⟩
  d__law_pairs := (c.def_ 17 (d := dd__law_pairs) rfl).elim fun fd F => ⟨_, fd, fun_of F, He.glo_ok X G (c.fact 17 (f := .glo "_law_pairs") rfl), F.bindsN fun _ _ _ _ _ _ us hl => match us, hl with | [_], _ => rfl⟩
  d__law_draw := (c.def_ 18 (d := dd__law_draw) rfl).elim fun fd F => ⟨_, fd, fun_of F, He.glo_ok X G (c.fact 18 (f := .glo "_law_draw") rfl), F.bindsN fun _ _ _ _ _ _ us hl => match us, hl with | [_, _], _ => rfl⟩
  d__law_of := (c.def_ 19 (d := dd__law_of) rfl).elim fun fd F => ⟨_, fd, fun_of F, He.glo_ok X G (c.fact 19 (f := .glo "_law_of") rfl), F.bindsN fun _ _ _ _ _ _ us hl => match us, hl with | [_, _], _ => rfl⟩
  d__law_mono := (c.def_ 20 (d := dd__law_mono) rfl).elim fun fd F => ⟨_, fd, fun_of F, He.glo_ok X G (c.fact 20 (f := .glo "_law_mono") rfl), F.bindsN fun _ _ _ _ _ _ us hl => match us, hl with | [_, _], _ => rfl⟩
  d__law_number := (c.def_ 21 (d := dd__law_number) rfl).elim fun fd F => ⟨_, fd, fun_of F, He.glo_ok X G (c.fact 21 (f := .glo "_law_number") rfl), F.bindsN fun _ _ _ _ _ _ us hl => match us, hl with | [_], _ => rfl⟩
  d__law_base := (c.def_ 22 (d := dd__law_base) rfl).elim fun fd F => ⟨_, fd, fun_of F, He.glo_ok X G (c.fact 22 (f := .glo "_law_base") rfl), F.bindsN fun _ _ _ _ _ _ us hl => match us, hl with | [_], _ => rfl⟩
  d__law_form := (c.def_ 23 (d := dd__law_form) rfl).elim fun fd F => ⟨_, fd, fun_of F, He.glo_ok X G (c.fact 23 (f := .glo "_law_form") rfl), F.bindsN fun _ _ _ _ _ _ us hl => match us, hl with | [_, _, _], _ => rfl⟩
  d__law_power := (c.def_ 24 (d := dd__law_power) rfl).elim fun fd F => ⟨_, fd, fun_of F, He.glo_ok X G (c.fact 24 (f := .glo "_law_power") rfl), F.bindsN fun _ _ _ _ _ _ us hl => match us, hl with | [_, _], _ => rfl⟩
  d__law_term := (c.def_ 25 (d := dd__law_term) rfl).elim fun fd F => ⟨_, fd, fun_of F, He.glo_ok X G (c.fact 25 (f := .glo "_law_term") rfl), F.bindsN fun _ _ _ _ _ _ us hl => match us, hl with | [_, _, _], _ => rfl⟩
  d__law_at := (c.def_ 26 (d := dd__law_at) rfl).elim fun fd F => ⟨_, fd, fun_of F, He.glo_ok X G (c.fact 26 (f := .glo "_law_at") rfl), F.bindsN fun _ _ _ _ _ _ us hl => match us, hl with | [_, _], _ => rfl⟩
  d_form_of := (c.def_ 27 (d := dd_form_of) rfl).elim fun fd F => ⟨_, fd, fun_of F, He.glo_ok X G (c.fact 27 (f := .glo "form_of") rfl), F.bindsN fun _ _ _ _ _ _ us hl => match us, hl with | [_], _ => rfl⟩
  d_summed := (c.def_ 28 (d := dd_summed) rfl).elim fun fd F => ⟨_, fd, fun_of F, He.glo_ok X G (c.fact 28 (f := .glo "summed") rfl), F.bindsN fun _ _ _ _ _ _ us hl => match us, hl with | [_, _], _ => rfl⟩
  d_form_sum := (c.def_ 29 (d := dd_form_sum) rfl).elim fun fd F => ⟨_, fd, fun_of F, He.glo_ok X G (c.fact 29 (f := .glo "form_sum") rfl), F.bindsN fun _ _ _ _ _ _ us hl => match us, hl with | [_, _], _ => rfl⟩
  d_form_times := (c.def_ 30 (d := dd_form_times) rfl).elim fun fd F => ⟨_, fd, fun_of F, He.glo_ok X G (c.fact 30 (f := .glo "form_times") rfl), F.bindsN fun _ _ _ _ _ _ us hl => match us, hl with | [_, _], _ => rfl⟩
  d__law_near := (c.def_ 31 (d := dd__law_near) rfl).elim fun fd F => ⟨_, fd, fun_of F, He.glo_ok X G (c.fact 31 (f := .glo "_law_near") rfl), F.bindsN fun _ _ _ _ _ _ us hl => match us, hl with | [_, _], _ => rfl⟩
  d__law_places := (c.def_ 32 (d := dd__law_places) rfl).elim fun fd F => ⟨_, fd, fun_of F, He.glo_ok X G (c.fact 32 (f := .glo "_law_places") rfl), F.bindsN fun _ _ _ _ _ _ us hl => match us, hl with | [_], _ => rfl⟩
  d__law_parting := (c.def_ 33 (d := dd__law_parting) rfl).elim fun fd F => ⟨_, fd, fun_of F, He.glo_ok X G (c.fact 33 (f := .glo "_law_parting") rfl), F.bindsN fun _ _ _ _ _ _ us hl => match us, hl with | [_], _ => rfl⟩
  d_law := (c.def_ 34 (d := dd_law) rfl).elim fun fd F => ⟨_, fd, fun_of F, He.glo_ok X G (c.fact 34 (f := .glo "law") rfl), F.bindsN fun _ _ _ _ _ _ us hl => match us, hl with | [_], _ => rfl⟩
  n_abs := He.free_ok X G (c.fact 35 (f := .free "abs") rfl)
  n_all := He.free_ok X G (c.fact 36 (f := .free "all") rfl)
  n_dict := He.free_ok X G (c.fact 37 (f := .free "dict") rfl)
  n_int := He.free_ok X G (c.fact 38 (f := .free "int") rfl)
  n_len := He.free_ok X G (c.fact 39 (f := .free "len") rfl)
  n_list := He.free_ok X G (c.fact 40 (f := .free "list") rfl)
  n_max := He.free_ok X G (c.fact 41 (f := .free "max") rfl)
  n_min := He.free_ok X G (c.fact 42 (f := .free "min") rfl)
  n_range := He.free_ok X G (c.fact 43 (f := .free "range") rfl)
  n_repr := He.free_ok X G (c.fact 44 (f := .free "repr") rfl)
  n_sorted := He.free_ok X G (c.fact 45 (f := .free "sorted") rfl)
  n_sum := He.free_ok X G (c.fact 46 (f := .free "sum") rfl)
  n_tuple := He.free_ok X G (c.fact 47 (f := .free "tuple") rfl)
  g_NOUGHT := fun _ => litF_ok X G (hl 0 _ rfl)
  g_GREATEST := He.int_ok X G (c.fact 48 (f := .int "GREATEST" 10000000000000000000000000000000000000000000000000000000000000000000000000000000000000000000000000000000000000000000000000000000000000000000000000000000000000000000000000000000000000000000000000000000000000000000000000000000000000000000000000000000000000000000000000000000000000000000000000000000000000000000000000000000000000000000000000000000000000000000000000000000000000000000000000000000000000000000000000000000000000000000000000000000000000000000000000000000000000000000000000000000000000000000000000000000000000000000000000000000000000000000000000000000000000000000000000000000000000000000000000000000000000000000000000000000000000000000000000000000000000000000000000000000000000000000000000000000000000000000000000000000000000000000000000000000000000000000000000000000000000000000000000000000000000000000000000000000000000000000000000000000000000000000000000000000000000000000000000000000000000000000000000000000000000000000000000000000000000000000000000000000000000000000000000000000000000000) rfl)
  g_MOST_PAIRS := He.int_ok X G (c.fact 49 (f := .int "MOST_PAIRS" 1000) rfl)
  g_MOST_PLACE := He.int_ok X G (c.fact 50 (f := .int "MOST_PLACE" 99) rfl)
  dig := hd
end DL
set_option Elab.async false
set_option linter.all false
set_option maxRecDepth 100000
set_option maxHeartbeats 0
set_option autoImplicit false
namespace DL
open PySem PySem.Spec PyProof.Rows L2
abbrev R : PySem.W.OpenRow := PySem.W.OpenLaw.row PySem.Challenge.rw_roundless_k24_whole_unlike_forms_part
abbrev hk : PySem.W.Hook := hookL 4 fa fn li
def ob (s : PySem.W.SharedT) : He.AlD := obsLG 4 fa fn li (HandSHeadRun.getT s)
theorem ob_eq (s : PySem.W.SharedT) : ob s = hk.obs s.abs   := obsLG_eq (HandSHeadRun.getT_eq s)
def loose : List Str := "NOUGHT" :: "MOST_PAIRS" :: "MOST_PLACE" :: "GREATEST" :: "LoopError" :: "TooGreat" :: "common_divisor" :: "fraction" :: "plus" :: "times" :: "choose" :: "is_small" :: "pairs_of" :: "form_of" :: "added" :: "summed" :: "raised" :: "term_at" :: "form_sum" :: "form_times" :: "at_count" :: "plain_value" :: "_law_started" :: "_law_draw" :: "_law_of" :: "_law_common" :: "_law_share" :: "_law_plus" :: "_law_put" :: "_law_pairs" :: "_law_mono" :: "_law_number" :: "_law_base" :: "_law_form" :: "_law_power" :: "_law_term" :: "_law_at" :: "_law_near" :: "_law_places" :: "_law_parting" :: []
theorem run (w : World) : HandSHeadRun.RunEq R (PySem.W.view R.prog [44]) hk ob 2000 loose w := by
  intro os
  kernel_rfl
end DL
section
open PySem PySem.W PySem.Calls PyProof.Rows
theorem DL.holds_of (hm : ∀ ns : List Int, ns.length ≤ 63 → ∃ S, DL.m_law [.lst (ns.map .int)] [] = .ok (.bl true) S) : PySem.Challenge.rw_roundless_k24_whole_unlike_forms_part.Holds := by
  w_on; o_law
  refine HandSHeadRun.head_any (r := OpenLaw.row PySem.Challenge.rw_roundless_k24_whole_unlike_forms_part) (q := view (OpenLaw.row PySem.Challenge.rw_roundless_k24_whole_unlike_forms_part).prog [44]) (H := DL.hk) (ob := DL.ob) (M := 2000) (loose := DL.loose) (d := HandSHeadRun.topDef (OpenLaw.row PySem.Challenge.rw_roundless_k24_whole_unlike_forms_part).prog 44) (kwd := []) DL.ob_eq
    (by kernel_rfl) (fun s => by kernel_rfl) DL.run (by kernel_rfl) (by kernel_rfl) (by kernel_rfl) (by rfl) (by first | assumption | decide +kernel) (by decide +kernel) ⟨rfl, rfl, rfl, rfl, rfl, by decide +kernel⟩ ?hw ?hc
  case hw => w_witness2
  case hc =>
    refine DL.walkG (l := PySem.Challenge.rw_roundless_k24_whole_unlike_forms_part) (n := 63) (k := 8) (m := DL.m_law) rfl (by decide) (by kernel_rfl) ⟨rfl, by decide, by decide⟩ ?F hm
    intro w mg h Y G
    obtain ⟨K, KX, c⟩ := Y
    have e : (HandSHeadRun.topDef (OpenLaw.row PySem.Challenge.rw_roundless_k24_whole_unlike_forms_part).prog 44).name = ("law" : PySem.Str) := by kernel_rfl
    refine ⟨K, KX, fun base _ _ => ?_⟩
    rw [e]
    exact DL.ok_law (DL.txt KX G (DL.SaysL.all c).1 (DL.SaysL.all c).2.1 (DL.SaysL.all c).2.2)
end
set_option Elab.async false
set_option linter.all false
set_option maxRecDepth 100000
set_option maxHeartbeats 4000000
set_option autoImplicit false
/-! Draws: the state, numbers, fractions. -/
namespace DL
open PySem L2
open Emb
local macro_rules | `(tactic| walk_at "1") => `(tactic| with_reducible first
  | refine s_seq ?_ | refine s_asg ?_ | refine s_ret ?_ | refine s_if ?_ | refine s_expr ?_ | refine s_next ?_ | refine s_brk ?_ | refine s_cont ?_ | refine s_for ?_ | refine s_while ?_
  | refine p_c ?_ | refine p_bin ?_ | refine p_as ?_ | refine p_cons ?_ | refine p_nil ?_ | refine p_un ?_ | refine p_call ?_ | refine p_if ?_ | refine p_own ?_
  | refine p_keep ?_ | refine p_tru ?_ | refine p_and ?_ | refine p_or ?_ | refine p_not ?_ | refine p_val ?_ | refine p_rand ?_ | refine p_ror ?_ | refine p_rnot ?_ | refine p_chain ?_ | refine p_bif ?_
  | refine o_add ?_ | refine o_sub ?_ | refine o_ltU ?_ | refine o_leU ?_ | refine o_gtU ?_ | refine o_geU ?_ | refine o_neg ?_ | refine o_eqI ?_ | refine o_neI ?_ | refine o_abs ?_ | refine o_tru ?_ | refine p_true ?_ | refine p_false ?_
  | refine o_lenT ?_ | refine o_lenL ?_
  | refine s_par ?_ | refine p_yes ?_ | refine p_lc ?_ | refine p_seq ?_ | refine s_gnil ?_ | refine s_gcons ?_ | refine s_gtux ?_ | refine p_onone ?_ | refine p_osome ?_)
local macro_rules | `(tactic| walk_at "2") => `(tactic| first
  | walk_at "1"
  | (with_reducible refine p_var2 ?_)
  | ((with_reducible refine s_name ?_ ?_); (· exact Nat.le_of_ble_eq_true rfl); dsimp only [List.set_cons_zero, List.set_cons_succ])
  | (with_reducible refine p_tup ?_) | ((with_reducible refine ⟨?_, ?_⟩); (· exact Nat.le_of_ble_eq_true rfl))
  | ((with_reducible refine p_ex2 (x := ?_) (y := ?_) ?_ ?_); rotate_left; rotate_left; (· rfl); refine ⟨?_, ?_, ?_⟩; (· exact Nat.le_of_ble_eq_true rfl); (· exact Nat.le_of_ble_eq_true rfl); dsimp only [List.set_cons_zero, List.set_cons_succ])
  | ((with_reducible refine p_isT ?_ ?_); (· rfl)) | ((with_reducible refine p_isF ?_ ?_); (· rfl))
  | ((with_reducible refine p_ex (x := ?_) ?_ ?_); rotate_left; (· rfl)))
local macro_rules | `(tactic| walk_at "3") => `(tactic| repeat (first | walk_at "2" | (with_reducible refine p_lst ?_)))
def stD (ns : List Int) (a : Int) : D := .dct [(.str "script", .lst (ns.map .int)), (.str "at", .int a), (.str "rest", .ptr 0)]
theorem stD_closed {n : Nat} (hn : 0 < n) (ns : List Int) (a : Int) : D.closed n (stD ns a) = true := by
  unfold stD D.closed closedK closedK closedK closedK D.closed
  rw [closed_ints' ns]
  simp
  exact hn
/-- the state of the draws: slots 0 and 1 of the store -/
structure Sta (c : Nat) (S : Sto) : Prop where
  ex : ∃ (ns rs : List Int) (a : Int), S[0]? = some (.lst (rs.map .int)) ∧ S[1]? = some (stD ns a) ∧ rs.length = ns.length ∧ 0 ≤ a ∧ a ≤ c
  sane : Sane S
/-- on to another store: the state goes on, all else stays -/
structure Go (c : Nat) (S S' : Sto) : Prop where
  sta : Sta c S'
  len : S'.length = S.length
  rest : ∀ k, 2 ≤ k → S'[k]? = S[k]?
theorem Sta.le {c c' : Nat} {S : Sto} (h : Sta c S) (hc : c ≤ c') : Sta c' S := by
  obtain ⟨ns, rs, a, h1, h2, h3, h4, h5⟩ := h.ex
  exact ⟨⟨ns, rs, a, h1, h2, h3, h4, by omega⟩, h.sane⟩
theorem Sta.len {c : Nat} {S : Sto} (h : Sta c S) : 2 ≤ S.length := by
  obtain ⟨ns, rs, a, h1, h2, _⟩ := h.ex
  have := (List.getElem?_eq_some_iff.mp h2).1
  omega
theorem Go.trans {c c' : Nat} {S S1 S2 : Sto} (h : Go c S S1) (g : Go c' S1 S2) : Go c' S S2 := ⟨g.sta, g.len.trans h.len, fun k hk => (g.rest k hk).trans (h.rest k hk)⟩
theorem Go.refl {c : Nat} {S : Sto} (h : Sta c S) : Go c S S := ⟨h, rfl, fun _ _ => rfl⟩
theorem Go.le {c c' : Nat} {S S' : Sto} (h : Go c S S') (hc : c ≤ c') : Go c' S S' := ⟨h.sta.le hc, h.len, h.rest⟩
/-- more is made behind -/
theorem Sta.app {c : Nat} {S : Sto} {u : D} (h : Sta c S) (hu : D.closed (S.length + 1) u = true) : Sta c (S ++ [u]) := by
  obtain ⟨ns, rs, a, h1, h2, h3, h4, h5⟩ := h.ex
  have l := h.len
  exact ⟨⟨ns, rs, a, by rw [List.getElem?_append_left (by omega)]; exact h1, by rw [List.getElem?_append_left (by omega)]; exact h2, h3, h4, h5⟩, sane_app h.sane hu⟩
/-- the mixing -/
theorem mixed_post {ns : List Int} {a many : Int} {S : Sto} {o4 : Option D} (hS : Sane S) (h0 : 0 ≤ a) (h1 : a < 2 ^ 60) (hm : 0 < many) {T : D → Sto → Prop} (hT : ∀ i, 0 ≤ i → i < many → T (.int i) S) :
    ((sSeq (sAsg (rIf (bVal (rBin gNe (rVar 3) (rKeep (rLst rNil)))) (rBin gIx (rVar 3) (rBin gMod (rVar 2) (rAs gLen (rCons (rVar 3) rNil)))) (rC (.int 0))) (gName 5))
    (sSeq (sAsg (rBin gMod (rBin gAdd (rBin gAdd (rBin gMul (rBin gMod (rVar 5) (rC (.int 2147483629))) (rC (.int 48271))) (rBin gMul (rBin gMul (rC (.int 69621)) (rVar 2)) (rVar 2))) (rC (.int 104729))) (rC (.int 2147483647))) (gName 6))
    (sSeq (sAsg (rBin gMod (rBin gMul (rVar 6) (rBin gAdd (rC (.int 16807)) (rBin gMul (rC (.int 2)) (rVar 2)))) (rC (.int 2147483629))) (gName 6))
    (sRet (rBin gMod (rBin gDiv (rBin gMod (rBin gMul (rVar 6) (rVar 6)) (rC (.int 1000000007))) (rC (.int 7))) (rVar 1)))))) [some (.ptr 1), some (.int many), some (.int a), some (.lst (ns.map .int)), o4, none, none] S).post NoS T NoS NoS := by
  have tail : ∀ cell : Int, ((sSeq (sAsg (rBin gMod (rBin gAdd (rBin gAdd (rBin gMul (rBin gMod (rVar 5) (rC (.int 2147483629))) (rC (.int 48271))) (rBin gMul (rBin gMul (rC (.int 69621)) (rVar 2)) (rVar 2))) (rC (.int 104729))) (rC (.int 2147483647))) (gName 6))
    (sSeq (sAsg (rBin gMod (rBin gMul (rVar 6) (rBin gAdd (rC (.int 16807)) (rBin gMul (rC (.int 2)) (rVar 2)))) (rC (.int 2147483629))) (gName 6))
    (sRet (rBin gMod (rBin gDiv (rBin gMod (rBin gMul (rVar 6) (rVar 6)) (rC (.int 1000000007))) (rC (.int 7))) (rVar 1))))) [some (.ptr 1), some (.int many), some (.int a), some (.lst (ns.map .int)), o4, some (.int cell), none] S).post NoS T NoS NoS := by
    intro cell
    repeat walk_at "2"
    refine o_mod (by decide) ?_
    repeat walk_at "2"
    refine o_mul (fits_r (by decide)) ?_
    repeat walk_at "2"
    refine o_mul (fits_l (by decide)) ?_
    repeat walk_at "2"
    refine o_mul (fits_r (by omega)) ?_
    repeat walk_at "2"
    refine o_mod (by decide) ?_
    generalize hx : (Int.fmod _ 2147483647 : Int) = x
    have x0 : 0 ≤ x ∧ x < 2147483647 := by
      rw [← hx, Int.fmod_eq_emod_of_nonneg _ (by decide)]
      exact ⟨Int.emod_nonneg _ (by decide), Int.emod_lt_of_pos _ (by decide)⟩
    repeat walk_at "2"
    refine o_mul (fits_l (by decide)) ?_
    repeat walk_at "2"
    refine o_mul (fits_l (by omega)) ?_
    repeat walk_at "2"
    refine o_mod (by decide) ?_
    generalize hy : (Int.fmod _ 2147483629 : Int) = y
    have y0 : 0 ≤ y ∧ y < 2147483629 := by
      rw [← hy, Int.fmod_eq_emod_of_nonneg _ (by decide)]
      exact ⟨Int.emod_nonneg _ (by decide), Int.emod_lt_of_pos _ (by decide)⟩
    repeat walk_at "2"
    refine o_mul (fits_l (by omega)) ?_
    repeat walk_at "2"
    refine o_mod (by decide) ?_
    repeat walk_at "2"
    refine o_div ⟨by decide, by decide⟩ ?_
    repeat walk_at "2"
    refine o_mod (by omega) ?_
    refine hT _ ?_ ?_
    · rw [Int.fmod_eq_emod_of_nonneg _ (by omega)]
      exact Int.emod_nonneg _ (by omega)
    · rw [Int.fmod_eq_emod_of_nonneg _ (by omega)]
      exact Int.emod_lt_of_pos _ hm
  repeat walk_at "2"
  with_reducible refine p_lst ?_
  repeat walk_at "2"
  refine o_neIs (ms := []) ?_
  repeat walk_at "2"
  refine ⟨fun h => ?_, fun h => ?_⟩
  · have h : ns ≠ [] := by simpa using h
    have hl : 0 < ns.length := List.length_pos_iff.mpr h
    repeat walk_at "2"
    refine o_mod (by rw [List.length_map]; omega) ?_
    rw [List.length_map]
    have e : ∃ v, atI (ns.map D.int) (Int.fmod a ns.length) = some (.int v) := by
      rw [Int.fmod_eq_emod_of_nonneg _ (by omega)]
      have g0 := Int.emod_nonneg a (show (ns.length : Int) ≠ 0 by omega)
      have g1 := Int.emod_lt_of_pos a (show (0 : Int) < ns.length by omega)
      generalize a % (ns.length : Int) = q at *
      have hq : q.toNat < ns.length := by omega
      refine ⟨ns[q.toNat], ?_⟩
      unfold atI ixN
      rw [List.length_map, if_pos g0, if_pos g1]
      show (ns.map D.int)[q.toNat]? = _
      rw [List.getElem?_map, List.getElem?_eq_getElem hq]
      rfl
    obtain ⟨v, ev⟩ := e
    refine o_ixL ev ?_
    refine s_name (Nat.le_of_ble_eq_true rfl) ?_
    exact tail v
  · refine p_c ?_
    refine s_name (Nat.le_of_ble_eq_true rfl) ?_
    exact tail 0
theorem put_at (ns : List Int) (a b : Int) : putU (stD ns a) (.str "at") (.int b) = some (stD ns b) := by
  unfold stD putU
  dsimp only
  rw [if_pos (show isKey (.str "at") = true from rfl)]
  show (if 3 < sizeLine then _ else _) = _
  rw [if_pos (by decide)]
  rfl
theorem sta_set {c : Nat} {S : Sto} {ns rs : List Int} {a : Int} (hS : Sane S) (h0 : S[0]? = some (.lst (rs.map .int))) (h1 : S[1]? = some (stD ns a)) (hl : rs.length = ns.length) (b : Int) (hb : 0 ≤ b) (hc : b ≤ c) (rs' : List Int) (hl' : rs'.length = rs.length) :
    Go c S ((S.set 1 (stD ns b)).set 0 (.lst (rs'.map .int))) ∧ Go c S (S.set 1 (stD ns b)) := by
  have l1 := (List.getElem?_eq_some_iff.mp h1).1
  have s1 : Sane (S.set 1 (stD ns b)) := sane_set hS (stD_closed (by omega) ns b)
  have s2 : Sane ((S.set 1 (stD ns b)).set 0 (.lst (rs'.map .int))) := sane_set s1 (by unfold D.closed; exact closed_ints' _)
  refine ⟨⟨⟨⟨ns, rs', b, ?_, ?_, by omega, hb, hc⟩, s2⟩, by rw [List.length_set, List.length_set], fun k hk => ?_⟩, ⟨⟨⟨ns, rs, b, ?_, ?_, hl, hb, hc⟩, s1⟩, by rw [List.length_set], fun k hk => ?_⟩⟩
  · rw [List.getElem?_set_self (by rw [List.length_set]; omega)]
  · rw [List.getElem?_set_ne (by decide), List.getElem?_set_self l1]
  · rw [List.getElem?_set_ne (by omega), List.getElem?_set_ne (by omega)]
  · rw [List.getElem?_set_ne (by decide)]; exact h0
  · rw [List.getElem?_set_self l1]
  · rw [List.getElem?_set_ne (by omega)]
theorem draw_spec {c : Nat} {S : Sto} (h : Sta c S) (hc : c < 2 ^ 50) (many : Int) (hm : 0 < many) (hb : many < 2 ^ 64) : (m__law_draw [.ptr 1, .int many] S).post fun d S' => ∃ i, d = .int i ∧ 0 ≤ i ∧ i < many ∧ Go (c + 1) S S' := by
  obtain ⟨ns, rs, a, h0, h1, hl, ha, hac⟩ := h.ex
  have l2 := h.len
  have hlog : many.natAbs.log2 < 9000 := log_of (b := 64) (by omega) (by decide)
  refine m_defR ?_
  show (b__law_draw [some (.ptr 1), some (.int many), none, none, none, none, none] S).post _ _ _ _
  unfold b__law_draw
  repeat walk_at "2"
  refine o_getU (v := .int a) h1 rfl rfl ?_
  repeat walk_at "2"
  refine s_putU ?_
  repeat walk_at "2"
  refine ⟨1, _, _, rfl, h1, put_at ns a (a + 1), ?_⟩
  obtain ⟨_, g1⟩ := sta_set (c := c + 1) h.sane h0 h1 hl (a + 1) (by omega) (by omega) rs rfl
  obtain ⟨ns', rs', b', k0, k1, _⟩ := g1.sta.ex
  have k1 : (S.set 1 (stD ns (a + 1)))[1]? = some (stD ns (a + 1)) := List.getElem?_set_self (by omega)
  have k0 : (S.set 1 (stD ns (a + 1)))[0]? = some (.lst (rs.map .int)) := by rw [List.getElem?_set_ne (by decide)]; exact h0
  repeat walk_at "2"
  refine o_getU (v := .lst (ns.map .int)) k1 rfl rfl ?_
  repeat walk_at "2"
  refine o_getU (v := .ptr 0) k1 rfl rfl ?_
  repeat walk_at "2"
  with_reducible refine p_lst ?_
  repeat walk_at "2"
  refine o_neg_ (u := .list (rs.map .int)) (v := .list ([].map .int)) (by rw [deref_at k0]; show (toPys _ _).map PyData.list = _; rw [toPys_ints]; rfl) rfl (shaped_ints rs).1 (shaped_ints []).1 ?_
  have ev : PyData.eqv (.list (rs.map .int)) (.list ([].map .int)) = decide (rs = []) := by
    simp only [PyData.eqv, eqvAll_ints]
  rw [ev]
  have fin : ∀ {o4 : Option D} {T : D → Sto → Prop}, (∀ i, 0 ≤ i → i < many → T (.int i) (S.set 1 (stD ns (a + 1)))) → _ := fun {o4} {T} hT => mixed_post (ns := ns) (a := a) (many := many) (o4 := o4) (T := T) g1.sta.sane ha (by omega) hm hT
  have done : ∀ i : Int, 0 ≤ i → i < many → (S.set 1 (stD ns (a + 1))).length = S.length ∧ Sane (S.set 1 (stD ns (a + 1))) ∧ D.closed S.length (.int i) = true ∧ ∃ i_1, D.int i = .int i_1 ∧ 0 ≤ i_1 ∧ i_1 < many ∧ Go (c + 1) S (S.set 1 (stD ns (a + 1))) := fun i hi1 hi2 => ⟨g1.len, g1.sta.sane, rfl, i, rfl, hi1, hi2, g1⟩
  repeat walk_at "2"
  refine ⟨fun hr => ?_, fun hr => ?_⟩
  · have hr : rs ≠ [] := by simpa using hr
    have hp : 0 < rs.length := List.length_pos_iff.mpr hr
    repeat walk_at "2"
    refine o_getU (v := .ptr 0) k1 rfl rfl ?_
    repeat walk_at "2"
    refine o_mod (by rw [List.length_map]; omega) ?_
    rw [List.length_map, ← hl]
    have e : ∃ (j : Nat) (v : Int), ixN rs.length (Int.fmod a rs.length) = some j ∧ (rs.map D.int)[j]? = some (.int v) := by
      rw [Int.fmod_eq_emod_of_nonneg _ (by omega)]
      have g0 := Int.emod_nonneg a (show (rs.length : Int) ≠ 0 by omega)
      have g1 := Int.emod_lt_of_pos a (show (0 : Int) < rs.length by omega)
      generalize a % (rs.length : Int) = q at *
      have hq : q.toNat < rs.length := by omega
      refine ⟨q.toNat, rs[q.toNat], ?_, ?_⟩
      · unfold ixN
        rw [if_pos g0, if_pos g1]
      · rw [List.getElem?_map, List.getElem?_eq_getElem hq]
        rfl
    obtain ⟨j, v, ej, evj⟩ := e
    refine p_lift (show gIx (S.set 1 (stD ns (a + 1))) (.ptr 0) (.int (Int.fmod a rs.length)) = some (.int v) by
      unfold gIx
      rw [deref_at k0]
      dsimp only
      unfold atI
      rw [List.length_map, ej]
      exact evj) ?_
    refine s_name (Nat.le_of_ble_eq_true rfl) ?_
    dsimp only [List.set_cons_zero, List.set_cons_succ]
    refine s_seq ?_
    refine s_if ?_
    repeat walk_at "2"
    refine ⟨fun hv => ?_, fun hv => ?_⟩
    · refine s_seq ?_
      refine s_setL ?_
      repeat walk_at "2"
      refine o_div ⟨by omega, hlog⟩ ?_
      repeat walk_at "2"
      refine o_getU (v := .ptr 0) k1 rfl rfl ?_
      repeat walk_at "2"
      refine o_mod (by rw [List.length_map]; omega) ?_
      rw [List.length_map, ← hl]
      refine ⟨0, _, _, j, rfl, rfl, k0, by rw [List.length_map]; exact ej, ?_⟩
      rw [set_ints]
      obtain ⟨g2, _⟩ := sta_set (c := c + 1) h.sane h0 h1 hl (a + 1) (by omega) (by omega) (rs.set j (Int.fdiv v many)) (by rw [List.length_set])
      repeat walk_at "2"
      refine o_mod (by omega) ?_
      have r0 : 0 ≤ Int.fmod v many ∧ Int.fmod v many < many := by
        rw [Int.fmod_eq_emod_of_nonneg _ (by omega)]
        exact ⟨Int.emod_nonneg _ (by omega), Int.emod_lt_of_pos _ hm⟩
      exact ⟨g2.len, g2.sta.sane, rfl, _, rfl, r0.1, r0.2, g2⟩
    · refine s_next ?_
      exact fin done
  · refine p_c ?_
    refine s_name (Nat.le_of_ble_eq_true rfl) ?_
    dsimp only [List.set_cons_zero, List.set_cons_succ]
    refine s_seq ?_
    refine s_if ?_
    refine p_val ?_
    refine p_bin ?_
    refine p_var rfl ?_
    refine p_c ?_
    refine o_gtU ?_
    refine ⟨_, rfl, (fun hv => absurd (of_decide_eq_true hv) (by decide)), fun _ => ?_⟩
    refine s_next ?_
    exact fin done
/-- what was there ahead goes on -/
theorem go_take {c : Nat} {S S1 : Sto} (hS : Sane S) (h2 : 2 ≤ S.length) (h : Sta c S1) (hl : S.length ≤ S1.length) (hr : ∀ k, 2 ≤ k → k < S.length → S1[k]? = S[k]?) : Go c S (S1.take S.length) := by
  obtain ⟨ns, rs, a, e0, e1, q⟩ := h.ex
  have tk : ∀ k, k < S.length → (S1.take S.length)[k]? = S1[k]? := fun k hk => by rw [List.getElem?_take, if_pos hk]
  have ln : (S1.take S.length).length = S.length := by rw [List.length_take]; omega
  refine ⟨⟨⟨ns, rs, a, by rw [tk 0 (by omega)]; exact e0, by rw [tk 1 (by omega)]; exact e1, q⟩, ?_⟩, ln, fun k hk => ?_⟩
  · unfold Sane
    rw [ln]
    refine closedL_iff.mpr fun i x hx => ?_
    have hi : i < S.length := by
      have := (List.getElem?_eq_some_iff.mp hx).1
      omega
    rw [tk i hi] at hx
    rcases (by omega : i = 0 ∨ i = 1 ∨ 2 ≤ i) with rfl | rfl | h3
    · rw [e0] at hx
      cases hx
      unfold D.closed
      exact closed_ints' _
    · rw [e1] at hx
      cases hx
      exact stD_closed (by omega) ns a
    · rw [hr i h3 hi] at hx
      exact closedL_iff.mp hS i x hx
  · by_cases h3 : k < S.length
    · rw [tk k h3, hr k hk h3]
    · rw [List.getElem?_eq_none (by omega), List.getElem?_eq_none (by omega)]
theorem m_defG {n c : Nat} {b : RS} {ds : List D} {S : Sto} {Q : D → Sto → Prop} (h : (b (ds.map some ++ List.replicate (n - ds.length) none) S).post NoS (fun z S1 => D.closed S.length z = true ∧ Go c S (S1.take S.length) ∧ Q z (S1.take S.length)) NoS NoS) : (mDef n b ds S).post Q :=
  m_def (h.mono (fun _ _ z => z.elim) (fun z S1 ⟨e1, e2, e3⟩ => by
    have e4 : closedL S.length (S1.take S.length) = true := by
      have := e2.sta.sane
      unfold Sane at this
      rwa [e2.len] at this
    rw [e1, e4]
    exact ⟨rfl, e3⟩) (fun _ _ z => z) (fun _ _ z => z))
theorem of_spec {c : Nat} {S : Sto} (h : Sta c S) (hc : c < 2 ^ 50) {xs : List D} (h0 : xs ≠ []) (hl : xs.length ≤ 2000) (hx : ∀ x ∈ xs, D.closed S.length x = true) : (m__law_of [.ptr 1, .lst xs] S).post fun d S' => d ∈ xs ∧ Go (c + 1) S S' := by
  refine m_defR ?_
  show (b__law_of [some (.ptr 1), some (.lst xs)] S).post _ _ _ _
  unfold b__law_of
  repeat walk_at "2"
  have hp : 0 < xs.length := List.length_pos_iff.mpr h0
  refine (draw_spec h hc xs.length (by omega) (by omega)).mono ?_
  rintro d S1 ⟨i, rfl, i0, i1, g⟩
  have hi : i.toNat < xs.length := by omega
  refine o_ixL (d := xs[i.toNat]) ?_ ?_
  · unfold atI ixN
    rw [if_pos i0, if_pos i1]
    show xs[i.toNat]? = _
    rw [List.getElem?_eq_getElem hi]
  · have hm : xs[i.toNat] ∈ xs := List.getElem_mem hi
    exact ⟨g.len, g.sta.sane, hx _ hm, hm, g⟩
theorem lcommon_spec (a b : Nat) (S : Sto) (hS : Sane S) : m__law_common [.int a, .int b] S = .ok (.int (Nat.gcd a b)) S := by
  refine m_defS hS rfl ?_
  show (b__law_common [some (.int a), some (.int b)] S).post _ _ _ _
  unfold b__law_common
  repeat walk_at "2"
  refine s_whileL (fun n δ S1 => S1 = S ∧ ∃ x y : Nat, y ≤ n ∧ Nat.gcd x y = Nat.gcd a b ∧ δ = [some (.int x), some (.int y)]) ?_ b _ _ _ ⟨rfl, a, b, Nat.le_refl _, rfl, rfl⟩ (by show b < (b : Int).natAbs + 1; omega)
  rintro n δ S1 ⟨rfl, x, y, hn, hg, rfl⟩
  repeat walk_at "2"
  constructor
  · intro h
    have h : (0 : Int) < y := of_decide_eq_true h
    have hy : 0 < y := by omega
    obtain ⟨m, rfl⟩ : ∃ m, n = m + 1 := ⟨n - 1, by omega⟩
    refine ⟨m, rfl, ?_⟩
    repeat walk_at "2"
    refine o_mod (by omega) ?_
    repeat walk_at "2"
    have e : Int.fmod x y = ((x % y : Nat) : Int) := by rw [Int.fmod_eq_emod_of_nonneg _ (by omega)]; rfl
    have l : x % y < y := Nat.mod_lt _ hy
    refine ⟨rfl, y, x % y, by omega, ?_, by rw [e]⟩
    rw [← hg, Nat.gcd_comm y, ← Nat.gcd_rec, Nat.gcd_comm]
  · intro h
    have h : ¬ (0 : Int) < y := of_decide_eq_false h
    have hy : y = 0 := by omega
    subst hy
    repeat walk_at "2"
    have e : x = Nat.gcd a b := by rw [← hg, Nat.gcd_zero_right]
    rw [e]
    exact ⟨rfl, rfl⟩
/-- a fraction by the law's own way -/
theorem lshare_spec (a b : Int) (hb : 0 < b) (hl : b.natAbs < 2 ^ 8990) (S : Sto) (hS : Sane S) : m__law_share [.int a, .int b] S = .ok (toD ((a : Rat) / (b : Rat))) S := by
  obtain ⟨k, rfl⟩ : ∃ k : Nat, b = k := ⟨b.toNat, by omega⟩
  have hg : 0 < Nat.gcd a.natAbs k := Nat.gcd_pos_of_pos_right _ (by omega)
  have hgk : Nat.gcd a.natAbs k ≤ k := Nat.gcd_le_right _ (by omega)
  have lg : ((Nat.gcd a.natAbs k : Nat) : Int).natAbs.log2 < 9000 := log_of (b := 8990) (by have : (k : Int).natAbs = k := rfl; omega) (by decide)
  have e := rat_of (a := a) (b := k) hb
  have eg : (Int.gcd a k : Int) = (Nat.gcd a.natAbs k : Nat) := rfl
  rw [toD_rat, e.1, e.2, eg]
  refine m_defS hS rfl ?_
  show (b__law_share [some (.int a), some (.int k), none] S).post _ _ _ _
  unfold b__law_share
  walk_at "3"
  refine Res.post.of_eq (lcommon_spec a.natAbs k S hS) ?_
  walk_at "3"
  refine o_div ⟨by omega, lg⟩ ?_
  walk_at "3"
  refine o_div ⟨by omega, lg⟩ ?_
  walk_at "3"
  exact ⟨rfl, rfl⟩
theorem number_spec {c : Nat} {S : Sto} (h : Sta c S) (hc : c < 2 ^ 40) : (m__law_number [.ptr 1] S).post fun d S' => ∃ i : Int, d = .int i ∧ i ≠ 0 ∧ i.natAbs ≤ 10 ^ 21 ∧ Go (c + 4) S S' := by
  refine m_defR ?_
  show (b__law_number [some (.ptr 1), none, none] S).post _ _ _ _
  unfold b__law_number
  walk_at "3"
  refine (draw_spec h (by omega) 12 (by decide) (by decide)).mono ?_
  rintro _ S1 ⟨i1, rfl, a1, b1, g1⟩
  walk_at "3"
  refine pow6 (δ := []) (n := 6) (by decide) ?_
  walk_at "3"
  refine (draw_spec g1.sta (by omega) (10 ^ 6) (by decide) (by decide)).mono ?_
  rintro _ S2 ⟨i2, rfl, a2, b2, g2⟩
  walk_at "3"
  refine pow6 (δ := []) (n := 20) (by decide) ?_
  walk_at "3"
  refine pow6 (δ := []) (n := 6) (by decide) ?_
  walk_at "3"
  refine (draw_spec g2.sta (by omega) (10 ^ 6) (by decide) (by decide)).mono ?_
  rintro _ S3 ⟨i3, rfl, a3, b3, g3⟩
  walk_at "3"
  have g := (g1.trans g2).trans g3
  refine (of_spec g3.sta (by omega) (xs := [.int 1, .int (-1), .int 2, .int 3, .int (-5), .int i1, .int (0 - i2), .int (10 ^ 20 + i3)]) (by simp) (by simp) (fun x hx => by
    have : ∃ i, x = .int i := by
      simp only [List.mem_cons, List.not_mem_nil, or_false] at hx
      rcases hx with rfl | rfl | rfl | rfl | rfl | rfl | rfl | rfl <;> exact ⟨_, rfl⟩
    obtain ⟨i, rfl⟩ := this
    rfl)).mono ?_
  rintro d S4 ⟨hd, g4⟩
  have hd : ∃ i : Int, d = .int i ∧ i.natAbs ≤ 10 ^ 21 := by
    simp only [List.mem_cons, List.not_mem_nil, or_false] at hd
    rcases hd with rfl | rfl | rfl | rfl | rfl | rfl | rfl | rfl
    · exact ⟨_, rfl, by decide⟩
    · exact ⟨_, rfl, by decide⟩
    · exact ⟨_, rfl, by decide⟩
    · exact ⟨_, rfl, by decide⟩
    · exact ⟨_, rfl, by decide⟩
    · exact ⟨_, rfl, by omega⟩
    · exact ⟨_, rfl, by omega⟩
    · exact ⟨_, rfl, by omega⟩
  obtain ⟨i, rfl, hi⟩ := hd
  have gg := g.trans g4
  walk_at "3"
  refine ⟨fun z => ?_, fun _ => ?_⟩
  · walk_at "3"
    exact ⟨gg.len, gg.sta.sane, rfl, i, rfl, by simpa using z, hi, gg.le (by omega)⟩
  · walk_at "3"
    exact ⟨gg.len, gg.sta.sane, rfl, 4, rfl, by decide, by decide, gg.le (by omega)⟩
theorem base_spec {c : Nat} {S : Sto} (h : Sta c S) (hc : c < 2 ^ 40) : (m__law_base [.ptr 1] S).post fun d S' => ∃ i : Int, d = .int i ∧ i.natAbs ≤ 10 ^ 10 ∧ Go (c + 2) S S' := by
  refine m_defR ?_
  show (b__law_base [some (.ptr 1)] S).post _ _ _ _
  unfold b__law_base
  walk_at "3"
  refine pow6 (δ := []) (n := 9) (by decide) ?_
  walk_at "3"
  refine (draw_spec h (by omega) (10 ^ 9) (by decide) (by decide)).mono ?_
  rintro _ S1 ⟨i1, rfl, a1, b1, g1⟩
  walk_at "3"
  refine pow6 (δ := []) (n := 8) (by decide) ?_
  walk_at "3"
  refine (of_spec g1.sta (by omega) (xs := [.int 0, .int 0, .int 1, .int 1, .int (-1), .int 2, .int (-2), .int 3, .int (-7), .int 10, .int (i1 - 10 ^ 8)]) (by simp) (by simp) (fun x hx => by
    have : ∃ i, x = .int i := by
      simp only [List.mem_cons, List.not_mem_nil, or_false] at hx
      rcases hx with rfl | rfl | rfl | rfl | rfl | rfl | rfl | rfl | rfl | rfl | rfl <;> exact ⟨_, rfl⟩
    obtain ⟨i, rfl⟩ := this
    rfl)).mono ?_
  rintro d S4 ⟨hd, g4⟩
  have hd : ∃ i : Int, d = .int i ∧ i.natAbs ≤ 10 ^ 10 := by
    simp only [List.mem_cons, List.not_mem_nil, or_false] at hd
    rcases hd with rfl | rfl | rfl | rfl | rfl | rfl | rfl | rfl | rfl | rfl | rfl
    all_goals first | exact ⟨_, rfl, by decide⟩ | exact ⟨_, rfl, by omega⟩
  obtain ⟨i, rfl, hi⟩ := hd
  have gg := g1.trans g4
  exact ⟨gg.len, gg.sta.sane, rfl, i, rfl, hi, gg.le (by omega)⟩
/-! ### products of boxes that are drawn -/
/-- the boxes that are drawn -/
def fiveB : List Str := ["gull", "x", "arc", "zz", "b"]
def nice (x : Str) : Bool := (decide (x.length ≤ 8) && x.cps.toList.all fun c => decide (c < 128)) && decide (x ∈ fiveB)
def degT (m : Mono) : Int := (m.map (·.2)).sum
structure MonG (t : Nat) (m : Mono) : Prop where
  nd : ND m
  nc : ∀ p ∈ m, nice p.1 = true ∧ 1 ≤ p.2
  dg : degT m = t
theorem repl_deg (m : Mono) (k : Str) (v : Int) (hn : ND m) {w : Int} (h : getT m k = some w) : degT (replT m k v) = degT m + v - w := by
  induction m with
  | nil => cases h
  | cons p r ih =>
    obtain ⟨k', v'⟩ := p
    unfold ND at hn
    rw [List.map_cons, List.nodup_cons] at hn
    rw [getT_cons] at h
    unfold replT
    by_cases e : k' = k
    · subst e
      rw [if_pos rfl] at h
      cases h
      rw [if_pos rfl]
      have : replT r k' v = r := by
        have hk := hn.1
        clear ih hn
        induction r with
        | nil => rfl
        | cons q s ih =>
          obtain ⟨k2, v2⟩ := q
          rw [List.map_cons, List.mem_cons, not_or] at hk
          unfold replT
          rw [if_neg (Ne.symm hk.1), ih hk.2]
      rw [this]
      unfold degT
      simp only [List.map_cons, List.sum_cons]
      omega
    · rw [if_neg e] at h ⊢
      have := ih hn.2 h
      unfold degT at this ⊢
      simp only [List.map_cons, List.sum_cons]
      omega
theorem put_deg (m : Mono) (k : Str) (hn : ND m) : degT (putT m k ((getT m k).getD 0 + 1)) = degT m + 1 := by
  unfold putT
  cases e : getT m k with
  | some w =>
    rw [if_pos (show (some w).isSome = true from rfl), repl_deg m k _ hn e]
    show degT m + (w + 1) - w = _
    omega
  | none =>
    rw [if_neg (show ¬ (none : Option Int).isSome = true by decide)]
    unfold degT
    rw [List.map_append, List.sum_append]
    simp
theorem deg_pos {m : Mono} (h : ∀ p ∈ m, nice p.1 = true ∧ 1 ≤ p.2) : (m.length : Int) ≤ degT m ∧ ∀ p ∈ m, p.2 ≤ degT m := by
  induction m with
  | nil => exact ⟨Int.le_refl _, fun _ z => nomatch z⟩
  | cons p r ih =>
    obtain ⟨h1, h2⟩ := ih fun q hq => h q (List.mem_cons_of_mem _ hq)
    have h3 := (h p List.mem_cons_self).2
    unfold degT at *
    simp only [List.map_cons, List.sum_cons, List.length_cons]
    refine ⟨by omega, fun q hq => ?_⟩
    rcases List.mem_cons.mp hq with rfl | hq
    · omega
    · have := h2 q hq; omega
theorem deg_perm {m n : Mono} (h : m.Perm n) : degT m = degT n := by
  unfold degT
  have := h.map (·.2)
  generalize m.map (·.2) = a at this
  generalize n.map (·.2) = b at this
  induction this with
  | nil => rfl
  | cons x _ ih => simp only [List.sum_cons, ih]
  | swap x y l => simp only [List.sum_cons]; omega
  | trans _ _ h1 h2 => exact h1.trans h2
theorem five_nice {d : D} (h : d ∈ ([.str "gull", .str "x", .str "arc", .str "zz", .str "b"] : List D)) : ∃ x, d = .str x ∧ nice x = true := by
  simp only [List.mem_cons, List.not_mem_nil, or_false] at h
  rcases h with rfl | rfl | rfl | rfl | rfl <;> exact ⟨_, rfl, by decide +kernel⟩
/-- a product that is drawn: in order, of degree up to n -/
structure MonO (n : Nat) (m : Mono) : Prop where
  inc : Inc m
  nc : ∀ p ∈ m, nice p.1 = true ∧ 1 ≤ p.2
  dg : degT m ≤ n
theorem mono_spec {c : Nat} {S : Sto} (h : Sta c S) (hc : c < 2 ^ 40) (n : Nat) (hn : n ≤ 100) : (m__law_mono [.ptr 1, .int n] S).post fun d S' => ∃ m : Mono, d = toD m ∧ MonO n m ∧ Go (c + n + 2) S S' := by
  refine m_defG (c := c + n + 2) ?_
  show (b__law_mono [some (.ptr 1), some (.int n), none, none, none] S).post _ _ _ _
  unfold b__law_mono
  have l2 := h.len
  have h1 : Sta c (S ++ [.dct []]) := h.app rfl
  walk_at "3"
  with_reducible refine p_range1 ?_
  walk_at "3"
  refine (draw_spec h1 (by omega) (n + 1) (by omega) (by omega)).mono ?_
  rintro _ S1 ⟨j, rfl, j0, j1, g1⟩
  walk_at "3"
  refine ⟨by omega, by omega, ?_⟩
  have e0 : S1[S.length]? = some (.dct []) := by rw [g1.rest _ l2]; exact get_app
  refine s_forL (fun xs δ S2 => ∃ t u kvs, xs.length + t ≤ n ∧ Sta (c + 1 + t) S2 ∧ S2.length = S.length + 1 ∧ S2[S.length]? = some u ∧ IsDic u kvs ∧ MonG t kvs ∧ (∀ k, 2 ≤ k → k < S.length → S2[k]? = S[k]?) ∧ ∃ o3 o4, δ = [some (.ptr 1), some (.int n), some (.ptr S.length), o3, o4]) ?_ ?_ _ _ _ ⟨0, _, [], ?_, g1.sta, ?_, e0, isDic_nil, ⟨List.nodup_nil, (fun _ z => nomatch z), rfl⟩, ?_, _, _, rfl⟩
  · rintro x xs δ S2 ⟨t, u, kvs, ht, hs, hl, hk, hu, kv, hr, o3, o4, rfl⟩
    rw [List.length_cons] at ht
    walk_at "3"
    refine (of_spec hs (by omega) (by simp) (by simp) (fun y hy => by
      obtain ⟨z, rfl, _⟩ := five_nice hy
      rfl)).mono ?_
    rintro d S3 ⟨hd, g3⟩
    obtain ⟨z, rfl, nz⟩ := five_nice hd
    have hk3 : S3[S.length]? = some u := by rw [g3.rest _ l2]; exact hk
    walk_at "3"
    refine s_putU ?_
    walk_at "3"
    refine p_get2 ?_
    walk_at "3"
    refine ⟨dic_isDct hu hk3, ?_⟩
    walk_at "3"
    refine ⟨_, dic_lookU hu hk3 z, ?_⟩
    have ev : ((getT kvs z).map toD).getD (.int 0) = .int ((getT kvs z).getD 0) := by cases getT kvs z <;> rfl
    rw [ev]
    walk_at "3"
    have sl : 1000 ≤ sizeLine := by decide
    have dp := deg_pos kv.nc
    have hdg := kv.dg
    obtain ⟨u', e', hu'⟩ := dic_putU hu (by omega) z ((getT kvs z).getD 0 + 1)
    refine ⟨S.length, u, u', rfl, hk3, e', ?_⟩
    have hl3 : S3.length = S.length + 1 := g3.len.trans hl
    obtain ⟨ns, rs, a, q0, q1, q2⟩ := g3.sta.ex
    have ge : 0 ≤ (getT kvs z).getD 0 := by
      cases e : getT kvs z with
      | none => exact Int.le_refl _
      | some w =>
        have := (kv.nc _ (getT_mem e)).2
        show 0 ≤ w
        omega
    refine ⟨t + 1, u', _, by omega, ⟨⟨ns, rs, a, ?_, ?_, q2⟩, sane_set g3.sta.sane (isDic_closed hu' _)⟩, by rw [List.length_set]; exact hl3, List.getElem?_set_self (by omega), hu', ⟨nd_put kv.nd _ _, put_all kv.nc ⟨nz, by show 1 ≤ (getT kvs z).getD 0 + 1; omega⟩, by rw [put_deg _ _ kv.nd, kv.dg]; rfl⟩, fun k k1 k2 => ?_, _, _, rfl⟩
    · rw [List.getElem?_set_ne (by omega)]; exact q0
    · rw [List.getElem?_set_ne (by omega)]; exact q1
    · rw [List.getElem?_set_ne (by omega), g3.rest k k1]; exact hr k k1 k2
  · rintro δ S2 ⟨t, u, kvs, ht, hs, hl, hk, hu, kv, hr, o3, o4, rfl⟩
    have tn : t ≤ n := by simpa using ht
    have sl : 2000 ≤ sizeLine := by decide
    have dp := deg_pos kv.nc
    have hdg := kv.dg
    walk_at "3"
    refine p_sortIt ?_
    walk_at "3"
    refine ⟨(srt kvs).map toD, ?_, ?_⟩
    · rw [dic_itemsOf hu hk]
      show sortD S2 (kvs.map toD) = _
      exact sortD_emb S2 kvs (by omega)
    · walk_at "3"
      refine p_lift (show gTuple S2 [.lst ((srt kvs).map toD)] = some (.tup ((srt kvs).map toD)) from rfl) ?_
      have gg : Go (c + n + 2) S (S2.take S.length) := go_take h.sane l2 (hs.le (by omega)) (by omega) hr
      exact ⟨cl (κ := Mono) _ (srt kvs), gg, srt kvs, rfl, ⟨inc_srt kv.nd, fun p hp => kv.nc p (srt_mem.mp hp), by rw [deg_perm (srt_perm kvs)]; omega⟩, gg⟩
  · unfold rangeD
    rw [List.length_map, List.length_range]
    omega
  · rw [g1.len, List.length_append]; rfl
  · intro k k1 k2
    rw [g1.rest k k1, List.getElem?_append_left k2]
end DL
set_option Elab.async false
set_option linter.all false
set_option maxRecDepth 100000
set_option maxHeartbeats 4000000
set_option autoImplicit false
/-! Rows of fractions, by the law. -/
namespace DL
open PySem L2
open Emb
local macro_rules | `(tactic| walk_at "1") => `(tactic| with_reducible first
  | refine s_seq ?_ | refine s_asg ?_ | refine s_ret ?_ | refine s_if ?_ | refine s_expr ?_ | refine s_next ?_ | refine s_brk ?_ | refine s_cont ?_ | refine s_for ?_ | refine s_while ?_
  | refine p_c ?_ | refine p_bin ?_ | refine p_as ?_ | refine p_cons ?_ | refine p_nil ?_ | refine p_un ?_ | refine p_call ?_ | refine p_if ?_ | refine p_own ?_
  | refine p_keep ?_ | refine p_tru ?_ | refine p_and ?_ | refine p_or ?_ | refine p_not ?_ | refine p_val ?_ | refine p_rand ?_ | refine p_ror ?_ | refine p_rnot ?_ | refine p_chain ?_ | refine p_bif ?_
  | refine o_add ?_ | refine o_sub ?_ | refine o_ltU ?_ | refine o_leU ?_ | refine o_gtU ?_ | refine o_geU ?_ | refine o_neg ?_ | refine o_eqI ?_ | refine o_neI ?_ | refine o_abs ?_ | refine o_tru ?_ | refine p_true ?_ | refine p_false ?_
  | refine o_lenT ?_ | refine o_lenL ?_ | refine o_ix0 ?_ | refine o_ix1 ?_ | refine o_ix2 ?_ | refine o_ix0L ?_ | refine o_ix1L ?_ | refine o_ix2L ?_
  | refine s_par ?_ | refine p_yes ?_ | refine p_seq ?_ | refine s_gnil ?_ | refine s_gcons ?_ | refine s_gtux ?_ | refine s_gtupl ?_ | refine p_onone ?_ | refine p_osome ?_ | refine p_get2 ?_ | refine s_putU ?_ | refine p_sortIt ?_)
local macro_rules | `(tactic| walk_at "2") => `(tactic| first
  | walk_at "1"
  | (with_reducible refine p_var2 ?_)
  | ((with_reducible refine s_name ?_ ?_); (· exact Nat.le_of_ble_eq_true rfl); dsimp only [List.set_cons_zero, List.set_cons_succ])
  | (with_reducible refine p_tup ?_) | (with_reducible refine p_lst ?_) | ((with_reducible refine ⟨?_, ?_⟩); (· exact Nat.le_of_ble_eq_true rfl))
  | ((with_reducible refine p_ex2 (x := ?_) (y := ?_) ?_ ?_); rotate_left; rotate_left; (· rfl); refine ⟨?_, ?_, ?_⟩; (· exact Nat.le_of_ble_eq_true rfl); (· exact Nat.le_of_ble_eq_true rfl); dsimp only [List.set_cons_zero, List.set_cons_succ])
  | ((with_reducible refine p_isT ?_ ?_); (· rfl)) | ((with_reducible refine p_isF ?_ ?_); (· rfl))
  | ((with_reducible refine p_ex (x := ?_) ?_ ?_); rotate_left; (· rfl)))
local macro_rules | `(tactic| walk_at "3") => `(tactic| repeat walk_at "2")
/-! ### comprehensions over rows of pairs -/
section
variable {κ ν β : Type} [Emb κ] [Emb ν]
def in2 (δ : Sl) (a b : Nat) (x y : D) : Sl := ((wipeD δ [a, b]).set a (some x)).set b (some y)
theorem wipe_len : ∀ (vs : List Nat) (δ : Sl), (wipeD δ vs).length = δ.length
  | [], _ => rfl
  | v :: vs, δ => by show ((wipeD δ vs).set v none).length = _; rw [List.length_set, wipe_len vs δ]
theorem g2 {δ : Sl} {S : Sto} {a b : Nat} {x y : D} (ha : a < δ.length) (hb : b < δ.length) (t : List D → D) (ht : t = D.tup ∨ t = D.tux) : gTup (gCons (gName a) (gCons (gName b) gNil)) (t [x, y]) (wipeD δ [a, b]) S = .ok (in2 δ a b x y) S := by
  have e : gTup (gCons (gName a) (gCons (gName b) gNil)) (t [x, y]) (wipeD δ [a, b]) S = gCons (gName a) (gCons (gName b) gNil) [x, y] (wipeD δ [a, b]) S := by rcases ht with rfl | rfl <;> rfl
  rw [e]
  show (gName a x (wipeD δ [a, b]) S).bind (fun δ1 S1 => (gName b y δ1 S1).bind fun δ2 S2 => Res.ok δ2 S2) = _
  unfold gName
  rw [if_pos (by rw [wipe_len]; exact ha)]
  show (Res.bind (if b < ((wipeD δ [a, b]).set a (some x)).length then Res.ok _ S else .stuck) _) = _
  rw [if_pos (by rw [List.length_set, wipe_len]; exact hb)]
  rfl
theorem p_lcRows (rows : List (κ × ν)) (f : κ × ν → β) (tb : β → D) {a b : Nat} {it : RA} {e : RE} {δ : Sl} {S : Sto} {Q : D → Sto → Prop} (hi : it δ S = .ok (rows.map toD) S) (ha : a < δ.length) (hb : b < δ.length) (hl : rows.length ≤ sizeLine)
    (he : ∀ p ∈ rows, e (in2 δ a b (toD p.1) (toD p.2)) S = .ok (tb (f p)) S) (h : Q (.lst ((rows.map f).map tb)) S) : (rLc it (gTup (gCons (gName a) (gCons (gName b) gNil))) [a, b] bYes e δ S).post Q := by
  refine p_lc ?_
  refine Res.post.of_eq hi ?_
  refine Res.post.of_eq (lcTm toD tb f fun p hp => ⟨_, g2 ha hb D.tup (.inl rfl), he p hp⟩) ⟨by rw [List.length_map, List.length_map]; exact hl, h⟩
theorem p_lcItems [DecidableEq κ] [KeyE κ] (rows : List (κ × ν)) (f : κ × ν → Bool) (tb : κ × ν → D) {a b i j : Nat} {t : RB} {e : RE} {δ : Sl} {S : Sto} {u : D} {Q : D → Sto → Prop} (hd : IsDic u rows) (hj : S[j]? = some u) (hv : δ[i]? = some (some (.ptr j))) (ha : a < δ.length) (hb : b < δ.length) (hl : rows.length ≤ sizeLine)
    (ht : ∀ p ∈ rows, t (in2 δ a b (toD p.1) (toD p.2)) (S.set j (.lck u)) = .ok (f p) (S.set j (.lck u)))
    (he : ∀ p ∈ rows, f p = true → e (in2 δ a b (toD p.1) (toD p.2)) (S.set j (.lck u)) = .ok (tb p) (S.set j (.lck u))) (h : Q (.lst ((rows.filter f).map tb)) (S.set j (.lck u))) :
    (rLc (rItems (rVar i)) (gTup (gCons (gName a) (gCons (gName b) gNil))) [a, b] t e δ (S.set j (.lck u))).post Q := by
  refine p_lc ?_
  refine p_items ?_
  refine p_var hv ?_
  refine ⟨_, dic_items hd hj, ?_⟩
  rw [show pairsD (kvD rows) = rows.map (fun p : κ × ν => D.tux [toD p.1, toD p.2]) from by unfold pairsD kvD; rw [List.map_map]; rfl]
  have hf : (rows.filter f).length ≤ rows.length := List.length_filter_le _ _
  refine Res.post.of_eq (lcTf (fun p : κ × ν => D.tux [toD p.1, toD p.2]) tb f fun p hp => ⟨_, g2 ha hb D.tux (.inr rfl), ht p hp, he p hp⟩) ⟨by rw [List.length_map]; omega, h⟩
end
/-! ### rows of fractions -/
def fz {κ : Type} (p : κ × Rat) : Bool := !decide (p.2 = 0)
theorem num_beq (q : Rat) : (q.num == 0) = decide (q = 0) := by
  by_cases h : q = 0
  · subst h; rfl
  · rw [decide_eq_false h]
    exact beq_eq_false_iff_ne.mpr fun z => h (rat_num0.mp z)
def rowsT {κ : Type} [Emb κ] (kvs : List (κ × Rat)) : List (κ × Rat) := srt (kvs.filter fz)
theorem den_pos' (q : Rat) : (0 : Int) < q.den := by have := q.den_pos; omega
theorem lplus_spec (x y : Rat) {B : Nat} (hx : RB' B x) (hy : RB' B y) (hB : B ≤ 2 ^ 4000) (S : Sto) (hS : Sane S) : m__law_plus [toD x, toD y] S = .ok (toD (x + y)) S := by
  refine m_defS hS (cl _ _) ?_
  show (b__law_plus [some (.tup [.int x.num, .int x.den]), some (.tup [.int y.num, .int y.den])] S).post _ _ _ _
  unfold b__law_plus
  have f : ∀ {a b : Int}, a.natAbs ≤ B → b.natAbs ≤ B → mulFits a b = true := fun h1 h2 => fits_of (a := 4001) (b := 4001) (by omega) (by omega) (by decide)
  have dx : ((x.den : Int)).natAbs ≤ B := hx.2
  have dy : ((y.den : Int)).natAbs ≤ B := hy.2
  walk_at "3"
  refine o_mul (f hx.1 dy) ?_
  walk_at "3"
  refine o_mul (f hy.1 dx) ?_
  walk_at "3"
  refine o_mul (f dx dy) ?_
  walk_at "3"
  refine Res.post.of_eq (lshare_spec _ _ (Int.mul_pos (den_pos' x) (den_pos' y)) ?_ S hS) ⟨by rw [rat_add], rfl⟩
  rw [Int.natAbs_mul]
  have := Nat.mul_le_mul (Nat.le_trans dx hB) (Nat.le_trans dy hB)
  exact Nat.lt_of_le_of_lt this (by rw [← Nat.pow_add]; exact Nat.pow_lt_pow_right (by decide) (by decide))
section
variable {κ : Type} [Emb κ] [DecidableEq κ] [KeyE κ] [Sok (κ × Rat)]
theorem lpairs_spec {S : Sto} {j : Nat} {u : D} {kvs : List (κ × Rat)} (hS : Sane S) (hd : IsDic u kvs) (hj : S[j]? = some u) (hl : kvs.length ≤ sizeLine) : m__law_pairs [.ptr j] S = .ok (toD (rowsT kvs)) S := by
  have ln : (kvs.filter fz).length ≤ kvs.length := List.length_filter_le _ _
  refine m_defJ hS (cl _ _) ?_
  show (b__law_pairs [some (.ptr j), none, none] S).post _ _ _ _
  unfold b__law_pairs
  refine s_lockS hd hj rfl ?_
  walk_at "3"
  refine p_lcItems kvs fz toD hd hj rfl (Nat.le_of_ble_eq_true rfl) (Nat.le_of_ble_eq_true rfl) hl (fun p hp => ?_) (fun p hp _ => ?_) ?_
  · refine exact_of ?_
    dsimp only [in2, wipeD, List.set_cons_zero, List.set_cons_succ]
    rw [toD_rat]
    walk_at "3"
    refine ⟨?_, rfl⟩
    rw [num_beq]
    rfl
  · refine exact_of ?_
    dsimp only [in2, wipeD, List.set_cons_zero, List.set_cons_succ]
    walk_at "3"
    exact ⟨rfl, rfl⟩
  · walk_at "3"
    refine p_lift (a := .lst ((rowsT kvs).map toD)) (show Option.map D.lst (sortD _ ((kvs.filter fz).map toD)) = _ from by rw [sortD_emb _ _ (by omega)]; rfl) ?_
    walk_at "3"
    refine p_lift (show gTuple _ [.lst ((rowsT kvs).map toD)] = some (.tup ((rowsT kvs).map toD)) from rfl) ?_
    exact ⟨rfl, rfl, List.take_length⟩
theorem lput_spec {S : Sto} {j : Nat} {u : D} {kvs : List (κ × Rat)} (hS : Sane S) (hd : IsDic u kvs) (hj : S[j]? = some u) (hl : kvs.length < sizeLine) (k : κ) (q : Rat) {B : Nat} (hB : B ≤ 2 ^ 4000) (hb : ∀ p ∈ kvs, RB' B p.2) (hq : RB' B q) :
    ∃ u', m__law_put [.ptr j, toD k, toD q] S = .ok .non (S.set j u') ∧ IsDic u' (putT kvs k ((getT kvs k).getD 0 + q)) := by
  obtain ⟨u', e', hu'⟩ := dic_putU hd hl k ((getT kvs k).getD 0 + q)
  refine ⟨u', ?_, hu'⟩
  have hlt := (List.getElem?_eq_some_iff.mp hj).1
  refine exact_of (m_def ?_)
  show (b__law_put [some (.ptr j), some (toD k), some (toD q)] S).post _ _ _ _
  unfold b__law_put
  walk_at "3"
  refine ⟨dic_isDct hd hj, ?_⟩
  walk_at "3"
  refine ⟨_, dic_lookU hd hj k, ?_⟩
  have ev : ((getT kvs k).map toD).getD (.tup [.int 0, .int 1]) = toD ((getT kvs k).getD 0) := by cases getT kvs k <;> rfl
  rw [ev]
  walk_at "3"
  refine Res.post.of_eq (lplus_spec _ q ?_ hq hB S hS) ?_
  · cases e : getT kvs k with
    | none => exact ⟨Nat.zero_le _, by have := hq.2; have := q.den_pos; show 1 ≤ B; omega⟩
    | some w => exact hb _ (getT_mem e)
  walk_at "3"
  refine ⟨j, u, u', rfl, hj, e', ?_⟩
  have ln : (S.set j u').length = S.length := List.length_set
  have tk : (S.set j u').take S.length = S.set j u' := by rw [← ln, List.take_length]
  rw [tk]
  refine ⟨?_, rfl, rfl⟩
  have := sane_set hS (isDic_closed hu' S.length) (k := j)
  unfold Sane at this
  rwa [ln] at this
end
end DL
set_option Elab.async false
set_option linter.all false
set_option maxRecDepth 100000
set_option maxHeartbeats 4000000
set_option autoImplicit false
/-! Sums of rows. -/
namespace DL
open PySem L2
open Emb
local macro_rules | `(tactic| walk_at "1") => `(tactic| with_reducible first
  | refine s_seq ?_ | refine s_asg ?_ | refine s_ret ?_ | refine s_if ?_ | refine s_expr ?_ | refine s_next ?_ | refine s_brk ?_ | refine s_cont ?_ | refine s_for ?_ | refine s_while ?_
  | refine p_c ?_ | refine p_bin ?_ | refine p_as ?_ | refine p_cons ?_ | refine p_nil ?_ | refine p_un ?_ | refine p_call ?_ | refine p_if ?_ | refine p_own ?_
  | refine p_keep ?_ | refine p_tru ?_ | refine p_and ?_ | refine p_or ?_ | refine p_not ?_ | refine p_val ?_ | refine p_rand ?_ | refine p_ror ?_ | refine p_rnot ?_ | refine p_chain ?_ | refine p_bif ?_
  | refine o_add ?_ | refine o_sub ?_ | refine o_ltU ?_ | refine o_leU ?_ | refine o_gtU ?_ | refine o_geU ?_ | refine o_neg ?_ | refine o_eqI ?_ | refine o_neI ?_ | refine o_abs ?_ | refine o_tru ?_ | refine p_true ?_ | refine p_false ?_
  | refine o_lenT ?_ | refine o_lenL ?_ | refine o_ix0 ?_ | refine o_ix1 ?_ | refine o_ix2 ?_ | refine o_ix0L ?_ | refine o_ix1L ?_ | refine o_ix2L ?_
  | refine s_par ?_ | refine p_yes ?_ | refine p_seq ?_ | refine s_gnil ?_ | refine s_gcons ?_ | refine s_gtux ?_ | refine s_gtupl ?_ | refine p_onone ?_ | refine p_osome ?_ | refine p_get2 ?_ | refine s_putU ?_ | refine p_sortIt ?_)
local macro_rules | `(tactic| walk_at "2") => `(tactic| first
  | walk_at "1"
  | (with_reducible refine p_var2 ?_)
  | ((with_reducible refine s_name ?_ ?_); (· exact Nat.le_of_ble_eq_true rfl); dsimp only [List.set_cons_zero, List.set_cons_succ])
  | (with_reducible refine p_tup ?_) | (with_reducible refine p_lst ?_) | ((with_reducible refine ⟨?_, ?_⟩); (· exact Nat.le_of_ble_eq_true rfl))
  | ((with_reducible refine p_ex2 (x := ?_) (y := ?_) ?_ ?_); rotate_left; rotate_left; (· rfl); refine ⟨?_, ?_, ?_⟩; (· exact Nat.le_of_ble_eq_true rfl); (· exact Nat.le_of_ble_eq_true rfl); dsimp only [List.set_cons_zero, List.set_cons_succ])
  | ((with_reducible refine p_isT ?_ ?_); (· rfl)) | ((with_reducible refine p_isF ?_ ?_); (· rfl))
  | ((with_reducible refine p_ex (x := ?_) ?_ ?_); rotate_left; (· rfl)))
local macro_rules | `(tactic| walk_at "3") => `(tactic| repeat walk_at "2")
/-! ### sums of rows -/
section
variable {κ : Type} [DecidableEq κ]
def at0 (kvs : List (κ × Rat)) (q : κ) : Rat := (getT kvs q).getD 0
def addT (acc : List (κ × Rat)) (k : κ) (q : Rat) : List (κ × Rat) := putT acc k ((getT acc k).getD 0 + q)
def sumT (one other : List (κ × Rat)) : List (κ × Rat) := other.foldl (fun acc p => addT acc p.1 p.2) (mergeT [] one)
theorem at0_put (kvs : List (κ × Rat)) (k q : κ) (v : Rat) : at0 (putT kvs k v) q = if q = k then v else at0 kvs q := by
  unfold at0
  rw [getT_put]
  split <;> rfl
theorem at0_add (kvs : List (κ × Rat)) (k q : κ) (v : Rat) : at0 (addT kvs k v) q = if q = k then at0 kvs k + v else at0 kvs q := at0_put _ _ _ _
theorem at0_nil (q : κ) : at0 ([] : List (κ × Rat)) q = 0 := rfl
theorem at0_cons (k q : κ) (v : Rat) (r : List (κ × Rat)) : at0 ((k, v) :: r) q = if k = q then v else at0 r q := by
  unfold at0
  rw [getT_cons]
  split <;> rfl
theorem nd_add {kvs : List (κ × Rat)} (h : ND kvs) (k : κ) (v : Rat) : ND (addT kvs k v) := nd_put h _ _
theorem nd_tail {p : κ × Rat} {r : List (κ × Rat)} (h : ND (p :: r)) : p.1 ∉ r.map (·.1) ∧ ND r := by
  unfold ND at h
  rw [List.map_cons, List.nodup_cons] at h
  exact h
theorem at0_none {kvs : List (κ × Rat)} {q : κ} (h : q ∉ kvs.map (·.1)) : at0 kvs q = 0 := by
  unfold at0
  rw [getT_none.mpr h]
  rfl
theorem at0_fold : ∀ (other acc : List (κ × Rat)), ND other → ∀ q, at0 (other.foldl (fun acc p => addT acc p.1 p.2) acc) q = at0 acc q + at0 other q
  | [], acc, _, q => by rw [at0_nil]; show at0 acc q = _; grind
  | p :: r, acc, h, q => by
    obtain ⟨h1, h2⟩ := nd_tail h
    show at0 (r.foldl _ (addT acc p.1 p.2)) q = _
    rw [at0_fold r _ h2, at0_add, show p :: r = (p.1, p.2) :: r from rfl, at0_cons]
    by_cases z : q = p.1
    · subst z
      rw [if_pos rfl, if_pos rfl, at0_none h1]
      grind
    · rw [if_neg z, if_neg (Ne.symm z)]
theorem nd_fold : ∀ (other acc : List (κ × Rat)), ND acc → ND (other.foldl (fun acc p => addT acc p.1 p.2) acc)
  | [], _, h => h
  | _ :: r, _, h => nd_fold r _ (nd_add h _ _)
theorem len_fold : ∀ (other acc : List (κ × Rat)), (other.foldl (fun acc p => addT acc p.1 p.2) acc).length ≤ acc.length + other.length
  | [], _ => Nat.le_refl _
  | p :: r, acc => by
    have h1 := len_fold r (addT acc p.1 p.2)
    have h2 := put_len acc p.1 ((getT acc p.1).getD 0 + p.2)
    have h2 : (addT acc p.1 p.2).length ≤ acc.length + 1 := h2
    rw [List.length_cons]
    show (r.foldl _ (addT acc p.1 p.2)).length ≤ _
    omega
theorem at0_sum {one other : List (κ × Rat)} (h1 : ND one) (h2 : ND other) (q : κ) : at0 (sumT one other) q = at0 one q + at0 other q := by
  unfold sumT
  rw [at0_fold other _ h2, merge_id h1]
theorem nd_sum {one other : List (κ × Rat)} (h1 : ND one) : ND (sumT one other) := by
  unfold sumT
  rw [merge_id h1]
  exact nd_fold _ _ h1
theorem len_sum {one other : List (κ × Rat)} (h1 : ND one) : (sumT one other).length ≤ one.length + other.length := by
  unfold sumT
  rw [merge_id h1]
  exact len_fold _ _
/-- bounds on the way: what is left to come is as it was -/
def Bnd (B C : Nat) (acc rest : List (κ × Rat)) : Prop := (∀ p ∈ acc, RB' C p.2) ∧ ∀ p ∈ rest, RB' B p.2 ∧ ∀ w, getT acc p.1 = some w → RB' B w
theorem bnd_step {B C : Nat} (hC : 2 * (B * B) ≤ C) (hB : B ≤ C) (h1B : 1 ≤ B) {acc r : List (κ × Rat)} {p : κ × Rat} (h : Bnd B C acc (p :: r)) (hn : ND (p :: r)) : Bnd B C (addT acc p.1 p.2) r := by
  obtain ⟨h1, h2⟩ := h
  have hp := h2 p List.mem_cons_self
  refine ⟨put_all h1 ?_, fun q hq => ⟨(h2 q (List.mem_cons_of_mem _ hq)).1, fun w hw => ?_⟩⟩
  · show RB' C ((getT acc p.1).getD 0 + p.2)
    refine rb_mono (rb_add (A := B) (B := B) ?_ hp.1) hC
    cases e : getT acc p.1 with
    | none => exact ⟨Nat.zero_le _, h1B⟩
    | some w => exact hp.2 w e
  · unfold addT at hw
    rw [getT_put, if_neg (fun z : q.1 = p.1 => (nd_tail hn).1 (by rw [← z]; exact List.mem_map.mpr ⟨q, hq, rfl⟩))] at hw
    exact (h2 q (List.mem_cons_of_mem _ hq)).2 w hw
theorem bnd_init {B C : Nat} (hB : B ≤ C) {one other : List (κ × Rat)} (h1 : ∀ p ∈ one, RB' B p.2) (h2 : ∀ p ∈ other, RB' B p.2) : Bnd B C one other :=
  ⟨fun p hp => rb_mono (h1 p hp) hB, fun p hp => ⟨h2 p hp, fun _ hw => h1 _ (getT_mem hw)⟩⟩
end
section
variable {κ : Type} [Emb κ] [DecidableEq κ]
theorem nd_rows {kvs : List (κ × Rat)} (h : ND kvs) : Inc (rowsT kvs) := inc_srt (nd_filter _ h)
theorem at0_rows {kvs : List (κ × Rat)} (h : ND kvs) (q : κ) : at0 (rowsT kvs) q = at0 kvs q := by
  unfold at0 rowsT
  rw [get_srt (nd_filter _ h), get_filter _ h]
  cases e : getT kvs q with
  | none => rfl
  | some w =>
    by_cases z : w = 0
    · subst z; rfl
    · have : (some w).filter (fun v => fz (q, v)) = some w := by simp [Option.filter, fz, z]
      rw [this]
theorem rows_nz {kvs : List (κ × Rat)} : ∀ p ∈ rowsT kvs, p ∈ kvs ∧ p.2 ≠ 0 := fun p hp => by
  obtain ⟨h1, h2⟩ := List.mem_filter.mp (srt_mem.mp hp)
  exact ⟨h1, fun z => by unfold fz at h2; rw [z] at h2; exact absurd h2 (by decide)⟩
theorem rows_len (kvs : List (κ × Rat)) : (rowsT kvs).length ≤ kvs.length := by
  unfold rowsT
  rw [srt_len]
  exact List.length_filter_le _ _
/-- rows in order without noughts: what they are at each place tells them -/
theorem rows_one {a b : List (κ × Rat)} (ha : Inc a) (hb : Inc b) (za : ∀ p ∈ a, p.2 ≠ 0) (zb : ∀ p ∈ b, p.2 ≠ 0) (h : ∀ q, at0 a q = at0 b q) : a = b := by
  refine inc_one ha hb fun q => ?_
  have h := h q
  unfold at0 at h
  cases e : getT a q with
  | none =>
    cases e2 : getT b q with
    | none => rfl
    | some w => rw [e, e2] at h; exact absurd h.symm (zb _ (getT_mem e2))
  | some v =>
    cases e2 : getT b q with
    | none => rw [e, e2] at h; exact absurd h (za _ (getT_mem e))
    | some w => rw [e, e2] at h; exact congrArg some h
end
/-! ### the walk of a sum -/
/-- m adds a fraction to a dict's -/
def Adds (κ : Type) [Emb κ] [DecidableEq κ] [KeyE κ] (m : Mir) : Prop := ∀ {S : Sto} {j : Nat} {u : D} {kvs : List (κ × Rat)}, Sane S → IsDic u kvs → S[j]? = some u → kvs.length < sizeLine → ∀ (k : κ) (q : Rat) {B : Nat}, B ≤ 2 ^ 4000 → (∀ p ∈ kvs, RB' B p.2) → RB' B q →
  ∃ u', m [.ptr j, toD k, toD q] S = .ok .non (S.set j u') ∧ IsDic u' (addT kvs k q)
section
variable {κ : Type} [Emb κ] [DecidableEq κ] [KeyE κ]
theorem sum_post {m : Mir} (hm : Adds κ m) {S : Sto} (hS : Sane S) {one other : List (κ × Rat)} (n1 : ND one) (n2 : ND other) {B C : Nat} (hC : 2 * (B * B) ≤ C) (hB : B ≤ C) (h1B : 1 ≤ B) (hC2 : C ≤ 2 ^ 4000) (b1 : ∀ p ∈ one, RB' B p.2) (b2 : ∀ p ∈ other, RB' B p.2) (hl : one.length + other.length < sizeLine)
    {rest : RS} {N B' C' : Sl → Sto → Prop} {T : D → Sto → Prop} (h : ∀ u o3 o4, IsDic u (sumT one other) → (rest [some (toD one), some (toD other), some (.ptr S.length), o3, o4] (S ++ [u])).post N T B' C') :
    ((sSeq (sAsg (rOwn (rAs gDict (rCons (rVar 0) rNil))) (gName 2)) (sSeq (sFor (rSeq (rVar 1)) (gTup (gCons (gName 3) (gCons (gName 4) gNil))) (sExpr (rCall m (rCons (rVar 2) (rCons (rVar 3) (rCons (rVar 4) rNil)))))) rest)) [some (toD one), some (toD other), none, none, none] S).post N T B' C' := by
  obtain ⟨u, _, e, hu⟩ := dict_of S one
  walk_at "3"
  refine p_lift (show gDict S [toD one] = some u from e) ?_
  walk_at "3"
  refine .inr (.inl ⟨other.map toD, rfl, ?_⟩)
  refine s_forT toD (fun xs δ S2 => ∃ acc u o3 o4, S2 = S ++ [u] ∧ IsDic u acc ∧ xs.foldl (fun acc p => addT acc p.1 p.2) acc = sumT one other ∧ ND xs ∧ Bnd B C acc xs ∧ acc.length + xs.length < sizeLine ∧ δ = [some (toD one), some (toD other), some (.ptr S.length), o3, o4]) ?_ ?_ _ _ _ ⟨mergeT [] one, u, none, none, rfl, hu, rfl, n2, ?_, ?_, rfl⟩
  · rintro x xs δ S2 ⟨acc, u, o3, o4, rfl, hu, hf, hn, hb, hl, rfl⟩
    show (gTup _ (.tup [toD x.1, toD x.2]) _ _).post _
    walk_at "3"
    rw [List.length_cons] at hl
    obtain ⟨u', e', hu'⟩ := hm (sane_app hS (isDic_closed hu _)) hu (get_app (S := S)) (by omega) x.1 x.2 hC2 hb.1 (rb_mono (hb.2 x List.mem_cons_self).1 hB)
    refine Res.post.of_eq e' ?_
    rw [set_app]
    refine ⟨addT acc x.1 x.2, u', _, _, rfl, hu', hf, (nd_tail hn).2, bnd_step hC hB h1B hb hn, ?_, rfl⟩
    have : (addT acc x.1 x.2).length ≤ acc.length + 1 := put_len _ _ _
    omega
  · rintro δ S2 ⟨acc, u, o3, o4, rfl, hu, hf, hn, hb, hl, rfl⟩
    exact h u o3 o4 (by rw [← hf]; exact hu)
  · rw [merge_id n1]; exact bnd_init hB b1 b2
  · rw [merge_id n1]; exact hl
variable [Sok (κ × Rat)]
theorem lput_adds : Adds κ m__law_put := fun hS hd hj hl k q _ hB hb hq => lput_spec hS hd hj hl k q hB hb hq
end
end DL
set_option Elab.async false
set_option linter.all false
set_option maxRecDepth 100000
set_option maxHeartbeats 4000000
set_option autoImplicit false
/-! Forms that are drawn. -/
namespace DL
open PySem L2
open Emb
local macro_rules | `(tactic| walk_at "1") => `(tactic| with_reducible first
  | refine s_seq ?_ | refine s_asg ?_ | refine s_ret ?_ | refine s_if ?_ | refine s_expr ?_ | refine s_next ?_ | refine s_brk ?_ | refine s_cont ?_ | refine s_for ?_ | refine s_while ?_
  | refine p_c ?_ | refine p_bin ?_ | refine p_as ?_ | refine p_cons ?_ | refine p_nil ?_ | refine p_un ?_ | refine p_call ?_ | refine p_if ?_ | refine p_own ?_
  | refine p_keep ?_ | refine p_tru ?_ | refine p_and ?_ | refine p_or ?_ | refine p_not ?_ | refine p_val ?_ | refine p_rand ?_ | refine p_ror ?_ | refine p_rnot ?_ | refine p_chain ?_ | refine p_bif ?_
  | refine o_add ?_ | refine o_sub ?_ | refine o_ltU ?_ | refine o_leU ?_ | refine o_gtU ?_ | refine o_geU ?_ | refine o_neg ?_ | refine o_eqI ?_ | refine o_neI ?_ | refine o_abs ?_ | refine o_tru ?_ | refine p_true ?_ | refine p_false ?_
  | refine o_lenT ?_ | refine o_lenL ?_ | refine o_ix0 ?_ | refine o_ix1 ?_ | refine o_ix2 ?_ | refine o_ix0L ?_ | refine o_ix1L ?_ | refine o_ix2L ?_
  | refine s_par ?_ | refine p_yes ?_ | refine p_seq ?_ | refine s_gnil ?_ | refine s_gcons ?_ | refine s_gtux ?_ | refine s_gtupl ?_ | refine p_onone ?_ | refine p_osome ?_ | refine p_get2 ?_ | refine s_putU ?_ | refine p_sortIt ?_)
local macro_rules | `(tactic| walk_at "2") => `(tactic| first
  | walk_at "1"
  | (with_reducible refine p_var2 ?_)
  | ((with_reducible refine s_name ?_ ?_); (· exact Nat.le_of_ble_eq_true rfl); dsimp only [List.set_cons_zero, List.set_cons_succ])
  | (with_reducible refine p_tup ?_) | (with_reducible refine p_lst ?_) | ((with_reducible refine ⟨?_, ?_⟩); (· exact Nat.le_of_ble_eq_true rfl))
  | ((with_reducible refine p_ex2 (x := ?_) (y := ?_) ?_ ?_); rotate_left; rotate_left; (· rfl); refine ⟨?_, ?_, ?_⟩; (· exact Nat.le_of_ble_eq_true rfl); (· exact Nat.le_of_ble_eq_true rfl); dsimp only [List.set_cons_zero, List.set_cons_succ])
  | ((with_reducible refine p_isT ?_ ?_); (· rfl)) | ((with_reducible refine p_isF ?_ ?_); (· rfl))
  | ((with_reducible refine p_ex (x := ?_) ?_ ?_); rotate_left; (· rfl)))
local macro_rules | `(tactic| walk_at "3") => `(tactic| repeat walk_at "2")
/-! ### forms that are drawn -/
structure KindG (n : Nat) (k : Kind) : Prop where
  m : MonO n k.m
  p0 : 0 ≤ k.p
  p1 : k.p ≤ 3
  b : k.b.natAbs ≤ 10 ^ 10
/-- rows of such kinds -/
structure FormG (l n : Nat) (rows : List (Kind × Rat)) : Prop where
  inc : Inc rows
  len : rows.length ≤ l
  kinds : ∀ p ∈ rows, KindG n p.1
  nz : ∀ p ∈ rows, p.2 ≠ 0
  rb : ∀ p ∈ rows, RB' (10 ^ 21) p.2
theorem ratnz {a b : Int} (ha : a ≠ 0) (hb : 0 < b) : (a : Rat) / (b : Rat) ≠ 0 := by
  intro h
  have ha' : (a : Rat) ≠ 0 := by simp; omega
  have hb' : (b : Rat) ≠ 0 := by simp; omega
  grind
theorem kind_made (m : Mono) (p b : Int) : D.tup [toD m, .int p, .int b] = toD (Kind.mk m p b) := rfl
theorem den_le {a b : Int} (hb : 0 < b) : ((a : Rat) / (b : Rat)).den ≤ b.natAbs := by
  have h := (rat_of (a := a) hb).2
  have hg : 0 < Int.gcd a b := Int.gcd_pos_of_ne_zero_right _ (by omega)
  rw [Int.fdiv_eq_ediv_of_nonneg _ (by omega)] at h
  have h2 := Int.natAbs_ediv_le_natAbs b (Int.gcd a b : Int)
  rw [← h] at h2
  simpa using h2
theorem form_spec2 {c : Nat} {S : Sto} (h : Sta c S) (hc : c < 2 ^ 39) (l n : Nat) (hl : l ≤ 100) (hn : n ≤ 100) : (m__law_form [.ptr 1, .int l, .int n] S).post fun d S' => ∃ rows, d = toD rows ∧ FormG l n rows ∧ Go (c + 20000) S S' ∧ ∀ p ∈ rows, p.2.den ≤ 60 := by
  refine m_defG (c := c + 20000) ?_
  show (b__law_form [some (.ptr 1), some (.int l), some (.int n), none, none, none] S).post _ _ _ _
  unfold b__law_form
  have l2 := h.len
  have h1 : Sta c (S ++ [.dct []]) := h.app rfl
  walk_at "3"
  with_reducible refine p_range1 ?_
  walk_at "3"
  refine (draw_spec h1 (by omega) (l + 1) (by omega) (by omega)).mono ?_
  rintro _ S1 ⟨j, rfl, j0, j1, g1⟩
  walk_at "3"
  refine ⟨by omega, by omega, ?_⟩
  have e0 : S1[S.length]? = some (.dct []) := by rw [g1.rest _ l2]; exact get_app
  refine s_forL (fun xs δ S2 => ∃ (t : Nat) (u : D) (kvs : List (Kind × Rat)), xs.length + t ≤ l ∧ Sta (c + 1 + (n + 20) * t) S2 ∧ S2.length = S.length + 1 ∧ S2[S.length]? = some u ∧ IsDic u kvs ∧ ND kvs ∧ kvs.length ≤ t ∧ (∀ p ∈ kvs, KindG n p.1 ∧ p.2 ≠ 0 ∧ RB' (10 ^ 21) p.2 ∧ p.2.den ≤ 60) ∧ (∀ k, 2 ≤ k → k < S.length → S2[k]? = S[k]?) ∧ ∃ o4 o5, δ = [some (.ptr 1), some (.int l), some (.int n), some (.ptr S.length), o4, o5]) ?_ ?_ _ _ _ ⟨0, _, [], ?_, g1.sta, ?_, e0, isDic_nil, List.nodup_nil, Nat.le_refl _, (fun _ z => nomatch z), ?_, _, _, rfl⟩
  · rintro x xs δ S2 ⟨t, u, kvs, ht, hs, hlen, hk, hu, hnd, hle, hall, hr, o4, o5, rfl⟩
    rw [List.length_cons] at ht
    have hmul : (n + 20) * t ≤ 120 * 100 := Nat.mul_le_mul (by omega) (by omega)
    have hmul2 : (n + 20) * (t + 1) = (n + 20) * t + (n + 20) := by rw [Nat.mul_add, Nat.mul_one]
    walk_at "3"
    refine (mono_spec hs (by omega) n hn).mono ?_
    rintro _ S3 ⟨m, rfl, hm, g3⟩
    walk_at "3"
    refine (of_spec g3.sta (by omega) (by simp) (by simp) (fun y hy => by
      simp only [List.mem_cons, List.not_mem_nil, or_false] at hy
      rcases hy with rfl | rfl | rfl | rfl | rfl | rfl | rfl <;> rfl)).mono ?_
    rintro d S4 ⟨hd, g4⟩
    have hd' : ∃ p : Int, d = .int p ∧ 0 ≤ p ∧ p ≤ 3 := by
      simp only [List.mem_cons, List.not_mem_nil, or_false] at hd
      rcases hd with rfl | rfl | rfl | rfl | rfl | rfl | rfl <;> exact ⟨_, rfl, by decide, by decide⟩
    obtain ⟨p, rfl, hp0, hp1⟩ := hd'
    walk_at "3"
    refine (base_spec g4.sta (by omega)).mono ?_
    rintro d S5 ⟨b, rfl, hb, g5⟩
    walk_at "3"
    refine (number_spec g5.sta (by omega)).mono ?_
    rintro d S6 ⟨a, rfl, ha0, ha, g6⟩
    walk_at "3"
    refine (of_spec g6.sta (by omega) (by simp) (by simp) (fun y hy => by
      simp only [List.mem_cons, List.not_mem_nil, or_false] at hy
      rcases hy with rfl | rfl | rfl | rfl <;> rfl)).mono ?_
    rintro d S7 ⟨hd, g7⟩
    have hd' : ∃ p : Int, d = .int p ∧ 0 < p ∧ p ≤ 60 := by
      simp only [List.mem_cons, List.not_mem_nil, or_false] at hd
      rcases hd with rfl | rfl | rfl | rfl <;> exact ⟨_, rfl, by decide, by decide⟩
    obtain ⟨w, rfl, w0, w1⟩ := hd'
    walk_at "3"
    refine (draw_spec g7.sta (by omega) w w0 (by omega)).mono ?_
    rintro _ S8 ⟨i, rfl, i0, i1, g8⟩
    walk_at "3"
    refine Res.post.of_eq (lshare_spec a (1 + i) (by omega) (Nat.lt_of_lt_of_le (show (1 + i).natAbs < 2 ^ 10 by omega) (Nat.pow_le_pow_right (by decide) (by decide))) S8 g8.sta.sane) ?_
    walk_at "3"
    have gg := (((((g3.trans g4).trans g5).trans g6).trans g7).trans g8)
    have hk8 : S8[S.length]? = some u := by rw [gg.rest _ l2]; exact hk
    obtain ⟨u', e', hu'⟩ := dic_putU hu (Nat.lt_of_le_of_lt (show kvs.length ≤ 100 by omega) (by decide)) (Kind.mk m p b) ((a : Rat) / ((1 + i : Int) : Rat))
    rw [kind_made]
    refine ⟨S.length, u, u', rfl, hk8, e', ?_⟩
    have hl8 : S8.length = S.length + 1 := gg.len.trans hlen
    obtain ⟨ns, rs, at', q0, q1, q2, q3, q4⟩ := gg.sta.ex
    refine ⟨t + 1, u', _, by omega, ⟨⟨ns, rs, at', ?_, ?_, q2, q3, by omega⟩, sane_set gg.sta.sane (isDic_closed hu' _)⟩, by rw [List.length_set]; exact hl8, List.getElem?_set_self (by omega), hu', nd_put hnd _ _, Nat.le_trans (put_len _ _ _) (by omega), put_all hall ⟨⟨hm, hp0, hp1, hb⟩, ratnz ha0 (by omega), rb_of (by omega) ha (by omega), Nat.le_trans (den_le (by omega)) (by omega)⟩, fun k k1 k2 => ?_, _, _, rfl⟩
    · rw [List.getElem?_set_ne (by omega)]; exact q0
    · rw [List.getElem?_set_ne (by omega)]; exact q1
    · rw [List.getElem?_set_ne (by omega), gg.rest k k1]; exact hr k k1 k2
  · rintro δ S2 ⟨t, u, kvs, ht, hs, hlen, hk, hu, hnd, hle, hall, hr, o4, o5, rfl⟩
    have tl : t ≤ l := by simpa using ht
    have hmul : (n + 20) * t ≤ 120 * 100 := Nat.mul_le_mul (by omega) (by omega)
    walk_at "3"
    refine Res.post.of_eq (lpairs_spec hs.sane hu hk (Nat.le_trans (show kvs.length ≤ 100 by omega) (by decide))) ?_
    have gg : Go (c + 20000) S (S2.take S.length) := go_take h.sane l2 (hs.le (by omega)) (by omega) hr
    have rl := rows_len kvs
    exact ⟨cl _ _, gg, rowsT kvs, rfl, ⟨nd_rows hnd, by omega, fun p hp => (hall p (rows_nz p hp).1).1, fun p hp => (rows_nz p hp).2, fun p hp => (hall p (rows_nz p hp).1).2.2.1⟩, gg, fun p hp => (hall p (rows_nz p hp).1).2.2.2⟩
  · unfold rangeD
    rw [List.length_map, List.length_range]
    omega
  · rw [g1.len, List.length_append]; rfl
  · intro k k1 k2
    rw [g1.rest k k1, List.getElem?_append_left k2]
end DL
set_option Elab.async false
set_option linter.all false
set_option maxRecDepth 100000
set_option maxHeartbeats 4000000
set_option autoImplicit false
/-! The program's fractions, sums of rows. -/
namespace DL
open PySem L2
open Emb
local macro_rules | `(tactic| walk_at "1") => `(tactic| with_reducible first
  | refine s_seq ?_ | refine s_asg ?_ | refine s_ret ?_ | refine s_if ?_ | refine s_expr ?_ | refine s_next ?_ | refine s_brk ?_ | refine s_cont ?_ | refine s_for ?_ | refine s_while ?_
  | refine p_c ?_ | refine p_bin ?_ | refine p_as ?_ | refine p_cons ?_ | refine p_nil ?_ | refine p_un ?_ | refine p_call ?_ | refine p_if ?_ | refine p_own ?_
  | refine p_keep ?_ | refine p_tru ?_ | refine p_and ?_ | refine p_or ?_ | refine p_not ?_ | refine p_val ?_ | refine p_rand ?_ | refine p_ror ?_ | refine p_rnot ?_ | refine p_chain ?_ | refine p_bif ?_
  | refine o_add ?_ | refine o_sub ?_ | refine o_ltU ?_ | refine o_leU ?_ | refine o_gtU ?_ | refine o_geU ?_ | refine o_neg ?_ | refine o_eqI ?_ | refine o_neI ?_ | refine o_abs ?_ | refine o_tru ?_ | refine p_true ?_ | refine p_false ?_
  | refine o_lenT ?_ | refine o_lenL ?_ | refine o_ix0 ?_ | refine o_ix1 ?_ | refine o_ix2 ?_ | refine o_ix0L ?_ | refine o_ix1L ?_ | refine o_ix2L ?_
  | refine s_par ?_ | refine p_yes ?_ | refine p_seq ?_ | refine s_gnil ?_ | refine s_gcons ?_ | refine s_gtux ?_ | refine s_gtupl ?_ | refine p_onone ?_ | refine p_osome ?_ | refine p_get2 ?_ | refine s_putU ?_ | refine p_sortIt ?_)
local macro_rules | `(tactic| walk_at "2") => `(tactic| first
  | walk_at "1"
  | (with_reducible refine p_var2 ?_)
  | ((with_reducible refine s_name ?_ ?_); (· exact Nat.le_of_ble_eq_true rfl); dsimp only [List.set_cons_zero, List.set_cons_succ])
  | (with_reducible refine p_tup ?_) | (with_reducible refine p_lst ?_) | ((with_reducible refine ⟨?_, ?_⟩); (· exact Nat.le_of_ble_eq_true rfl))
  | ((with_reducible refine p_ex2 (x := ?_) (y := ?_) ?_ ?_); rotate_left; rotate_left; (· rfl); refine ⟨?_, ?_, ?_⟩; (· exact Nat.le_of_ble_eq_true rfl); (· exact Nat.le_of_ble_eq_true rfl); dsimp only [List.set_cons_zero, List.set_cons_succ])
  | ((with_reducible refine p_isT ?_ ?_); (· rfl)) | ((with_reducible refine p_isF ?_ ?_); (· rfl))
  | ((with_reducible refine p_ex (x := ?_) ?_ ?_); rotate_left; (· rfl)))
local macro_rules | `(tactic| walk_at "3") => `(tactic| repeat walk_at "2")
theorem gcd_spec (a b : Int) (S : Sto) (hS : Sane S) : m_common_divisor [.int a, .int b] S = .ok (.int (Int.gcd a b)) S := by
  refine m_defS hS rfl ?_
  show (b_common_divisor [some (.int a), some (.int b)] S).post _ _ _ _
  unfold b_common_divisor
  repeat walk_at "2"
  refine s_whileL (fun n δ S1 => S1 = S ∧ ∃ x y : Nat, y ≤ n ∧ Nat.gcd x y = Int.gcd a b ∧ δ = [some (.int x), some (.int y)]) ?_ b.natAbs _ _ _ ⟨rfl, a.natAbs, b.natAbs, Nat.le_refl _, rfl, rfl⟩ (by show b.natAbs < (b.natAbs : Int).natAbs + 1; omega)
  rintro n δ S1 ⟨rfl, x, y, hn, hg, rfl⟩
  repeat walk_at "2"
  constructor
  · intro h
    have h : (0 : Int) < y := of_decide_eq_true h
    have hy : 0 < y := by omega
    obtain ⟨m, rfl⟩ : ∃ m, n = m + 1 := ⟨n - 1, by omega⟩
    refine ⟨m, rfl, ?_⟩
    repeat walk_at "2"
    refine o_mod (by omega) ?_
    repeat walk_at "2"
    have e : Int.fmod x y = ((x % y : Nat) : Int) := by rw [Int.fmod_eq_emod_of_nonneg _ (by omega)]; rfl
    have l : x % y < y := Nat.mod_lt _ hy
    refine ⟨rfl, y, x % y, by omega, ?_, by rw [e]⟩
    rw [← hg, Nat.gcd_comm y, ← Nat.gcd_rec, Nat.gcd_comm]
  · intro h
    have h : ¬ (0 : Int) < y := of_decide_eq_false h
    have hy : y = 0 := by omega
    subst hy
    repeat walk_at "2"
    have e : x = Int.gcd a b := by rw [← hg, Nat.gcd_zero_right]
    rw [e]
    exact ⟨rfl, rfl⟩
def GG : Int := 10000000000000000000000000000000000000000000000000000000000000000000000000000000000000000000000000000000000000000000000000000000000000000000000000000000000000000000000000000000000000000000000000000000000000000000000000000000000000000000000000000000000000000000000000000000000000000000000000000000000000000000000000000000000000000000000000000000000000000000000000000000000000000000000000000000000000000000000000000000000000000000000000000000000000000000000000000000000000000000000000000000000000000000000000000000000000000000000000000000000000000000000000000000000000000000000000000000000000000000000000000000000000000000000000000000000000000000000000000000000000000000000000000000000000000000000000000000000000000000000000000000000000000000000000000000000000000000000000000000000000000000000000000000000000000000000000000000000000000000000000000000000000000000000000000000000000000000000000000000000000000000000000000000000000000000000000000000000000000000000000000000000000000000000000000000000000000
def smallB (i : Int) : Bool := decide (0 - GG ≤ i) && decide (i ≤ GG)
theorem is_small_spec (i : Int) (S : Sto) (hS : Sane S) : m_is_small [.int i] S = .ok (.bl (smallB i)) S := by
  refine m_defS hS rfl ?_
  show (b_is_small [some (.int i)] S).post _ _ _ _
  have hb : b_is_small = (sRet (rChain gLeU gLeU (rBin gSub (rC (.int 0)) (rC (.int GG))) (rVar 0) (rC (.int GG)))) := rfl
  rw [hb]
  unfold smallB
  generalize GG = g
  repeat walk_at "2"
  refine ⟨fun h1 => ?_, fun h1 => ?_⟩
  · repeat walk_at "2"
    refine ⟨?_, rfl⟩
    rw [h1, Bool.true_and]
  · refine ⟨?_, rfl⟩
    rw [h1, Bool.false_and]
theorem fraction_spec (a b : Int) (hb : 0 < b) (hl : b.natAbs < 2 ^ 8990) (S : Sto) (hS : Sane S) : m_fraction [.int a, .int b] S = .ok (toD ((a : Rat) / (b : Rat))) S := by
  obtain ⟨k, rfl⟩ : ∃ k : Nat, b = k := ⟨b.toNat, by omega⟩
  have hg : 0 < Int.gcd a k := Int.gcd_pos_of_ne_zero_right _ (by omega)
  have hgk : Int.gcd a k ≤ k := Nat.gcd_le_right (n := k) a.natAbs (by omega)
  have lg : ((Int.gcd a k : Nat) : Int).natAbs.log2 < 9000 := log_of (b := 8990) (by have : (k : Int).natAbs = k := rfl; omega) (by decide)
  have e := rat_of (a := a) (b := k) hb
  rw [toD_rat, e.1, e.2]
  refine m_defS hS rfl ?_
  show (b_fraction [some (.int a), some (.int k), none] S).post _ _ _ _
  unfold b_fraction
  walk_at "3"
  refine Res.post.of_eq (gcd_spec a k S hS) ?_
  walk_at "3"
  refine ⟨fun _ => ?_, fun z => absurd (of_decide_eq_false z) (by omega)⟩
  walk_at "3"
  refine o_mul (fits_r (by decide)) ?_
  rw [Int.mul_one]
  walk_at "3"
  refine o_div ⟨by omega, lg⟩ ?_
  walk_at "3"
  refine o_div ⟨by omega, lg⟩ ?_
  walk_at "3"
  exact ⟨rfl, rfl⟩
theorem plus_spec (x y : Rat) {B : Nat} (hx : RB' B x) (hy : RB' B y) (hB : B ≤ 2 ^ 4000) (S : Sto) (hS : Sane S) : m_plus [toD x, toD y] S = .ok (toD (x + y)) S := by
  refine m_defS hS (cl _ _) ?_
  show (b_plus [some (.tup [.int x.num, .int x.den]), some (.tup [.int y.num, .int y.den])] S).post _ _ _ _
  unfold b_plus
  have f : ∀ {a b : Int}, a.natAbs ≤ B → b.natAbs ≤ B → mulFits a b = true := fun h1 h2 => fits_of (a := 4001) (b := 4001) (by omega) (by omega) (by decide)
  have dx : ((x.den : Int)).natAbs ≤ B := hx.2
  have dy : ((y.den : Int)).natAbs ≤ B := hy.2
  walk_at "3"
  refine o_mul (f hx.1 dy) ?_
  walk_at "3"
  refine o_mul (f hy.1 dx) ?_
  walk_at "3"
  refine o_mul (f dx dy) ?_
  walk_at "3"
  refine Res.post.of_eq (fraction_spec _ _ (Int.mul_pos (den_pos' x) (den_pos' y)) ?_ S hS) ⟨by rw [rat_add], rfl⟩
  rw [Int.natAbs_mul]
  have := Nat.mul_le_mul (Nat.le_trans dx hB) (Nat.le_trans dy hB)
  exact Nat.lt_of_le_of_lt this (by rw [← Nat.pow_add]; exact Nat.pow_lt_pow_right (by decide) (by decide))
theorem times_spec (x y : Rat) {B : Nat} (hx : RB' B x) (hy : RB' B y) (hB : B ≤ 2 ^ 4000) (S : Sto) (hS : Sane S) : m_times [toD x, toD y] S = .ok (toD (x * y)) S := by
  refine m_defS hS (cl _ _) ?_
  show (b_times [some (.tup [.int x.num, .int x.den]), some (.tup [.int y.num, .int y.den])] S).post _ _ _ _
  unfold b_times
  have f : ∀ {a b : Int}, a.natAbs ≤ B → b.natAbs ≤ B → mulFits a b = true := fun h1 h2 => fits_of (a := 4001) (b := 4001) (by omega) (by omega) (by decide)
  have dx : ((x.den : Int)).natAbs ≤ B := hx.2
  have dy : ((y.den : Int)).natAbs ≤ B := hy.2
  walk_at "3"
  refine o_mul (f hx.1 hy.1) ?_
  walk_at "3"
  refine o_mul (f dx dy) ?_
  walk_at "3"
  refine Res.post.of_eq (fraction_spec _ _ (Int.mul_pos (den_pos' x) (den_pos' y)) ?_ S hS) ⟨by rw [rat_mul], rfl⟩
  rw [Int.natAbs_mul]
  have := Nat.mul_le_mul (Nat.le_trans dx hB) (Nat.le_trans dy hB)
  exact Nat.lt_of_le_of_lt this (by rw [← Nat.pow_add]; exact Nat.pow_lt_pow_right (by decide) (by decide))
theorem small_nat : (10 : Nat) ^ 1000 = GG.toNat := by decide +kernel
theorem smallB_of {i : Int} (h : i.natAbs ≤ 10 ^ 1000) : smallB i = true := by
  rw [small_nat] at h
  have g0 : 0 ≤ GG := by decide +kernel
  unfold smallB
  generalize GG = g at *
  rw [decide_eq_true (by omega), decide_eq_true (by omega)]
  rfl
theorem o_neRat {S : Sto} {q : Rat} {Q : D → Sto → Prop} (h : Q (.bl (!decide (q = 0))) S) : (Res.lift (gNe S (toD q) (.tup [.int 0, .int 1])) S).post Q :=
  o_neg_ (d := .tup [.int q.num, .int q.den]) (u := .tuple ([q.num, (q.den : Int)].map .int)) (v := .tuple ([0, 1].map .int)) rfl rfl (shaped_ints _).2 (shaped_ints _).2 (by
    have e : PyData.eqv (.tuple ([q.num, (q.den : Int)].map .int)) (.tuple ([0, 1].map .int)) = decide (q = 0) := by
      simp only [List.map_cons, List.map_nil, PyData.eqv, PyData.eqvAll, Bool.and_true]
      by_cases z : q = 0
      · subst z; rfl
      · rw [decide_eq_false z, num_beq, decide_eq_false z]; rfl
    rw [e]; exact h)
theorem all_true {α : Type} {xs : List α} {f : α → Bool} (h : ∀ a ∈ xs, f a = true) : (xs.map f).all id = true := List.all_eq_true.mpr fun b hb => by
  obtain ⟨a, ha, rfl⟩ := List.mem_map.mp hb
  exact h a ha
section
variable {κ : Type} [Emb κ] [DecidableEq κ] [KeyE κ]
theorem added_spec {S : Sto} {j : Nat} {u : D} {kvs : List (κ × Rat)} (hS : Sane S) (hd : IsDic u kvs) (hj : S[j]? = some u) (hl : kvs.length < sizeLine) (k : κ) (q : Rat) {B : Nat} (hB : B ≤ 2 ^ 4000) (hb : ∀ p ∈ kvs, RB' B p.2) (hq : RB' B q) :
    ∃ u', m_added [.ptr j, toD k, toD q] S = .ok .non (S.set j u') ∧ IsDic u' (addT kvs k q) := by
  obtain ⟨u', e', hu'⟩ := dic_putU hd hl k ((getT kvs k).getD 0 + q)
  refine ⟨u', ?_, hu'⟩
  have hlt := (List.getElem?_eq_some_iff.mp hj).1
  refine exact_of (m_def ?_)
  show (b_added [some (.ptr j), some (toD k), some (toD q)] S).post _ _ _ _
  unfold b_added
  walk_at "3"
  refine ⟨dic_isDct hd hj, ?_⟩
  walk_at "3"
  refine ⟨_, dic_lookU hd hj k, ?_⟩
  have ev : ((getT kvs k).map toD).getD (.tup [.int 0, .int 1]) = toD ((getT kvs k).getD 0) := by cases getT kvs k <;> rfl
  rw [ev]
  walk_at "3"
  refine Res.post.of_eq (plus_spec _ q ?_ hq hB S hS) ?_
  · cases e : getT kvs k with
    | none => exact ⟨Nat.zero_le _, by have := hq.2; have := q.den_pos; show 1 ≤ B; omega⟩
    | some w => exact hb _ (getT_mem e)
  walk_at "3"
  refine ⟨j, u, u', rfl, hj, e', ?_⟩
  have ln : (S.set j u').length = S.length := List.length_set
  have tk : (S.set j u').take S.length = S.set j u' := by rw [← ln, List.take_length]
  rw [tk]
  refine ⟨?_, rfl, rfl⟩
  have := sane_set hS (isDic_closed hu' S.length) (k := j)
  unfold Sane at this
  rwa [ln] at this
theorem added_adds : Adds κ m_added := fun hS hd hj hl k q _ hB hb hq => added_spec hS hd hj hl k q hB hb hq
theorem summed_spec {S : Sto} (hS : Sane S) {one other : List (κ × Rat)} (n1 : ND one) (n2 : ND other) {B C : Nat} (hC : 2 * (B * B) ≤ C) (hB : B ≤ C) (h1B : 1 ≤ B) (hC2 : C ≤ 2 ^ 4000) (b1 : ∀ p ∈ one, RB' B p.2) (b2 : ∀ p ∈ other, RB' B p.2) (hl : one.length + other.length < sizeLine) :
    (m_summed [toD one, toD other] S).post fun d S' => ∃ u, d = .ptr S.length ∧ S' = S ++ [u] ∧ IsDic u (sumT one other) := by
  refine m_defK ?_
  show (b_summed [some (toD one), some (toD other), none, none, none] S).post _ _ _ _
  unfold b_summed
  refine sum_post added_adds hS n1 n2 hC hB h1B hC2 b1 b2 hl fun u o3 o4 hu => ?_
  exact s_ret (p_var rfl ⟨u, rfl, rfl, hu⟩)
variable [Sok (κ × Rat)]
/-- what may be told -/
structure Fine' (kvs : List (κ × Rat)) : Prop where
  len : kvs.length ≤ 1000
  rb : ∀ p ∈ kvs, RB' (10 ^ 1000) p.2
theorem pairs_of_spec {S : Sto} {j : Nat} {u : D} {kvs : List (κ × Rat)} (hS : Sane S) (hd : IsDic u kvs) (hj : S[j]? = some u) (hl : kvs.length ≤ sizeLine) (hf : Fine' (rowsT kvs)) : m_pairs_of [.ptr j] S = .ok (toD (rowsT kvs)) S := by
  have ln : (kvs.filter fz).length ≤ kvs.length := List.length_filter_le _ _
  have sl : 2000 ≤ sizeLine := by decide
  refine m_defJ hS (cl _ _) ?_
  show (b_pairs_of [some (.ptr j), none, none, none] S).post _ _ _ _
  unfold b_pairs_of
  refine s_seq ?_
  refine s_lockS hd hj rfl ?_
  walk_at "3"
  refine p_lcItems kvs fz toD hd hj rfl (Nat.le_of_ble_eq_true rfl) (Nat.le_of_ble_eq_true rfl) hl (fun p hp => ?_) (fun p hp _ => ?_) ?_
  · refine exact_of ?_
    dsimp only [in2, wipeD, List.set_cons_zero, List.set_cons_succ]
    walk_at "3"
    refine o_neRat ?_
    walk_at "3"
    exact ⟨rfl, rfl⟩
  · refine exact_of ?_
    dsimp only [in2, wipeD, List.set_cons_zero, List.set_cons_succ]
    walk_at "3"
    exact ⟨rfl, rfl⟩
  · walk_at "3"
    refine p_lift (a := .lst ((rowsT kvs).map toD)) (show Option.map D.lst (sortD _ ((kvs.filter fz).map toD)) = _ from by rw [sortD_emb _ _ (by omega)]; rfl) ?_
    walk_at "3"
    refine p_lift (show gTuple _ [.lst ((rowsT kvs).map toD)] = some (.tup ((rowsT kvs).map toD)) from rfl) ?_
    walk_at "3"
    refine ⟨rfl, ?_⟩
    walk_at "3"
    refine ⟨fun z => absurd (of_decide_eq_true z) (by rw [List.length_map]; have := hf.len; omega), fun _ => ?_⟩
    walk_at "3"
    refine p_lcRows (rowsT kvs) (fun p => smallB p.2.num && smallB p.2.den) D.bl (exact_of (p_seq (p_var rfl (.inr (.inl ⟨_, rfl, rfl, rfl⟩))))) (Nat.le_of_ble_eq_true rfl) (Nat.le_of_ble_eq_true rfl) (Nat.le_trans hf.len (by omega)) (fun p hp => ?_) ?_
    · refine exact_of ?_
      dsimp only [in2, wipeD, List.set_cons_zero, List.set_cons_succ]
      rw [toD_rat]
      walk_at "3"
      refine Res.post.of_eq (is_small_spec _ S hS) ⟨smallB p.2.num, rfl, fun z => ?_, fun z => ?_⟩
      · walk_at "3"
        refine Res.post.of_eq (is_small_spec _ S hS) ⟨by rw [z]; rfl, rfl⟩
      · exact ⟨by rw [z]; rfl, rfl⟩
    · walk_at "3"
      refine o_all ?_
      rw [all_true fun p hp => by
        have := hf.rb p hp
        rw [smallB_of this.1, smallB_of (i := (p.2.den : Int)) this.2]
        rfl]
      walk_at "3"
      exact ⟨rfl, List.take_length⟩
end
/-- forms that may be told -/
structure FineK (kvs : List (Kind × Rat)) : Prop where
  fine : Fine' kvs
  kinds : ∀ p ∈ kvs, p.1.p ≤ 99 ∧ p.1.b.natAbs ≤ 10 ^ 1000
theorem form_of_spec {S : Sto} {j : Nat} {u : D} {kvs : List (Kind × Rat)} (hS : Sane S) (hd : IsDic u kvs) (hj : S[j]? = some u) (hl : kvs.length ≤ sizeLine) (hf : FineK (rowsT kvs)) : m_form_of [.ptr j] S = .ok (toD (rowsT kvs)) S := by
  refine m_defJ hS (cl _ _) ?_
  show (b_form_of [some (.ptr j), none, none, none] S).post _ _ _ _
  unfold b_form_of
  have sl : 2000 ≤ sizeLine := by decide
  walk_at "3"
  refine Res.post.of_eq (pairs_of_spec hS hd hj hl hf.fine) ?_
  walk_at "3"
  refine p_lcRows (rowsT kvs) (fun p => decide (p.1.p ≤ 99) && smallB p.1.b) D.bl (exact_of (p_seq (p_var rfl (.inr (.inl ⟨_, rfl, rfl, rfl⟩))))) (Nat.le_of_ble_eq_true rfl) (Nat.le_of_ble_eq_true rfl) (Nat.le_trans hf.fine.len (by omega)) (fun p hp => ?_) ?_
  · refine exact_of ?_
    dsimp only [in2, wipeD, List.set_cons_zero, List.set_cons_succ]
    rw [toD_kind]
    walk_at "3"
    refine ⟨fun z => ?_, fun z => ?_⟩
    · walk_at "3"
      refine Res.post.of_eq (is_small_spec _ S hS) ⟨by rw [z]; rfl, rfl⟩
    · exact ⟨by rw [z]; rfl, rfl⟩
  · walk_at "3"
    refine o_all ?_
    rw [all_true fun p hp => by
      have := hf.kinds p hp
      rw [smallB_of this.2, decide_eq_true this.1]
      rfl]
    walk_at "3"
    exact ⟨rfl, List.take_length⟩
theorem form_times_spec {S : Sto} (hS : Sane S) {rows : List (Kind × Rat)} (n1 : ND rows) (q : Rat) {B : Nat} (hB : B ≤ 2 ^ 4000) (hq : RB' B q) (b1 : ∀ p ∈ rows, RB' B p.2) (hl : rows.length ≤ sizeLine) (hf : FineK (rowsT (rows.map fun p => (p.1, q * p.2)))) :
    m_form_times [toD q, toD rows] S = .ok (toD (rowsT (rows.map fun p => (p.1, q * p.2)))) S := by
  refine m_defJ hS (cl _ _) ?_
  show (b_form_times [some (toD q), some (toD rows), none, none] S).post _ _ _ _
  unfold b_form_times
  walk_at "3"
  refine p_lcRows rows (fun p => (p.1, q * p.2)) toD (exact_of (p_seq (p_var rfl (.inr (.inl ⟨_, rfl, rfl, rfl⟩))))) (Nat.le_of_ble_eq_true rfl) (Nat.le_of_ble_eq_true rfl) hl (fun p hp => ?_) ?_
  · refine exact_of ?_
    dsimp only [in2, wipeD, List.set_cons_zero, List.set_cons_succ]
    walk_at "3"
    refine Res.post.of_eq (times_spec q p.2 hq (b1 p hp) hB S hS) ?_
    walk_at "3"
    exact ⟨rfl, rfl⟩
  · walk_at "3"
    obtain ⟨u, e, _, hu⟩ := dict_of S (rows.map fun p => (p.1, q * p.2))
    refine p_lift e ?_
    walk_at "3"
    have nm : ND (rows.map fun p => (p.1, q * p.2)) := by
      unfold ND at *
      rw [List.map_map]
      exact n1
    rw [merge_id nm] at hu
    refine Res.post.of_eq (form_of_spec (sane_app hS (isDic_closed hu _)) hu get_app (by rw [List.length_map]; exact hl) hf) ⟨rfl, take_app⟩
theorem form_sum_spec {S : Sto} (hS : Sane S) {one other : List (Kind × Rat)} (n1 : ND one) (n2 : ND other) {B C : Nat} (hC : 2 * (B * B) ≤ C) (hB : B ≤ C) (h1B : 1 ≤ B) (hC2 : C ≤ 2 ^ 4000) (b1 : ∀ p ∈ one, RB' B p.2) (b2 : ∀ p ∈ other, RB' B p.2) (hl : one.length + other.length < sizeLine) (hf : FineK (rowsT (sumT one other))) :
    m_form_sum [toD one, toD other] S = .ok (toD (rowsT (sumT one other))) S := by
  refine m_defJ hS (cl _ _) ?_
  show (b_form_sum [some (toD one), some (toD other)] S).post _ _ _ _
  unfold b_form_sum
  walk_at "3"
  refine (summed_spec hS n1 n2 hC hB h1B hC2 b1 b2 hl).mono ?_
  rintro _ _ ⟨u, rfl, rfl, hu⟩
  walk_at "3"
  have ls := len_sum (other := other) n1
  refine Res.post.of_eq (form_of_spec (sane_app hS (isDic_closed hu _)) hu get_app (by omega) hf) ⟨rfl, take_app⟩
end DL
set_option Elab.async false
set_option linter.all false
set_option maxRecDepth 100000
set_option maxHeartbeats 4000000
set_option autoImplicit false
/-! What is shown. -/
namespace DL
open PySem L2
open Emb
local macro_rules | `(tactic| walk_at "1") => `(tactic| with_reducible first
  | refine s_seq ?_ | refine s_asg ?_ | refine s_ret ?_ | refine s_if ?_ | refine s_expr ?_ | refine s_next ?_ | refine s_brk ?_ | refine s_cont ?_ | refine s_for ?_ | refine s_while ?_
  | refine p_c ?_ | refine p_bin ?_ | refine p_as ?_ | refine p_cons ?_ | refine p_nil ?_ | refine p_un ?_ | refine p_call ?_ | refine p_if ?_ | refine p_own ?_
  | refine p_keep ?_ | refine p_tru ?_ | refine p_and ?_ | refine p_or ?_ | refine p_not ?_ | refine p_val ?_ | refine p_rand ?_ | refine p_ror ?_ | refine p_rnot ?_ | refine p_chain ?_ | refine p_bif ?_
  | refine o_add ?_ | refine o_sub ?_ | refine o_ltU ?_ | refine o_leU ?_ | refine o_gtU ?_ | refine o_geU ?_ | refine o_neg ?_ | refine o_eqI ?_ | refine o_neI ?_ | refine o_abs ?_ | refine o_tru ?_ | refine p_true ?_ | refine p_false ?_
  | refine o_lenT ?_ | refine o_lenL ?_ | refine o_ix0 ?_ | refine o_ix1 ?_ | refine o_ix2 ?_ | refine o_ix0L ?_ | refine o_ix1L ?_ | refine o_ix2L ?_
  | refine s_par ?_ | refine p_yes ?_ | refine p_seq ?_ | refine s_gnil ?_ | refine s_gcons ?_ | refine s_gtux ?_ | refine s_gtupl ?_ | refine p_onone ?_ | refine p_osome ?_ | refine p_get2 ?_ | refine s_putU ?_ | refine p_sortIt ?_)
local macro_rules | `(tactic| walk_at "2") => `(tactic| first
  | walk_at "1"
  | (with_reducible refine p_var2 ?_)
  | ((with_reducible refine s_name ?_ ?_); (· exact Nat.le_of_ble_eq_true rfl); dsimp only [List.set_cons_zero, List.set_cons_succ])
  | (with_reducible refine p_tup ?_) | (with_reducible refine p_lst ?_) | ((with_reducible refine ⟨?_, ?_⟩); (· exact Nat.le_of_ble_eq_true rfl))
  | ((with_reducible refine p_ex2 (x := ?_) (y := ?_) ?_ ?_); rotate_left; rotate_left; (· rfl); refine ⟨?_, ?_, ?_⟩; (· exact Nat.le_of_ble_eq_true rfl); (· exact Nat.le_of_ble_eq_true rfl); dsimp only [List.set_cons_zero, List.set_cons_succ])
  | ((with_reducible refine p_isT ?_ ?_); (· rfl)) | ((with_reducible refine p_isF ?_ ?_); (· rfl))
  | ((with_reducible refine p_ex (x := ?_) ?_ ?_); rotate_left; (· rfl)))
local macro_rules | `(tactic| walk_at "3") => `(tactic| repeat walk_at "2")
mutual
theorem fit_lay : ∀ {x : PyData}, fitP x = true → x.canLay0 = true
  | .none, _ => by simp [PyData.canLay0]
  | .bool _, _ => by simp [PyData.canLay0]
  | .int _, _ => by simp [PyData.canLay0]
  | .str _, h => by unfold fitP at h; simp [PyData.canLay0, h]
  | .list xs, h => by unfold fitP at h; simp only [PyData.canLay0]; exact fits_lay h
  | .tuple xs, h => by unfold fitP at h; simp only [PyData.canLay0]; exact fits_lay h
  | .dict _, h => by unfold fitP at h; cases h
theorem fits_lay : ∀ {xs : List PyData}, fitPs xs = true → PyData.canLayAll0 xs = true
  | [], _ => by simp [PyData.canLayAll0]
  | x :: r, h => by
    unfold fitPs at h
    rw [Bool.and_eq_true] at h
    simp only [PyData.canLayAll0, fit_lay h.1, fits_lay h.2, Bool.and_self]
end
theorem fit_shaped {x : PyData} (h : fitP x = true) (hd : x.depth ≤ 64) : SeqAt.shaped x = true := by
  unfold SeqAt.shaped
  rw [fit_lay h, decide_eq_true hd]
  rfl
/-! ### what is shown -/
structure Shw (d : D) (t : Str) : Prop where
  rep : ∀ S : Sto, gReprW S [d] = some (.str t)
  ok : PyData.strOk t = true
theorem o_shw {S : Sto} {d : D} {t : Str} {Q : D → Sto → Prop} (h : Shw d t) (q : Q (.str t) S) : (Res.lift (gReprW S [d]) S).post Q := p_lift (h.rep S) q
theorem o_neSame {S : Sto} {d : D} {t : Str} {Q : D → Sto → Prop} (h : Shw d t) (q : Q (.bl false) S) : (Res.lift (gNe S (.str t) (.str t)) S).post Q := o_neS h.ok h.ok (by rw [beq_self_eq_true]; exact q)
def FitE {κ : Type} [Emb κ] (w : Nat) (x : κ) : Prop := fitP (py x) = true ∧ wtP (py x) ≤ w
theorem shw_emb {κ : Type} [Emb κ] {w : Nat} {x : κ} (h : FitE w x) (hw : w ≤ sizeLine) (hd : deg κ ≤ 64) : Shw (toD x) (py x).shown := by
  obtain ⟨g1, g2, g3⟩ := shown_fit h.1
  refine ⟨fun S => ?_, okS_ok g1⟩
  have h2 := h.2
  unfold gReprW
  dsimp only
  rw [deref_emb, pyOk]
  dsimp only
  rw [g3, decide_eq_true (Nat.le_trans (dep x) hd), decide_eq_true (show (py x).shown.length ≤ sizeLine by omega)]
  rfl
theorem fitE_le {κ : Type} [Emb κ] {v w : Nat} {x : κ} (h : FitE v x) (hv : v ≤ w) : FitE w x := ⟨h.1, Nat.le_trans h.2 hv⟩
theorem fitE_int {i : Int} (h : i.natAbs ≤ 10 ^ 1000) : FitE 1006 i := by
  refine ⟨?_, ?_⟩
  · show fitP (.int i) = true
    unfold fitP
    exact decide_eq_true (Nat.lt_of_le_of_lt h (Nat.pow_lt_pow_right (by decide) (by decide)))
  · show wtP (.int i) ≤ 1006
    unfold wtP
    exact Nat.le_refl _
theorem fitE_small {i : Int} {B : Nat} (h : i.natAbs ≤ B) (hB : B ≤ 10 ^ 100) : FitE 1006 i := fitE_int (Nat.le_trans h (Nat.le_trans hB (Nat.pow_le_pow_right (by decide) (by decide))))
theorem fitE_str {x : Str} (h : nice x = true) : FitE 82 x := by
  unfold nice at h
  have h := (Bool.and_eq_true_iff.mp h).1
  rw [Bool.and_eq_true, decide_eq_true_eq, List.all_eq_true] at h
  refine ⟨?_, ?_⟩
  · show fitP (.str x) = true
    unfold fitP
    exact okS_ok fun c hc => by have := of_decide_eq_true (h.2 c hc); omega
  · show wtP (.str x) ≤ 82
    unfold wtP
    omega
theorem fitE_pair {α β : Type} [Emb α] [Emb β] {a b : Nat} {p : α × β} (h1 : FitE a p.1) (h2 : FitE b p.2) : FitE (a + b + 7) p := by
  refine ⟨?_, ?_⟩
  · show fitP (.tuple [py p.1, py p.2]) = true
    unfold fitP fitPs fitPs fitPs
    rw [h1.1, h2.1]; rfl
  · show wtP (.tuple [py p.1, py p.2]) ≤ _
    unfold wtP wtPs wtPs wtPs
    have := h1.2
    have := h2.2
    omega
theorem fitE_list {α : Type} [Emb α] {w : Nat} : ∀ {xs : List α}, (∀ x ∈ xs, FitE w x) → fitPs (xs.map py) = true ∧ wtPs (xs.map py) ≤ xs.length * (w + 2)
  | [], _ => ⟨by unfold List.map fitPs; rfl, by unfold List.map wtPs; simp⟩
  | x :: r, h => by
    obtain ⟨h1, h2⟩ := fitE_list fun y hy => h y (List.mem_cons_of_mem _ hy)
    have hx := h x List.mem_cons_self
    unfold List.map fitPs wtPs
    rw [hx.1, h1, List.length_cons, Nat.succ_mul]
    refine ⟨rfl, ?_⟩
    have := hx.2
    omega
theorem fitE_tuple {α : Type} [Emb α] {w n : Nat} {xs : List α} (h : ∀ x ∈ xs, FitE w x) (hn : xs.length ≤ n) : FitE (n * (w + 2) + 3) xs := by
  obtain ⟨h1, h2⟩ := fitE_list h
  refine ⟨?_, ?_⟩
  · show fitP (.tuple (xs.map py)) = true
    unfold fitP; exact h1
  · show wtP (.tuple (xs.map py)) ≤ _
    unfold wtP
    have := Nat.mul_le_mul_right (w + 2) hn
    omega
theorem fitE_rat {q : Rat} (h : RB' (10 ^ 1000) q) : FitE 2019 q := by
  have h1 := fitE_int h.1
  have h2 := fitE_int (i := (q.den : Int)) h.2
  exact fitE_pair (p := (q.num, (q.den : Int))) h1 h2
theorem mono_len {n : Nat} {m : Mono} (h : MonO n m) : m.length ≤ n ∧ ∀ p ∈ m, p.2.natAbs ≤ n := by
  obtain ⟨h1, h2⟩ := deg_pos h.nc
  have := h.dg
  refine ⟨by omega, fun p hp => ?_⟩
  have := h2 p hp
  have := (h.nc p hp).2
  omega
theorem fitE_mono {n : Nat} {m : Mono} (h : MonO n m) (hn : n ≤ 12) : FitE 13200 m := by
  obtain ⟨h1, h2⟩ := mono_len h
  refine fitE_le (fitE_tuple (w := 82 + 1006 + 7) (n := 12) (fun p hp => fitE_pair (fitE_str (h.nc p hp).1) (fitE_small (h2 p hp) (Nat.le_trans hn (by decide)))) (by omega)) (by decide)
theorem fitE_kind {n : Nat} {k : Kind} (h : MonO n k.m) (hp : k.p.natAbs ≤ 10 ^ 1000) (hb : k.b.natAbs ≤ 10 ^ 1000) (hn : n ≤ 12) : FitE 15300 k := by
  have h1 := fitE_mono h hn
  have h2 := fitE_int hp
  have h3 := fitE_int hb
  refine ⟨?_, ?_⟩
  · show fitP (.tuple [py k.m, .int k.p, .int k.b]) = true
    unfold fitP fitPs fitPs fitPs fitPs
    rw [h1.1, show fitP (.int k.p) = true from h2.1, show fitP (.int k.b) = true from h3.1]; rfl
  · show wtP (.tuple [py k.m, .int k.p, .int k.b]) ≤ _
    unfold wtP wtPs wtPs wtPs wtPs
    have := h1.2
    have : wtP (.int k.p) ≤ 1006 := h2.2
    have : wtP (.int k.b) ≤ 1006 := h3.2
    omega
theorem big_le {n : Nat} (h : n ≤ 10 ^ 100) : n ≤ 10 ^ 1000 := Nat.le_trans h (Nat.pow_le_pow_right (by decide) (by decide))
/-! equality of what is shown -/
theorem eqv_fit {κ : Type} [Emb κ] [DecidableEq κ] {a b : κ} (h : fitP (py a) = true) : PyData.eqv (py a) (py b) = decide (a = b) := by
  by_cases e : a = b
  · subst e; rw [eqv_refl _ h, decide_eq_true rfl]
  · rw [decide_eq_false e]
    cases q : PyData.eqv (py a) (py b) with
    | false => rfl
    | true => exact absurd (inj _ _ q) e
theorem o_eqEmb {κ : Type} [Emb κ] [DecidableEq κ] {S : Sto} {a b : κ} {Q : D → Sto → Prop} (ha : fitP (py a) = true) (hb : fitP (py b) = true) (hd : deg κ ≤ 64) (h : Q (.bl (decide (a = b))) S) : (Res.lift (gEq S (toD a) (toD b)) S).post Q :=
  o_eqg (by rw [deref_emb, pyOk]) (by rw [deref_emb, pyOk]) (fit_shaped ha (Nat.le_trans (dep a) hd)) (fit_shaped hb (Nat.le_trans (dep b) hd)) (by rw [eqv_fit ha]; exact h)
theorem o_neEmb {κ : Type} [Emb κ] [DecidableEq κ] {S : Sto} {a b : κ} {Q : D → Sto → Prop} (ha : fitP (py a) = true) (hb : fitP (py b) = true) (hd : deg κ ≤ 64) (h : Q (.bl (!decide (a = b))) S) : (Res.lift (gNe S (toD a) (toD b)) S).post Q :=
  o_neg_ (by rw [deref_emb, pyOk]) (by rw [deref_emb, pyOk]) (fit_shaped ha (Nat.le_trans (dep a) hd)) (fit_shaped hb (Nat.le_trans (dep b) hd)) (by rw [eqv_fit ha]; exact h)
theorem lst_shaped {κ : Type} [Emb κ] {a : List κ} (ha : fitPs (a.map py) = true) (hd : deg κ + 1 ≤ 64) : SeqAt.shaped (.list (a.map py)) = true :=
  fit_shaped (by unfold fitP; exact ha) (by have := emb_dep a; simp only [PyData.depth]; omega)
end DL
set_option Elab.async false
set_option linter.all false
set_option maxRecDepth 100000
set_option maxHeartbeats 4000000
set_option autoImplicit false
/-! The program: powers, ways to choose. -/
namespace DL
open PySem L2
open Emb
local macro_rules | `(tactic| walk_at "1") => `(tactic| with_reducible first
  | refine s_seq ?_ | refine s_asg ?_ | refine s_ret ?_ | refine s_if ?_ | refine s_expr ?_ | refine s_next ?_ | refine s_brk ?_ | refine s_cont ?_ | refine s_for ?_ | refine s_while ?_
  | refine p_c ?_ | refine p_bin ?_ | refine p_as ?_ | refine p_cons ?_ | refine p_nil ?_ | refine p_un ?_ | refine p_call ?_ | refine p_if ?_ | refine p_own ?_
  | refine p_keep ?_ | refine p_tru ?_ | refine p_and ?_ | refine p_or ?_ | refine p_not ?_ | refine p_val ?_ | refine p_rand ?_ | refine p_ror ?_ | refine p_rnot ?_ | refine p_chain ?_ | refine p_bif ?_
  | refine o_add ?_ | refine o_sub ?_ | refine o_ltU ?_ | refine o_leU ?_ | refine o_gtU ?_ | refine o_geU ?_ | refine o_neg ?_ | refine o_eqI ?_ | refine o_neI ?_ | refine o_abs ?_ | refine o_tru ?_ | refine p_true ?_ | refine p_false ?_
  | refine o_lenT ?_ | refine o_lenL ?_ | refine o_ix0 ?_ | refine o_ix1 ?_ | refine o_ix2 ?_ | refine o_ix0L ?_ | refine o_ix1L ?_ | refine o_ix2L ?_
  | refine s_par ?_ | refine p_yes ?_ | refine p_seq ?_ | refine s_gnil ?_ | refine s_gcons ?_ | refine s_gtux ?_ | refine s_gtupl ?_ | refine p_onone ?_ | refine p_osome ?_ | refine p_get2 ?_ | refine s_putU ?_ | refine p_sortIt ?_)
local macro_rules | `(tactic| walk_at "2") => `(tactic| first
  | walk_at "1"
  | (with_reducible refine p_var2 ?_)
  | ((with_reducible refine s_name ?_ ?_); (· exact Nat.le_of_ble_eq_true rfl); dsimp only [List.set_cons_zero, List.set_cons_succ])
  | (with_reducible refine p_tup ?_) | (with_reducible refine p_lst ?_) | ((with_reducible refine ⟨?_, ?_⟩); (· exact Nat.le_of_ble_eq_true rfl))
  | ((with_reducible refine p_ex2 (x := ?_) (y := ?_) ?_ ?_); rotate_left; rotate_left; (· rfl); refine ⟨?_, ?_, ?_⟩; (· exact Nat.le_of_ble_eq_true rfl); (· exact Nat.le_of_ble_eq_true rfl); dsimp only [List.set_cons_zero, List.set_cons_succ])
  | ((with_reducible refine p_isT ?_ ?_); (· rfl)) | ((with_reducible refine p_isF ?_ ?_); (· rfl))
  | ((with_reducible refine p_ex (x := ?_) ?_ ?_); rotate_left; (· rfl)))
local macro_rules | `(tactic| walk_at "3") => `(tactic| repeat walk_at "2")
theorem choose_spec (n j : Nat) (hn : n ≤ 200) (hj : j ≤ 300) (S : Sto) (hS : Sane S) : m_choose [.int n, .int j] S = .ok (.int (bin n j)) S := by
  refine m_defS hS rfl ?_
  show (b_choose [some (.int n), some (.int j), none, none] S).post _ _ _ _
  unfold b_choose
  walk_at "3"
  refine ⟨fun h => ?_, fun h => ?_⟩
  · have h : (n : Int) < j := of_decide_eq_true h
    walk_at "3"
    rw [bin_gt (by omega)]
    exact ⟨rfl, rfl⟩
  · have h : ¬ (n : Int) < j := of_decide_eq_false h
    walk_at "3"
    with_reducible refine p_range1 ?_
    walk_at "3"
    refine ⟨by omega, by omega, ?_⟩
    refine s_forL (fun xs δ S1 => S1 = S ∧ ∃ i z, i ≤ j ∧ xs = (rangeD 0 j).drop i ∧ δ = [some (.int n), some (.int j), some (.int (bin n i)), z]) ?_ ?_ _ _ _ ⟨rfl, 0, none, Nat.zero_le _, rfl, by cases n <;> rfl⟩
    · rintro x xs δ S1 ⟨rfl, i, z, hi, e, rfl⟩
      have hx := range_cons e
      obtain ⟨rfl, hlt, rfl⟩ := hx
      walk_at "3"
      have b1 := bin_le n i
      have b2 : 2 ^ n ≤ 2 ^ 200 := Nat.pow_le_pow_right (by decide) hn
      have b3 : (bin n i : Int).natAbs < 2 ^ 201 := by
        show bin n i < 2 ^ 201
        exact Nat.lt_of_le_of_lt (Nat.le_trans b1 b2) (by decide)
      have b4 : ((n : Int) - (i : Int)).natAbs < 2 ^ 9 := by omega
      refine o_mul (fits_of (a := 201) (b := 9) b3 b4 (by decide)) ?_
      walk_at "3"
      have b5 : ((i : Int) + 1).natAbs < 2 ^ 9 := by omega
      refine o_div ⟨by omega, log_of (b := 9) b5 (by decide)⟩ ?_
      walk_at "3"
      refine ⟨rfl, i + 1, some (.int i), by omega, rfl, ?_⟩
      have st := bin_step (n := n) (k := i) (by omega)
      have e : ((bin n i : Int) * (n - i)).fdiv (i + 1) = (bin n (i + 1) : Int) := by
        have e1 : ((bin n i : Int) * (n - i)) = ((bin n (i + 1) : Int) * (i + 1)) := by
          rw [show ((n : Int) - i) = ((n - i : Nat) : Int) by omega, show ((i : Int) + 1) = ((i + 1 : Nat) : Int) by omega, ← Int.natCast_mul, ← Int.natCast_mul, st]
        rw [e1]
        exact Int.mul_fdiv_cancel _ (by omega)
      rw [e]
    · rintro δ S1 ⟨rfl, i, z, hi, e, rfl⟩
      have : i = j := by have := range_nil e; omega
      subst this
      walk_at "3"
      exact ⟨rfl, rfl⟩
theorem pow_half (x : Int) (l : Nat) : x ^ l = (x * x) ^ (l / 2) * (if l % 2 = 1 then x else 1) := by
  have h : l = 2 * (l / 2) + l % 2 := by omega
  generalize l / 2 = m at *
  rcases (by omega : l % 2 = 0 ∨ l % 2 = 1) with e | e
  · rw [e] at h ⊢
    rw [if_neg (by decide), h, Nat.add_zero, Int.pow_mul, Int.mul_one]
    congr 1
    rw [Int.pow_succ, Int.pow_succ, Int.pow_zero, Int.one_mul]
  · rw [e] at h ⊢
    rw [if_pos rfl, h, Int.pow_succ, Int.pow_mul]
    congr 2
    rw [Int.pow_succ, Int.pow_succ, Int.pow_zero, Int.one_mul]
theorem raised_spec (n : Int) (k : Nat) (hn : n.natAbs ^ k < 2 ^ 400000) (hn1 : n.natAbs < 2 ^ 400000) (hk : k < 2 ^ 60) (S : Sto) (hS : Sane S) : m_raised [.int n, .int k] S = .ok (.int (n ^ k)) S := by
  refine m_defS hS rfl ?_
  show (b_raised [some (.int n), some (.int k), none, none] S).post _ _ _ _
  unfold b_raised
  generalize hL : (2 : Nat) ^ 400000 = L at hn hn1
  have hL2 : 2 ≤ L := by
    rw [← hL]
    exact Nat.le_trans (show 2 ≤ 2 ^ 1 by decide) (Nat.pow_le_pow_right (by decide) (by decide))
  have fits : ∀ {a b : Int}, a.natAbs < L → b.natAbs < L → mulFits a b = true := fun h1 h2 => fits_of (a := 400000) (b := 400000) (by rw [hL]; exact h1) (by rw [hL]; exact h2) (by decide)
  walk_at "3"
  refine s_whileL (fun m δ S1 => S1 = S ∧ ∃ (f x : Int) (l : Nat), l ≤ m ∧ f * x ^ l = n ^ k ∧ (n ≠ 0 → x ≠ 0 ∧ f ≠ 0) ∧ (n = 0 → x = 0 ∧ f.natAbs ≤ 1) ∧ x.natAbs < L ∧ f.natAbs < L ∧ δ = [some (.int x), some (.int k), some (.int f), some (.int l)]) ?_ k _ _ _ ⟨rfl, 1, n, k, Nat.le_refl _, Int.one_mul _, fun h => ⟨h, by decide⟩, fun h => ⟨h, by decide⟩, hn1, hL2, rfl⟩ (by show k < (k : Int).natAbs + 1; omega)
  rintro m δ S1 ⟨rfl, f, x, l, hm, he, hn0, hz0, hx, hf, rfl⟩
  walk_at "3"
  constructor
  · intro h
    have h : (0 : Int) < l := of_decide_eq_true h
    have hl : 0 < l := by omega
    obtain ⟨m', rfl⟩ : ∃ m', m = m' + 1 := ⟨m - 1, by omega⟩
    refine ⟨m', rfl, ?_⟩
    have hh := pow_half x l
    have hd : (Int.fdiv (l : Int) 2) = ((l / 2 : Nat) : Int) := by rw [Int.fdiv_eq_ediv_of_nonneg _ (by decide)]; rfl
    have hmo : (Int.fmod (l : Int) 2) = ((l % 2 : Nat) : Int) := by rw [Int.fmod_eq_emod_of_nonneg _ (by decide)]; rfl
    -- what is behind the turn
    have key : ∀ f' : Int, f' = f * (if l % 2 = 1 then x else 1) → (n ≠ 0 → f' ≠ 0) ∧ (n = 0 → f'.natAbs ≤ 1) ∧ f'.natAbs < L ∧ f' * (x * x) ^ (l / 2) = n ^ k := by
      intro f' hf'
      have e : f' * (x * x) ^ (l / 2) = n ^ k := by
        rw [← he, hh, hf', Int.mul_assoc, Int.mul_comm (if l % 2 = 1 then x else 1)]
      have nz : n ≠ 0 → f' ≠ 0 := fun h => by
        obtain ⟨a1, a2⟩ := hn0 h
        rw [hf']
        split
        · exact Int.mul_ne_zero a2 a1
        · rw [Int.mul_one]; exact a2
      have zz : n = 0 → f'.natAbs ≤ 1 := fun h => by
        obtain ⟨a1, a2⟩ := hz0 h
        rw [hf', a1]
        split
        · rw [Int.mul_zero]; decide
        · rw [Int.mul_one]; exact a2
      refine ⟨nz, zz, ?_, e⟩
      by_cases hz : n = 0
      · have := zz hz; omega
      · have e2 := congrArg Int.natAbs e
        rw [Int.natAbs_mul, Int.natAbs_pow, Int.natAbs_pow] at e2
        have hx0 : 0 < (x * x).natAbs ^ (l / 2) := Nat.pow_pos (Int.natAbs_pos.mpr (Int.mul_ne_zero (hn0 hz).1 (hn0 hz).1))
        have : f'.natAbs ≤ f'.natAbs * (x * x).natAbs ^ (l / 2) := Nat.le_mul_of_pos_right _ hx0
        omega
    have xx : 0 < l / 2 → (x * x).natAbs < L := fun h2 => by
      by_cases hz : n = 0
      · rw [(hz0 hz).1]; show 0 < L; omega
      · obtain ⟨_, _, _, e⟩ := key _ rfl
        have nz := (key _ rfl).1 hz
        have e2 := congrArg Int.natAbs e
        rw [Int.natAbs_mul, Int.natAbs_pow, Int.natAbs_pow] at e2
        have hx0 : 0 < (x * x).natAbs := Int.natAbs_pos.mpr (Int.mul_ne_zero (hn0 hz).1 (hn0 hz).1)
        have h3 : (x * x).natAbs ≤ (x * x).natAbs ^ (l / 2) := Nat.le_self_pow (by omega) _
        have h4 : (x * x).natAbs ^ (l / 2) ≤ (f * (if l % 2 = 1 then x else 1)).natAbs * (x * x).natAbs ^ (l / 2) := Nat.le_mul_of_pos_left _ (Int.natAbs_pos.mpr nz)
        omega
    have fin : ∀ {T : D → Sto → Prop} {B C : Sl → Sto → Prop} (f' : Int), f' = f * (if l % 2 = 1 then x else 1) → ((sSeq (sAsg (rBin gDiv (rVar 3) (rC (.int 2))) (gName 3)) (sAsg (rIf (bVal (rBin gGtU (rVar 3) (rC (.int 0)))) (rBin gMul (rVar 0) (rVar 0)) (rVar 0)) (gName 0))) [some (.int x), some (.int k), some (.int f'), some (.int l)] S1).post (fun δ2 S2 => S2 = S1 ∧ ∃ (f x : Int) (l : Nat), l ≤ m' ∧ f * x ^ l = n ^ k ∧ (n ≠ 0 → x ≠ 0 ∧ f ≠ 0) ∧ (n = 0 → x = 0 ∧ f.natAbs ≤ 1) ∧ x.natAbs < L ∧ f.natAbs < L ∧ δ2 = [some (.int x), some (.int k), some (.int f), some (.int l)]) T B C := by
      intro T B C f' hf'
      obtain ⟨k1, k2, k3, k4⟩ := key f' hf'
      walk_at "3"
      refine o_div ⟨by decide, by decide⟩ ?_
      walk_at "3"
      rw [hd]
      walk_at "3"
      refine ⟨fun h2 => ?_, fun h2 => ?_⟩
      · have h2 : (0 : Int) < ((l / 2 : Nat) : Int) := of_decide_eq_true h2
        walk_at "3"
        refine o_mul (fits hx hx) ?_
        walk_at "3"
        exact ⟨rfl, f', x * x, l / 2, by omega, k4, fun h => ⟨Int.mul_ne_zero (hn0 h).1 (hn0 h).1, k1 h⟩, fun h => ⟨by rw [(hz0 h).1]; rfl, k2 h⟩, xx (by omega), k3, rfl⟩
      · have h2 : ¬ (0 : Int) < ((l / 2 : Nat) : Int) := of_decide_eq_false h2
        have h3 : l / 2 = 0 := by omega
        walk_at "3"
        rw [h3, Int.pow_zero] at k4
        exact ⟨rfl, f', x, l / 2, by omega, by rw [h3, Int.pow_zero]; exact k4, fun h => ⟨(hn0 h).1, k1 h⟩, fun h => ⟨(hz0 h).1, k2 h⟩, hx, k3, rfl⟩
    walk_at "3"
    refine o_mod (by decide) ?_
    rw [hmo]
    walk_at "3"
    refine ⟨fun h2 => ?_, fun h2 => ?_⟩
    · have h2 : l % 2 = 1 := by have : ((l % 2 : Nat) : Int) = 1 := by simpa using h2
                                omega
      refine s_asg ?_
      walk_at "3"
      refine o_mul (fits hf hx) ?_
      refine s_name (Nat.le_of_ble_eq_true rfl) ?_
      exact fin (f * x) (by rw [if_pos h2])
    · have h2 : ¬ l % 2 = 1 := fun z => by rw [z] at h2; cases h2
      refine s_next ?_
      exact fin f (by rw [if_neg h2, Int.mul_one])
  · intro h
    have h : ¬ (0 : Int) < l := of_decide_eq_false h
    have hl : l = 0 := by omega
    subst hl
    walk_at "3"
    rw [Int.pow_zero, Int.mul_one] at he
    rw [he]
    exact ⟨rfl, rfl⟩
end DL
set_option Elab.async false
set_option linter.all false
set_option maxRecDepth 100000
set_option maxHeartbeats 4000000
set_option autoImplicit false
/-! Products of rows: plain. -/
namespace DL
open PySem L2
open Emb
/-! ### sizes of fractions: not beyond V, the number below not beyond D -/
def QB (V D : Nat) (q : Rat) : Prop := q.num.natAbs ≤ V * q.den ∧ q.den ≤ D
/-! ### sums over rows -/
section
variable {κ : Type} [DecidableEq κ]
def sumR {α : Type} (xs : List α) (f : α → Rat) : Rat := (xs.map f).sum
theorem sumR_nil {α : Type} (f : α → Rat) : sumR [] f = 0 := rfl
theorem sumR_cons {α : Type} (x : α) (xs : List α) (f : α → Rat) : sumR (x :: xs) f = f x + sumR xs f := by unfold sumR; rw [List.map_cons, List.sum_cons]
theorem sumR_app {α : Type} (xs ys : List α) (f : α → Rat) : sumR (xs ++ ys) f = sumR xs f + sumR ys f := by
  induction xs with
  | nil => rw [List.nil_append, sumR_nil]; grind
  | cons x r ih => rw [List.cons_append, sumR_cons, sumR_cons, ih]; grind
theorem sumR_map {α β : Type} (xs : List α) (g : α → β) (f : β → Rat) : sumR (xs.map g) f = sumR xs fun x => f (g x) := by unfold sumR; rw [List.map_map]; rfl
theorem sumR_congr {α : Type} {xs : List α} {f g : α → Rat} (h : ∀ x ∈ xs, f x = g x) : sumR xs f = sumR xs g := by
  induction xs with
  | nil => rfl
  | cons x r ih => rw [sumR_cons, sumR_cons, h x List.mem_cons_self, ih fun y hy => h y (List.mem_cons_of_mem _ hy)]
theorem sumR_zero {α : Type} {xs : List α} {f : α → Rat} (h : ∀ x ∈ xs, f x = 0) : sumR xs f = 0 := by
  induction xs with
  | nil => rfl
  | cons x r ih => rw [sumR_cons, h x List.mem_cons_self, ih fun y hy => h y (List.mem_cons_of_mem _ hy)]; grind
theorem sumR_add {α : Type} (xs : List α) (f g : α → Rat) : (sumR xs fun x => f x + g x) = sumR xs f + sumR xs g := by
  induction xs with
  | nil => rw [sumR_nil, sumR_nil, sumR_nil]; grind
  | cons x r ih => rw [sumR_cons, sumR_cons, sumR_cons, ih]; grind
theorem sumR_mul {α : Type} (xs : List α) (c : Rat) (f : α → Rat) : (sumR xs fun x => c * f x) = c * sumR xs f := by
  induction xs with
  | nil => rw [sumR_nil, sumR_nil]; grind
  | cons x r ih => rw [sumR_cons, sumR_cons, ih]; grind
theorem sumR_swap {α β : Type} (xs : List α) (ys : List β) (f : α → β → Rat) : (sumR xs fun x => sumR ys fun y => f x y) = sumR ys fun y => sumR xs fun x => f x y := by
  induction xs with
  | nil => rw [sumR_nil]; exact (sumR_zero fun y _ => rfl).symm
  | cons x r ih =>
    rw [sumR_cons, ih, ← sumR_add]
    exact sumR_congr fun y _ => (sumR_cons x r fun x => f x y).symm
/-- what a row of additions gives to the place q -/
def con (L : List (κ × Rat)) (q : κ) : Rat := sumR L fun p => if p.1 = q then p.2 else 0
def addAll (acc L : List (κ × Rat)) : List (κ × Rat) := L.foldl (fun acc p => addT acc p.1 p.2) acc
theorem at0_addAll : ∀ (L acc : List (κ × Rat)) (q : κ), at0 (addAll acc L) q = at0 acc q + con L q
  | [], acc, q => by show at0 acc q = at0 acc q + 0; grind
  | p :: r, acc, q => by
    show at0 (addAll (addT acc p.1 p.2) r) q = _
    rw [at0_addAll r, at0_add]
    unfold con
    rw [sumR_cons]
    by_cases h : q = p.1
    · subst h; rw [if_pos rfl, if_pos rfl]; grind
    · rw [if_neg h, if_neg (Ne.symm h)]; grind
theorem nd_addAll : ∀ (L acc : List (κ × Rat)), ND acc → ND (addAll acc L) := fun L acc h => nd_fold L acc h
end
/-! ### products of boxes -/
def at0I (m : Mono) (q : Str) : Int := (getT m q).getD 0
theorem mono_one {n k : Nat} {a b : Mono} (ha : MonO n a) (hb : MonO k b) (h : ∀ q, at0I a q = at0I b q) : a = b := by
  refine inc_one ha.inc hb.inc fun q => ?_
  have h := h q
  unfold at0I at h
  cases e : getT a q with
  | none =>
    cases e2 : getT b q with
    | none => rfl
    | some w => rw [e, e2] at h; have := (hb.nc _ (getT_mem e2)).2; have h : (0 : Int) = w := h; omega
  | some v =>
    cases e2 : getT b q with
    | none => rw [e, e2] at h; have := (ha.nc _ (getT_mem e)).2; have h : v = (0 : Int) := h; omega
    | some w => rw [e, e2] at h; exact congrArg some h
/-! ### products of rows -/
end DL
set_option Elab.async false
set_option linter.all false
set_option maxRecDepth 100000
set_option maxHeartbeats 4000000
set_option autoImplicit false
/-! Fractions of a common number below; sums over rows. -/
namespace DL
open PySem L2
open Emb
theorem con_nd {κ : Type} [DecidableEq κ] : ∀ {L : List (κ × Rat)}, ND L → ∀ q, con L q = at0 L q
  | [], _, _ => rfl
  | p :: r, h, q => by
    obtain ⟨h1, h2⟩ := nd_tail h
    have ih := con_nd h2 q
    unfold con at ih ⊢
    rw [sumR_cons, ih, show p :: r = (p.1, p.2) :: r from rfl, at0_cons]
    by_cases z : p.1 = q
    · rw [if_pos z, if_pos z]
      subst z
      rw [at0_none h1]; grind
    · rw [if_neg z, if_neg z]; grind
/-! ### fractions of a common number below -/
def QC (V L : Nat) (q : Rat) : Prop := ∃ X : Int, q = (X : Rat) / ((L : Int) : Rat) ∧ X.natAbs ≤ V * L
theorem castL {L : Nat} (h : 1 ≤ L) : ((L : Int) : Rat) ≠ 0 := by simp; omega
theorem qc_zero (L : Nat) : QC 0 L 0 := ⟨0, by rw [show ((0 : Int) : Rat) = 0 from rfl]; grind, Nat.zero_le _⟩
theorem qc_add {V W L : Nat} {x y : Rat} (h : QC V L x) (g : QC W L y) : QC (V + W) L (x + y) := by
  obtain ⟨X, rfl, hX⟩ := h
  obtain ⟨Y, rfl, hY⟩ := g
  refine ⟨X + Y, ?_, ?_⟩
  · rw [show ((X + Y : Int) : Rat) = (X : Rat) + (Y : Rat) by push_cast; rfl]
    grind
  · rw [Nat.add_mul]; omega
theorem qc_int {V L : Nat} {x : Rat} {n : Int} {W : Nat} (h : QC V L x) (hn : n.natAbs ≤ W) : QC (V * W) L (x * (n : Rat)) := by
  obtain ⟨X, rfl, hX⟩ := h
  refine ⟨X * n, ?_, ?_⟩
  · rw [show ((X * n : Int) : Rat) = (X : Rat) * (n : Rat) by push_cast; rfl]
    grind
  · rw [Int.natAbs_mul, Nat.mul_right_comm]
    exact Nat.mul_le_mul hX hn
theorem qc_mono {V W L : Nat} {x : Rat} (h : QC V L x) (hv : V ≤ W) : QC W L x := by
  obtain ⟨X, rfl, hX⟩ := h
  exact ⟨X, rfl, Nat.le_trans hX (Nat.mul_le_mul_right _ hv)⟩
theorem qc_scale {V L M : Nat} {x : Rat} (hL : 1 ≤ L) (hM : 1 ≤ M) (h : QC V L x) : QC V (L * M) x := by
  obtain ⟨X, rfl, hX⟩ := h
  refine ⟨X * M, ?_, ?_⟩
  · have h1 := castL hL
    have h2 := castL hM
    rw [show ((X * (M : Int) : Int) : Rat) = (X : Rat) * ((M : Int) : Rat) by push_cast; rfl, show (((L * M : Nat) : Int) : Rat) = ((L : Int) : Rat) * ((M : Int) : Rat) by push_cast; rfl]
    generalize ((L : Int) : Rat) = l at *
    generalize ((M : Int) : Rat) = m at *
    grind
  · rw [Int.natAbs_mul, ← Nat.mul_assoc]
    exact Nat.mul_le_mul_right _ hX
theorem qc_rb {V L : Nat} {x : Rat} (hV : 1 ≤ V) (hL : 1 ≤ L) (h : QC V L x) : RB' (V * L) x := by
  obtain ⟨X, rfl, hX⟩ := h
  exact rb_of (by omega) hX (by show L ≤ V * L; exact Nat.le_mul_of_pos_left _ hV)
theorem qc_self {V : Nat} {x : Rat} (h : x.num.natAbs ≤ V) : QC V x.den x := ⟨x.num, by
  have := rat_nd x
  rw [show (((x.den : Nat) : Int) : Rat) = ((x.den : Nat) : Rat) by push_cast; rfl]
  exact this.symm, Nat.le_trans h (Nat.le_mul_of_pos_right _ x.den_pos)⟩
/-- the product of the numbers below -/
def dens {κ : Type} (rows : List (κ × Rat)) : Nat := (rows.map fun p => p.2.den).foldr (· * ·) 1
theorem dens_pos {κ : Type} : ∀ rows : List (κ × Rat), 1 ≤ dens rows
  | [] => Nat.le_refl _
  | p :: r => Nat.mul_pos p.2.den_pos (dens_pos r)
theorem dens_le {κ : Type} {D' : Nat} (hD : 1 ≤ D') : ∀ {rows : List (κ × Rat)} {n : Nat}, (∀ p ∈ rows, p.2.den ≤ D') → rows.length ≤ n → dens rows ≤ D' ^ n
  | [], n, _, _ => Nat.one_le_pow _ _ hD
  | p :: r, n, h, hn => by
    obtain ⟨m, rfl⟩ : ∃ m, n = m + 1 := ⟨n - 1, by rw [List.length_cons] at hn; omega⟩
    have ih := dens_le hD (rows := r) (n := m) (fun q hq => h q (List.mem_cons_of_mem _ hq)) (by rw [List.length_cons] at hn; omega)
    rw [Nat.pow_succ, Nat.mul_comm]
    exact Nat.mul_le_mul (h p List.mem_cons_self) ih
theorem qc_dens {κ : Type} {V : Nat} : ∀ {rows : List (κ × Rat)}, (∀ p ∈ rows, p.2.num.natAbs ≤ V) → ∀ p ∈ rows, QC V (dens rows) p.2
  | q :: r, h, p, hp => by
    rcases List.mem_cons.mp hp with rfl | hp
    · exact qc_scale p.2.den_pos (dens_pos r) (qc_self (h p List.mem_cons_self))
    · have := qc_scale (dens_pos r) q.2.den_pos (qc_dens (fun x hx => h x (List.mem_cons_of_mem _ hx)) p hp)
      rwa [Nat.mul_comm] at this
/-- additions on the way, of a common number below -/
structure OnC {κ : Type} [DecidableEq κ] (V L T : Nat) (total acc rest : List (κ × Rat)) : Prop where
  eq : addAll acc rest = total
  nd : ND acc
  ex : ∃ t, t + rest.length ≤ T ∧ acc.length ≤ t ∧ ∀ p ∈ acc, QC (V * t) L p.2
  rest : ∀ p ∈ rest, QC V L p.2
section
variable {κ : Type} [DecidableEq κ] {V L T : Nat}
theorem onc_start {K : List (κ × Rat)} (hl : K.length ≤ T) (h : ∀ p ∈ K, QC V L p.2) : OnC V L T (addAll [] K) [] K := ⟨rfl, List.nodup_nil, ⟨0, by omega, Nat.le_refl _, fun _ z => nomatch z⟩, h⟩
theorem onc_step {total acc rest : List (κ × Rat)} {p : κ × Rat} (h : OnC V L T total acc (p :: rest)) : OnC V L T total (addT acc p.1 p.2) rest := by
  obtain ⟨t, h1, h2, h3⟩ := h.ex
  have hp := h.rest p List.mem_cons_self
  refine ⟨h.eq, nd_add h.nd _ _, ⟨t + 1, by rw [List.length_cons] at h1; omega, Nat.le_trans (put_len _ _ _) (by omega), ?_⟩, fun q hq => h.rest q (List.mem_cons_of_mem _ hq)⟩
  refine put_all (fun q hq => qc_mono (h3 q hq) (Nat.mul_le_mul_left _ (Nat.le_succ _))) ?_
  show QC (V * (t + 1)) L ((getT acc p.1).getD 0 + p.2)
  rw [Nat.mul_add, Nat.mul_one]
  refine qc_add ?_ hp
  cases e : getT acc p.1 with
  | none => exact qc_mono (qc_zero L) (Nat.zero_le _)
  | some w => exact h3 _ (getT_mem e)
theorem onc_end {total : List (κ × Rat)} : ∀ {rest acc : List (κ × Rat)}, OnC V L T total acc rest → OnC V L T total total []
  | [], acc, h => by
    have : acc = total := h.eq
    subst this; exact h
  | p :: r, acc, h => onc_end (rest := r) (onc_step h)
theorem onc_qc {total acc rest : List (κ × Rat)} (h : OnC V L T total acc rest) : ∀ p ∈ acc, QC (V * T) L p.2 := fun p hp => by
  obtain ⟨t, h1, h2, h3⟩ := h.ex
  exact qc_mono (h3 p hp) (Nat.mul_le_mul_left V (show t ≤ T by omega))
variable [Emb κ] [KeyE κ]
theorem add_one {m : Mir} (hm : Adds κ m) {S : Sto} {u : D} {total acc rest : List (κ × Rat)} {k : κ} {q : Rat} (hS : Sane S) (hu : IsDic u acc) (h : OnC V L T total acc ((k, q) :: rest)) (hV : 1 ≤ V) (hL : 1 ≤ L) (hT : 1 ≤ T) (hT2 : T ≤ 100000) (hB : V * T * L ≤ 2 ^ 4000) :
    ∃ u', m [.ptr S.length, toD k, toD q] (S ++ [u]) = .ok .non (S ++ [u']) ∧ IsDic u' (addT acc k q) ∧ OnC V L T total (addT acc k q) rest := by
  have sl : 200000 ≤ sizeLine := by decide
  obtain ⟨t, h1, h2, h3⟩ := h.ex
  have hVT : 1 ≤ V * T := Nat.mul_pos hV hT
  obtain ⟨u', e', hu'⟩ := hm (sane_app hS (isDic_closed hu _)) hu (get_app (S := S)) (by rw [List.length_cons] at h1; omega) k q hB (fun p hp => qc_rb hVT hL (onc_qc h p hp)) (rb_mono (qc_rb hV hL (h.rest _ List.mem_cons_self)) (Nat.mul_le_mul_right _ (Nat.le_mul_of_pos_right _ hT)))
  rw [set_app] at e'
  exact ⟨u', e', hu', onc_step h⟩
end
/-! ### what is put together of rows -/
section
variable {κ : Type} [DecidableEq κ]
def lin (g : κ → Rat) (rows : List (κ × Rat)) : Rat := sumR rows fun p => p.2 * g p.1
theorem sumR_perm {α : Type} {a b : List α} (h : a.Perm b) (f : α → Rat) : sumR a f = sumR b f := by
  induction h with
  | nil => rfl
  | cons x _ ih => rw [sumR_cons, sumR_cons, ih]
  | swap x y l => rw [sumR_cons, sumR_cons, sumR_cons, sumR_cons]; grind
  | trans _ _ h1 h2 => exact h1.trans h2
theorem lin_app (g : κ → Rat) (a b : List (κ × Rat)) : lin g (a ++ b) = lin g a + lin g b := sumR_app a b _
theorem lin_cons (g : κ → Rat) (p : κ × Rat) (r : List (κ × Rat)) : lin g (p :: r) = p.2 * g p.1 + lin g r := sumR_cons p r _
theorem lin_repl (g : κ → Rat) {kvs : List (κ × Rat)} (hn : ND kvs) {k : κ} {v w : Rat} (h : getT kvs k = some w) : lin g (replT kvs k v) = lin g kvs + (v - w) * g k := by
  induction kvs with
  | nil => cases h
  | cons p r ih =>
    obtain ⟨k', v'⟩ := p
    obtain ⟨h1, h2⟩ := nd_tail hn
    rw [getT_cons] at h
    show lin g (if k' = k then (k', v) :: replT r k v else (k', v') :: replT r k v) = _
    by_cases e : k' = k
    · subst e
      rw [if_pos rfl] at h ⊢
      cases h
      have : replT r k' v = r := by
        clear ih hn h2
        induction r with
        | nil => rfl
        | cons q s ih =>
          obtain ⟨k2, v2⟩ := q
          rw [List.map_cons, List.mem_cons, not_or] at h1
          show (if k2 = k' then _ else (k2, v2) :: replT s k' v) = _
          rw [if_neg (Ne.symm h1.1), ih h1.2]
      rw [this, lin_cons, lin_cons]
      grind
    · rw [if_neg e] at h ⊢
      rw [lin_cons, lin_cons, ih h2 h]
      grind
theorem lin_addT (g : κ → Rat) {kvs : List (κ × Rat)} (hn : ND kvs) (k : κ) (q : Rat) : lin g (addT kvs k q) = lin g kvs + q * g k := by
  unfold addT putT
  cases e : getT kvs k with
  | some w =>
    rw [if_pos (show (some w).isSome = true from rfl), lin_repl g hn e]
    show _ + (w + q - w) * g k = _
    grind
  | none =>
    rw [if_neg (show ¬ (none : Option Rat).isSome = true by decide), lin_app, lin_cons]
    show _ + ((0 + q) * g k + 0) = _
    grind
theorem lin_addAll (g : κ → Rat) : ∀ (K : List (κ × Rat)) {acc : List (κ × Rat)}, ND acc → lin g (addAll acc K) = lin g acc + lin g K
  | [], acc, _ => by show lin g acc = lin g acc + 0; grind
  | p :: r, acc, h => by
    show lin g (addAll (addT acc p.1 p.2) r) = _
    rw [lin_addAll g r (nd_add h _ _), lin_addT g h, lin_cons]
    grind
theorem lin_congr {g h : κ → Rat} {rows : List (κ × Rat)} (e : ∀ p ∈ rows, g p.1 = h p.1) : lin g rows = lin h rows := sumR_congr fun p hp => by rw [e p hp]
variable [Emb κ]
theorem lin_rows (g : κ → Rat) (kvs : List (κ × Rat)) : lin g (rowsT kvs) = lin g kvs := by
  unfold rowsT lin
  rw [sumR_perm (srt_perm _)]
  induction kvs with
  | nil => rfl
  | cons p r ih =>
    rw [List.filter_cons, sumR_cons, ← ih]
    cases e : fz p with
    | true => rw [if_pos rfl, sumR_cons]
    | false =>
      rw [if_neg Bool.false_ne_true]
      have : p.2 = 0 := by unfold fz at e; simpa using e
      rw [this]; grind
theorem at0_tot (K : List (κ × Rat)) (q : κ) : at0 (rowsT (addAll [] K)) q = con K q := by
  have nd0 : ND ([] : List (κ × Rat)) := List.nodup_nil
  rw [at0_rows (nd_addAll _ _ nd0), at0_addAll]
  show 0 + _ = _
  grind
end
end DL
set_option Elab.async false
set_option linter.all false
set_option maxRecDepth 100000
set_option maxHeartbeats 4000000
set_option autoImplicit false
/-! The program: products of terms. -/
namespace DL
open PySem L2
open Emb
local macro_rules | `(tactic| walk_at "1") => `(tactic| with_reducible first
  | refine s_seq ?_ | refine s_asg ?_ | refine s_ret ?_ | refine s_if ?_ | refine s_expr ?_ | refine s_next ?_ | refine s_brk ?_ | refine s_cont ?_ | refine s_for ?_ | refine s_while ?_
  | refine p_c ?_ | refine p_bin ?_ | refine p_as ?_ | refine p_cons ?_ | refine p_nil ?_ | refine p_un ?_ | refine p_call ?_ | refine p_if ?_ | refine p_own ?_
  | refine p_keep ?_ | refine p_tru ?_ | refine p_and ?_ | refine p_or ?_ | refine p_not ?_ | refine p_val ?_ | refine p_rand ?_ | refine p_ror ?_ | refine p_rnot ?_ | refine p_chain ?_ | refine p_bif ?_
  | refine o_add ?_ | refine o_sub ?_ | refine o_ltU ?_ | refine o_leU ?_ | refine o_gtU ?_ | refine o_geU ?_ | refine o_neg ?_ | refine o_eqI ?_ | refine o_neI ?_ | refine o_abs ?_ | refine o_tru ?_ | refine p_true ?_ | refine p_false ?_
  | refine o_lenT ?_ | refine o_lenL ?_ | refine o_ix0 ?_ | refine o_ix1 ?_ | refine o_ix2 ?_ | refine o_ix0L ?_ | refine o_ix1L ?_ | refine o_ix2L ?_
  | refine s_par ?_ | refine p_yes ?_ | refine p_seq ?_ | refine s_gnil ?_ | refine s_gcons ?_ | refine s_gtux ?_ | refine s_gtupl ?_ | refine p_onone ?_ | refine p_osome ?_ | refine p_get2 ?_ | refine s_putU ?_ | refine p_sortIt ?_)
local macro_rules | `(tactic| walk_at "2") => `(tactic| first
  | walk_at "1"
  | (with_reducible refine p_var2 ?_)
  | ((with_reducible refine s_name ?_ ?_); (· exact Nat.le_of_ble_eq_true rfl); dsimp only [List.set_cons_zero, List.set_cons_succ])
  | (with_reducible refine p_tup ?_) | (with_reducible refine p_lst ?_) | ((with_reducible refine ⟨?_, ?_⟩); (· exact Nat.le_of_ble_eq_true rfl))
  | ((with_reducible refine p_ex2 (x := ?_) (y := ?_) ?_ ?_); rotate_left; rotate_left; (· rfl); refine ⟨?_, ?_, ?_⟩; (· exact Nat.le_of_ble_eq_true rfl); (· exact Nat.le_of_ble_eq_true rfl); dsimp only [List.set_cons_zero, List.set_cons_succ])
  | ((with_reducible refine p_isT ?_ ?_); (· rfl)) | ((with_reducible refine p_isF ?_ ?_); (· rfl))
  | ((with_reducible refine p_ex (x := ?_) ?_ ?_); rotate_left; (· rfl)))
local macro_rules | `(tactic| walk_at "3") => `(tactic| repeat walk_at "2")
theorem o_maxL {S : Sto} {ns : List Int} {m : Int} {Q : D → Sto → Prop} (e : maxI ns = some m) (h : Q (.int m) S) : (Res.lift (gMax S [.lst (ns.map .int)]) S).post Q := p_lift (by unfold gMax deref; dsimp only; rw [asInts_map]; dsimp only [Option.bind_some]; rw [e]; rfl) h
theorem pow_lt4 {a : Int} {A e : Nat} (ha : a.natAbs ≤ A) (hA : A ≤ 2 ^ 100) (he : e ≤ 2000) : a.natAbs ^ e < 2 ^ 400000 ∧ a.natAbs < 2 ^ 400000 := by
  have h1 : a.natAbs ^ e ≤ (2 ^ 100) ^ 2000 := Nat.le_trans (Nat.pow_le_pow_left (Nat.le_trans ha hA) _) (Nat.pow_le_pow_right (by decide) he)
  rw [← Nat.pow_mul] at h1
  refine ⟨Nat.lt_of_le_of_lt h1 (Nat.pow_lt_pow_right (by decide) (by decide)), Nat.lt_of_le_of_lt (Nat.le_trans ha hA) (Nat.pow_lt_pow_right (by decide) (by decide))⟩
end DL
set_option Elab.async false
set_option linter.all false
set_option maxRecDepth 100000
set_option maxHeartbeats 4000000
set_option autoImplicit false
/-! The program: products of forms. -/
namespace DL
open PySem L2
open Emb
local macro_rules | `(tactic| walk_at "1") => `(tactic| with_reducible first
  | refine s_seq ?_ | refine s_asg ?_ | refine s_ret ?_ | refine s_if ?_ | refine s_expr ?_ | refine s_next ?_ | refine s_brk ?_ | refine s_cont ?_ | refine s_for ?_ | refine s_while ?_
  | refine p_c ?_ | refine p_bin ?_ | refine p_as ?_ | refine p_cons ?_ | refine p_nil ?_ | refine p_un ?_ | refine p_call ?_ | refine p_if ?_ | refine p_own ?_
  | refine p_keep ?_ | refine p_tru ?_ | refine p_and ?_ | refine p_or ?_ | refine p_not ?_ | refine p_val ?_ | refine p_rand ?_ | refine p_ror ?_ | refine p_rnot ?_ | refine p_chain ?_ | refine p_bif ?_
  | refine o_add ?_ | refine o_sub ?_ | refine o_ltU ?_ | refine o_leU ?_ | refine o_gtU ?_ | refine o_geU ?_ | refine o_neg ?_ | refine o_eqI ?_ | refine o_neI ?_ | refine o_abs ?_ | refine o_tru ?_ | refine p_true ?_ | refine p_false ?_
  | refine o_lenT ?_ | refine o_lenL ?_ | refine o_ix0 ?_ | refine o_ix1 ?_ | refine o_ix2 ?_ | refine o_ix0L ?_ | refine o_ix1L ?_ | refine o_ix2L ?_
  | refine s_par ?_ | refine p_yes ?_ | refine p_seq ?_ | refine s_gnil ?_ | refine s_gcons ?_ | refine s_gtux ?_ | refine s_gtupl ?_ | refine p_onone ?_ | refine p_osome ?_ | refine p_get2 ?_ | refine s_putU ?_ | refine p_sortIt ?_)
local macro_rules | `(tactic| walk_at "2") => `(tactic| first
  | walk_at "1"
  | (with_reducible refine p_var2 ?_)
  | ((with_reducible refine s_name ?_ ?_); (· exact Nat.le_of_ble_eq_true rfl); dsimp only [List.set_cons_zero, List.set_cons_succ])
  | (with_reducible refine p_tup ?_) | (with_reducible refine p_lst ?_) | ((with_reducible refine ⟨?_, ?_⟩); (· exact Nat.le_of_ble_eq_true rfl))
  | ((with_reducible refine p_ex2 (x := ?_) (y := ?_) ?_ ?_); rotate_left; rotate_left; (· rfl); refine ⟨?_, ?_, ?_⟩; (· exact Nat.le_of_ble_eq_true rfl); (· exact Nat.le_of_ble_eq_true rfl); dsimp only [List.set_cons_zero, List.set_cons_succ])
  | ((with_reducible refine p_isT ?_ ?_); (· rfl)) | ((with_reducible refine p_isF ?_ ?_); (· rfl))
  | ((with_reducible refine p_ex (x := ?_) ?_ ?_); rotate_left; (· rfl)))
local macro_rules | `(tactic| walk_at "3") => `(tactic| repeat walk_at "2")
theorem rat_one (n : Int) : (n : Rat) / ((1 : Int) : Rat) = (n : Rat) := by
  have : ((1 : Int) : Rat) = 1 := rfl
  rw [this]
  grind
theorem rows_all {κ : Type} [Emb κ] [DecidableEq κ] {P : κ → Prop} : ∀ {L acc : List (κ × Rat)}, (∀ p ∈ acc, P p.1) → (∀ p ∈ L, P p.1) → ∀ p ∈ addAll acc L, P p.1
  | [], _, h, _ => h
  | q :: r, acc, h, g => rows_all (L := r) (acc := addT acc q.1 q.2) (put_all h (g q List.mem_cons_self)) fun p hp => g p (List.mem_cons_of_mem _ hp)
end DL
set_option Elab.async false
set_option linter.all false
set_option maxRecDepth 100000
set_option maxHeartbeats 4000000
set_option autoImplicit false
/-! Moved on, at a count: plain. -/
namespace DL
open PySem L2
open Emb
/-! ### moved on by one -/
/-! ### at a count -/
def tv (p : Nat) (b : Int) (n : Nat) : Int := if p ≤ n then ((bin n p : Nat) : Int) * b ^ (n - p) else 0
theorem tv_zero (b : Int) (n : Nat) : tv 0 b (n + 1) = b * tv 0 b n := by
  unfold tv
  rw [if_pos (Nat.zero_le _), if_pos (Nat.zero_le _), bin_zero, bin_zero, Nat.sub_zero, Nat.sub_zero, Int.pow_succ]
  grind
theorem tv_succ (p : Nat) (b : Int) (n : Nat) : tv (p + 1) b (n + 1) = b * tv (p + 1) b n + tv p b n := by
  unfold tv
  by_cases h : p ≤ n
  · rw [if_pos (by omega), if_pos h]
    have e : bin (n + 1) (p + 1) = bin n p + bin n (p + 1) := rfl
    rw [show n + 1 - (p + 1) = n - p by omega, e]
    by_cases h2 : p + 1 ≤ n
    · rw [if_pos h2, show n - p = n - (p + 1) + 1 by omega, Int.pow_succ]
      push_cast
      grind
    · rw [if_neg h2, bin_gt (show n < p + 1 by omega)]
      push_cast
      grind
  · rw [if_neg (by omega), if_neg (by omega), if_neg h]
    simp
def tK (k : Kind) (n : Nat) : Int := tv k.p.toNat k.b n
def atL (rows : List (Kind × Rat)) (n : Nat) : List (Mono × Rat) := rows.map fun p => (p.1.m, p.2 * ((tK p.1 n : Int) : Rat))
def atT (rows : List (Kind × Rat)) (n : Nat) : List (Mono × Rat) := rowsT (addAll [] (atL rows n))
/-! ### products moved on -/
end DL
set_option Elab.async false
set_option linter.all false
set_option maxRecDepth 100000
set_option maxHeartbeats 4000000
set_option autoImplicit false
/-! What forms are worth: sums and products of forms, plain. -/
namespace DL
open PySem L2
open Emb
theorem tv_self (n : Nat) (b : Int) : tv n b n = 1 := by
  unfold tv
  rw [if_pos (Nat.le_refl _), bin_self, Nat.sub_self, Int.pow_zero]
  rfl
/-! ### with boxes -/
/-! ### what a form is worth tells its rows -/
/-! ### products of three -/
end DL
set_option Elab.async false
set_option linter.all false
set_option maxRecDepth 100000
set_option maxHeartbeats 4000000
set_option autoImplicit false
/-! What products of boxes are worth, plain. -/
namespace DL
open PySem L2
open Emb
def valOf (vals : List (Str × Int)) (x : Str) : Int := (getT vals x).getD 0
def mv (vals : List (Str × Int)) : Mono → Int
  | [] => 1
  | p :: r => valOf vals p.1 ^ p.2.toNat * mv vals r
variable {vals : List (Str × Int)}
theorem mv_cons (p : Str × Int) (r : Mono) : mv vals (p :: r) = valOf vals p.1 ^ p.2.toNat * mv vals r := rfl
def mvR (vals : List (Str × Int)) (m : Mono) : Rat := ((mv vals m : Int) : Rat)
/-! ### sums -/
theorem nd_scaled {A : List (Kind × Rat)} (nA : ND A) (c : Rat) : ND (A.map fun p => (p.1, c * p.2)) := by
  unfold ND at *
  rw [List.map_map]
  exact nA
theorem at0_scaled (c : Rat) (q : Kind) : ∀ (A : List (Kind × Rat)), at0 (A.map fun p => (p.1, c * p.2)) q = c * at0 A q
  | [] => by show (0 : Rat) = c * 0; grind
  | p :: r => by
    have ih := at0_scaled c q r
    unfold at0 at ih ⊢
    rw [List.map_cons, getT_cons]
    obtain ⟨k, v⟩ := p
    rw [getT_cons]
    dsimp only
    split
    · rfl
    · exact ih
end DL
set_option Elab.async false
set_option linter.all false
set_option maxRecDepth 100000
set_option maxHeartbeats 4000000
set_option autoImplicit false
/-! What is shown of rows. -/
namespace DL
open PySem L2
open Emb
theorem merge_all {κ ν : Type} [DecidableEq κ] {P : κ × ν → Prop} : ∀ {b a : List (κ × ν)}, (∀ p ∈ a, P p) → (∀ p ∈ b, P p) → ∀ p ∈ mergeT a b, P p
  | [], _, h, _ => h
  | q :: r, a, h, g => merge_all (b := r) (a := putT a q.1 q.2) (put_all h (g q List.mem_cons_self)) fun p hp => g p (List.mem_cons_of_mem _ hp)
theorem merge_len {κ ν : Type} [DecidableEq κ] : ∀ (b a : List (κ × ν)), (mergeT a b).length ≤ a.length + b.length
  | [], a => Nat.le_refl _
  | p :: r, a => by
    have h1 := merge_len r (putT a p.1 p.2)
    have h2 := put_len a p.1 p.2
    show (mergeT (putT a p.1 p.2) r).length ≤ _
    rw [List.length_cons]
    omega
theorem shw_rowsM {rows : List (Mono × Rat)} (hm : ∀ p ∈ rows, MonO 12 p.1) (hr : ∀ p ∈ rows, RB' (10 ^ 1000) p.2) (hl : rows.length ≤ 100) : Shw (toD rows) (py rows).shown :=
  shw_emb (fitE_tuple (n := 100) (fun p hp => fitE_pair (fitE_mono (hm p hp) (Nat.le_refl _)) (fitE_rat (hr p hp))) hl) (by decide) (by decide)
theorem mono12 {m : Mono} {n : Nat} (h : MonO n m) (hn : n ≤ 12) : MonO 12 m := ⟨h.inc, h.nc, by have := h.dg; omega⟩
end DL
set_option Elab.async false
set_option linter.all false
set_option maxRecDepth 100000
set_option maxHeartbeats 1000000
set_option autoImplicit false
namespace DL
open PySem L2
open Emb
local macro_rules | `(tactic| walk_at "1") => `(tactic| with_reducible first
  | refine e_seq ?_ | refine e_asgP ?_ | refine e_if ?_ | refine e_next ?_ | refine e_exprP ?_ | refine s_seq ?_ | refine s_asg ?_ | refine s_ret ?_ | refine s_if ?_ | refine s_expr ?_ | refine s_next ?_ | refine s_brk ?_ | refine s_cont ?_ | refine s_for ?_ | refine s_while ?_
  | refine p_c ?_ | refine p_bin ?_ | refine p_as ?_ | refine p_cons ?_ | refine p_nil ?_ | refine p_un ?_ | refine p_call ?_ | refine p_if ?_ | refine p_own ?_
  | refine p_keep ?_ | refine p_tru ?_ | refine p_and ?_ | refine p_or ?_ | refine p_not ?_ | refine p_val ?_ | refine p_rand ?_ | refine p_ror ?_ | refine p_rnot ?_ | refine p_chain ?_ | refine p_bif ?_
  | refine o_add ?_ | refine o_sub ?_ | refine o_ltU ?_ | refine o_leU ?_ | refine o_gtU ?_ | refine o_geU ?_ | refine o_neg ?_ | refine o_eqI ?_ | refine o_neI ?_ | refine o_abs ?_ | refine o_tru ?_ | refine p_true ?_ | refine p_false ?_
  | refine o_lenT ?_ | refine o_lenL ?_ | refine o_ix0 ?_ | refine o_ix1 ?_ | refine o_ix2 ?_ | refine o_ix0L ?_ | refine o_ix1L ?_ | refine o_ix2L ?_
  | refine s_par ?_ | refine p_yes ?_ | refine p_seq ?_ | refine s_gnil ?_ | refine s_gcons ?_ | refine s_gtux ?_ | refine s_gtupl ?_ | refine p_onone ?_ | refine p_osome ?_ | refine p_get2 ?_ | refine s_putU ?_ | refine p_sortIt ?_)
local macro_rules | `(tactic| walk_at "2") => `(tactic| first
  | walk_at "1"
  | (with_reducible refine p_var2 ?_)
  | ((with_reducible refine s_name ?_ ?_); (· exact Nat.le_of_ble_eq_true rfl); dsimp only [List.set_cons_zero, List.set_cons_succ])
  | (with_reducible refine p_tup ?_) | (with_reducible refine p_lst ?_) | ((with_reducible refine ⟨?_, ?_⟩); (· exact Nat.le_of_ble_eq_true rfl))
  | ((with_reducible refine p_ex2 (x := ?_) (y := ?_) ?_ ?_); rotate_left; rotate_left; (· rfl); refine ⟨?_, ?_, ?_⟩; (· exact Nat.le_of_ble_eq_true rfl); (· exact Nat.le_of_ble_eq_true rfl); dsimp only [List.set_cons_zero, List.set_cons_succ])
  | ((with_reducible refine p_isT ?_ ?_); (· rfl)) | ((with_reducible refine p_isF ?_ ?_); (· rfl))
  | ((with_reducible refine p_ex (x := ?_) ?_ ?_); rotate_left; (· rfl)))
local macro_rules | `(tactic| walk_at "3") => `(tactic| repeat walk_at "2")
/-! ### numbers that part: the n-th box has g ^ (4 ^ n) -/
/-- the digits, to four, of what boxes have in a product -/
def digD : List Str → Mono → Nat
  | [], _ => 0
  | y :: ys, m => (at0I m y).toNat + 4 * digD ys m
def wtOf : List Str → Str → Nat
  | [], _ => 0
  | y :: ys, x => if y = x then 1 else 4 * wtOf ys x
theorem at0I_cons (p : Str × Int) (m : Mono) (y : Str) : at0I (p :: m) y = if p.1 = y then p.2 else at0I m y := by
  unfold at0I
  obtain ⟨k, v⟩ := p
  rw [getT_cons]
  by_cases e : k = y
  · rw [if_pos e, if_pos e]; rfl
  · rw [if_neg e, if_neg e]
theorem at0I_out {m : Mono} {y : Str} (h : y ∉ m.map (·.1)) : at0I m y = 0 := by
  induction m with
  | nil => rfl
  | cons p m ih =>
    rw [List.map_cons, List.mem_cons, not_or] at h
    rw [at0I_cons, if_neg (Ne.symm h.1), ih h.2]
theorem digD_nil : ∀ ys : List Str, digD ys [] = 0
  | [] => rfl
  | y :: ys => by show (0 : Int).toNat + 4 * digD ys [] = 0; rw [digD_nil ys]; rfl
theorem digD_cons {p : Str × Int} {m : Mono} (hp : p.1 ∉ m.map (·.1)) : ∀ {ys : List Str}, ys.Nodup → digD ys (p :: m) = p.2.toNat * wtOf ys p.1 + digD ys m
  | [], _ => rfl
  | y :: ys, nd => by
    obtain ⟨h1, h2⟩ := List.nodup_cons.mp nd
    have ih := digD_cons hp (ys := ys) h2
    show (at0I (p :: m) y).toNat + 4 * digD ys (p :: m) = p.2.toNat * (if y = p.1 then 1 else 4 * wtOf ys p.1) + ((at0I m y).toNat + 4 * digD ys m)
    rw [at0I_cons, ih]
    by_cases e : y = p.1
    · rw [if_pos e.symm, if_pos e]
      have w0 : wtOf ys p.1 = 0 := by
        rw [← e]
        clear ih h2 nd
        induction ys with
        | nil => rfl
        | cons z zs ih =>
          rw [List.mem_cons, not_or] at h1
          show (if z = y then 1 else 4 * wtOf zs y) = 0
          rw [if_neg (Ne.symm h1.1), ih h1.2]
      have a0 : at0I m y = 0 := at0I_out (e ▸ hp)
      rw [w0, a0]
      show p.2.toNat + 4 * (p.2.toNat * 0 + digD ys m) = p.2.toNat * 1 + (0 + 4 * digD ys m)
      omega
    · rw [if_neg (Ne.symm e), if_neg e, Nat.mul_left_comm]
      omega
theorem digD_one {ys : List Str} {a b : Mono} (ha : ∀ y, (at0I a y).toNat ≤ 3) (hb : ∀ y, (at0I b y).toNat ≤ 3) (h : digD ys a = digD ys b) : ∀ y ∈ ys, (at0I a y).toNat = (at0I b y).toNat := by
  induction ys with
  | nil => exact fun _ z => nomatch z
  | cons y ys ih =>
    have h : (at0I a y).toNat + 4 * digD ys a = (at0I b y).toNat + 4 * digD ys b := h
    have h1 := ha y
    have h2 := hb y
    intro z hz
    rcases List.mem_cons.mp hz with e | hz
    · subst e; omega
    · exact ih (by omega) z hz
/-- the numbers of boxes -/
def PartV (vals : List (Str × Int)) (g : Int) (ys : List Str) : Prop := ∀ y ∈ ys, getT vals y = some (g ^ wtOf ys y)
theorem mv_dig {vals : List (Str × Int)} {g : Int} {ys : List Str} (nd : ys.Nodup) (hv : PartV vals g ys) : ∀ {m : Mono}, ND m → (∀ p ∈ m, p.1 ∈ ys) → mv vals m = g ^ digD ys m
  | [], _, _ => by rw [digD_nil, Int.pow_zero]; rfl
  | p :: m, hn, hy => by
    unfold ND at hn
    rw [List.map_cons] at hn
    obtain ⟨h1, h2⟩ := List.nodup_cons.mp hn
    rw [mv_cons, mv_dig nd hv (m := m) h2 fun q hq => hy q (List.mem_cons_of_mem _ hq), digD_cons h1 nd]
    have : valOf vals p.1 = g ^ wtOf ys p.1 := by unfold valOf; rw [hv p.1 (hy p List.mem_cons_self)]; rfl
    rw [this, Int.pow_add, ← Int.pow_mul, Nat.mul_comm]
theorem mono_digs {ys : List Str} {a b : Mono} (ha : MonO 3 a) (hb : MonO 3 b) (ya : ∀ p ∈ a, p.1 ∈ ys) (yb : ∀ p ∈ b, p.1 ∈ ys) (h : digD ys a = digD ys b) : a = b := by
  have b3 : ∀ {m : Mono}, MonO 3 m → ∀ y, 0 ≤ at0I m y ∧ (at0I m y).toNat ≤ 3 := fun {m} hm y => by
    obtain ⟨_, h2⟩ := mono_len hm
    unfold at0I
    cases e : getT m y with
    | none => exact ⟨Int.le_refl _, Nat.zero_le _⟩
    | some v =>
      have h3 := h2 _ (getT_mem e)
      have h4 := (hm.nc _ (getT_mem e)).2
      have h3 : v.natAbs ≤ 3 := h3
      have h4 : (1 : Int) ≤ v := h4
      show (0 : Int) ≤ v ∧ v.toNat ≤ 3
      omega
  refine mono_one ha hb fun y => ?_
  have h1 := b3 ha y
  have h2 := b3 hb y
  by_cases hy : y ∈ ys
  · have := digD_one (fun y => (b3 ha y).2) (fun y => (b3 hb y).2) h y hy
    omega
  · have o : ∀ {m : Mono}, (∀ p ∈ m, p.1 ∈ ys) → at0I m y = 0 := fun {m} hm => at0I_out fun z => by
      obtain ⟨p, hp, e⟩ := List.mem_map.mp z
      exact hy (e ▸ hm p hp)
    rw [o ya, o yb]
/-! ### the topmost one is more than all others -/
theorem rat_xd (z : Rat) : z * ((z.den : Nat) : Rat) = ((z.num : Int) : Rat) := by
  have h1 := rat_nd z
  have hx : ((z.den : Nat) : Rat) ≠ 0 := by have := z.den_nz; simp; omega
  generalize ((z.num : Int) : Rat) = a at *
  generalize ((z.den : Nat) : Rat) = d at *
  subst h1
  grind
theorem top_of {α : Type} (k : α → Nat) : ∀ {xs : List α}, xs ≠ [] → ∃ p r, xs.Perm (p :: r) ∧ ∀ q ∈ r, k q ≤ k p
  | [], h => absurd rfl h
  | [x], _ => ⟨x, [], List.Perm.refl _, fun _ z => nomatch z⟩
  | x :: z :: xs, _ => by
    obtain ⟨p, r, h1, h2⟩ := top_of k (xs := z :: xs) (by simp)
    by_cases e : k x ≤ k p
    · exact ⟨p, x :: r, (List.Perm.cons x h1).trans (List.Perm.swap _ _ _), fun q hq => by
        rcases List.mem_cons.mp hq with rfl | hq
        · exact e
        · exact h2 q hq⟩
    · exact ⟨x, p :: r, List.Perm.cons x h1, fun q hq => by
        rcases List.mem_cons.mp hq with rfl | hq
        · omega
        · have := h2 q hq; omega⟩
theorem rat_num_le (q : Rat) : q ≤ ((q.num.natAbs : Nat) : Rat) ∧ -((q.num.natAbs : Nat) : Rat) ≤ q := by
  have h := rat_nd q
  have d1 := q.den_pos
  have e : ((q.num.natAbs : Nat) : Rat) = ((((q.num.natAbs : Nat) : Int)) : Rat) := by push_cast; rfl
  rw [e]
  refine ⟨?_, ?_⟩
  · rw [Rat.le_iff]
    show q.num * 1 ≤ ((q.num.natAbs : Nat) : Int) * (q.den : Int)
    have : ((q.num.natAbs : Nat) : Int) * 1 ≤ ((q.num.natAbs : Nat) : Int) * (q.den : Int) := Int.mul_le_mul_of_nonneg_left (by omega) (by omega)
    omega
  · rw [Rat.le_iff]
    show -((q.num.natAbs : Nat) : Int) * (q.den : Int) ≤ q.num * 1
    have : ((q.num.natAbs : Nat) : Int) * 1 ≤ ((q.num.natAbs : Nat) : Int) * (q.den : Int) := Int.mul_le_mul_of_nonneg_left (by omega) (by omega)
    rw [Int.neg_mul]
    omega
def sumN {α : Type} (xs : List α) (f : α → Nat) : Nat := (xs.map f).sum
theorem pow_ratle {g : Nat} (hg : 1 ≤ g) {a b : Nat} (h : a ≤ b) : ((g ^ a : Nat) : Rat) ≤ ((g ^ b : Nat) : Rat) := by
  have : g ^ a ≤ g ^ b := Nat.pow_le_pow_right hg h
  exact_mod_cast this
theorem low_sum {α : Type} {g : Nat} (hg : 1 ≤ g) (k : α → Nat) (c : α → Rat) (K : Nat) : ∀ (xs : List α), (∀ q ∈ xs, k q ≤ K) →
    (sumR xs fun q => c q * ((g ^ k q : Nat) : Rat)) ≤ ((sumN xs fun q => (c q).num.natAbs : Nat) : Rat) * ((g ^ K : Nat) : Rat) ∧
    -(((sumN xs fun q => (c q).num.natAbs : Nat) : Rat) * ((g ^ K : Nat) : Rat)) ≤ sumR xs fun q => c q * ((g ^ k q : Nat) : Rat)
  | [], _ => by
    rw [sumR_nil]
    have : ((sumN ([] : List α) fun q => (c q).num.natAbs : Nat) : Rat) = 0 := rfl
    rw [this]
    constructor <;> grind
  | x :: xs, h => by
    obtain ⟨i1, i2⟩ := low_sum hg k c K xs fun q hq => h q (List.mem_cons_of_mem _ hq)
    have hk := pow_ratle hg (h x List.mem_cons_self)
    obtain ⟨n1, n2⟩ := rat_num_le (c x)
    have g0 : (0 : Rat) ≤ ((g ^ k x : Nat) : Rat) := by
      have : (0 : Nat) ≤ g ^ k x := Nat.zero_le _
      exact_mod_cast this
    have N0 : (0 : Rat) ≤ (((c x).num.natAbs : Nat) : Rat) := by
      have : (0 : Nat) ≤ (c x).num.natAbs := Nat.zero_le _
      exact_mod_cast this
    have e : ((sumN (x :: xs) fun q => (c q).num.natAbs : Nat) : Rat) = (((c x).num.natAbs : Nat) : Rat) + ((sumN xs fun q => (c q).num.natAbs : Nat) : Rat) := by
      unfold sumN
      rw [List.map_cons, List.sum_cons]
      push_cast
      rfl
    rw [sumR_cons, e]
    generalize ((sumN xs fun q => (c q).num.natAbs : Nat) : Rat) = A at *
    generalize (((c x).num.natAbs : Nat) : Rat) = B at *
    generalize ((g ^ k x : Nat) : Rat) = G at *
    generalize ((g ^ K : Nat) : Rat) = H at *
    generalize (sumR xs fun q => c q * ((g ^ k q : Nat) : Rat)) = s at *
    generalize c x = y at *
    have m1 : 0 ≤ (B - y) * G := Rat.mul_nonneg (by grind) g0
    have m2 : 0 ≤ (y + B) * G := Rat.mul_nonneg (by grind) g0
    have m3 : 0 ≤ B * (H - G) := Rat.mul_nonneg N0 (by grind)
    constructor <;> grind
/-- distinct powers of a great number do not make nought -/
theorem not_nought {α : Type} {g : Nat} {k : α → Nat} {c : α → Rat} {xs : List α} (hx : xs ≠ []) (hk : ∀ p ∈ xs, ∀ q ∈ xs, k p = k q → p = q) (nd : xs.Nodup) (hc : ∀ p ∈ xs, c p ≠ 0) {S D : Nat} (hS : (sumN xs fun q => (c q).num.natAbs) ≤ S) (hD : ∀ p ∈ xs, (c p).den ≤ D) (hg : S * D + 1 ≤ g) :
    (sumR xs fun q => c q * ((g ^ k q : Nat) : Rat)) ≠ 0 := by
  obtain ⟨p, r, h1, h2⟩ := top_of k hx
  have hp : p ∈ xs := h1.symm.subset List.mem_cons_self
  have nd2 := h1.nodup_iff.mp nd
  obtain ⟨n1, n2⟩ := List.nodup_cons.mp nd2
  have hlt : ∀ q ∈ r, k q < k p := fun q hq => by
    have := h2 q hq
    rcases Nat.lt_or_ge (k q) (k p) with z | z
    · exact z
    · have e := hk q (h1.symm.subset (List.mem_cons_of_mem _ hq)) p hp (by omega)
      exact absurd (e ▸ hq) n1
  have hg1 : 1 ≤ g := by omega
  rw [sumR_perm h1, sumR_cons]
  intro z
  have c0 := hc p hp
  have gp : ∀ e : Nat, (0 : Rat) < ((g ^ e : Nat) : Rat) := fun e => by
    have : 0 < g ^ e := Nat.pow_pos hg1
    exact_mod_cast this
  cases r with
  | nil =>
    rw [sumR_nil] at z
    have z : c p * ((g ^ k p : Nat) : Rat) = 0 := by grind
    rcases Rat.mul_eq_zero.mp z with z | z
    · exact c0 z
    · have := gp (k p); rw [z] at this; exact absurd this (by decide)
  | cons w r =>
    have hK : 1 ≤ k p := by have := hlt w List.mem_cons_self; omega
    obtain ⟨i1, i2⟩ := low_sum hg1 k c (k p - 1) (w :: r) fun q hq => by have := hlt q hq; omega
    have sl : (sumN (w :: r) fun q => (c q).num.natAbs) ≤ S := by
      have e : (sumN xs fun q => (c q).num.natAbs) = (c p).num.natAbs + sumN (w :: r) fun q => (c q).num.natAbs := by
        unfold sumN
        rw [(h1.map _).sum_nat, List.map_cons, List.sum_cons]
      omega
    have sl2 : ((sumN (w :: r) fun q => (c q).num.natAbs : Nat) : Rat) ≤ (S : Rat) := by exact_mod_cast sl
    have pw : ((g ^ k p : Nat) : Rat) = (g : Rat) * ((g ^ (k p - 1) : Nat) : Rat) := by
      have : g ^ k p = g * g ^ (k p - 1) := by
        rw [Nat.mul_comm, ← Nat.pow_succ]
        congr 1
        omega
      rw [this]
      push_cast
      rfl
    have hgR : (S : Rat) * (D : Rat) + 1 ≤ (g : Rat) := by exact_mod_cast hg
    have hG := gp (k p - 1)
    have dd := hD p hp
    have dp := (c p).den_pos
    have nd3 := rat_nd (c p)
    have dR : (((c p).den : Nat) : Rat) ≤ (D : Rat) := by exact_mod_cast dd
    have d0 : (0 : Rat) ≤ (D : Rat) := by exact_mod_cast (Nat.zero_le D)
    have num0 : (c p).num ≠ 0 := fun e => c0 (by rw [← nd3, e]; show (0 : Rat) / _ = 0; grind)
    have xd := rat_xd (c p)
    have dn1 : (1 : Rat) ≤ (((c p).den : Nat) : Rat) := by exact_mod_cast dp
    rw [pw] at z
    generalize ((g ^ (k p - 1) : Nat) : Rat) = G at *
    generalize (sumR (w :: r) fun q => c q * ((g ^ k q : Nat) : Rat)) = s at *
    generalize ((sumN (w :: r) fun q => (c q).num.natAbs : Nat) : Rat) = A at *
    generalize (((c p).den : Nat) : Rat) = dn at *
    have SG : 0 ≤ ((S : Rat) - A) * G := Rat.mul_nonneg (by grind) (by grind)
    have gG : 0 ≤ ((g : Rat) - (S : Rat) * (D : Rat) - 1) * G := Rat.mul_nonneg (by grind) (by grind)
    have g0 : (0 : Rat) ≤ (g : Rat) := by exact_mod_cast (Nat.zero_le g)
    have GG0 : 0 ≤ (g : Rat) * G := Rat.mul_nonneg g0 (by grind)
    generalize c p = y at *
    rcases Int.lt_or_lt_of_ne num0 with hn | hn
    · have hn : ((y.num : Int) : Rat) + 1 ≤ 0 := by
        have : y.num + 1 ≤ 0 := by omega
        exact_mod_cast this
      generalize ((y.num : Int) : Rat) = m at *
      have y0 : y ≤ 0 := by
        rcases (Rat.le_total (a := y) (b := 0)) with h | h
        · exact h
        · have := Rat.mul_nonneg h (show 0 ≤ dn by grind)
          grind
      have e1 : 0 ≤ (D - dn) * (0 - y) := Rat.mul_nonneg (by grind) (by grind)
      have e2 : 0 ≤ (0 - y * D - 1) * ((g : Rat) * G) := Rat.mul_nonneg (by grind) GG0
      have e3 : 0 ≤ (D : Rat) * (A * G + y * ((g : Rat) * G)) := Rat.mul_nonneg d0 (by grind)
      have e4 := Rat.mul_nonneg d0 SG
      grind
    · have hn : (1 : Rat) ≤ ((y.num : Int) : Rat) := by
        have : 1 ≤ y.num := by omega
        exact_mod_cast this
      generalize ((y.num : Int) : Rat) = m at *
      have y0 : 0 ≤ y := by
        rcases (Rat.le_total (a := y) (b := 0)) with h | h
        · have := Rat.mul_nonneg (show 0 ≤ 0 - y by grind) (show 0 ≤ dn by grind)
          grind
        · exact h
      have e1 : 0 ≤ (D - dn) * y := Rat.mul_nonneg (by grind) (by grind)
      have e2 : 0 ≤ (y * D - 1) * ((g : Rat) * G) := Rat.mul_nonneg (by grind) GG0
      have e3 : 0 ≤ (D : Rat) * (A * G - y * ((g : Rat) * G)) := Rat.mul_nonneg d0 (by grind)
      have e4 := Rat.mul_nonneg d0 SG
      grind
theorem nd_once {κ ν : Type} {L : List (κ × ν)} (h : ND L) {p q : κ × ν} (hp : p ∈ L) (hq : q ∈ L) (e : p.1 = q.1) : p = q := by
  unfold ND at h
  induction L with
  | nil => exact nomatch hp
  | cons r B ih =>
    rw [List.map_cons] at h
    obtain ⟨h1, h2⟩ := List.nodup_cons.mp h
    rcases List.mem_cons.mp hp with g1 | g1
    · rcases List.mem_cons.mp hq with g2 | g2
      · rw [g1, g2]
      · exact absurd (List.mem_map.mpr ⟨q, g2, by rw [← e, g1]⟩) h1
    · rcases List.mem_cons.mp hq with g2 | g2
      · exact absurd (List.mem_map.mpr ⟨p, g1, by rw [e, g2]⟩) h1
      · exact ih h2 g1 g2
theorem nodup_of_nd {κ ν : Type} : ∀ {L : List (κ × ν)}, ND L → L.Nodup
  | [], _ => List.nodup_nil
  | q :: B, h => by
    unfold ND at h
    rw [List.map_cons] at h
    obtain ⟨h1, h2⟩ := List.nodup_cons.mp h
    exact List.nodup_cons.mpr ⟨fun z => h1 (List.mem_map.mpr ⟨q, z, rfl⟩), nodup_of_nd h2⟩
/-- at numbers that part a plain that is not nought is not worth nought -/
theorem part_ne {rows : List (Mono × Rat)} (hne : rows ≠ []) (inc : ND rows) (hm : ∀ p ∈ rows, MonO 3 p.1) (hz : ∀ p ∈ rows, p.2 ≠ 0) {ys : List Str} (nd : ys.Nodup) (hy : ∀ p ∈ rows, ∀ q ∈ p.1, q.1 ∈ ys) {vals : List (Str × Int)} {g S D : Nat}
    (hv : PartV vals ((g : Nat) : Int) ys) (hS : (sumN rows fun p => p.2.num.natAbs) ≤ S) (hD : ∀ p ∈ rows, p.2.den ≤ D) (hg : S * D + 1 ≤ g) : lin (mvR vals) rows ≠ 0 := by
  have e : lin (mvR vals) rows = sumR rows fun q => q.2 * ((g ^ digD ys q.1 : Nat) : Rat) := by
    unfold lin
    refine sumR_congr fun p hp => ?_
    unfold mvR
    rw [mv_dig nd hv (inc_nd (hm p hp).inc) (hy p hp)]
    push_cast
    rfl
  rw [e]
  refine not_nought (k := fun q => digD ys q.1) (c := fun q => q.2) hne (fun p hp q hq h => ?_) (nodup_of_nd inc) hz hS hD hg
  have e := mono_digs (hm p hp) (hm q hq) (hy p hp) (hy q hq) h
  exact nd_once inc hp hq e
end DL
set_option Elab.async false
set_option linter.all false
set_option maxRecDepth 100000
set_option maxHeartbeats 4000000
set_option autoImplicit false
/-! Plain tools for dicts of texts and numbers: update, sorted, unlike; wider numbers shown. -/
namespace DL
open PySem L2
open Emb
theorem isDic_str {ν : Type} [Emb ν] {u : D} {kvs : List (Str × ν)} (h : IsDic u kvs) : u = .dct (kvD kvs) := by
  rcases h with ⟨rfl, rfl⟩ | ⟨_, rfl⟩ | ⟨hp, _⟩
  · rfl
  · rfl
  · cases hp
theorem p_upd {a e : RE} {δ : Sl} {S : Sto} {Q : D → Sto → Prop} (h : (a δ S).post fun x S1 => ∃ n kv0, x = .ptr n ∧ S1[n]? = some (.dct kv0) ∧ (e δ S1).post fun y S2 => ∃ m kvs more, y = .ptr m ∧ n ≠ m ∧ S2[n]? = some (.dct kvs) ∧ S2[m]? = some (.dct more) ∧ kvs.length + more.length ≤ sizeLine ∧ Q .non (S2.set n (.dct (mergeD kvs more)))) : (rUpd a e δ S).post Q :=
  p_bind (h.mono fun x S1 ⟨n, kv0, e1, e2, q⟩ => by
    subst e1
    dsimp only
    rw [e2]
    dsimp only
    refine p_bind (q.mono fun y S2 ⟨m, kvs, more, e3, hne, e4, e5, hl, q2⟩ => ?_)
    subst e3
    unfold updD
    dsimp only
    rw [if_neg hne, e4, e5]
    dsimp only
    rw [if_pos hl]
    exact q2)
theorem strKeys_kv {ν : Type} [Emb ν] : ∀ kvs : List (Str × ν), strKeys (kvD kvs) = some (kvs.map (·.1))
  | [] => rfl
  | p :: r => by
    show (strKeys (kvD r)).map (p.1 :: ·) = _
    rw [strKeys_kv r]
    rfl
theorem o_sortKeys {ν : Type} [Emb ν] {S : Sto} {j : Nat} {kvs : List (Str × ν)} {Q : D → Sto → Prop} (hj : S[j]? = some (.dct (kvD kvs))) (hl : kvs.length < 64) (h : Q (.lst ((sortT (kvs.map (·.1))).map .str)) S) : (Res.lift (gSortKeys S [.ptr j]) S).post Q := p_lift (by
  unfold gSortKeys
  dsimp only
  have hd : deref S (.ptr j) = .dct (kvD kvs) := by
    unfold deref
    dsimp only
    rw [show S.getD j .non = .dct (kvD kvs) by rw [List.getD_eq_getElem?_getD, hj]; rfl]
  rw [hd]
  dsimp only
  rw [strKeys_kv]
  dsimp only
  rw [List.length_map, if_pos hl]) h
end DL
set_option Elab.async false
set_option linter.all false
set_option maxRecDepth 100000
set_option maxHeartbeats 1000000
set_option autoImplicit false
namespace DL
open PySem L2
open Emb
local macro_rules | `(tactic| walk_at "1") => `(tactic| with_reducible first
  | refine e_seq ?_ | refine e_asgP ?_ | refine e_if ?_ | refine e_next ?_ | refine e_exprP ?_ | refine s_seq ?_ | refine s_asg ?_ | refine s_ret ?_ | refine s_if ?_ | refine s_expr ?_ | refine s_next ?_ | refine s_brk ?_ | refine s_cont ?_ | refine s_for ?_ | refine s_while ?_
  | refine p_c ?_ | refine p_bin ?_ | refine p_as ?_ | refine p_cons ?_ | refine p_nil ?_ | refine p_un ?_ | refine p_call ?_ | refine p_if ?_ | refine p_own ?_
  | refine p_keep ?_ | refine p_tru ?_ | refine p_and ?_ | refine p_or ?_ | refine p_not ?_ | refine p_val ?_ | refine p_rand ?_ | refine p_ror ?_ | refine p_rnot ?_ | refine p_chain ?_ | refine p_bif ?_
  | refine o_add ?_ | refine o_sub ?_ | refine o_ltU ?_ | refine o_leU ?_ | refine o_gtU ?_ | refine o_geU ?_ | refine o_neg ?_ | refine o_eqI ?_ | refine o_neI ?_ | refine o_abs ?_ | refine o_tru ?_ | refine p_true ?_ | refine p_false ?_
  | refine o_lenT ?_ | refine o_lenL ?_ | refine o_ix0 ?_ | refine o_ix1 ?_ | refine o_ix2 ?_ | refine o_ix0L ?_ | refine o_ix1L ?_ | refine o_ix2L ?_
  | refine s_par ?_ | refine p_yes ?_ | refine p_seq ?_ | refine s_gnil ?_ | refine s_gcons ?_ | refine s_gtux ?_ | refine s_gtupl ?_ | refine p_onone ?_ | refine p_osome ?_ | refine p_get2 ?_ | refine s_putU ?_ | refine p_sortIt ?_)
local macro_rules | `(tactic| walk_at "2") => `(tactic| first
  | walk_at "1"
  | (with_reducible refine p_var2 ?_)
  | ((with_reducible refine s_name ?_ ?_); (· exact Nat.le_of_ble_eq_true rfl); dsimp only [List.set_cons_zero, List.set_cons_succ])
  | (with_reducible refine p_tup ?_) | (with_reducible refine p_lst ?_) | ((with_reducible refine ⟨?_, ?_⟩); (· exact Nat.le_of_ble_eq_true rfl))
  | ((with_reducible refine p_ex2 (x := ?_) (y := ?_) ?_ ?_); rotate_left; rotate_left; (· rfl); refine ⟨?_, ?_, ?_⟩; (· exact Nat.le_of_ble_eq_true rfl); (· exact Nat.le_of_ble_eq_true rfl); dsimp only [List.set_cons_zero, List.set_cons_succ])
  | ((with_reducible refine p_isT ?_ ?_); (· rfl)) | ((with_reducible refine p_isF ?_ ?_); (· rfl))
  | ((with_reducible refine p_ex (x := ?_) ?_ ?_); rotate_left; (· rfl)))
local macro_rules | `(tactic| walk_at "3") => `(tactic| repeat walk_at "2")
theorem key_mergeT : ∀ {more kvs : List (Str × Int)}, (∀ p ∈ kvs, nice p.1 = true) → (∀ p ∈ more, nice p.1 = true) → ∀ p ∈ mergeT kvs more, nice p.1 = true
  | [], _, h, _ => h
  | p :: r, kvs, h, g => key_mergeT (more := r) (kvs := putT kvs p.1 p.2) (put_all (P := fun p : Str × Int => nice p.1 = true) h (g p List.mem_cons_self)) fun q hq => g q (List.mem_cons_of_mem _ hq)
structure BoxSt (j : Nat) (S S2 : Sto) (kvs : List (Str × Int)) : Prop where
  len : S.length < S2.length
  keep : ∀ k, k < S.length → k ≠ j → S2[k]? = S[k]?
  dic : S2[j]? = some (D.dct (kvD kvs))
  sane : Sane S2
theorem closed_kvD {ν : Type} [Emb ν] (n : Nat) (kvs : List (Str × ν)) : D.closed n (D.dct (kvD kvs)) = true := isDic_closed (u := D.dct (kvD kvs)) (kvs := kvs) (.inr (.inl ⟨rfl, rfl⟩)) n
theorem upd_step {δ : Sl} {S2 : Sto} {j : Nat} {a k : RE} {m : Mono} {kvs : List (Str × Int)} {Q : D → Sto → Prop} (ha : ∀ {Q : D → Sto → Prop}, Q (.ptr j) S2 → (a δ S2).post Q) (hk : ∀ {Q : D → Sto → Prop}, Q (toD m) S2 → (k δ S2).post Q) (hj : S2[j]? = some (D.dct (kvD kvs))) (hn : ND m) (hl : kvs.length + m.length ≤ sizeLine)
    (h : Q D.non (List.set (S2 ++ [D.dct (kvD m)]) j (D.dct (kvD (mergeT kvs m))))) : (rUpd a (rOwn (rAs gDict (rCons k rNil))) δ S2).post Q := by
  have hjl : j < S2.length := (List.getElem?_eq_some_iff.mp hj).1
  obtain ⟨u, _, e, hu⟩ := dict_of S2 m
  rw [merge_id hn] at hu
  have eu := isDic_str hu
  subst eu
  refine p_upd (ha ⟨j, _, rfl, hj, ?_⟩)
  refine p_own ?_
  refine p_as ?_
  refine p_cons (hk ?_)
  refine p_nil ?_
  refine p_lift (show gDict S2 [toD m] = some (.dct (kvD m)) from e) ?_
  refine ⟨S2.length, kvD kvs, kvD m, rfl, by omega, by rw [List.getElem?_append_left hjl]; exact hj, by rw [List.getElem?_append_right (Nat.le_refl _), Nat.sub_self]; rfl, by rw [kvD_len, kvD_len]; exact hl, ?_⟩
  rw [mergeD_kv rfl]
  exact h
theorem boxst_upd {j : Nat} {S S2 : Sto} {kvs : List (Str × Int)} {m : Mono} (h : BoxSt j S S2 kvs) : BoxSt j S (List.set (S2 ++ [D.dct (kvD m)]) j (D.dct (kvD (mergeT kvs m)))) (mergeT kvs m) := by
  have hjl : j < S2.length := (List.getElem?_eq_some_iff.mp h.dic).1
  refine ⟨by rw [List.length_set, List.length_append]; have := h.len; omega, fun k k1 k2 => ?_, List.getElem?_set_self (by rw [List.length_append]; omega), sane_set (sane_app h.sane (closed_kvD _ _)) (closed_kvD _ _)⟩
  rw [List.getElem?_set_ne (Ne.symm k2), List.getElem?_append_left (by have := h.len; omega)]
  exact h.keep k k1 k2
theorem m_give2 {n : Nat} {b : RS} {ds : List D} {S : Sto} {u : D} (hS : Sane S) (ho : u.owned = true) (hc : D.closed S.length u = true)
    (h : (b (ds.map some ++ List.replicate (n - ds.length) none) S).post NoS (fun z S1 => ∃ k, z = .ptr k ∧ S.length ≤ k ∧ S1[k]? = some u ∧ S1.take S.length = S) NoS NoS) : mDef n b ds S = .ok (.ptr S.length) (S ++ [u]) := by
  unfold mDef
  cases q : b (ds.map some ++ List.replicate (n - ds.length) none) S with
  | rt d S1 =>
    rw [q] at h
    obtain ⟨k, rfl, hk, e1, e2⟩ : ∃ k, d = .ptr k ∧ S.length ≤ k ∧ S1[k]? = some u ∧ S1.take S.length = S := h
    dsimp only
    have e3 : D.closed S.length (.ptr k) = false := by unfold D.closed; exact decide_eq_false (by omega)
    rw [e3]
    show giveD S.length (.ptr k) S1 = _
    unfold giveD
    dsimp only
    rw [e1]
    dsimp only
    rw [e2, ho, hc, show closedL S.length S = true from hS, decide_eq_true hk]
    rfl
  | _ => rw [q] at h; exact h.elim
theorem max_mem {ns : List Int} (h : ns ≠ []) : ∃ m, maxI ns = some m ∧ m ∈ ns ∧ ∀ x ∈ ns, x ≤ m := by
  cases ns with
  | nil => exact absurd rfl h
  | cons i r =>
    obtain ⟨h1, h2, h3⟩ := foldl_max r i
    refine ⟨r.foldl max i, rfl, ?_, fun x hx => ?_⟩
    · rcases h1 with h | h
      · rw [h]; exact List.mem_cons_self
      · exact List.mem_cons_of_mem _ h
    · rcases List.mem_cons.mp hx with rfl | hx
      · exact h2
      · exact h3 x hx
theorem m_giveR {n : Nat} {b : RS} {ds : List D} {S : Sto} {R : D → Prop} (hS : Sane S)
    (h : (b (ds.map some ++ List.replicate (n - ds.length) none) S).post NoS (fun z S1 => ∃ k u, z = .ptr k ∧ S.length ≤ k ∧ S1[k]? = some u ∧ S1.take S.length = S ∧ u.owned = true ∧ D.closed S.length u = true ∧ R u) NoS NoS) :
    (mDef n b ds S).post fun z S' => ∃ u, z = .ptr S.length ∧ S' = S ++ [u] ∧ R u ∧ D.closed S.length u = true := by
  cases q : b (ds.map some ++ List.replicate (n - ds.length) none) S with
  | rt d S1 =>
    rw [q] at h
    obtain ⟨k, u, h1, h2, h3, h4, h5, h6, h7⟩ : ∃ k u, d = .ptr k ∧ S.length ≤ k ∧ S1[k]? = some u ∧ S1.take S.length = S ∧ u.owned = true ∧ D.closed S.length u = true ∧ R u := h
    rw [m_give2 (u := u) hS h5 h6 (by rw [q]; exact ⟨k, h1, h2, h3, h4⟩)]
    exact ⟨u, rfl, rfl, h7, h6⟩
  | nx => rw [q] at h; exact h.elim
  | err => rw [q] at h; exact h.elim
  | bk => rw [q] at h; exact h.elim
  | ct => rw [q] at h; exact h.elim
  | stuck => rw [q] at h; exact h.elim
/-! ### the names of a plain -/
def namesF (kvs : List (Str × Int)) (rows : List (Mono × Rat)) : List (Str × Int) := rows.foldl (fun acc p => mergeT acc p.1) kvs
theorem getT_some {p : Str × Int} : ∀ {kvs : List (Str × Int)}, p ∈ kvs → ∃ w, getT kvs p.1 = some w
  | (k, v) :: r, h => by
    rw [getT_cons]
    by_cases e : k = p.1
    · exact ⟨v, if_pos e⟩
    · rw [if_neg e]
      rcases List.mem_cons.mp h with q | q
      · exact absurd (by rw [q]) e
      · exact getT_some q
theorem key_put {kvs : List (Str × Int)} {k y : Str} {v : Int} (h : y ∈ kvs.map (·.1)) : y ∈ (putT kvs k v).map (·.1) := by
  obtain ⟨p, hp, rfl⟩ := List.mem_map.mp h
  have e : ∃ w, getT (putT kvs k v) p.1 = some w := by
    rw [getT_put]
    by_cases e : p.1 = k
    · exact ⟨v, if_pos e⟩
    · rw [if_neg e]
      exact getT_some hp
  obtain ⟨w, e⟩ := e
  exact List.mem_map.mpr ⟨_, getT_mem e, rfl⟩
theorem key_put_self {kvs : List (Str × Int)} {k : Str} {v : Int} : k ∈ (putT kvs k v).map (·.1) :=
  List.mem_map.mpr ⟨_, getT_mem (show getT (putT kvs k v) k = some v by rw [getT_put, if_pos rfl]), rfl⟩
theorem key_merge_old {y : Str} : ∀ {more kvs : List (Str × Int)}, y ∈ kvs.map (·.1) → y ∈ (mergeT kvs more).map (·.1)
  | [], _, h => h
  | p :: r, kvs, h => key_merge_old (more := r) (kvs := putT kvs p.1 p.2) (key_put h)
theorem key_merge_new {y : Str} : ∀ {more kvs : List (Str × Int)}, y ∈ more.map (·.1) → y ∈ (mergeT kvs more).map (·.1)
  | p :: r, kvs, h => by
    rw [List.map_cons] at h
    rcases List.mem_cons.mp h with rfl | h
    · exact key_merge_old (more := r) (kvs := putT kvs p.1 p.2) key_put_self
    · exact key_merge_new (more := r) (kvs := putT kvs p.1 p.2) h
theorem names_old {y : Str} : ∀ {rows : List (Mono × Rat)} {kvs : List (Str × Int)}, y ∈ kvs.map (·.1) → y ∈ (namesF kvs rows).map (·.1)
  | [], _, h => h
  | p :: r, kvs, h => names_old (rows := r) (kvs := mergeT kvs p.1) (key_merge_old h)
theorem names_all : ∀ {rows : List (Mono × Rat)} {kvs : List (Str × Int)}, ∀ p ∈ rows, ∀ q ∈ p.1, q.1 ∈ (namesF kvs rows).map (·.1)
  | r :: rows, kvs, p, hp, q, hq => by
    rcases List.mem_cons.mp hp with rfl | hp
    · exact names_old (rows := rows) (kvs := mergeT kvs p.1) (key_merge_new (List.mem_map.mpr ⟨q, hq, rfl⟩))
    · exact names_all (rows := rows) (kvs := mergeT kvs r.1) p hp q hq
theorem names_nice {n : Nat} : ∀ {rows : List (Mono × Rat)} {kvs : List (Str × Int)}, (∀ p ∈ rows, MonO n p.1) → (∀ p ∈ kvs, nice p.1 = true) → ∀ p ∈ namesF kvs rows, nice p.1 = true
  | [], _, _, h => h
  | p :: r, kvs, hm, h => names_nice (rows := r) (kvs := mergeT kvs p.1) (fun q hq => hm q (List.mem_cons_of_mem _ hq)) (key_mergeT h fun q hq => ((hm p List.mem_cons_self).nc q hq).1)
theorem names_nd : ∀ {rows : List (Mono × Rat)} {kvs : List (Str × Int)}, ND kvs → ND (namesF kvs rows)
  | [], _, h => h
  | p :: r, kvs, h => names_nd (rows := r) (kvs := mergeT kvs p.1) (nd_merge h)
theorem nodup_sub {α : Type} [DecidableEq α] : ∀ {xs zs : List α}, xs.Nodup → (∀ x ∈ xs, x ∈ zs) → xs.length ≤ zs.length
  | [], _, _, _ => Nat.zero_le _
  | x :: xs, zs, nd, h => by
    obtain ⟨h1, h2⟩ := List.nodup_cons.mp nd
    have hx := h x List.mem_cons_self
    have ih := nodup_sub (xs := xs) (zs := zs.erase x) h2 fun y hy => (List.mem_erase_of_ne (fun e : y = x => h1 (e ▸ hy))).mpr (h y (List.mem_cons_of_mem _ hy))
    rw [List.length_erase_of_mem hx] at ih
    have : 0 < zs.length := List.length_pos_of_mem hx
    rw [List.length_cons]
    omega
def ysP (rows : List (Mono × Rat)) : List Str := sortT ((namesF [] rows).map (·.1))
theorem nice_five {x : Str} (h : nice x = true) : x ∈ fiveB := by
  unfold nice at h
  exact of_decide_eq_true (Bool.and_eq_true_iff.mp h).2
structure NamesG (rows : List (Mono × Rat)) : Prop where
  nd : (ysP rows).Nodup
  all : ∀ p ∈ rows, ∀ q ∈ p.1, q.1 ∈ ysP rows
  nice : ∀ y ∈ ysP rows, nice y = true
  len : (ysP rows).length ≤ 5
  len0 : (namesF [] rows).length ≤ 5
theorem names_ok {n : Nat} {rows : List (Mono × Rat)} (h : ∀ p ∈ rows, MonO n p.1) : NamesG rows := by
  have pm := sortT_perm ((namesF [] rows).map (·.1))
  have nd0 : ND (namesF [] rows) := names_nd (kvs := []) List.nodup_nil
  have nd : (ysP rows).Nodup := pm.nodup_iff.mpr nd0
  have ni : ∀ y ∈ ysP rows, nice y = true := fun y hy => by
    obtain ⟨p, hp, rfl⟩ := List.mem_map.mp (pm.subset hy)
    exact names_nice (kvs := []) h (fun _ z => nomatch z) p hp
  have l5 : (ysP rows).length ≤ 5 := nodup_sub (zs := fiveB) nd fun y hy => nice_five (ni y hy)
  refine ⟨nd, fun p hp q hq => pm.symm.subset (names_all (kvs := []) p hp q hq), ni, l5, ?_⟩
  have e := pm.length_eq
  rw [List.length_map] at e
  rw [← e]
  exact l5
/-! ### powers -/
theorem wtOf_old {x y : Str} : ∀ {done : List Str}, x ∈ done → wtOf (done ++ [y]) x = wtOf done x
  | z :: done, h => by
    show (if z = x then 1 else 4 * wtOf (done ++ [y]) x) = (if z = x then 1 else 4 * wtOf done x)
    by_cases e : z = x
    · rw [if_pos e, if_pos e]
    · rw [if_neg e, if_neg e, wtOf_old (done := done)]
      rcases List.mem_cons.mp h with q | q
      · exact absurd q.symm e
      · exact q
theorem wtOf_new {y : Str} : ∀ {done : List Str}, y ∉ done → wtOf (done ++ [y]) y = 4 ^ done.length
  | [], _ => by
    show (if y = y then 1 else 4 * 0) = 1
    rw [if_pos rfl]
  | z :: done, h => by
    rw [List.mem_cons, not_or] at h
    show (if z = y then 1 else 4 * wtOf (done ++ [y]) y) = 4 ^ (done.length + 1)
    rw [if_neg (Ne.symm h.1), wtOf_new h.2, Nat.pow_succ, Nat.mul_comm]
theorem partV_put {vals : List (Str × Int)} {g : Int} {done : List Str} {y : Str} (h : PartV vals g done) (hy : y ∉ done) : PartV (putT vals y (g ^ 4 ^ done.length)) g (done ++ [y]) := fun x hx => by
  rw [getT_put]
  by_cases e : x = y
  · subst e
    rw [if_pos rfl, wtOf_new hy]
  · rw [if_neg e]
    rcases List.mem_append.mp hx with z | z
    · rw [h x z, wtOf_old z]
    · exact absurd (List.mem_singleton.mp z) e
theorem bits_of {i : Int} {k : Nat} (h : i.natAbs < 2 ^ k) : PySem.Builtin.Int.intBits i ≤ k := by
  unfold PySem.Builtin.Int.intBits
  split
  · exact Nat.zero_le _
  · rename_i hz
    have hz' : i.natAbs ≠ 0 := fun z => hz (by rw [Int.natAbs_eq_zero.mp z]; rfl)
    exact (Nat.log2_lt hz').mpr h
/-! ### the numbers, walked -/
def gP (rows : List (Mono × Rat)) (D : Nat) : Nat := 2 + (sumN rows fun p => p.2.num.natAbs) * D
theorem sum_nat {α : Type} (f : α → Nat) : ∀ rows : List α, (rows.map fun p => ((f p : Nat) : Int)).sum = ((sumN rows f : Nat) : Int)
  | [] => rfl
  | p :: r => by
    unfold sumN
    rw [List.map_cons, List.sum_cons, List.map_cons, List.sum_cons, sum_nat f r]
    unfold sumN
    push_cast
    rfl
/-- what is told -/
structure PartG (rows : List (Mono × Rat)) (e : Nat) (u : D) : Prop where
  ex : ∃ (vals : List (Str × Int)) (dm : Nat), u = D.dct (kvD vals) ∧ ND vals ∧ PartV vals ((gP rows dm : Nat) : Int) (ysP rows) ∧ (∀ p ∈ rows, p.2.den ≤ dm) ∧ (∀ p ∈ vals, p.2.natAbs < 2 ^ (e * 256)) ∧ vals.length ≤ 5 ∧ ∀ p ∈ vals, nice p.1 = true
theorem parting_spec {n e : Nat} {rows : List (Mono × Rat)} (hne : rows ≠ []) (hm : ∀ p ∈ rows, MonO n p.1) (hl : rows.length ≤ 1000) (hfit : fitP (py rows) = true) {S : Sto} (hS : Sane S) (he : e ≤ 2000) (he1 : 1 ≤ e) (hn : n ≤ 100)
    (hden : ∀ p ∈ rows, p.2.den < 2 ^ e) (hg : ∀ dm, (∃ p ∈ rows, dm = p.2.den) → gP rows dm < 2 ^ e) : (m__law_parting [toD rows] S).post fun d S' => ∃ u, d = .ptr S.length ∧ S' = S ++ [u] ∧ PartG rows e u ∧ D.closed S.length u = true := by
  have sl : 3000 ≤ sizeLine := by decide
  have ng := names_ok hm
  refine m_giveR hS ?_
  show (b__law_parting [some (toD rows), none, none, none, none, none, none, none] S).post _ _ _ _
  unfold b__law_parting
  walk_at "3"
  refine o_eqEmb (b := ([] : List (Mono × Rat))) hfit rfl (by decide) ?_
  rw [decide_eq_false hne]
  walk_at "3"
  refine .inr (.inl ⟨rows.map toD, rfl, ?_⟩)
  refine s_forT toD (fun xs δ S2 => ∃ (kvs : List (Str × Int)) (o2 o3 : Option D), BoxSt S.length S S2 kvs ∧ (∀ p ∈ xs, p ∈ rows) ∧ namesF kvs xs = namesF [] rows ∧ kvs.length + n * xs.length ≤ 100 * 1000 ∧ δ = [some (toD rows), some (.ptr S.length), o2, o3, none, none, none, none]) ?_ ?_ _ _ _ ⟨[], _, _, ⟨by simp, fun k k1 _ => List.getElem?_append_left k1, get_app, sane_app hS rfl⟩, (fun _ z => z), rfl, by simp only [List.length_nil, Nat.zero_add]; exact Nat.mul_le_mul hn hl, rfl⟩
  · rintro x xs δ S2 ⟨kvs, o2, o3, hb, hin, hf, hk, rfl⟩
    have hx := hm x (hin x List.mem_cons_self)
    have hml := (mono_len hx).1
    rw [List.length_cons, Nat.mul_succ] at hk
    show (gTup _ (.tup [toD x.1, toD x.2]) _ _).post _
    walk_at "3"
    have hkk : kvs.length + x.1.length ≤ sizeLine := by
      have : 100 * 1000 ≤ sizeLine := by decide
      omega
    refine upd_step (j := S.length) (m := x.1) (kvs := kvs) (fun q => p_var rfl q) (fun q => ?_) hb.dic (inc_nd hx.inc) hkk ?_
    · walk_at "3"
      exact q
    · refine ⟨mergeT kvs x.1, _, _, boxst_upd hb, fun p hp => hin p (List.mem_cons_of_mem _ hp), hf, ?_, rfl⟩
      have := merge_len x.1 kvs
      omega
  · rintro δ S2 ⟨kvs, o2, o3, hb, hin, hf, hk, rfl⟩
    have e0 : kvs = namesF [] rows := hf
    subst e0
    obtain ⟨mx, m1, m2, m3⟩ := max_mem (ns := rows.map fun p => ((p.2.den : Nat) : Int)) (by simpa using hne)
    obtain ⟨pm, pm1, pm2⟩ := List.mem_map.mp m2
    have hgm := hg pm.2.den ⟨pm, pm1, rfl⟩
    have hden2 : ∀ p ∈ rows, p.2.den ≤ pm.2.den := fun p hp => by
      have := m3 _ (List.mem_map.mpr ⟨p, hp, rfl⟩)
      omega
    have dm1 := pm.2.den_pos
    have hdm := hden pm pm1
    have sn : (sumN rows fun p => p.2.num.natAbs) < 2 ^ e := by
      unfold gP at hgm
      have : (sumN rows fun p => p.2.num.natAbs) * 1 ≤ (sumN rows fun p => p.2.num.natAbs) * pm.2.den := Nat.mul_le_mul_left _ dm1
      omega
    walk_at "3"
    refine p_lcRows rows (fun p => ((p.2.num.natAbs : Nat) : Int)) D.int (exact_of (p_seq (p_var rfl (.inr (.inl ⟨_, rfl, rfl, rfl⟩))))) (Nat.le_of_ble_eq_true rfl) (Nat.le_of_ble_eq_true rfl) (by omega) (fun p hp => ?_) ?_
    · refine exact_of ?_
      dsimp only [in2, wipeD, List.set_cons_zero, List.set_cons_succ]
      walk_at "3"
      refine p_lift (a := .int p.2.num) rfl ?_
      walk_at "3"
      exact ⟨rfl, rfl⟩
    walk_at "3"
    refine o_sumI ?_
    rw [sum_nat (fun p : Mono × Rat => p.2.num.natAbs)]
    walk_at "3"
    refine p_lcRows rows (fun p => ((p.2.den : Nat) : Int)) D.int (exact_of (p_seq (p_var rfl (.inr (.inl ⟨_, rfl, rfl, rfl⟩))))) (Nat.le_of_ble_eq_true rfl) (Nat.le_of_ble_eq_true rfl) (by omega) (fun p hp => ?_) ?_
    · refine exact_of ?_
      dsimp only [in2, wipeD, List.set_cons_zero, List.set_cons_succ]
      walk_at "3"
      exact p_lift (a := .int p.2.den) rfl ⟨rfl, rfl⟩
    walk_at "3"
    refine o_maxL m1 ?_
    rw [← pm2]
    refine o_mul (fits_w (a := e) (b := e) sn hdm (by omega)) ?_
    walk_at "3"
    have eg : (2 : Int) + ((sumN rows fun p => p.2.num.natAbs : Nat) : Int) * ((pm.2.den : Nat) : Int) = ((gP rows pm.2.den : Nat) : Int) := by unfold gP; push_cast; rfl
    rw [eg]
    generalize hge : gP rows pm.2.den = g at hgm ⊢
    refine o_sortKeys (kvs := namesF [] rows) (by rw [List.getElem?_append_left (by have := hb.len; omega)]; exact hb.dic) (by have := ng.len0; omega) ?_
    walk_at "3"
    refine .inl ⟨(ysP rows).map D.str, rfl, ?_⟩
    refine s_forT D.str (fun xs δ S3 => ∃ (done : List Str) (vals : List (Str × Int)) (o2 o3 o7 : Option D), done ++ xs = ysP rows ∧ S3 = S2 ++ [D.dct (kvD vals)] ∧ ND vals ∧ PartV vals ((g : Nat) : Int) done ∧ (∀ p ∈ vals, p.1 ∈ done ∧ p.2.natAbs < 2 ^ (e * 256)) ∧ vals.length ≤ done.length ∧
      δ = [some (toD rows), some (.ptr S.length), o2, o3, some (.int g), some (.ptr S2.length), some (.int (((g : Nat) : Int) ^ 4 ^ done.length)), o7]) ?_ ?_ _ _ _ ⟨[], [], _, _, _, rfl, rfl, List.nodup_nil, (fun _ z => nomatch z), (fun _ z => nomatch z), Nat.le_refl _, by rw [List.length_nil, Nat.pow_zero, Int.pow_one]⟩
    · rintro y ys δ S3 ⟨done, vals, o2, o3, o7, hd, rfl, hnd, hp, hb5, hlv, rfl⟩
      have hdl : done.length < 5 := by
        have := congrArg List.length hd
        rw [List.length_append, List.length_cons] at this
        have := ng.len
        omega
      have hyn : y ∉ done := by
        have := ng.nd
        rw [← hd] at this
        have := (List.nodup_append.mp this).2.2
        exact fun z => this y z y List.mem_cons_self rfl
      have p4 : 4 ^ done.length ≤ 256 := Nat.le_trans (Nat.pow_le_pow_right (by decide) (show done.length ≤ 4 by omega)) (by decide)
      have hgb : (((g : Nat) : Int) ^ 4 ^ done.length).natAbs < 2 ^ (e * 256) := by
        rw [Int.natAbs_pow]
        refine Nat.lt_of_lt_of_le (Nat.pow_lt_pow_left (show ((g : Nat) : Int).natAbs < 2 ^ e from hgm) (Nat.ne_of_gt (Nat.pow_pos (by decide)))) ?_
        rw [← Nat.pow_mul]
        exact Nat.pow_le_pow_right (by decide) (Nat.mul_le_mul_left _ p4)
      walk_at "3"
      obtain ⟨u', e', hu'⟩ := dic_putU (show IsDic (D.dct (kvD vals)) vals from .inr (.inl ⟨rfl, rfl⟩)) (show vals.length < sizeLine by omega) y (((g : Nat) : Int) ^ 4 ^ done.length)
      have eu := isDic_str hu'
      subst eu
      refine ⟨S2.length, _, _, rfl, get_app, e', ?_⟩
      walk_at "3"
      refine o_powW (by decide) (by have := bits_of hgb; have : e * 256 ≤ 2000 * 256 := Nat.mul_le_mul_right _ he; omega) ?_
      walk_at "3"
      have ep : (((g : Nat) : Int) ^ 4 ^ done.length) ^ (4 : Int).toNat = ((g : Nat) : Int) ^ 4 ^ (done ++ [y]).length := by
        rw [← Int.pow_mul, List.length_append, show done.length + [y].length = done.length + 1 from rfl, Nat.pow_succ]
        rfl
      rw [ep]
      have hlv2 : (putT vals y (((g : Nat) : Int) ^ 4 ^ done.length)).length ≤ (done ++ [y]).length := by
        rw [List.length_append]
        have := put_len vals y (((g : Nat) : Int) ^ 4 ^ done.length)
        show _ ≤ done.length + 1
        omega
      exact ⟨done ++ [y], putT vals y (((g : Nat) : Int) ^ 4 ^ done.length), o2, o3, some (.str y), by rw [List.append_assoc]; exact hd, set_app, nd_put hnd _ _, partV_put hp hyn, put_all (fun p hp => ⟨List.mem_append_left _ (hb5 p hp).1, (hb5 p hp).2⟩) ⟨List.mem_append_right _ List.mem_cons_self, hgb⟩, hlv2, rfl⟩
    · rintro δ S3 ⟨done, vals, o2, o3, o7, hd, rfl, hnd, hp, hb5, hlv, rfl⟩
      have hd : done = ysP rows := by rw [← hd, List.append_nil]
      subst hd
      walk_at "3"
      refine ⟨S2.length, D.dct (kvD vals), rfl, by have := hb.len; omega, get_app, ?_, rfl, closed_kvD _ _, vals, pm.2.den, rfl, hnd, by rw [hge]; exact hp, hden2, fun p hp => (hb5 p hp).2, Nat.le_trans hlv ng.len, fun p hp => ng.nice _ (hb5 p hp).1⟩
      rw [List.take_append_of_le_length (by have := hb.len; omega)]
      refine List.ext_getElem? fun k => ?_
      rw [List.getElem?_take]
      split
      · rename_i hk
        exact hb.keep k hk (by omega)
      · rename_i hk
        exact (List.getElem?_eq_none (by omega)).symm
end DL
set_option Elab.async false
set_option linter.all false
set_option maxRecDepth 100000
set_option maxHeartbeats 4000000
set_option autoImplicit false
/-! Products of forms, a common number below. -/
namespace DL
open PySem L2
open Emb
local macro_rules | `(tactic| walk_at "1") => `(tactic| with_reducible first
  | refine s_seq ?_ | refine s_asg ?_ | refine s_ret ?_ | refine s_if ?_ | refine s_expr ?_ | refine s_next ?_ | refine s_brk ?_ | refine s_cont ?_ | refine s_for ?_ | refine s_while ?_
  | refine p_c ?_ | refine p_bin ?_ | refine p_as ?_ | refine p_cons ?_ | refine p_nil ?_ | refine p_un ?_ | refine p_call ?_ | refine p_if ?_ | refine p_own ?_
  | refine p_keep ?_ | refine p_tru ?_ | refine p_and ?_ | refine p_or ?_ | refine p_not ?_ | refine p_val ?_ | refine p_rand ?_ | refine p_ror ?_ | refine p_rnot ?_ | refine p_chain ?_ | refine p_bif ?_
  | refine o_add ?_ | refine o_sub ?_ | refine o_ltU ?_ | refine o_leU ?_ | refine o_gtU ?_ | refine o_geU ?_ | refine o_neg ?_ | refine o_eqI ?_ | refine o_neI ?_ | refine o_abs ?_ | refine o_tru ?_ | refine p_true ?_ | refine p_false ?_
  | refine o_lenT ?_ | refine o_lenL ?_ | refine o_ix0 ?_ | refine o_ix1 ?_ | refine o_ix2 ?_ | refine o_ix0L ?_ | refine o_ix1L ?_ | refine o_ix2L ?_
  | refine s_par ?_ | refine p_yes ?_ | refine p_seq ?_ | refine s_gnil ?_ | refine s_gcons ?_ | refine s_gtux ?_ | refine s_gtupl ?_ | refine p_onone ?_ | refine p_osome ?_ | refine p_get2 ?_ | refine s_putU ?_ | refine p_sortIt ?_)
local macro_rules | `(tactic| walk_at "2") => `(tactic| first
  | walk_at "1"
  | (with_reducible refine p_var2 ?_)
  | ((with_reducible refine s_name ?_ ?_); (· exact Nat.le_of_ble_eq_true rfl); dsimp only [List.set_cons_zero, List.set_cons_succ])
  | (with_reducible refine p_tup ?_) | (with_reducible refine p_lst ?_) | ((with_reducible refine ⟨?_, ?_⟩); (· exact Nat.le_of_ble_eq_true rfl))
  | ((with_reducible refine p_ex2 (x := ?_) (y := ?_) ?_ ?_); rotate_left; rotate_left; (· rfl); refine ⟨?_, ?_, ?_⟩; (· exact Nat.le_of_ble_eq_true rfl); (· exact Nat.le_of_ble_eq_true rfl); dsimp only [List.set_cons_zero, List.set_cons_succ])
  | ((with_reducible refine p_isT ?_ ?_); (· rfl)) | ((with_reducible refine p_isF ?_ ?_); (· rfl))
  | ((with_reducible refine p_ex (x := ?_) ?_ ?_); rotate_left; (· rfl)))
local macro_rules | `(tactic| walk_at "3") => `(tactic| repeat walk_at "2")
/-- rows of bounded kinds, fractions of a common number below -/
structure Rc (n pl A V L : Nat) (rows : List (Kind × Rat)) : Prop where
  m : ∀ p ∈ rows, MonO n p.1.m
  p0 : ∀ p ∈ rows, 0 ≤ p.1.p
  p1 : ∀ p ∈ rows, p.1.p ≤ pl
  b : ∀ p ∈ rows, p.1.b.natAbs ≤ A
  q : ∀ p ∈ rows, QC V L p.2
end DL
set_option Elab.async false
set_option linter.all false
set_option maxRecDepth 100000
set_option maxHeartbeats 4000000
set_option autoImplicit false
/-! At a count: the walks. -/
namespace DL
open PySem L2
open Emb
local macro_rules | `(tactic| walk_at "1") => `(tactic| with_reducible first
  | refine s_seq ?_ | refine s_asg ?_ | refine s_ret ?_ | refine s_if ?_ | refine s_expr ?_ | refine s_next ?_ | refine s_brk ?_ | refine s_cont ?_ | refine s_for ?_ | refine s_while ?_
  | refine p_c ?_ | refine p_bin ?_ | refine p_as ?_ | refine p_cons ?_ | refine p_nil ?_ | refine p_un ?_ | refine p_call ?_ | refine p_if ?_ | refine p_own ?_
  | refine p_keep ?_ | refine p_tru ?_ | refine p_and ?_ | refine p_or ?_ | refine p_not ?_ | refine p_val ?_ | refine p_rand ?_ | refine p_ror ?_ | refine p_rnot ?_ | refine p_chain ?_ | refine p_bif ?_
  | refine o_add ?_ | refine o_sub ?_ | refine o_ltU ?_ | refine o_leU ?_ | refine o_gtU ?_ | refine o_geU ?_ | refine o_neg ?_ | refine o_eqI ?_ | refine o_neI ?_ | refine o_abs ?_ | refine o_tru ?_ | refine p_true ?_ | refine p_false ?_
  | refine o_lenT ?_ | refine o_lenL ?_ | refine o_ix0 ?_ | refine o_ix1 ?_ | refine o_ix2 ?_ | refine o_ix0L ?_ | refine o_ix1L ?_ | refine o_ix2L ?_
  | refine s_par ?_ | refine p_yes ?_ | refine p_seq ?_ | refine s_gnil ?_ | refine s_gcons ?_ | refine s_gtux ?_ | refine s_gtupl ?_ | refine p_onone ?_ | refine p_osome ?_ | refine p_get2 ?_ | refine s_putU ?_ | refine p_sortIt ?_)
local macro_rules | `(tactic| walk_at "2") => `(tactic| first
  | walk_at "1"
  | (with_reducible refine p_var2 ?_)
  | ((with_reducible refine s_name ?_ ?_); (· exact Nat.le_of_ble_eq_true rfl); dsimp only [List.set_cons_zero, List.set_cons_succ])
  | (with_reducible refine p_tup ?_) | (with_reducible refine p_lst ?_) | ((with_reducible refine ⟨?_, ?_⟩); (· exact Nat.le_of_ble_eq_true rfl))
  | ((with_reducible refine p_ex2 (x := ?_) (y := ?_) ?_ ?_); rotate_left; rotate_left; (· rfl); refine ⟨?_, ?_, ?_⟩; (· exact Nat.le_of_ble_eq_true rfl); (· exact Nat.le_of_ble_eq_true rfl); dsimp only [List.set_cons_zero, List.set_cons_succ])
  | ((with_reducible refine p_isT ?_ ?_); (· rfl)) | ((with_reducible refine p_isF ?_ ?_); (· rfl))
  | ((with_reducible refine p_ex (x := ?_) ?_ ?_); rotate_left; (· rfl)))
local macro_rules | `(tactic| walk_at "3") => `(tactic| repeat walk_at "2")
theorem rng_cons {n t x : Nat} {xs : List Nat} (e : x :: xs = (List.range n).drop t) : x = t ∧ t < n ∧ xs = (List.range n).drop (t + 1) := by
  have ht : t < n := by
    have h := congrArg List.length e
    rw [List.length_cons, List.length_drop, List.length_range] at h
    omega
  rw [List.drop_eq_getElem_cons (by rw [List.length_range]; exact ht), List.getElem_range] at e
  injection e with e1 e2
  exact ⟨e1, ht, e2⟩
theorem rng_nil {n t : Nat} (e : [] = (List.range n).drop t) : n ≤ t := by
  have h := congrArg List.length e
  rw [List.length_nil, List.length_drop, List.length_range] at h
  omega
theorem rat_mulI (z : Rat) (n : Int) : ((z.num * n : Int) : Rat) / ((z.den : Int) : Rat) = z * (n : Rat) := by
  have h1 := rat_nd z
  have hx : ((z.den : Nat) : Rat) ≠ 0 := by have := z.den_nz; simp; omega
  have e1 : ((z.num * n : Int) : Rat) = (z.num : Rat) * (n : Rat) := by push_cast; rfl
  have e2 : (((z.den : Nat) : Int) : Rat) = ((z.den : Nat) : Rat) := by push_cast; rfl
  rw [e1, e2]
  generalize (z.num : Rat) = a at *
  generalize ((z.den : Nat) : Rat) = d at *
  subst h1
  grind
theorem tv_bound {p n A : Nat} {b : Int} (hb : b.natAbs ≤ A) (hA : 1 ≤ A) : (tv p b n).natAbs ≤ (2 * A) ^ n := by
  unfold tv
  split
  · rename_i h
    rw [Int.natAbs_mul, Int.natAbs_pow, Nat.mul_pow]
    refine Nat.mul_le_mul (bin_le n p) ?_
    exact Nat.le_trans (Nat.pow_le_pow_left hb _) (Nat.pow_le_pow_right hA (by omega))
  · exact Nat.zero_le _
theorem term_at_spec (p n : Nat) (b : Int) (hp : p ≤ 200) (hn : n ≤ 200) {A : Nat} (hb : b.natAbs ≤ A) (hA : A ≤ 2 ^ 100) (S : Sto) (hS : Sane S) : m_term_at [.int p, .int b, .int n] S = .ok (.int (tv p b n)) S := by
  refine m_defS hS rfl ?_
  show (b_term_at [some (.int p), some (.int b), some (.int n)] S).post _ _ _ _
  unfold b_term_at
  walk_at "3"
  refine ⟨fun h => ?_, fun h => ?_⟩
  · have h : (p : Int) ≤ n := of_decide_eq_true h
    have hpn : p ≤ n := by omega
    walk_at "3"
    refine Res.post.of_eq (choose_spec n p hn (by omega) S hS) ?_
    walk_at "3"
    rw [show (n : Int) - (p : Int) = ((n - p : Nat) : Int) by omega]
    obtain ⟨r1, r2⟩ := pow_lt4 (e := n - p) hb hA (by omega)
    refine Res.post.of_eq (raised_spec b (n - p) r1 r2 (by omega) S hS) ?_
    have c1 : ((bin n p : Nat) : Int).natAbs < 2 ^ 201 := Nat.lt_of_le_of_lt (Nat.le_trans (bin_le n p) (Nat.pow_le_pow_right (by decide) hn)) (by decide)
    refine o_mul (fits_of (a := 201) (b := 400000) c1 (by rw [Int.natAbs_pow]; exact r1) (by decide)) ?_
    refine ⟨?_, rfl⟩
    unfold tv
    rw [if_pos hpn]
  · have h : ¬ (p : Int) ≤ n := of_decide_eq_false h
    walk_at "3"
    refine ⟨?_, rfl⟩
    unfold tv
    rw [if_neg (by omega)]
theorem lpower_spec (b : Int) (k : Nat) (hk : k ≤ 2000) {A : Nat} (hb : b.natAbs ≤ A) (hA : A ≤ 2 ^ 100) (S : Sto) (hS : Sane S) : m__law_power [.int b, .int k] S = .ok (.int (b ^ k)) S := by
  refine m_defS hS rfl ?_
  show (b__law_power [some (.int b), some (.int k), none, none] S).post _ _ _ _
  unfold b__law_power
  walk_at "3"
  with_reducible refine p_range1 ?_
  walk_at "3"
  refine ⟨by omega, by omega, ?_⟩
  rw [rangeD_nat]
  refine s_forT (fun i : Nat => D.int (i : Int)) (fun xs δ S1 => S1 = S ∧ ∃ (i : Nat) (z : Option D), xs = (List.range k).drop i ∧ i ≤ k ∧ δ = [some (.int b), some (.int k), some (.int (b ^ i)), z]) ?_ ?_ _ _ _ ⟨rfl, 0, none, rfl, Nat.zero_le _, by rw [Int.pow_zero]⟩
  · rintro x xs δ S1 ⟨rfl, i, z, e, hi, rfl⟩
    have hx := rng_cons e
    clear e
    have ex := hx.1
    have hik := hx.2.1
    have e := hx.2.2
    clear hx
    subst ex
    walk_at "3"
    obtain ⟨r1, r2⟩ := pow_lt4 (e := x) hb hA (by omega)
    refine o_mul (fits_of (a := 400000) (b := 400000) (by rw [Int.natAbs_pow]; exact r1) r2 (by decide)) ?_
    walk_at "3"
    exact ⟨rfl, x + 1, some (.int (x : Int)), e, by omega, by rw [Int.pow_succ]⟩
  · rintro δ S1 ⟨rfl, i, z, e, hi, rfl⟩
    have : i = k := by have := rng_nil e; omega
    subst this
    walk_at "3"
    exact ⟨rfl, rfl⟩
theorem lterm_spec (p n : Nat) (b : Int) (hp : p ≤ 200) (hn : n ≤ 200) {A : Nat} (hb : b.natAbs ≤ A) (hA : A ≤ 2 ^ 100) (S : Sto) (hS : Sane S) : m__law_term [.int p, .int b, .int n] S = .ok (.int (tv p b n)) S := by
  refine m_defS hS rfl ?_
  show (b__law_term [some (.int p), some (.int b), some (.int n), none, none] S).post _ _ _ _
  unfold b__law_term
  walk_at "3"
  refine ⟨fun h => ?_, fun h => ?_⟩
  · have h : (n : Int) < p := of_decide_eq_true h
    walk_at "3"
    refine ⟨?_, rfl⟩
    unfold tv
    rw [if_neg (by omega)]
  · have h : ¬ (n : Int) < p := of_decide_eq_false h
    have hpn : p ≤ n := by omega
    walk_at "3"
    with_reducible refine p_range1 ?_
    walk_at "3"
    refine ⟨by omega, by omega, ?_⟩
    rw [rangeD_nat]
    refine s_forT (fun i : Nat => D.int (i : Int)) (fun xs δ S1 => S1 = S ∧ ∃ (i : Nat) (z : Option D), xs = (List.range p).drop i ∧ i ≤ p ∧ δ = [some (.int p), some (.int b), some (.int n), some (.int (bin n i)), z]) ?_ ?_ _ _ _ ⟨rfl, 0, none, rfl, Nat.zero_le _, by rw [bin_zero]; rfl⟩
    · rintro x xs δ S1 ⟨rfl, i, z, e, hi, rfl⟩
      have hx := rng_cons e
      clear e
      have ex := hx.1
      have hik := hx.2.1
      have e := hx.2.2
      clear hx
      subst ex
      walk_at "3"
      have b1 := bin_le n x
      have b2 : 2 ^ n ≤ 2 ^ 200 := Nat.pow_le_pow_right (by decide) hn
      have b3 : (bin n x : Int).natAbs < 2 ^ 201 := by
        show bin n x < 2 ^ 201
        exact Nat.lt_of_le_of_lt (Nat.le_trans b1 b2) (by decide)
      refine o_mul (fits_of (a := 201) (b := 9) b3 (by omega) (by decide)) ?_
      walk_at "3"
      refine o_div ⟨by omega, log_of (b := 9) (by omega) (by decide)⟩ ?_
      walk_at "3"
      refine ⟨rfl, x + 1, some (.int x), e, by omega, ?_⟩
      have st := bin_step (n := n) (k := x) (by omega)
      have e : ((bin n x : Int) * (n - x)).fdiv (x + 1) = (bin n (x + 1) : Int) := by
        have e1 : ((bin n x : Int) * (n - x)) = ((bin n (x + 1) : Int) * (x + 1)) := by
          rw [show ((n : Int) - x) = ((n - x : Nat) : Int) by omega, show ((x : Int) + 1) = ((x + 1 : Nat) : Int) by omega, ← Int.natCast_mul, ← Int.natCast_mul, st]
        rw [e1]
        exact Int.mul_fdiv_cancel _ (by omega)
      rw [e]
    · rintro δ S1 ⟨rfl, i, z, e, hi, rfl⟩
      have : i = p := by have := rng_nil e; omega
      subst this
      walk_at "3"
      rw [show (n : Int) - (i : Int) = ((n - i : Nat) : Int) by omega]
      have hpw := lpower_spec b (n - i) (by omega) hb hA S1 hS
      with_reducible refine Res.post.of_eq hpw ?_
      obtain ⟨r1, r2⟩ := pow_lt4 (e := n - i) hb hA (by omega)
      have c1 : ((bin n i : Nat) : Int).natAbs < 2 ^ 201 := Nat.lt_of_le_of_lt (Nat.le_trans (bin_le n i) (Nat.pow_le_pow_right (by decide) hn)) (by decide)
      refine o_mul (fits_of (a := 201) (b := 400000) c1 (by rw [Int.natAbs_pow]; exact r1) (by decide)) ?_
      refine ⟨?_, rfl⟩
      unfold tv
      rw [if_pos hpn]
/-! ### the walks -/
theorem ten_two {B : Nat} (h : B ≤ 10 ^ 1000) : B ≤ 2 ^ 4000 := Nat.le_trans h (Nat.le_trans (Nat.pow_le_pow_left (show 10 ≤ 2 ^ 4 by decide) 1000) (by rw [← Nat.pow_mul]; exact Nat.le_refl _))
theorem toNat_cast {x : Int} (h : 0 ≤ x) : x = ((x.toNat : Nat) : Int) := by omega
theorem at_qc {n pl A V L : Nat} {rows : List (Kind × Rat)} (h : Rc n pl A V L rows) (hA : 1 ≤ A) (c : Nat) : ∀ p ∈ atL rows c, MonO n p.1 ∧ QC (V * (2 * A) ^ c) L p.2 := fun q hq => by
  obtain ⟨p, hp, rfl⟩ := List.mem_map.mp hq
  exact ⟨h.m p hp, qc_int (h.q p hp) (tv_bound (h.b p hp) hA)⟩
structure AtG (n V L T : Nat) (rows : List (Mono × Rat)) : Prop where
  m : ∀ p ∈ rows, MonO n p.1
  len : rows.length ≤ T
  rb : 1 ≤ V → 1 ≤ L → 1 ≤ T → ∀ p ∈ rows, RB' (V * T * L) p.2
theorem at_ok {n pl A V L T : Nat} {rows : List (Kind × Rat)} (h : Rc n pl A V L rows) (hA : 1 ≤ A) (c : Nat) (hT : rows.length ≤ T) : AtG n (V * (2 * A) ^ c) L T (atT rows c) := by
  have fin := onc_end (onc_start (T := T) (by unfold atL; rw [List.length_map]; exact hT) fun x hx => (at_qc h hA c x hx).2)
  obtain ⟨t, t1, t2, t3⟩ := fin.ex
  have t1 : t ≤ T := by simpa using t1
  refine ⟨fun p hp => ?_, Nat.le_trans (rows_len _) (by omega), fun hV hL hT p hp => qc_rb (Nat.mul_pos hV hT) hL (onc_qc fin p (rows_nz p hp).1)⟩
  exact rows_all (P := fun m : Mono => MonO n m) (acc := []) (fun _ z => (nomatch z)) (fun x hx => (at_qc h hA c x hx).1) p (rows_nz p hp).1
section
variable {n pl A V L T c : Nat} {rows : List (Kind × Rat)}
theorem at_count_spec (h : Rc n pl A V L rows) (hA : 1 ≤ A) (hA2 : A ≤ 2 ^ 100) (hpl : pl ≤ 100) (hc : c ≤ 200) (hV : 1 ≤ V) (hL : 1 ≤ L) (hT : rows.length ≤ T) (hT0 : 1 ≤ T) (hT1 : T ≤ 1000) (hB : V * (2 * A) ^ c * T * L ≤ 10 ^ 1000) (S : Sto) (hS : Sane S) :
    m_at_count [toD rows, .int c] S = .ok (toD (atT rows c)) S := by
  have sl : 3000 ≤ sizeLine := by decide
  have hW : 1 ≤ V * (2 * A) ^ c := Nat.mul_pos hV (Nat.pow_pos (by omega))
  have hB2 := ten_two hB
  have hok := at_ok h hA c hT
  refine m_defJ hS (cl _ _) ?_
  show (b_at_count [some (toD rows), some (.int c), none, none, none, none, none] S).post _ _ _ _
  unfold b_at_count
  walk_at "3"
  refine .inr (.inl ⟨rows.map toD, rfl, ?_⟩)
  refine s_forT toD (fun xs δ S2 => ∃ (acc : List (Mono × Rat)) (u : D) (o3 o4 o5 o6 : Option D), S2 = S ++ [u] ∧ IsDic u acc ∧ (∀ p ∈ xs, p ∈ rows) ∧ OnC (V * (2 * A) ^ c) L T (addAll [] (atL rows c)) acc (atL xs c) ∧ δ = [some (toD rows), some (.int c), some (.ptr S.length), o3, o4, o5, o6]) ?_ ?_ _ _ _ ⟨[], _, _, _, _, _, rfl, isDic_nil, (fun _ z => z), onc_start (by unfold atL; rw [List.length_map]; exact hT) fun x hx => (at_qc h hA c x hx).2, rfl⟩
  · rintro x xs δ S2 ⟨acc, u, o3, o4, o5, o6, rfl, hu, hin, oc, rfl⟩
    have hx := hin x List.mem_cons_self
    have hSa : Sane (S ++ [u]) := sane_app hS (isDic_closed hu _)
    show (gTup _ (.tup [.tup [toD x.1.m, .int x.1.p, .int x.1.b], toD x.2]) _ _).post _
    walk_at "3"
    have px := h.p1 x hx
    have ex := toNat_cast (h.p0 x hx)
    have tb := tv_bound (p := x.1.p.toNat) (n := c) (h.b x hx) hA
    have hr : (x.1.p.toNat : Nat) ≤ 200 := by omega
    refine Res.post.of_eq (show m_term_at [.int x.1.p, .int x.1.b, .int c] (S ++ [u]) = .ok (.int (tK x.1 c)) (S ++ [u]) from by
      rw [ex]; exact term_at_spec x.1.p.toNat c x.1.b hr hc (h.b x hx) hA2 _ hSa) ?_
    walk_at "3"
    refine Res.post.of_eq (fraction_spec (tK x.1 c) 1 (by decide) (Nat.lt_of_lt_of_le (show (1 : Int).natAbs < 2 ^ 1 by decide) (Nat.pow_le_pow_right (by decide) (by decide))) _ hSa) ?_
    rw [rat_one]
    walk_at "3"
    have b1 : V * L ≤ V * (2 * A) ^ c * T * L := Nat.mul_le_mul_right _ (Nat.le_trans (Nat.le_mul_of_pos_right _ (Nat.pow_pos (by omega))) (Nat.le_mul_of_pos_right _ hT0))
    have b2 : (2 * A) ^ c ≤ V * (2 * A) ^ c * T * L := Nat.le_trans (Nat.le_trans (Nat.le_mul_of_pos_left _ hV) (Nat.le_mul_of_pos_right _ hT0)) (Nat.le_mul_of_pos_right _ hL)
    refine Res.post.of_eq (times_spec x.2 ((tK x.1 c : Int) : Rat) (B := V * (2 * A) ^ c * T * L) (rb_mono (qc_rb hV hL (h.q x hx)) b1) ⟨Nat.le_trans tb b2, Nat.le_trans (Nat.pow_pos (by omega)) b2⟩ hB2 _ hSa) ?_
    walk_at "3"
    obtain ⟨u', e', hu', oc'⟩ := add_one (added_adds (κ := Mono)) hS hu (show OnC (V * (2 * A) ^ c) L T (addAll [] (atL rows c)) acc ((x.1.m, x.2 * ((tK x.1 c : Int) : Rat)) :: atL xs c) from oc) hW hL hT0 (by omega) hB2
    refine Res.post.of_eq e' ?_
    exact ⟨_, u', _, _, _, _, rfl, hu', fun p hp => hin p (List.mem_cons_of_mem _ hp), oc', rfl⟩
  · rintro δ S2 ⟨acc, u, o3, o4, o5, o6, rfl, hu, hin, oc, rfl⟩
    have e : acc = addAll [] (atL rows c) := oc.eq
    subst e
    walk_at "3"
    obtain ⟨t, t1, t2, _⟩ := oc.ex
    have t1 : t + 0 ≤ T := t1
    refine Res.post.of_eq (pairs_of_spec (sane_app hS (isDic_closed hu _)) hu get_app (by omega) ⟨Nat.le_trans hok.len hT1, fun p hp => rb_mono (hok.rb hW hL hT0 p hp) hB⟩) ⟨rfl, take_app⟩
theorem lat_spec (h : Rc n pl A V L rows) (hA : 1 ≤ A) (hA2 : A ≤ 2 ^ 100) (hpl : pl ≤ 100) (hc : c ≤ 200) (hV : 1 ≤ V) (hL : 1 ≤ L) (hT : rows.length ≤ T) (hT0 : 1 ≤ T) (hT1 : T ≤ 1000) (hB : V * (2 * A) ^ c * T * L ≤ 10 ^ 1000) (S : Sto) (hS : Sane S) :
    m__law_at [toD rows, .int c] S = .ok (toD (atT rows c)) S := by
  have sl : 3000 ≤ sizeLine := by decide
  have hW : 1 ≤ V * (2 * A) ^ c := Nat.mul_pos hV (Nat.pow_pos (by omega))
  have hB2 := ten_two hB
  refine m_defJ hS (cl _ _) ?_
  show (b__law_at [some (toD rows), some (.int c), none, none, none, none, none] S).post _ _ _ _
  unfold b__law_at
  walk_at "3"
  refine .inr (.inl ⟨rows.map toD, rfl, ?_⟩)
  refine s_forT toD (fun xs δ S2 => ∃ (acc : List (Mono × Rat)) (u : D) (o3 o4 o5 o6 : Option D), S2 = S ++ [u] ∧ IsDic u acc ∧ (∀ p ∈ xs, p ∈ rows) ∧ OnC (V * (2 * A) ^ c) L T (addAll [] (atL rows c)) acc (atL xs c) ∧ δ = [some (toD rows), some (.int c), some (.ptr S.length), o3, o4, o5, o6]) ?_ ?_ _ _ _ ⟨[], _, _, _, _, _, rfl, isDic_nil, (fun _ z => z), onc_start (by unfold atL; rw [List.length_map]; exact hT) fun x hx => (at_qc h hA c x hx).2, rfl⟩
  · rintro x xs δ S2 ⟨acc, u, o3, o4, o5, o6, rfl, hu, hin, oc, rfl⟩
    have hx := hin x List.mem_cons_self
    have hSa : Sane (S ++ [u]) := sane_app hS (isDic_closed hu _)
    show (gTup _ (.tup [.tup [toD x.1.m, .int x.1.p, .int x.1.b], .tup [.int x.2.num, .int x.2.den]]) _ _).post _
    walk_at "3"
    have px := h.p1 x hx
    have ex := toNat_cast (h.p0 x hx)
    have tb := tv_bound (p := x.1.p.toNat) (n := c) (h.b x hx) hA
    have hr : (x.1.p.toNat : Nat) ≤ 200 := by omega
    refine Res.post.of_eq (show m__law_term [.int x.1.p, .int x.1.b, .int c] (S ++ [u]) = .ok (.int (tK x.1 c)) (S ++ [u]) from by
      rw [ex]; exact lterm_spec x.1.p.toNat c x.1.b hr hc (h.b x hx) hA2 _ hSa) ?_
    have b1 : V * L ≤ V * (2 * A) ^ c * T * L := Nat.mul_le_mul_right _ (Nat.le_trans (Nat.le_mul_of_pos_right _ (Nat.pow_pos (by omega))) (Nat.le_mul_of_pos_right _ hT0))
    have b2 : (2 * A) ^ c ≤ V * (2 * A) ^ c * T * L := Nat.le_trans (Nat.le_trans (Nat.le_mul_of_pos_left _ hV) (Nat.le_mul_of_pos_right _ hT0)) (Nat.le_mul_of_pos_right _ hL)
    have rx := rb_mono (qc_rb hV hL (h.q x hx)) (Nat.le_trans b1 hB2)
    have tb2 : (tK x.1 c).natAbs ≤ 2 ^ 4000 := Nat.le_trans tb (Nat.le_trans b2 hB2)
    refine o_mul (fits_of (a := 4001) (b := 4001) (by have := rx.1; omega) (by omega) (by decide)) ?_
    walk_at "3"
    refine Res.post.of_eq (lshare_spec (x.2.num * tK x.1 c) (x.2.den : Int) (den_pos' _) (Nat.lt_of_le_of_lt rx.2 (Nat.pow_lt_pow_right (by decide) (by decide))) _ hSa) ?_
    rw [rat_mulI]
    walk_at "3"
    obtain ⟨u', e', hu', oc'⟩ := add_one (lput_adds (κ := Mono)) hS hu (show OnC (V * (2 * A) ^ c) L T (addAll [] (atL rows c)) acc ((x.1.m, x.2 * ((tK x.1 c : Int) : Rat)) :: atL xs c) from oc) hW hL hT0 (by omega) hB2
    refine Res.post.of_eq e' ?_
    exact ⟨_, u', _, _, _, _, rfl, hu', fun p hp => hin p (List.mem_cons_of_mem _ hp), oc', rfl⟩
  · rintro δ S2 ⟨acc, u, o3, o4, o5, o6, rfl, hu, hin, oc, rfl⟩
    have e : acc = addAll [] (atL rows c) := oc.eq
    subst e
    walk_at "3"
    obtain ⟨t, t1, t2, _⟩ := oc.ex
    have t1 : t + 0 ≤ T := t1
    refine Res.post.of_eq (lpairs_spec (sane_app hS (isDic_closed hu _)) hu get_app (by omega)) ⟨rfl, take_app⟩
end
end DL
set_option Elab.async false
set_option linter.all false
set_option maxRecDepth 100000
set_option maxHeartbeats 4000000
set_option autoImplicit false
/-! Moved on: the walks; sums. -/
namespace DL
open PySem L2
open Emb
local macro_rules | `(tactic| walk_at "1") => `(tactic| with_reducible first
  | refine s_seq ?_ | refine s_asg ?_ | refine s_ret ?_ | refine s_if ?_ | refine s_expr ?_ | refine s_next ?_ | refine s_brk ?_ | refine s_cont ?_ | refine s_for ?_ | refine s_while ?_
  | refine p_c ?_ | refine p_bin ?_ | refine p_as ?_ | refine p_cons ?_ | refine p_nil ?_ | refine p_un ?_ | refine p_call ?_ | refine p_if ?_ | refine p_own ?_
  | refine p_keep ?_ | refine p_tru ?_ | refine p_and ?_ | refine p_or ?_ | refine p_not ?_ | refine p_val ?_ | refine p_rand ?_ | refine p_ror ?_ | refine p_rnot ?_ | refine p_chain ?_ | refine p_bif ?_
  | refine o_add ?_ | refine o_sub ?_ | refine o_ltU ?_ | refine o_leU ?_ | refine o_gtU ?_ | refine o_geU ?_ | refine o_neg ?_ | refine o_eqI ?_ | refine o_neI ?_ | refine o_abs ?_ | refine o_tru ?_ | refine p_true ?_ | refine p_false ?_
  | refine o_lenT ?_ | refine o_lenL ?_ | refine o_ix0 ?_ | refine o_ix1 ?_ | refine o_ix2 ?_ | refine o_ix0L ?_ | refine o_ix1L ?_ | refine o_ix2L ?_
  | refine s_par ?_ | refine p_yes ?_ | refine p_seq ?_ | refine s_gnil ?_ | refine s_gcons ?_ | refine s_gtux ?_ | refine s_gtupl ?_ | refine p_onone ?_ | refine p_osome ?_ | refine p_get2 ?_ | refine s_putU ?_ | refine p_sortIt ?_)
local macro_rules | `(tactic| walk_at "2") => `(tactic| first
  | walk_at "1"
  | (with_reducible refine p_var2 ?_)
  | ((with_reducible refine s_name ?_ ?_); (· exact Nat.le_of_ble_eq_true rfl); dsimp only [List.set_cons_zero, List.set_cons_succ])
  | (with_reducible refine p_tup ?_) | (with_reducible refine p_lst ?_) | ((with_reducible refine ⟨?_, ?_⟩); (· exact Nat.le_of_ble_eq_true rfl))
  | ((with_reducible refine p_ex2 (x := ?_) (y := ?_) ?_ ?_); rotate_left; rotate_left; (· rfl); refine ⟨?_, ?_, ?_⟩; (· exact Nat.le_of_ble_eq_true rfl); (· exact Nat.le_of_ble_eq_true rfl); dsimp only [List.set_cons_zero, List.set_cons_succ])
  | ((with_reducible refine p_isT ?_ ?_); (· rfl)) | ((with_reducible refine p_isF ?_ ?_); (· rfl))
  | ((with_reducible refine p_ex (x := ?_) ?_ ?_); rotate_left; (· rfl)))
local macro_rules | `(tactic| walk_at "3") => `(tactic| repeat walk_at "2")
structure MovG (n pl A V L T : Nat) (rows : List (Kind × Rat)) : Prop where
  rc : Rc n pl A (V * T) L rows
  len : rows.length ≤ T
  inc : Inc rows
  nz : ∀ p ∈ rows, p.2 ≠ 0
theorem fine_rc {n pl A V L : Nat} {rows : List (Kind × Rat)} (h : Rc n pl A V L rows) (hl : rows.length ≤ 1000) (hpl : pl ≤ 99) (hA : A ≤ 10 ^ 100) (hV : 1 ≤ V) (hL : 1 ≤ L) (hB : V * L ≤ 10 ^ 1000) : FineK rows :=
  ⟨⟨hl, fun p hp => rb_mono (qc_rb hV hL (h.q p hp)) hB⟩, fun p hp => ⟨by have := h.p1 p hp; omega, Nat.le_trans (h.b p hp) (big_le hA)⟩⟩
/-! ### sums, a common number below -/
theorem rc_sum {n k pl pk A V V' L : Nat} {one other : List (Kind × Rat)} (h1 : Rc n pl A V L one) (h2 : Rc k pk A V' L other) (n1 : ND one) (n2 : ND other) {N P W T : Nat} (hN : n ≤ N ∧ k ≤ N) (hP : pl ≤ P ∧ pk ≤ P) (hW : V ≤ W ∧ V' ≤ W) (hT : one.length + other.length ≤ T) : MovG N P A W L T (rowsT (sumT one other)) := by
  have hk : ∀ p ∈ sumT one other, MonO N p.1.m ∧ (0 : Int) ≤ p.1.p ∧ p.1.p ≤ P ∧ p.1.b.natAbs ≤ A := by
    unfold sumT
    rw [merge_id n1]
    refine rows_all (P := fun k : Kind => MonO N k.m ∧ (0 : Int) ≤ k.p ∧ k.p ≤ P ∧ k.b.natAbs ≤ A) (fun p hp => ?_) (fun p hp => ?_)
    · have := h1.p1 p hp
      exact ⟨⟨(h1.m p hp).inc, (h1.m p hp).nc, by have := (h1.m p hp).dg; omega⟩, h1.p0 p hp, by omega, h1.b p hp⟩
    · have := h2.p1 p hp
      exact ⟨⟨(h2.m p hp).inc, (h2.m p hp).nc, by have := (h2.m p hp).dg; omega⟩, h2.p0 p hp, by omega, h2.b p hp⟩
  have oc : OnC W L T (sumT one other) one other := ⟨by unfold sumT; rw [merge_id n1]; rfl, n1, ⟨one.length, hT, Nat.le_refl _, fun p hp => qc_mono (h1.q p hp) (by
    have : 1 ≤ one.length := List.length_pos_iff.mpr (List.ne_nil_of_mem hp)
    exact Nat.le_trans hW.1 (Nat.le_mul_of_pos_right _ this))⟩, fun p hp => qc_mono (h2.q p hp) hW.2⟩
  have fin := onc_end oc
  obtain ⟨t, t1, t2, t3⟩ := fin.ex
  have t1 : t ≤ T := by simpa using t1
  exact ⟨⟨fun p hp => (hk p (rows_nz p hp).1).1, fun p hp => (hk p (rows_nz p hp).1).2.1, fun p hp => (hk p (rows_nz p hp).1).2.2.1, fun p hp => (hk p (rows_nz p hp).1).2.2.2, fun p hp => onc_qc fin p (rows_nz p hp).1⟩, Nat.le_trans (rows_len _) (by omega), nd_rows fin.nd, fun p hp => (rows_nz p hp).2⟩
end DL
set_option Elab.async false
set_option linter.all false
set_option maxRecDepth 100000
set_option maxHeartbeats 1000000
set_option autoImplicit false
namespace DL
open PySem L2
open Emb
local macro_rules | `(tactic| walk_at "1") => `(tactic| with_reducible first
  | refine e_seq ?_ | refine e_asgP ?_ | refine e_if ?_ | refine e_next ?_ | refine e_exprP ?_ | refine s_seq ?_ | refine s_asg ?_ | refine s_ret ?_ | refine s_if ?_ | refine s_expr ?_ | refine s_next ?_ | refine s_brk ?_ | refine s_cont ?_ | refine s_for ?_ | refine s_while ?_
  | refine p_c ?_ | refine p_bin ?_ | refine p_as ?_ | refine p_cons ?_ | refine p_nil ?_ | refine p_un ?_ | refine p_call ?_ | refine p_if ?_ | refine p_own ?_
  | refine p_keep ?_ | refine p_tru ?_ | refine p_and ?_ | refine p_or ?_ | refine p_not ?_ | refine p_val ?_ | refine p_rand ?_ | refine p_ror ?_ | refine p_rnot ?_ | refine p_chain ?_ | refine p_bif ?_
  | refine o_add ?_ | refine o_sub ?_ | refine o_ltU ?_ | refine o_leU ?_ | refine o_gtU ?_ | refine o_geU ?_ | refine o_neg ?_ | refine o_eqI ?_ | refine o_neI ?_ | refine o_abs ?_ | refine o_tru ?_ | refine p_true ?_ | refine p_false ?_
  | refine o_lenT ?_ | refine o_lenL ?_ | refine o_ix0 ?_ | refine o_ix1 ?_ | refine o_ix2 ?_ | refine o_ix0L ?_ | refine o_ix1L ?_ | refine o_ix2L ?_
  | refine s_par ?_ | refine p_yes ?_ | refine p_seq ?_ | refine s_gnil ?_ | refine s_gcons ?_ | refine s_gtux ?_ | refine s_gtupl ?_ | refine p_onone ?_ | refine p_osome ?_ | refine p_get2 ?_ | refine s_putU ?_ | refine p_sortIt ?_)
local macro_rules | `(tactic| walk_at "2") => `(tactic| first
  | walk_at "1"
  | (with_reducible refine p_var2 ?_)
  | ((with_reducible refine s_name ?_ ?_); (· exact Nat.le_of_ble_eq_true rfl); dsimp only [List.set_cons_zero, List.set_cons_succ])
  | (with_reducible refine p_tup ?_) | (with_reducible refine p_lst ?_) | ((with_reducible refine ⟨?_, ?_⟩); (· exact Nat.le_of_ble_eq_true rfl))
  | ((with_reducible refine p_ex2 (x := ?_) (y := ?_) ?_ ?_); rotate_left; rotate_left; (· rfl); refine ⟨?_, ?_, ?_⟩; (· exact Nat.le_of_ble_eq_true rfl); (· exact Nat.le_of_ble_eq_true rfl); dsimp only [List.set_cons_zero, List.set_cons_succ])
  | ((with_reducible refine p_isT ?_ ?_); (· rfl)) | ((with_reducible refine p_isF ?_ ?_); (· rfl))
  | ((with_reducible refine p_ex (x := ?_) ?_ ?_); rotate_left; (· rfl)))
local macro_rules | `(tactic| walk_at "3") => `(tactic| repeat walk_at "2")
theorem rc_mono {n n' pl pl' A A' V V' L : Nat} {rows : List (Kind × Rat)} (h : Rc n pl A V L rows) (hn : n ≤ n') (hp : pl ≤ pl') (hA : A ≤ A') (hV : V ≤ V') : Rc n' pl' A' V' L rows :=
  ⟨fun p hp => ⟨(h.m p hp).inc, (h.m p hp).nc, by have := (h.m p hp).dg; omega⟩, h.p0, fun p hp => by have := h.p1 p hp; omega, fun p hp => Nat.le_trans (h.b p hp) hA, fun p hp => qc_mono (h.q p hp) hV⟩
theorem e900 : 2 * (10 ^ 400 * 10 ^ 400) ≤ 10 ^ 900 := by decide +kernel
theorem e900b : (10 : Nat) ^ 900 ≤ 2 ^ 4000 := ten_two (Nat.pow_le_pow_right (by decide) (by decide))
theorem fsum {n pl A V L T : Nat} {one other : List (Kind × Rat)} (r1 : Rc n pl A V L one) (r2 : Rc n pl A V L other) (n1 : ND one) (n2 : ND other) (hl : one.length + other.length ≤ T) (hT : T ≤ 1000) (hA : A ≤ 10 ^ 100) (hpl : pl ≤ 99) (hT0 : 1 ≤ T) (hV : 1 ≤ V) (hL : 1 ≤ L) (hB : V * L ≤ 10 ^ 400) (hB2 : V * T * L ≤ 10 ^ 1000) :
    MovG n pl A V L T (rowsT (sumT one other)) ∧ ∀ S, Sane S → m_form_sum [toD one, toD other] S = .ok (toD (rowsT (sumT one other))) S := by
  have sl : 3000 ≤ sizeLine := by decide
  have rs := rc_sum (N := n) (P := pl) (W := V) (T := T) r1 r2 n1 n2 ⟨Nat.le_refl _, Nat.le_refl _⟩ ⟨Nat.le_refl _, Nat.le_refl _⟩ ⟨Nat.le_refl _, Nat.le_refl _⟩ hl
  have rsl := rs.len
  refine ⟨rs, fun S hS => ?_⟩
  exact form_sum_spec hS n1 n2 e900 (by decide +kernel) (Nat.one_le_pow _ _ (by decide)) e900b (fun p hp => rb_mono (qc_rb hV hL (r1.q p hp)) hB) (fun p hp => rb_mono (qc_rb hV hL (r2.q p hp)) hB) (by omega) (fine_rc rs.rc (by omega) hpl hA (Nat.mul_pos hV hT0) hL hB2)
/-- how many counts such kinds want at most -/
def costK (K : List Kind) : Nat := (K.map fun k => k.p.toNat + 1).sum
theorem costK_app (A B : List Kind) : costK (A ++ B) = costK A + costK B := by unfold costK; rw [List.map_append, List.sum_append]
theorem costK_le {n : Nat} : ∀ {K : List Kind}, (∀ k ∈ K, k.p.toNat + 1 ≤ n) → costK K ≤ n * K.length
  | [], _ => Nat.zero_le _
  | k :: K, h => by
    have ih := costK_le (K := K) fun x hx => h x (List.mem_cons_of_mem _ hx)
    have := h k List.mem_cons_self
    unfold costK at *
    rw [List.map_cons, List.sum_cons, List.length_cons, Nat.mul_succ]
    omega
/-- two forms near one another -/
structure NearG (one other : List (Kind × Rat)) : Prop where
  ex : ∃ L, 1 ≤ L ∧ L ≤ 10 ^ 40 ∧ Rc 3 7 (10 ^ 11) (10 ^ 24) L one ∧ Rc 3 7 (10 ^ 11) (10 ^ 24) L other
  l1 : one.length ≤ 6
  l2 : other.length ≤ 6
  i1 : Inc one
  i2 : Inc other
  z1 : ∀ p ∈ one, p.2 ≠ 0
  z2 : ∀ p ∈ other, p.2 ≠ 0
  cover : ∃ K, (∀ p ∈ one, p.1 ∈ K) ∧ (∀ p ∈ other, p.1 ∈ K) ∧ costK K ≤ 40
theorem rc_drawn {l : Nat} {one : List (Kind × Rat)} (f : FormG l 3 one) {D : Nat} (hD : 1 ≤ D) : Rc 3 7 (10 ^ 11) (10 ^ 21) (dens one * D) one :=
  ⟨fun p hp => (f.kinds p hp).m, fun p hp => (f.kinds p hp).p0, fun p hp => by have := (f.kinds p hp).p1; omega, fun p hp => Nat.le_trans (f.kinds p hp).b (by decide), fun p hp => qc_scale (dens_pos one) hD (qc_dens (fun p hp => (f.rb p hp).1) p hp)⟩
theorem rc_drawn2 {l : Nat} {one : List (Kind × Rat)} (f : FormG l 3 one) {D : Nat} (hD : 1 ≤ D) : Rc 3 7 (10 ^ 11) (10 ^ 21) (D * dens one) one := by
  rw [Nat.mul_comm]; exact rc_drawn f hD
theorem cover_one {l : Nat} {one : List (Kind × Rat)} (f : FormG l 3 one) : costK (one.map (·.1)) ≤ 4 * l := by
  have l1 := f.len
  refine Nat.le_trans (costK_le (n := 4) fun k hk => ?_) (Nat.mul_le_mul_left _ (by rw [List.length_map]; exact l1))
  obtain ⟨p, hp, rfl⟩ := List.mem_map.mp hk
  have := (f.kinds p hp).p1
  have := (f.kinds p hp).p0
  omega
theorem mem_rows_sum {one other : List (Kind × Rat)} (n1 : ND one) {p : Kind × Rat} (hp : p ∈ rowsT (sumT one other)) : p.1 ∈ one.map (·.1) ++ other.map (·.1) := by
  have h := (rows_nz p hp).1
  unfold sumT at h
  rw [merge_id n1] at h
  exact rows_all (P := fun k : Kind => k ∈ one.map (·.1) ++ other.map (·.1)) (fun p hp => List.mem_append_left _ (List.mem_map.mpr ⟨p, hp, rfl⟩)) (fun p hp => List.mem_append_right _ (List.mem_map.mpr ⟨p, hp, rfl⟩)) p h
section
variable {one : List (Kind × Rat)}
theorem near_one (f : FormG 5 3 one) (d : ∀ p ∈ one, p.2.den ≤ 60) {k : Kind} (hm : MonO 3 k.m) (hp0 : 0 ≤ k.p) (hp1 : k.p ≤ 7) (hb : k.b.natAbs ≤ 10 ^ 11) {q : Rat} (hq : RB' (10 ^ 22) q) :
    NearG one (rowsT (sumT one [(k, q)])) ∧ ∀ S, Sane S → m_form_sum [toD one, toD [(k, q)]] S = .ok (toD (rowsT (sumT one [(k, q)]))) S := by
  have l := f.len
  have D1 := dens_pos one
  have b1 := dens_le (by decide) d f.len
  have hL1 : 1 ≤ dens one * q.den := Nat.mul_pos D1 q.den_pos
  have hL2 : dens one * q.den ≤ 10 ^ 40 := Nat.le_trans (Nat.mul_le_mul b1 hq.2) (by decide)
  have r1 : Rc 3 7 (10 ^ 11) (10 ^ 23) (dens one * q.den) one := rc_mono (rc_drawn f q.den_pos) (Nat.le_refl _) (Nat.le_refl _) (Nat.le_refl _) (by decide)
  have r2 : Rc 3 7 (10 ^ 11) (10 ^ 23) (dens one * q.den) [(k, q)] := by
    refine ⟨?_, ?_, ?_, ?_, ?_⟩ <;> intro p hp <;> rw [List.mem_singleton.mp hp]
    · exact hm
    · exact hp0
    · exact hp1
    · exact hb
    · have h := qc_scale q.den_pos D1 (qc_self (V := 10 ^ 23) (Nat.le_trans hq.1 (by decide)))
      rwa [Nat.mul_comm] at h
  have n1 := inc_nd f.inc
  have n2 : ND [(k, q)] := by unfold ND; exact List.nodup_cons.mpr ⟨(fun z => nomatch z), List.nodup_nil⟩
  have fs := fsum (T := 6) r1 r2 n1 n2 (by show one.length + 1 ≤ 6; omega) (by decide) (by decide) (by decide) (by decide) (by decide) hL1 (Nat.le_trans (Nat.mul_le_mul_left _ hL2) (by decide +kernel)) (Nat.le_trans (Nat.mul_le_mul_left _ hL2) (by decide +kernel))
  refine ⟨⟨⟨_, hL1, hL2, rc_mono r1 (Nat.le_refl _) (Nat.le_refl _) (Nat.le_refl _) (by decide), rc_mono fs.1.rc (Nat.le_refl _) (Nat.le_refl _) (Nat.le_refl _) (by decide)⟩, by omega, fs.1.len, f.inc, fs.1.inc, f.nz, fs.1.nz, one.map (·.1) ++ [k], fun p hp => List.mem_append_left _ (List.mem_map.mpr ⟨p, hp, rfl⟩), fun p hp => mem_rows_sum n1 hp, ?_⟩, fs.2⟩
  rw [costK_app]
  have c1 := cover_one f
  have c2 : costK [k] = k.p.toNat + 1 := rfl
  omega
theorem near_form (f : FormG 5 3 one) (d : ∀ p ∈ one, p.2.den ≤ 60) {other : List (Kind × Rat)} (f2 : FormG 5 3 other) (d2 : ∀ p ∈ other, p.2.den ≤ 60) : NearG one other := by
  have l := f.len
  have l2 := f2.len
  have D1 := dens_pos one
  have D2 := dens_pos other
  have b1 := dens_le (by decide) d f.len
  have b2 := dens_le (by decide) d2 f2.len
  have hL1 : 1 ≤ dens one * dens other := Nat.mul_pos D1 D2
  have hL2 : dens one * dens other ≤ 10 ^ 40 := Nat.le_trans (Nat.mul_le_mul b1 b2) (by decide)
  refine ⟨⟨_, hL1, hL2, rc_mono (rc_drawn f D2) (Nat.le_refl _) (Nat.le_refl _) (Nat.le_refl _) (by decide), rc_mono (rc_drawn2 f2 D1) (Nat.le_refl _) (Nat.le_refl _) (Nat.le_refl _) (by decide)⟩, by omega, by omega, f.inc, f2.inc, f.nz, f2.nz, one.map (·.1) ++ other.map (·.1), fun p hp => List.mem_append_left _ (List.mem_map.mpr ⟨p, hp, rfl⟩), fun p hp => List.mem_append_right _ (List.mem_map.mpr ⟨p, hp, rfl⟩), ?_⟩
  rw [costK_app]
  have c1 := cover_one f
  have c2 := cover_one f2
  omega
theorem near_self (f : FormG 5 3 one) (d : ∀ p ∈ one, p.2.den ≤ 60) : NearG one one := near_form f d f d
theorem scaled_rc {n pl A V L : Nat} {rows : List (Kind × Rat)} (h : Rc n pl A V L rows) : Rc n pl A V L (rowsT (rows.map fun p => (p.1, (-1 : Rat) * p.2))) := by
  have key : ∀ p ∈ rowsT (rows.map fun p => (p.1, (-1 : Rat) * p.2)), ∃ q ∈ rows, p = (q.1, (-1 : Rat) * q.2) := fun p hp => by
    obtain ⟨q, hq, e⟩ := List.mem_map.mp (rows_nz p hp).1
    exact ⟨q, hq, e.symm⟩
  refine ⟨fun p hp => ?_, fun p hp => ?_, fun p hp => ?_, fun p hp => ?_, fun p hp => ?_⟩
  · obtain ⟨q, hq, rfl⟩ := key p hp; exact h.m q hq
  · obtain ⟨q, hq, rfl⟩ := key p hp; exact h.p0 q hq
  · obtain ⟨q, hq, rfl⟩ := key p hp; exact h.p1 q hq
  · obtain ⟨q, hq, rfl⟩ := key p hp; exact h.b q hq
  · obtain ⟨q, hq, rfl⟩ := key p hp
    obtain ⟨X, e, hX⟩ := h.q q hq
    refine ⟨-X, ?_, by rw [Int.natAbs_neg]; exact hX⟩
    show (-1 : Rat) * q.2 = _
    rw [e]
    push_cast
    grind
/-- another one ahead, and behind it this one taken away -/
theorem around (f : FormG 5 3 one) (d : ∀ p ∈ one, p.2.den ≤ 60) {other : List (Kind × Rat)} (f2 : FormG 3 3 other) (d2 : ∀ p ∈ other, p.2.den ≤ 60) : ∀ S, Sane S → m_form_sum [toD other, toD one] S = .ok (toD (rowsT (sumT other one))) S ∧
    m_form_times [.tup [.int (-1), .int 1], toD other] S = .ok (toD (rowsT (other.map fun p => (p.1, (-1 : Rat) * p.2)))) S ∧ m_form_sum [toD (rowsT (sumT other one)), toD (rowsT (other.map fun p => (p.1, (-1 : Rat) * p.2)))] S = .ok (toD one) S := by
  have sl : 3000 ≤ sizeLine := by decide
  have l := f.len
  have l2 := f2.len
  have D1 := dens_pos one
  have D2 := dens_pos other
  have b1 := dens_le (by decide) d f.len
  have b2 := dens_le (by decide) d2 f2.len
  have hL1 : 1 ≤ dens one * dens other := Nat.mul_pos D1 D2
  have hL2 : dens one * dens other ≤ 10 ^ 40 := Nat.le_trans (Nat.mul_le_mul b1 b2) (by decide)
  have r1 := rc_drawn f D2
  have r2 := rc_drawn2 f2 D1
  have r3 := scaled_rc r2
  generalize dens one * dens other = L at *
  have n1 := inc_nd f.inc
  have n2 := inc_nd f2.inc
  have n3 := nd_scaled n2 (-1)
  have hB : 10 ^ 21 * L ≤ 10 ^ 400 := Nat.le_trans (Nat.mul_le_mul_left _ hL2) (by decide +kernel)
  have hB2 : 10 ^ 21 * L ≤ 10 ^ 1000 := Nat.le_trans hB (Nat.pow_le_pow_right (by decide) (by decide))
  have fs := fsum (T := 8) r2 r1 n2 n1 (by omega) (by decide) (by decide) (by decide) (by decide) (by decide) hL1 hB (Nat.le_trans (Nat.mul_le_mul_left _ hL2) (by decide +kernel))
  have fsl := fs.1.len
  have l3 : (rowsT (other.map fun p => (p.1, (-1 : Rat) * p.2))).length ≤ 3 := Nat.le_trans (rows_len _) (by rw [List.length_map]; exact l2)
  have ft := fsum (T := 11) fs.1.rc (rc_mono r3 (Nat.le_refl _) (Nat.le_refl _) (Nat.le_refl _) (Nat.le_mul_of_pos_right _ (by decide))) (inc_nd fs.1.inc) (inc_nd (nd_rows n3)) (by omega) (by decide) (by decide) (by decide) (by decide) (by decide) hL1 (Nat.le_trans (Nat.mul_le_mul_left _ hL2) (by decide +kernel)) (Nat.le_trans (Nat.mul_le_mul_left _ hL2) (by decide +kernel))
  have e : rowsT (sumT (rowsT (sumT other one)) (rowsT (other.map fun p => (p.1, (-1 : Rat) * p.2)))) = one := by
    have m1 := nd_sum (other := one) n2
    refine rows_one ft.1.inc f.inc ft.1.nz f.nz fun q => ?_
    rw [at0_rows (nd_sum (inc_nd (nd_rows m1))), at0_sum (inc_nd (nd_rows m1)) (inc_nd (nd_rows n3)), at0_rows m1, at0_rows n3, at0_sum n2 n1, at0_scaled]
    grind
  refine fun S hS => ⟨fs.2 S hS, ?_, ?_⟩
  · exact form_times_spec hS n2 (-1) e900b ⟨Nat.le_trans (by decide) (Nat.one_le_pow _ _ (by decide)), Nat.le_trans (by decide) (Nat.one_le_pow _ _ (by decide))⟩ (fun p hp => rb_mono (qc_rb (by decide) hL1 (r2.q p hp)) (Nat.le_trans hB (Nat.pow_le_pow_right (by decide) (by decide)))) (by omega) (fine_rc r3 (by omega) (by decide) (by decide) (by decide) hL1 hB2)
  · have := ft.2 S hS
    rw [e] at this
    exact this
end
/-! ### drawn -/
theorem fit_rc {n pl A V L : Nat} {rows : List (Kind × Rat)} (h : Rc n pl A V L rows) (hn : n ≤ 12) (hpl : pl ≤ 99) (hA : A ≤ 10 ^ 100) (hl : rows.length ≤ 450) (hV : 1 ≤ V) (hL : 1 ≤ L) (hB : V * L ≤ 10 ^ 1000) : fitP (py rows) = true :=
  (fitE_tuple (n := 450) (fun p hp => fitE_pair (fitE_kind (mono12 (h.m p hp) hn) (Nat.le_trans (show p.1.p.natAbs ≤ 10 ^ 3 by have := h.p0 p hp; have := h.p1 p hp; omega) (Nat.pow_le_pow_right (by decide) (by decide))) (big_le (Nat.le_trans (h.b p hp) hA)) (Nat.le_refl _)) (fitE_rat (rb_mono (qc_rb hV hL (h.q p hp)) hB))) hl).1
theorem fit_one {rows : List (Kind × Rat)} (f : FormG 5 3 rows) : fitP (py rows) = true := by
  have D1 := dens_pos rows
  exact (fitE_tuple (n := 450) (fun p hp => fitE_pair (fitE_kind (mono12 (f.kinds p hp).m (by decide)) (Nat.le_trans (show p.1.p.natAbs ≤ 10 ^ 3 by have := (f.kinds p hp).p0; have := (f.kinds p hp).p1; omega) (Nat.pow_le_pow_right (by decide) (by decide))) (big_le (Nat.le_trans (f.kinds p hp).b (by decide))) (Nat.le_refl _)) (fitE_rat (rb_mono (f.rb p hp) (Nat.pow_le_pow_right (by decide) (by decide))))) (by have := f.len; omega)).1
theorem near_spec {c : Nat} {S : Sto} (h : Sta c S) (hc : c < 2 ^ 38) {one : List (Kind × Rat)} (f : FormG 5 3 one) (df : ∀ p ∈ one, p.2.den ≤ 60) : (m__law_near [.ptr 1, toD one] S).post fun d S' => ∃ other, d = toD other ∧ NearG one other ∧ Go (c + 30000) S S' := by
  have l := f.len
  have big : ∀ {b : Int}, b.natAbs < 2 ^ 100 → b.natAbs < 2 ^ 8990 := fun h => Nat.lt_of_lt_of_le h (Nat.pow_le_pow_right (by decide) (by decide))
  refine m_defG (c := c + 30000) ?_
  show (b__law_near [some (.ptr 1), some (toD one), none, none, none, none, none, none] S).post _ _ _ _
  unfold b__law_near
  walk_at "3"
  refine (draw_spec h (by omega) 7 (by decide) (by decide)).mono ?_
  rintro _ S1 ⟨way, rfl, w0, w1, g1⟩
  walk_at "3"
  refine (mono_spec g1.sta (by omega) 3 (by decide)).mono ?_
  rintro _ S2 ⟨m, rfl, hm, g2⟩
  walk_at "3"
  refine (number_spec g2.sta (by omega)).mono ?_
  rintro _ S3 ⟨a, rfl, ha0, ha, g3⟩
  walk_at "3"
  refine (draw_spec g3.sta (by omega) 9 (by decide) (by decide)).mono ?_
  rintro _ S4 ⟨i, rfl, i0, i1, g4⟩
  walk_at "3"
  refine Res.post.of_eq (lshare_spec a (1 + i) (by omega) (big (show (1 + i).natAbs < 2 ^ 100 by omega)) S4 g4.sta.sane) ?_
  walk_at "3"
  have hq : RB' (10 ^ 22) ((a : Rat) / ((1 + i : Int) : Rat)) := rb_of (by omega) (by omega) (by omega)
  generalize ((a : Rat) / ((1 + i : Int) : Rat)) = q at hq ⊢
  have g := ((g1.trans g2).trans g3).trans g4
  have done : ∀ {other : List (Kind × Rat)} {S' : Sto}, NearG one other → Go (c + 30000) S S' → D.closed S.length (toD other) = true ∧ Go (c + 30000) S (S'.take S.length) ∧ ∃ o, toD other = toD o ∧ NearG one o ∧ Go (c + 30000) S (S'.take S.length) := fun hN hg => by
    have e := hg.len
    rw [List.take_of_length_le (by omega)]
    exact ⟨cl _ _, hg, _, rfl, hN, hg⟩
  walk_at "3"
  refine ⟨fun _ => ?_, fun _ => ?_⟩
  · walk_at "3"
    refine (draw_spec g.sta (by omega) 4 (by decide) (by decide)).mono ?_
    rintro _ S5 ⟨p, rfl, p0, p1, g5⟩
    walk_at "3"
    obtain ⟨hN, hr⟩ := near_one f df (k := Kind.mk m p 0) hm p0 (show p ≤ 7 by omega) (show (0 : Int).natAbs ≤ 10 ^ 11 by decide) hq
    refine Res.post.of_eq (show m_form_sum [toD one, .tup [.tup [.tup [toD m, .int p, .int 0], toD q]]] S5 = _ from hr S5 (g.trans g5).sta.sane) ?_
    exact done hN ((g.trans g5).le (by omega))
  walk_at "3"
  refine ⟨fun _ => ?_, fun _ => ?_⟩
  · walk_at "3"
    refine (base_spec g.sta (by omega)).mono ?_
    rintro _ S5 ⟨b, rfl, hb, g5⟩
    walk_at "3"
    obtain ⟨hN, hr⟩ := near_one f df (k := Kind.mk m 7 b) hm (show (0 : Int) ≤ 7 by decide) (show (7 : Int) ≤ 7 by decide) (show b.natAbs ≤ 10 ^ 11 from Nat.le_trans hb (by decide)) hq
    refine Res.post.of_eq (show m_form_sum [toD one, .tup [.tup [.tup [toD m, .int 7, .int b], toD q]]] S5 = _ from hr S5 (g.trans g5).sta.sane) ?_
    exact done hN ((g.trans g5).le (by omega))
  have fo := fit_one f
  have hof : ∀ {Q : D → Sto → Prop}, (∀ p ∈ one, ∀ S5, Go (c + 1 + 3 + 2 + 4 + 1 + 1) S S5 → Q (toD p) S5) → one ≠ [] → (m__law_of [.ptr 1, .lst (one.map toD)] S4).post Q := fun hQ hne =>
    (of_spec g.sta (by omega) (by simpa using hne) (by rw [List.length_map]; omega) (fun y hy => by obtain ⟨p, _, rfl⟩ := List.mem_map.mp hy; exact cl _ _)).mono fun d S5 ⟨hd, g5⟩ => by
      obtain ⟨p, hp, rfl⟩ := List.mem_map.mp hd
      exact hQ p hp S5 (g.trans g5)
  have last : ((sSeq (sAsg (rCall m__law_form (rCons (rVar 0) (rCons (rC (.int 3)) (rCons (rC (.int 3)) rNil)))) (gName 7))
    (sRet (rCall m_form_sum (rCons (rCall m_form_sum (rCons (rVar 7) (rCons (rVar 1) rNil))) (rCons (rCall m_form_times (rCons (rTup (rCons (rUn gNeg (rC (.int 1))) (rCons (rC (.int 1)) rNil))) (rCons (rVar 7) rNil))) rNil)))))
      [some (.ptr 1), some (toD one), some (.int way), some (toD m), some (toD q), none, none, none] S4).post NoS (fun z S1 => D.closed S.length z = true ∧ Go (c + 30000) S (S1.take S.length) ∧ ∃ other, z = toD other ∧ NearG one other ∧ Go (c + 30000) S (S1.take S.length)) NoS NoS := by
    walk_at "3"
    refine (form_spec2 g.sta (by omega) 3 3 (by decide) (by decide)).mono ?_
    rintro _ S5 ⟨other, rfl, f2, g5, d2⟩
    obtain ⟨r1, r2, r3⟩ := around f df f2 d2 S5 g5.sta.sane
    walk_at "3"
    refine Res.post.of_eq r1 ?_
    walk_at "3"
    refine Res.post.of_eq r2 ?_
    walk_at "3"
    refine Res.post.of_eq r3 ?_
    exact done (near_self f df) ((g.trans g5).le (by omega))
  have form4 : ((sRet (rCall m__law_form (rCons (rVar 0) (rCons (rC (.int 5)) (rCons (rC (.int 3)) rNil)))))
      [some (.ptr 1), some (toD one), some (.int way), some (toD m), some (toD q), none, none, none] S4).post NoS (fun z S1 => D.closed S.length z = true ∧ Go (c + 30000) S (S1.take S.length) ∧ ∃ other, z = toD other ∧ NearG one other ∧ Go (c + 30000) S (S1.take S.length)) NoS NoS := by
    walk_at "3"
    refine (form_spec2 g.sta (by omega) 5 3 (by decide) (by decide)).mono ?_
    rintro _ S5 ⟨other, rfl, f2, g5, d2⟩
    exact done (near_form f df f2 d2) ((g.trans g5).le (by omega))
  have nilF : fitP (py ([] : List (Kind × Rat))) = true := rfl
  have rest3 : ((sSeq (sIf (bAnd (bVal (rBin gEq (rVar 2) (rC (.int 3)))) (bVal (rBin gNe (rVar 1) (rTup rNil)))) (sSeq (sAsg (rCall m__law_of (rCons (rVar 0) (rCons (rKeep (rAs gList (rCons (rVar 1) rNil))) rNil))) (gTup (gCons (gName 5) (gCons (gName 6) gNil)))) (sRet (rCall m_form_sum (rCons (rVar 1) (rCons (rTup (rCons (rTup (rCons (rBin gAdd (rCut (rVar 5) oNone (oSome (rC (.int 2)))) (rTup (rCons (rBin gAdd (rBin gIx (rVar 5) (rC (.int 2))) (rC (.int 1))) rNil))) (rCons (rVar 6) rNil))) rNil)) rNil))))) sNext) (sSeq (sIf (bVal (rBin gEq (rVar 2) (rC (.int 4)))) (sRet (rCall m__law_form (rCons (rVar 0) (rCons (rC (.int 5)) (rCons (rC (.int 3)) rNil))))) sNext) (sSeq (sAsg (rCall m__law_form (rCons (rVar 0) (rCons (rC (.int 3)) (rCons (rC (.int 3)) rNil)))) (gName 7)) (sRet (rCall m_form_sum (rCons (rCall m_form_sum (rCons (rVar 7) (rCons (rVar 1) rNil))) (rCons (rCall m_form_times (rCons (rTup (rCons (rUn gNeg (rC (.int 1))) (rCons (rC (.int 1)) rNil))) (rCons (rVar 7) rNil))) rNil)))))))
      [some (.ptr 1), some (toD one), some (.int way), some (toD m), some (toD q), none, none, none] S4).post NoS (fun z S1 => D.closed S.length z = true ∧ Go (c + 30000) S (S1.take S.length) ∧ ∃ other, z = toD other ∧ NearG one other ∧ Go (c + 30000) S (S1.take S.length)) NoS NoS := by
    walk_at "3"
    refine ⟨fun _ => ?_, fun _ => ?_⟩
    · walk_at "3"
      refine o_neEmb (b := ([] : List (Kind × Rat))) fo nilF (by decide) ⟨_, rfl, fun hk => ?_, fun hk => ?_⟩
      · have hne : one ≠ [] := fun z => by rw [z] at hk; cases hk
        walk_at "3"
        refine p_lift (a := .lst (one.map toD)) rfl ?_
        walk_at "3"
        refine hof (fun p hp S5 g5 => ?_) hne
        have kp := f.kinds p hp
        show (gTup _ (.tup [toD p.1, toD p.2]) _ _).post _
        walk_at "3"
        refine p_cutT ?_
        walk_at "3"
        refine p_lift (a := .int p.1.b) rfl ?_
        walk_at "3"
        refine p_lift (a := .tup [toD p.1.m, .int p.1.p, .int (p.1.b + 1)]) rfl ?_
        walk_at "3"
        obtain ⟨hN, hr⟩ := near_one f df (k := Kind.mk p.1.m p.1.p (p.1.b + 1)) kp.m kp.p0 (show p.1.p ≤ 7 by have := kp.p1; omega) (show (p.1.b + 1).natAbs ≤ 10 ^ 11 by have := kp.b; omega) (rb_mono (f.rb p hp) (show 10 ^ 21 ≤ 10 ^ 22 by decide))
        refine Res.post.of_eq (show m_form_sum [toD one, .tup [.tup [.tup [toD p.1.m, .int p.1.p, .int (p.1.b + 1)], toD p.2]]] S5 = _ from hr S5 g5.sta.sane) ?_
        exact done hN (g5.le (by omega))
      · walk_at "3"
        refine ⟨fun _ => form4.mono (fun _ _ z => z.elim) (fun _ _ z => z) (fun _ _ z => z.elim) (fun _ _ z => z.elim), fun _ => ?_⟩
        walk_at "2"
        exact last
    · walk_at "3"
      refine ⟨fun _ => form4.mono (fun _ _ z => z.elim) (fun _ _ z => z) (fun _ _ z => z.elim) (fun _ _ z => z.elim), fun _ => ?_⟩
      walk_at "2"
      exact last
  walk_at "3"
  refine ⟨fun _ => ?_, fun _ => ?_⟩
  · walk_at "3"
    refine o_neEmb (b := ([] : List (Kind × Rat))) fo nilF (by decide) ⟨_, rfl, fun hk => ?_, fun hk => ?_⟩
    · have hne : one ≠ [] := fun z => by rw [z] at hk; cases hk
      walk_at "3"
      refine p_lift (a := .lst (one.map toD)) rfl ?_
      walk_at "3"
      refine hof (fun p hp S5 g5 => ?_) hne
      have kp := f.kinds p hp
      have rp := f.rb p hp
      have dp := df p hp
      show (gTup _ (.tup [toD p.1, toD p.2]) _ _).post _
      walk_at "3"
      refine p_lift (a := .int p.2.num) rfl ?_
      walk_at "3"
      refine p_lift (a := .int p.2.den) rfl ?_
      walk_at "3"
      refine o_pow ⟨by decide, by decide, by decide⟩ ?_
      rw [show (10 : Int) ^ (20 : Int).toNat = 100000000000000000000 from rfl]
      refine o_mul (fits_l (show ((p.2.den : Nat) : Int).natAbs < 2 ^ 64 by omega)) ?_
      walk_at "3"
      have dpos := p.2.den_pos
      refine Res.post.of_eq (lshare_spec p.2.num ((p.2.den : Int) * 100000000000000000000) (by omega) (big (show ((p.2.den : Int) * 100000000000000000000).natAbs < 2 ^ 100 by omega)) S5 g5.sta.sane) ?_
      walk_at "3"
      obtain ⟨hN, hr⟩ := near_one f df (k := p.1) kp.m kp.p0 (by have := kp.p1; omega) (Nat.le_trans kp.b (by decide)) (q := (p.2.num : Rat) / (((p.2.den : Int) * 100000000000000000000 : Int) : Rat)) (rb_of (by omega) (Nat.le_trans rp.1 (by decide)) (by omega))
      refine Res.post.of_eq (show m_form_sum [toD one, .tup [.tup [toD p.1, toD ((p.2.num : Rat) / (((p.2.den : Int) * 100000000000000000000 : Int) : Rat))]]] S5 = _ from hr S5 g5.sta.sane) ?_
      exact done hN (g5.le (by omega))
    · walk_at "2"
      exact rest3
  · walk_at "2"
    exact rest3
end DL
set_option Elab.async false
set_option linter.all false
set_option maxRecDepth 100000
set_option maxHeartbeats 1000000
set_option autoImplicit false
/-! Sums of terms of the count that are nought at the first counts, as many as the bases have places, have no terms. Plain. -/
namespace DL
open PySem L2
open Emb
/-- the worth of the terms of one base, places from k on -/
def ev (b : Int) (n : Nat) : Nat → List Rat → Rat
  | _, [] => 0
  | k, c :: cs => c * ((tv k b n : Int) : Rat) + ev b n (k + 1) cs
def evP (n : Nat) : List (Int × List Rat) → Rat
  | [] => 0
  | p :: P => ev p.1 n 0 p.2 + evP n P
def shiftL (d : Rat) : List Rat → List Rat
  | [] => []
  | c :: cs => (d * c + cs.headD 0) :: shiftL d cs
theorem shiftL_len (d : Rat) : ∀ cs : List Rat, (shiftL d cs).length = cs.length
  | [] => rfl
  | c :: cs => by show (shiftL d cs).length + 1 = _; rw [shiftL_len d cs]; rfl
theorem ev_up (b : Int) (n : Nat) : ∀ (cs : List Rat) (k : Nat), ev b (n + 1) (k + 1) cs = (b : Rat) * ev b n (k + 1) cs + ev b n k cs
  | [], k => by show (0 : Rat) = (b : Rat) * 0 + 0; grind
  | c :: cs, k => by
    show c * ((tv (k + 1) b (n + 1) : Int) : Rat) + ev b (n + 1) (k + 1 + 1) cs = (b : Rat) * (c * ((tv (k + 1) b n : Int) : Rat) + ev b n (k + 1 + 1) cs) + (c * ((tv k b n : Int) : Rat) + ev b n (k + 1) cs)
    rw [ev_up b n cs (k + 1), tv_succ]
    push_cast
    grind
theorem ev_zero_up (b : Int) (n : Nat) (cs : List Rat) : ev b (n + 1) 0 cs = (b : Rat) * ev b n 0 cs + ev b n 0 cs.tail := by
  cases cs with
  | nil => show (0 : Rat) = (b : Rat) * 0 + 0; grind
  | cons c cs =>
    show c * ((tv 0 b (n + 1) : Int) : Rat) + ev b (n + 1) (0 + 1) cs = (b : Rat) * (c * ((tv 0 b n : Int) : Rat) + ev b n (0 + 1) cs) + ev b n 0 cs
    rw [ev_up b n cs 0, tv_zero]
    push_cast
    grind
theorem ev_shift (b : Int) (n : Nat) (d : Rat) : ∀ (cs : List Rat) (k : Nat), ev b n k (shiftL d cs) = d * ev b n k cs + ev b n k cs.tail
  | [], k => by show (0 : Rat) = d * 0 + 0; grind
  | c :: cs, k => by
    show (d * c + cs.headD 0) * ((tv k b n : Int) : Rat) + ev b n (k + 1) (shiftL d cs) = d * (c * ((tv k b n : Int) : Rat) + ev b n (k + 1) cs) + ev b n k cs
    rw [ev_shift b n d cs (k + 1)]
    cases cs with
    | nil => show (d * c + 0) * ((tv k b n : Int) : Rat) + (d * 0 + 0) = d * (c * ((tv k b n : Int) : Rat) + 0) + 0; grind
    | cons c2 r =>
      show (d * c + c2) * ((tv k b n : Int) : Rat) + (d * ev b n (k + 1) (c2 :: r) + ev b n (k + 1) r) = d * (c * ((tv k b n : Int) : Rat) + ev b n (k + 1) (c2 :: r)) + (c2 * ((tv k b n : Int) : Rat) + ev b n (k + 1) r)
      grind
theorem shift_nought {d : Rat} (hd : d ≠ 0) : ∀ {cs : List Rat}, (∀ c ∈ shiftL d cs, c = 0) → ∀ c ∈ cs, c = 0
  | [], _ => fun _ z => nomatch z
  | c :: cs, h => by
    have ih := shift_nought hd (cs := cs) fun x hx => h x (List.mem_cons_of_mem _ hx)
    have h0 : d * c + cs.headD 0 = 0 := h _ List.mem_cons_self
    have h1 : cs.headD 0 = 0 := by
      cases cs with
      | nil => rfl
      | cons c2 r => exact ih c2 List.mem_cons_self
    rw [h1] at h0
    have hc : c = 0 := by
      have : d * c = 0 := by grind
      rcases Rat.mul_eq_zero.mp this with z | z
      · exact absurd z hd
      · exact z
    intro x hx
    rcases List.mem_cons.mp hx with rfl | hx
    · exact hc
    · exact ih x hx
def stepP (B : Int) (P : List (Int × List Rat)) : List (Int × List Rat) := P.map fun p => (p.1, shiftL ((p.1 : Rat) - (B : Rat)) p.2)
theorem evP_step (B : Int) (n : Nat) : ∀ P : List (Int × List Rat), evP n (stepP B P) = evP (n + 1) P - (B : Rat) * evP n P
  | [] => by show (0 : Rat) = 0 - (B : Rat) * 0; grind
  | p :: P => by
    show ev p.1 n 0 (shiftL ((p.1 : Rat) - (B : Rat)) p.2) + evP n (stepP B P) = (ev p.1 (n + 1) 0 p.2 + evP (n + 1) P) - (B : Rat) * (ev p.1 n 0 p.2 + evP n P)
    rw [evP_step B n P, ev_shift, ev_zero_up]
    grind
def sizeP (P : List (Int × List Rat)) : Nat := (P.map fun p => p.2.length).sum
theorem sizeP_step (B : Int) : ∀ P : List (Int × List Rat), sizeP (stepP B P) = sizeP P
  | [] => rfl
  | p :: P => by
    have := sizeP_step B P
    unfold sizeP at this ⊢
    show ((shiftL _ p.2).length :: List.map (fun p => p.2.length) (stepP B P)).sum = (p.2.length :: List.map (fun p => p.2.length) P).sum
    rw [List.sum_cons, List.sum_cons, shiftL_len, this]
theorem ev_nought (b : Int) (n : Nat) : ∀ (cs : List Rat) (k : Nat), (∀ c ∈ cs, c = 0) → ev b n k cs = 0
  | [], _, _ => rfl
  | c :: cs, k, h => by
    show c * _ + ev b n (k + 1) cs = 0
    rw [ev_nought b n cs (k + 1) fun x hx => h x (List.mem_cons_of_mem _ hx), h c List.mem_cons_self]
    grind
theorem evP_nought (n : Nat) : ∀ P : List (Int × List Rat), (∀ p ∈ P, ∀ c ∈ p.2, c = 0) → evP n P = 0
  | [], _ => rfl
  | p :: P, h => by
    show ev p.1 n 0 p.2 + evP n P = 0
    rw [evP_nought n P fun q hq => h q (List.mem_cons_of_mem _ hq), ev_nought _ _ _ _ (h p List.mem_cons_self)]
    grind
theorem rat_sub_ne {a b : Int} (h : a ≠ b) : (a : Rat) - (b : Rat) ≠ 0 := fun z => h (by
  have : (a : Rat) = (b : Rat) := by grind
  exact_mod_cast this)
theorem evP_none : ∀ (N M : Nat) (P : List (Int × List Rat)), sizeP P ≤ N → P.length ≤ M → (P.map (·.1)).Nodup → (∀ n, n < N → evP n P = 0) → ∀ p ∈ P, ∀ c ∈ p.2, c = 0
  | _, _, [], _, _, _, _ => fun _ z => nomatch z
  | N, M + 1, (b, []) :: P, h1, h2, h3, h4 => by
    have ih := evP_none N M P (by unfold sizeP at h1 ⊢; rw [List.map_cons, List.sum_cons] at h1; exact Nat.le_trans (Nat.le_add_left _ _) h1) (by rw [List.length_cons] at h2; omega) (by rw [List.map_cons] at h3; exact (List.nodup_cons.mp h3).2) fun n hn => by
      have e := h4 n hn
      have : evP n ((b, []) :: P) = 0 + evP n P := rfl
      rw [this] at e
      grind
    intro p hp
    rcases List.mem_cons.mp hp with rfl | hp
    · exact fun c hc => nomatch hc
    · exact ih p hp
  | 0, M + 1, (B, c :: cs) :: P, h1, _, _, _ => by
    exfalso
    unfold sizeP at h1
    rw [List.map_cons, List.sum_cons, List.length_cons] at h1
    omega
  | N + 1, M + 1, (B, c :: cs) :: P, h1, h2, h3, h4 => by
    rw [List.map_cons] at h3
    obtain ⟨h5, h6⟩ := List.nodup_cons.mp h3
    have hB : (B : Rat) - (B : Rat) = 0 := by grind
    have e0 : ∀ n, ev B n 0 (shiftL ((B : Rat) - (B : Rat)) (c :: cs)) = ev B n 0 cs := fun n => by
      rw [ev_shift, hB]
      show 0 * _ + ev B n 0 cs = _
      grind
    have ih := evP_none N (M + 1) ((B, cs) :: stepP B P) (by
      have : sizeP ((B, cs) :: stepP B P) = cs.length + sizeP P := by
        unfold sizeP
        rw [List.map_cons, List.sum_cons]
        exact congrArg (cs.length + ·) (sizeP_step B P)
      rw [this]
      unfold sizeP at h1 ⊢
      rw [List.map_cons, List.sum_cons, List.length_cons] at h1
      omega) (by unfold stepP; rw [List.length_cons, List.length_map]; exact h2) (by
      have : (stepP B P).map (·.1) = P.map (·.1) := by unfold stepP; rw [List.map_map]; rfl
      rw [List.map_cons, this]; exact h3) fun n hn => by
      have g := evP_step B n ((B, c :: cs) :: P)
      rw [h4 (n + 1) (by omega), h4 n (by omega)] at g
      have : evP n (stepP B ((B, c :: cs) :: P)) = ev B n 0 (shiftL ((B : Rat) - (B : Rat)) (c :: cs)) + evP n (stepP B P) := rfl
      rw [this, e0] at g
      show ev B n 0 cs + evP n (stepP B P) = 0
      rw [g]
      grind
    have z1 : ∀ x ∈ cs, x = 0 := ih (B, cs) List.mem_cons_self
    have z2 : ∀ p ∈ P, ∀ x ∈ p.2, x = 0 := fun p hp => by
      have hne : p.1 ≠ B := fun z => h5 (z ▸ List.mem_map.mpr ⟨p, hp, rfl⟩)
      exact shift_nought (rat_sub_ne hne) (ih (p.1, shiftL ((p.1 : Rat) - (B : Rat)) p.2) (List.mem_cons_of_mem _ (List.mem_map.mpr ⟨p, hp, rfl⟩)))
    have g := h4 0 (by omega)
    have g2 : evP 0 ((B, c :: cs) :: P) = (c * ((tv 0 B 0 : Int) : Rat) + ev B 0 (0 + 1) cs) + evP 0 P := rfl
    rw [g2, ev_nought _ _ _ _ z1, evP_nought _ _ z2, tv_self] at g
    have zc : c = 0 := by
      have : ((1 : Int) : Rat) = 1 := rfl
      rw [this] at g
      grind
    intro p hp
    rcases List.mem_cons.mp hp with rfl | hp
    · intro x hx
      rcases List.mem_cons.mp hx with rfl | hx
      · exact zc
      · exact z1 x hx
    · exact z2 p hp
termination_by N M => (N, M)
/-! ### forms -/
theorem sumR_single {α : Type} {xs : List α} (nd : xs.Nodup) {a : α} (ha : a ∈ xs) {f : α → Rat} (h : ∀ x ∈ xs, x ≠ a → f x = 0) : sumR xs f = f a := by
  induction xs with
  | nil => exact nomatch ha
  | cons x r ih =>
    obtain ⟨h1, h2⟩ := List.nodup_cons.mp nd
    rw [sumR_cons]
    by_cases e : x = a
    · subst e
      rw [sumR_zero fun y hy => h y (List.mem_cons_of_mem _ hy) fun z => h1 (z ▸ hy)]
      grind
    · rw [h x List.mem_cons_self e, ih h2 (by rcases List.mem_cons.mp ha with z | z; (· exact absurd z.symm e); (· exact z)) fun y hy => h y (List.mem_cons_of_mem _ hy)]
      grind
theorem ev_tab (b : Int) (n : Nat) (g : Nat → Rat) : ∀ (x k : Nat), ev b n k ((List.range' k x).map g) = sumR (List.range' k x) fun i => g i * ((tv i b n : Int) : Rat)
  | 0, k => rfl
  | x + 1, k => by
    rw [List.range'_succ, List.map_cons, sumR_cons]
    show g k * _ + ev b n (k + 1) _ = _
    rw [ev_tab b n g x (k + 1)]
def tabP (g : Int → Nat → Rat) (B : List (Int × Nat)) : List (Int × List Rat) := B.map fun q => (q.1, (List.range q.2).map (g q.1))
theorem evP_tab (n : Nat) (g : Int → Nat → Rat) : ∀ B : List (Int × Nat), evP n (tabP g B) = sumR B fun q => sumR (List.range q.2) fun i => g q.1 i * ((tv i q.1 n : Int) : Rat)
  | [] => rfl
  | q :: B => by
    rw [sumR_cons, ← evP_tab n g B]
    show ev q.1 n 0 ((List.range q.2).map (g q.1)) + evP n (tabP g B) = _
    rw [List.range_eq_range', ev_tab]
theorem sizeP_tab (g : Int → Nat → Rat) : ∀ B : List (Int × Nat), sizeP (tabP g B) = (B.map (·.2)).sum
  | [] => rfl
  | q :: B => by
    have := sizeP_tab g B
    unfold sizeP at this ⊢
    show (((List.range q.2).map (g q.1)).length :: List.map (fun p => p.2.length) (tabP g B)).sum = (q.2 :: B.map (·.2)).sum
    rw [List.sum_cons, List.sum_cons, List.length_map, List.length_range, this]
theorem nodup_keys {α β : Type} : ∀ {B : List (α × β)}, (B.map (·.1)).Nodup → B.Nodup
  | [], _ => List.nodup_nil
  | q :: B, h => by
    rw [List.map_cons] at h
    obtain ⟨h1, h2⟩ := List.nodup_cons.mp h
    exact List.nodup_cons.mpr ⟨fun z => h1 (List.mem_map.mpr ⟨q, z, rfl⟩), nodup_keys h2⟩
theorem key_once {α β : Type} {B : List (α × β)} (h : (B.map (·.1)).Nodup) {p q : α × β} (hp : p ∈ B) (hq : q ∈ B) (e : p.1 = q.1) : p = q := by
  induction B with
  | nil => exact nomatch hp
  | cons r B ih =>
    rw [List.map_cons] at h
    obtain ⟨h1, h2⟩ := List.nodup_cons.mp h
    rcases List.mem_cons.mp hp with g1 | g1
    · rcases List.mem_cons.mp hq with g2 | g2
      · rw [g1, g2]
      · exact absurd (List.mem_map.mpr ⟨q, g2, by rw [← e, g1]⟩) h1
    · rcases List.mem_cons.mp hq with g2 | g2
      · exact absurd (List.mem_map.mpr ⟨p, g1, by rw [e, g2]⟩) h1
      · exact ih h2 g1 g2
/-- the bases and places that are there are among these -/
def Among (B : List (Int × Nat)) (rows : List (Kind × Rat)) : Prop := ∀ p ∈ rows, 0 ≤ p.1.p ∧ ∃ x, (p.1.b, x) ∈ B ∧ p.1.p.toNat < x
theorem con_atL (rows : List (Kind × Rat)) (n : Nat) (m : Mono) : con (atL rows n) m = sumR rows fun p => if p.1.m = m then p.2 * ((tK p.1 n : Int) : Rat) else 0 := by
  unfold con atL
  rw [sumR_map]
theorem one_tab {B : List (Int × Nat)} (nd : (B.map (·.1)).Nodup) {k : Kind} (h0 : 0 ≤ k.p) {x : Nat} (hx : (k.b, x) ∈ B) (hl : k.p.toNat < x) (m : Mono) (v : Rat) (n : Nat) :
    (sumR B fun q => sumR (List.range q.2) fun i => (if k = Kind.mk m ((i : Nat) : Int) q.1 then v else 0) * ((tv i q.1 n : Int) : Rat)) = if k.m = m then v * ((tK k n : Int) : Rat) else 0 := by
  by_cases hm : k.m = m
  · rw [if_pos hm, sumR_single (nodup_keys nd) hx (fun q hq hne => ?_), sumR_single List.nodup_range (List.mem_range.mpr hl) (fun i hi hne => ?_)]
    · have : k = Kind.mk m ((k.p.toNat : Nat) : Int) k.b := by
        obtain ⟨km, kp, kb⟩ := k
        have hm' : km = m := hm
        have h0' : 0 ≤ kp := h0
        subst hm'
        show Kind.mk km kp kb = Kind.mk km ((kp.toNat : Nat) : Int) kb
        rw [Int.toNat_of_nonneg h0']
      rw [if_pos this]
      rfl
    · rw [if_neg (fun z => hne ?_)]
      · grind
      · have : k.p = ((i : Nat) : Int) := congrArg Kind.p z
        omega
    · refine sumR_zero fun i hi => ?_
      rw [if_neg (fun z => hne ?_)]
      · grind
      · exact key_once nd hq hx (congrArg Kind.b z).symm
  · rw [if_neg hm]
    refine sumR_zero fun q hq => sumR_zero fun i hi => ?_
    rw [if_neg (fun z => hm (congrArg Kind.m z))]
    grind
theorem at_tab {B : List (Int × Nat)} (nd : (B.map (·.1)).Nodup) {rows : List (Kind × Rat)} (h : Among B rows) (n : Nat) (m : Mono) : evP n (tabP (fun b i => con rows (Kind.mk m ((i : Nat) : Int) b)) B) = con (atL rows n) m := by
  rw [evP_tab, con_atL]
  unfold con
  have e1 : (sumR B fun q => sumR (List.range q.2) fun i => (sumR rows fun p => if p.1 = Kind.mk m ((i : Nat) : Int) q.1 then p.2 else 0) * ((tv i q.1 n : Int) : Rat)) =
      sumR B fun q => sumR (List.range q.2) fun i => sumR rows fun p => (if p.1 = Kind.mk m ((i : Nat) : Int) q.1 then p.2 else 0) * ((tv i q.1 n : Int) : Rat) := sumR_congr fun q _ => sumR_congr fun i _ => by
    rw [Rat.mul_comm, ← sumR_mul]
    exact sumR_congr fun p _ => Rat.mul_comm _ _
  have e2 : (sumR B fun q => sumR (List.range q.2) fun i => sumR rows fun p => (if p.1 = Kind.mk m ((i : Nat) : Int) q.1 then p.2 else 0) * ((tv i q.1 n : Int) : Rat)) =
      sumR rows fun p => sumR B fun q => sumR (List.range q.2) fun i => (if p.1 = Kind.mk m ((i : Nat) : Int) q.1 then p.2 else 0) * ((tv i q.1 n : Int) : Rat) := by
    rw [← sumR_swap]
    exact sumR_congr fun q _ => sumR_swap _ _ _
  rw [e1, e2]
  refine sumR_congr fun p hp => ?_
  obtain ⟨h0, x, hx, hl⟩ := h p hp
  exact one_tab nd h0 hx hl m p.2 n
theorem con_neg (rows : List (Kind × Rat)) (q : Kind) : con (rows.map fun p => (p.1, 0 - p.2)) q = 0 - con rows q := by
  unfold con
  rw [sumR_map]
  have : (sumR rows fun p => if p.1 = q then 0 - p.2 else 0) = sumR rows fun p => (-1) * (if p.1 = q then p.2 else 0) := sumR_congr fun p _ => by
    by_cases e : p.1 = q
    · rw [if_pos e, if_pos e]; grind
    · rw [if_neg e, if_neg e]; grind
  rw [this, sumR_mul]
  grind
theorem con_appR {κ : Type} [DecidableEq κ] (A B : List (κ × Rat)) (q : κ) : con (A ++ B) q = con A q + con B q := by
  unfold con
  rw [sumR_app]
theorem among_diff {B : List (Int × Nat)} {A C : List (Kind × Rat)} (h1 : Among B A) (h2 : Among B C) : Among B (A ++ C.map fun p => (p.1, 0 - p.2)) := fun p hp => by
  rcases List.mem_append.mp hp with z | z
  · exact h1 p z
  · obtain ⟨q, hq, rfl⟩ := List.mem_map.mp z
    exact h2 q hq
theorem kind_out {B : List (Int × Nat)} {rows : List (Kind × Rat)} (h : Among B rows) {k : Kind} (hk : ¬ (0 ≤ k.p ∧ ∃ x, (k.b, x) ∈ B ∧ k.p.toNat < x)) : con rows k = 0 :=
  sumR_zero fun p hp => by
    rw [if_neg]
    intro z
    exact hk (z ▸ h p hp)
theorem con_none {B : List (Int × Nat)} (nd : (B.map (·.1)).Nodup) {rows : List (Kind × Rat)} (h : Among B rows) (z : ∀ n, n < (B.map (·.2)).sum → ∀ m, con (atL rows n) m = 0) (k : Kind) : con rows k = 0 := by
  by_cases hk : 0 ≤ k.p ∧ ∃ x, (k.b, x) ∈ B ∧ k.p.toNat < x
  · obtain ⟨h0, x, hx, hl⟩ := hk
    have g := evP_none (B.map (·.2)).sum B.length (tabP (fun b i => con rows (Kind.mk k.m ((i : Nat) : Int) b)) B) (by rw [sizeP_tab]; exact Nat.le_refl _) (by unfold tabP; rw [List.length_map]; exact Nat.le_refl _)
      (by have : (tabP (fun b i => con rows (Kind.mk k.m ((i : Nat) : Int) b)) B).map (·.1) = B.map (·.1) := by unfold tabP; rw [List.map_map]; rfl
          rw [this]; exact nd)
      (fun n hn => by rw [at_tab nd h]; exact z n hn k.m)
      (k.b, (List.range x).map fun i => con rows (Kind.mk k.m ((i : Nat) : Int) k.b)) (List.mem_map.mpr ⟨_, hx, rfl⟩) (con rows (Kind.mk k.m ((k.p.toNat : Nat) : Int) k.b)) (List.mem_map.mpr ⟨_, List.mem_range.mpr hl, rfl⟩)
    have e : Kind.mk k.m ((k.p.toNat : Nat) : Int) k.b = k := by
      obtain ⟨km, kp, kb⟩ := k
      have h0' : 0 ≤ kp := h0
      show Kind.mk km ((kp.toNat : Nat) : Int) kb = Kind.mk km kp kb
      rw [Int.toNat_of_nonneg h0']
    rw [e] at g
    exact g
  · exact kind_out h hk
/-- two rows that are the same at the first counts, as many as the bases have places, are the same -/
theorem rows_part {B : List (Int × Nat)} (nd : (B.map (·.1)).Nodup) {A C : List (Kind × Rat)} (h1 : Among B A) (h2 : Among B C) (z : ∀ n, n < (B.map (·.2)).sum → ∀ m, con (atL A n) m = con (atL C n) m) (k : Kind) : con A k = con C k := by
  have g := con_none nd (among_diff h1 h2) (fun n hn m => by
    have e : atL (A ++ C.map fun p => (p.1, 0 - p.2)) n = atL A n ++ (atL C n).map fun p => (p.1, 0 - p.2) := by
      unfold atL
      rw [List.map_append, List.map_map, List.map_map]
      refine congrArg _ (List.map_congr_left fun p _ => ?_)
      show (p.1.m, (0 - p.2) * ((tK p.1 n : Int) : Rat)) = (p.1.m, 0 - p.2 * ((tK p.1 n : Int) : Rat))
      rw [show (0 - p.2) * ((tK p.1 n : Int) : Rat) = 0 - p.2 * ((tK p.1 n : Int) : Rat) by grind]
    rw [e, con_appR, z n hn m]
    have e2 : con ((atL C n).map fun p => (p.1, 0 - p.2)) m = 0 - con (atL C n) m := by
      unfold con
      rw [sumR_map]
      have : (sumR (atL C n) fun p => if p.1 = m then 0 - p.2 else 0) = sumR (atL C n) fun p => (-1) * (if p.1 = m then p.2 else 0) := sumR_congr fun p _ => by
        by_cases e : p.1 = m
        · rw [if_pos e, if_pos e]; grind
        · rw [if_neg e, if_neg e]; grind
      rw [this, sumR_mul]
      grind
    rw [e2]; grind) k
  rw [con_appR, con_neg] at g
  grind
theorem con_at0 {rows : List (Kind × Rat)} (h : ND rows) (k : Kind) : con rows k = at0 rows k := con_nd h k
theorem forms_part {B : List (Int × Nat)} (nd : (B.map (·.1)).Nodup) {A C : List (Kind × Rat)} (h1 : Among B A) (h2 : Among B C) (iA : Inc A) (iC : Inc C) (zA : ∀ p ∈ A, p.2 ≠ 0) (zC : ∀ p ∈ C, p.2 ≠ 0)
    (z : ∀ n, n < (B.map (·.2)).sum → atT A n = atT C n) : A = C := by
  refine rows_one iA iC zA zC fun q => ?_
  rw [← con_at0 (inc_nd iA), ← con_at0 (inc_nd iC)]
  refine rows_part nd h1 h2 (fun n hn m => ?_) q
  rw [← at0_tot, ← at0_tot]
  exact congrArg (fun r => at0 r m) (z n hn)
end DL
set_option Elab.async false
set_option linter.all false
set_option maxRecDepth 100000
set_option maxHeartbeats 1000000
set_option autoImplicit false
namespace DL
open PySem L2
open Emb
local macro_rules | `(tactic| walk_at "1") => `(tactic| with_reducible first
  | refine e_seq ?_ | refine e_asgP ?_ | refine e_if ?_ | refine e_next ?_ | refine e_exprP ?_ | refine s_seq ?_ | refine s_asg ?_ | refine s_ret ?_ | refine s_if ?_ | refine s_expr ?_ | refine s_next ?_ | refine s_brk ?_ | refine s_cont ?_ | refine s_for ?_ | refine s_while ?_
  | refine p_c ?_ | refine p_bin ?_ | refine p_as ?_ | refine p_cons ?_ | refine p_nil ?_ | refine p_un ?_ | refine p_call ?_ | refine p_if ?_ | refine p_own ?_
  | refine p_keep ?_ | refine p_tru ?_ | refine p_and ?_ | refine p_or ?_ | refine p_not ?_ | refine p_val ?_ | refine p_rand ?_ | refine p_ror ?_ | refine p_rnot ?_ | refine p_chain ?_ | refine p_bif ?_
  | refine o_add ?_ | refine o_sub ?_ | refine o_ltU ?_ | refine o_leU ?_ | refine o_gtU ?_ | refine o_geU ?_ | refine o_neg ?_ | refine o_eqI ?_ | refine o_neI ?_ | refine o_abs ?_ | refine o_tru ?_ | refine p_true ?_ | refine p_false ?_
  | refine o_lenT ?_ | refine o_lenL ?_ | refine o_ix0 ?_ | refine o_ix1 ?_ | refine o_ix2 ?_ | refine o_ix0L ?_ | refine o_ix1L ?_ | refine o_ix2L ?_
  | refine s_par ?_ | refine p_yes ?_ | refine p_seq ?_ | refine s_gnil ?_ | refine s_gcons ?_ | refine s_gtux ?_ | refine s_gtupl ?_ | refine p_onone ?_ | refine p_osome ?_ | refine p_get2 ?_ | refine s_putU ?_ | refine p_sortIt ?_)
local macro_rules | `(tactic| walk_at "2") => `(tactic| first
  | walk_at "1"
  | (with_reducible refine p_var2 ?_)
  | ((with_reducible refine s_name ?_ ?_); (· exact Nat.le_of_ble_eq_true rfl); dsimp only [List.set_cons_zero, List.set_cons_succ])
  | (with_reducible refine p_tup ?_) | (with_reducible refine p_lst ?_) | ((with_reducible refine ⟨?_, ?_⟩); (· exact Nat.le_of_ble_eq_true rfl))
  | ((with_reducible refine p_ex2 (x := ?_) (y := ?_) ?_ ?_); rotate_left; rotate_left; (· rfl); refine ⟨?_, ?_, ?_⟩; (· exact Nat.le_of_ble_eq_true rfl); (· exact Nat.le_of_ble_eq_true rfl); dsimp only [List.set_cons_zero, List.set_cons_succ])
  | ((with_reducible refine p_isT ?_ ?_); (· rfl)) | ((with_reducible refine p_isF ?_ ?_); (· rfl))
  | ((with_reducible refine p_ex (x := ?_) ?_ ?_); rotate_left; (· rfl)))
local macro_rules | `(tactic| walk_at "3") => `(tactic| repeat walk_at "2")
def plStep (acc : List (Int × Int)) (p : Kind × Rat) : List (Int × Int) := putT acc p.1.b (if p.1.p + 1 > (getT acc p.1.b).getD 0 then p.1.p + 1 else (getT acc p.1.b).getD 0)
def plF (acc : List (Int × Int)) (rows : List (Kind × Rat)) : List (Int × Int) := rows.foldl plStep acc
/-- the greatest places of bases -/
structure PlG (acc : List (Int × Int)) (done : List (Kind × Rat)) : Prop where
  nd : ND acc
  low : ∀ p ∈ done, ∃ x, getT acc p.1.b = some x ∧ p.1.p + 1 ≤ x
  att : ∀ q ∈ acc, ∃ p ∈ done, p.1.b = q.1 ∧ q.2 = p.1.p + 1
theorem pl_step {acc : List (Int × Int)} {done : List (Kind × Rat)} (h : PlG acc done) (h0 : ∀ p ∈ done, 0 ≤ p.1.p) {p : Kind × Rat} (hp : 0 ≤ p.1.p) : PlG (plStep acc p) (done ++ [p]) := by
  refine ⟨nd_put h.nd _ _, fun r hr => ?_, fun q hq => ?_⟩
  · unfold plStep
    rw [getT_put]
    by_cases e : r.1.b = p.1.b
    · rw [if_pos e]
      refine ⟨_, rfl, ?_⟩
      rcases List.mem_append.mp hr with z | z
      · obtain ⟨x, h1, h2⟩ := h.low r z
        rw [← e, h1]
        show r.1.p + 1 ≤ if p.1.p + 1 > x then p.1.p + 1 else x
        split <;> omega
      · rw [List.mem_singleton.mp z]
        split <;> omega
    · rw [if_neg e]
      rcases List.mem_append.mp hr with z | z
      · exact h.low r z
      · exact absurd (by rw [List.mem_singleton.mp z]) e
  · have key : q ∈ acc ∨ q = (p.1.b, if p.1.p + 1 > (getT acc p.1.b).getD 0 then p.1.p + 1 else (getT acc p.1.b).getD 0)  := put_all (P := fun q => q ∈ acc ∨ q = (p.1.b, if p.1.p + 1 > (getT acc p.1.b).getD 0 then p.1.p + 1 else (getT acc p.1.b).getD 0)) (fun q hq => .inl hq) (.inr rfl) q hq
    rcases key with z | z
    · obtain ⟨r, h1, h2⟩ := h.att q z
      exact ⟨r, List.mem_append_left _ h1, h2⟩
    · subst z
      by_cases g : p.1.p + 1 > (getT acc p.1.b).getD 0
      · exact ⟨p, List.mem_append_right _ List.mem_cons_self, rfl, if_pos g⟩
      · cases e : getT acc p.1.b with
        | none => rw [e] at g; exact absurd (show p.1.p + 1 > 0 by omega) g
        | some x =>
          obtain ⟨r, h1, h2, h3⟩ := h.att _ (getT_mem e)
          refine ⟨r, List.mem_append_left _ h1, h2, ?_⟩
          rw [e] at g
          have g : ¬ p.1.p + 1 > x := g
          show (if p.1.p + 1 > x then p.1.p + 1 else x) = r.1.p + 1
          rw [if_neg g]
          exact h3
theorem pl_all : ∀ {rows : List (Kind × Rat)} {acc : List (Int × Int)} {done : List (Kind × Rat)}, PlG acc done → (∀ p ∈ done, 0 ≤ p.1.p) → (∀ p ∈ rows, 0 ≤ p.1.p) → PlG (plF acc rows) (done ++ rows)
  | [], acc, done, h, _, _ => by rw [List.append_nil]; exact h
  | p :: r, acc, done, h, h0, hr => by
    have hp := hr p List.mem_cons_self
    have ih := pl_all (rows := r) (pl_step h h0 hp) (fun q hq => by
      rcases List.mem_append.mp hq with z | z
      · exact h0 q z
      · rw [List.mem_singleton.mp z]; exact hp) fun q hq => hr q (List.mem_cons_of_mem _ hq)
    rw [List.append_assoc] at ih
    exact ih
/-- each base's places are among those of a kind of its own -/
theorem sum_cost : ∀ {B : List (Int × Nat)} {K : List Kind}, (B.map (·.1)).Nodup → (∀ q ∈ B, ∃ k ∈ K, k.b = q.1 ∧ q.2 = k.p.toNat + 1) → (B.map (·.2)).sum ≤ costK K
  | [], K, _, _ => Nat.zero_le _
  | q :: B, K, nd, h => by
    rw [List.map_cons] at nd
    obtain ⟨h1, h2⟩ := List.nodup_cons.mp nd
    obtain ⟨k, hk, e1, e2⟩ := h q List.mem_cons_self
    have ih := sum_cost (B := B) (K := K.erase k) h2 fun r hr => by
      obtain ⟨k', g1, g2, g3⟩ := h r (List.mem_cons_of_mem _ hr)
      refine ⟨k', (List.mem_erase_of_ne fun e : k' = k => h1 ?_).mpr g1, g2, g3⟩
      rw [← e1, ← e, g2]
      exact List.mem_map.mpr ⟨r, hr, rfl⟩
    have e3 : costK K = (k.p.toNat + 1) + costK (K.erase k) := by
      have := (List.perm_cons_erase hk).map fun k : Kind => k.p.toNat + 1
      unfold costK
      rw [this.sum_nat, List.map_cons, List.sum_cons]
    rw [List.map_cons, List.sum_cons, e3]
    omega
def plB (one other : List (Kind × Rat)) : List (Int × Nat) := (plF (plF [] one) other).map fun q => (q.1, q.2.toNat)
structure PlOk (one other : List (Kind × Rat)) : Prop where
  nd : ((plB one other).map (·.1)).Nodup
  am1 : Among (plB one other) one
  am2 : Among (plB one other) other
  sum : ((plB one other).map (·.2)).sum ≤ 40
  pos : ∀ q ∈ plF (plF [] one) other, 0 ≤ q.2
theorem pl_ok {one other : List (Kind × Rat)} (h : NearG one other) : PlOk one other := by
  obtain ⟨L, _, _, r1, r2⟩ := h.ex
  have g := pl_all (pl_all (rows := one) (acc := []) (done := []) ⟨List.nodup_nil, (fun _ z => nomatch z), (fun _ z => nomatch z)⟩ (fun _ z => nomatch z) r1.p0) (fun p hp => r1.p0 p (by simpa using hp)) r2.p0
  rw [List.nil_append] at g
  have gp0 : ∀ p ∈ one ++ other, 0 ≤ p.1.p := fun p hp => by
    rcases List.mem_append.mp hp with z | z
    · exact r1.p0 p z
    · exact r2.p0 p z
  have nd : ((plB one other).map (·.1)).Nodup := by
    unfold plB
    rw [List.map_map]
    exact g.nd
  have am : Among (plB one other) (one ++ other) := fun p hp => by
    obtain ⟨x, h1, h2⟩ := g.low p hp
    have p0 := gp0 p hp
    refine ⟨p0, x.toNat, List.mem_map.mpr ⟨(p.1.b, x), getT_mem h1, rfl⟩, by omega⟩
  obtain ⟨K, k1, k2, k3⟩ := h.cover
  refine ⟨nd, fun p hp => am p (List.mem_append_left _ hp), fun p hp => am p (List.mem_append_right _ hp), Nat.le_trans (sum_cost nd fun q hq => ?_) k3, fun q hq => ?_⟩
  · obtain ⟨q', hq', rfl⟩ := List.mem_map.mp hq
    obtain ⟨p, hp, e1, e2⟩ := g.att q' hq'
    have p0 := gp0 p hp
    refine ⟨p.1, ?_, e1, by show q'.2.toNat = _; omega⟩
    rcases List.mem_append.mp hp with z | z
    · exact k1 p z
    · exact k2 p z
  · obtain ⟨p, hp, e1, e2⟩ := g.att q hq
    have p0 := gp0 p hp
    omega
theorem sumIt_kv : ∀ kvs : List (Int × Int), sumIt (kvs.map toD) = some ((kvs.map (·.2)).sum)
  | [] => rfl
  | p :: r => by
    rw [List.map_cons]
    show (sumIt (r.map toD)).map (p.2 + ·) = _
    rw [sumIt_kv r, List.map_cons, List.sum_cons]
    rfl
theorem sum_toNat : ∀ {kvs : List (Int × Int)}, (∀ q ∈ kvs, 0 ≤ q.2) → (kvs.map (·.2)).sum = (((kvs.map fun q => (q.1, q.2.toNat)).map (·.2)).sum : Nat)
  | [], _ => rfl
  | p :: r, h => by
    have ih := sum_toNat (kvs := r) fun q hq => h q (List.mem_cons_of_mem _ hq)
    have := h p List.mem_cons_self
    rw [List.map_cons, List.map_cons, List.map_cons, List.sum_cons, List.sum_cons, ih]
    push_cast
    show p.2 + _ = ((p.2.toNat : Nat) : Int) + _
    omega
theorem p_sumVals {a : RE} {δ : Sl} {S : Sto} {Q : D → Sto → Prop} (h : (a δ S).post fun d S1 => ∃ xs n, itemsOf (deref S1 d) = some xs ∧ sumIt xs = some n ∧ Q (.int n) S1) : (rSumVals a δ S).post Q :=
  p_bind (h.mono fun d S1 ⟨xs, n, e1, e2, q⟩ => by
    refine p_lift (a := .int n) ?_ q
    rw [e1, Option.bind_some, e2]
    rfl)
theorem o_max2I {S : Sto} {i j : Int} {Q : D → Sto → Prop} (h : Q (.int (if j > i then j else i)) S) : (Res.lift (gMax S [.int i, .int j]) S).post Q := p_lift rfl h
theorem plF_len : ∀ (rows : List (Kind × Rat)) (acc : List (Int × Int)), (plF acc rows).length ≤ acc.length + rows.length
  | [], _ => Nat.le_refl _
  | p :: r, acc => by
    have h1 := plF_len r (plStep acc p)
    have h2 := put_len acc p.1.b (if p.1.p + 1 > (getT acc p.1.b).getD 0 then p.1.p + 1 else (getT acc p.1.b).getD 0)
    show (plF (plStep acc p) r).length ≤ _
    unfold plStep at h1 ⊢
    rw [List.length_cons]
    omega
theorem places_spec {one other : List (Kind × Rat)} (h : NearG one other) (S : Sto) (hS : Sane S) : m__law_places [.lst [toD one, toD other]] S = .ok (.int (((plB one other).map (·.2)).sum : Nat)) S := by
  have sl : 3000 ≤ sizeLine := by decide
  have ok := pl_ok h
  refine m_defJ hS rfl ?_
  show (b__law_places [some (.lst [toD one, toD other]), none, none, none, none, none, none] S).post _ _ _ _
  unfold b__law_places
  walk_at "3"
  refine .inl ⟨[one, other].map toD, rfl, ?_⟩
  refine s_forT toD (fun xs δ S2 => ∃ (kvs : List (Int × Int)) (u : D) (o2 o3 o4 o5 o6 : Option D), S2 = S ++ [u] ∧ IsDic u kvs ∧ kvs.length + 100 * xs.length ≤ 1000 ∧ (∀ x ∈ xs, x.length ≤ 6) ∧ xs.foldl plF kvs = plF (plF [] one) other ∧ δ = [some (.lst [toD one, toD other]), some (.ptr S.length), o2, o3, o4, o5, o6]) ?_ ?_ _ _ _ ⟨[], _, _, _, _, _, _, rfl, isDic_nil, Nat.le_of_ble_eq_true rfl, ?_, rfl, rfl⟩
  · rintro x xs δ S2 ⟨kvs, u, o2, o3, o4, o5, o6, rfl, hu, hl, hx, hf, rfl⟩
    have hx6 := hx x List.mem_cons_self
    rw [List.length_cons] at hl
    walk_at "3"
    refine .inr (.inl ⟨x.map toD, rfl, ?_⟩)
    refine s_forT toD (fun ys δ S2 => ∃ (kv2 : List (Int × Int)) (u : D) (o3 o4 o5 o6 : Option D), S2 = S ++ [u] ∧ IsDic u kv2 ∧ kv2.length + ys.length ≤ kvs.length + 6 ∧ plF kv2 ys = plF kvs x ∧ δ = [some (.lst [toD one, toD other]), some (.ptr S.length), some (toD x), o3, o4, o5, o6]) ?_ ?_ _ _ _ ⟨kvs, _, _, _, _, _, rfl, hu, by omega, rfl, rfl⟩
    · rintro y ys δ S3 ⟨kv2, u, o3, o4, o5, o6, rfl, hu, hl2, hf2, rfl⟩
      rw [List.length_cons] at hl2
      show (gTup _ (.tup [.tup [toD y.1.m, .int y.1.p, .int y.1.b], toD y.2]) _ _).post _
      walk_at "3"
      refine ⟨dic_isDct hu get_app, ?_⟩
      walk_at "3"
      refine ⟨_, dic_lookU hu get_app y.1.b, ?_⟩
      walk_at "3"
      have eo : ((getT kv2 y.1.b).map toD).getD (.int 0) = D.int ((getT kv2 y.1.b).getD 0) := by cases getT kv2 y.1.b <;> rfl
      rw [eo]
      refine o_max2I ?_
      walk_at "3"
      obtain ⟨u', e', hu'⟩ := dic_putU hu (show kv2.length < sizeLine by omega) y.1.b (if y.1.p + 1 > (getT kv2 y.1.b).getD 0 then y.1.p + 1 else (getT kv2 y.1.b).getD 0)
      refine ⟨S.length, u, u', rfl, get_app, e', ?_⟩
      have hpl := put_len kv2 y.1.b (if y.1.p + 1 > (getT kv2 y.1.b).getD 0 then y.1.p + 1 else (getT kv2 y.1.b).getD 0)
      exact ⟨plStep kv2 y, u', _, _, _, _, set_app, hu', by unfold plStep; omega, hf2, rfl⟩
    · rintro δ S3 ⟨kv2, u, o3, o4, o5, o6, rfl, hu, hl2, hf2, rfl⟩
      have e : kv2 = plF kvs x := hf2
      subst e
      exact ⟨plF kvs x, u, _, _, _, _, _, rfl, hu, by have := plF_len x kvs; omega, fun z hz => hx z (List.mem_cons_of_mem _ hz), hf, rfl⟩
  · rintro δ S2 ⟨kvs, u, o2, o3, o4, o5, o6, rfl, hu, hl, hx, hf, rfl⟩
    have e : kvs = plF (plF [] one) other := hf
    subst e
    walk_at "3"
    refine p_sumVals ?_
    walk_at "3"
    refine ⟨_, _, dic_itemsOf hu get_app, sumIt_kv _, ?_⟩
    rw [sum_toNat ok.pos]
    exact ⟨rfl, take_app⟩
  · intro z hz
    rcases List.mem_cons.mp hz with rfl | hz
    · exact h.l1
    · rw [List.mem_singleton.mp hz]; exact h.l2
end DL
set_option Elab.async false
set_option linter.all false
set_option maxRecDepth 100000
set_option maxHeartbeats 1000000
set_option autoImplicit false
namespace DL
open PySem L2
open Emb
local macro_rules | `(tactic| walk_at "1") => `(tactic| with_reducible first
  | refine e_seq ?_ | refine e_asgP ?_ | refine e_if ?_ | refine e_next ?_ | refine e_exprP ?_ | refine s_seq ?_ | refine s_asg ?_ | refine s_ret ?_ | refine s_if ?_ | refine s_expr ?_ | refine s_next ?_ | refine s_brk ?_ | refine s_cont ?_ | refine s_for ?_ | refine s_while ?_
  | refine p_c ?_ | refine p_bin ?_ | refine p_as ?_ | refine p_cons ?_ | refine p_nil ?_ | refine p_un ?_ | refine p_call ?_ | refine p_if ?_ | refine p_own ?_
  | refine p_keep ?_ | refine p_tru ?_ | refine p_and ?_ | refine p_or ?_ | refine p_not ?_ | refine p_val ?_ | refine p_rand ?_ | refine p_ror ?_ | refine p_rnot ?_ | refine p_chain ?_ | refine p_bif ?_
  | refine o_add ?_ | refine o_sub ?_ | refine o_ltU ?_ | refine o_leU ?_ | refine o_gtU ?_ | refine o_geU ?_ | refine o_neg ?_ | refine o_eqI ?_ | refine o_neI ?_ | refine o_abs ?_ | refine o_tru ?_ | refine p_true ?_ | refine p_false ?_
  | refine o_lenT ?_ | refine o_lenL ?_ | refine o_ix0 ?_ | refine o_ix1 ?_ | refine o_ix2 ?_ | refine o_ix0L ?_ | refine o_ix1L ?_ | refine o_ix2L ?_
  | refine s_par ?_ | refine p_yes ?_ | refine p_seq ?_ | refine s_gnil ?_ | refine s_gcons ?_ | refine s_gtux ?_ | refine s_gtupl ?_ | refine p_onone ?_ | refine p_osome ?_ | refine p_get2 ?_ | refine s_putU ?_ | refine p_sortIt ?_)
local macro_rules | `(tactic| walk_at "2") => `(tactic| first
  | walk_at "1"
  | (with_reducible refine p_var2 ?_)
  | ((with_reducible refine s_name ?_ ?_); (· exact Nat.le_of_ble_eq_true rfl); dsimp only [List.set_cons_zero, List.set_cons_succ])
  | (with_reducible refine p_tup ?_) | (with_reducible refine p_lst ?_) | ((with_reducible refine ⟨?_, ?_⟩); (· exact Nat.le_of_ble_eq_true rfl))
  | ((with_reducible refine p_ex2 (x := ?_) (y := ?_) ?_ ?_); rotate_left; rotate_left; (· rfl); refine ⟨?_, ?_, ?_⟩; (· exact Nat.le_of_ble_eq_true rfl); (· exact Nat.le_of_ble_eq_true rfl); dsimp only [List.set_cons_zero, List.set_cons_succ])
  | ((with_reducible refine p_isT ?_ ?_); (· rfl)) | ((with_reducible refine p_isF ?_ ?_); (· rfl))
  | ((with_reducible refine p_ex (x := ?_) ?_ ?_); rotate_left; (· rfl)))
local macro_rules | `(tactic| walk_at "3") => `(tactic| repeat walk_at "2")
theorem raised_w (n : Int) (k : Nat) {b : Nat} (hb1 : 1 ≤ b) (hb : b ≤ 40000000) (hn : n.natAbs ^ k < 2 ^ b) (hn1 : n.natAbs < 2 ^ b) (hk : k < 2 ^ 60) (S : Sto) (hS : Sane S) : m_raised [.int n, .int k] S = .ok (.int (n ^ k)) S := by
  refine m_defS hS rfl ?_
  show (b_raised [some (.int n), some (.int k), none, none] S).post _ _ _ _
  unfold b_raised
  generalize hL : (2 : Nat) ^ b = L at hn hn1
  have hL2 : 2 ≤ L := by
    rw [← hL]
    exact Nat.le_trans (show 2 ≤ 2 ^ 1 by decide) (Nat.pow_le_pow_right (by decide) hb1)
  have fits : ∀ {a c : Int}, a.natAbs < L → c.natAbs < L → mulFits a c = true := fun h1 h2 => fits_w (a := b) (b := b) (by rw [hL]; exact h1) (by rw [hL]; exact h2) (by omega)
  walk_at "3"
  refine s_whileL (fun m δ S1 => S1 = S ∧ ∃ (f x : Int) (l : Nat), l ≤ m ∧ f * x ^ l = n ^ k ∧ (n ≠ 0 → x ≠ 0 ∧ f ≠ 0) ∧ (n = 0 → x = 0 ∧ f.natAbs ≤ 1) ∧ x.natAbs < L ∧ f.natAbs < L ∧ δ = [some (.int x), some (.int k), some (.int f), some (.int l)]) ?_ k _ _ _ ⟨rfl, 1, n, k, Nat.le_refl _, Int.one_mul _, fun h => ⟨h, by decide⟩, fun h => ⟨h, by decide⟩, hn1, hL2, rfl⟩ (by show k < (k : Int).natAbs + 1; omega)
  rintro m δ S1 ⟨rfl, f, x, l, hm, he, hn0, hz0, hx, hf, rfl⟩
  walk_at "3"
  constructor
  · intro h
    have h : (0 : Int) < l := of_decide_eq_true h
    have hl : 0 < l := by omega
    obtain ⟨m', rfl⟩ : ∃ m', m = m' + 1 := ⟨m - 1, by omega⟩
    refine ⟨m', rfl, ?_⟩
    have hh := pow_half x l
    have hd : (Int.fdiv (l : Int) 2) = ((l / 2 : Nat) : Int) := by rw [Int.fdiv_eq_ediv_of_nonneg _ (by decide)]; rfl
    have hmo : (Int.fmod (l : Int) 2) = ((l % 2 : Nat) : Int) := by rw [Int.fmod_eq_emod_of_nonneg _ (by decide)]; rfl
    -- what is behind the turn
    have key : ∀ f' : Int, f' = f * (if l % 2 = 1 then x else 1) → (n ≠ 0 → f' ≠ 0) ∧ (n = 0 → f'.natAbs ≤ 1) ∧ f'.natAbs < L ∧ f' * (x * x) ^ (l / 2) = n ^ k := by
      intro f' hf'
      have e : f' * (x * x) ^ (l / 2) = n ^ k := by
        rw [← he, hh, hf', Int.mul_assoc, Int.mul_comm (if l % 2 = 1 then x else 1)]
      have nz : n ≠ 0 → f' ≠ 0 := fun h => by
        obtain ⟨a1, a2⟩ := hn0 h
        rw [hf']
        split
        · exact Int.mul_ne_zero a2 a1
        · rw [Int.mul_one]; exact a2
      have zz : n = 0 → f'.natAbs ≤ 1 := fun h => by
        obtain ⟨a1, a2⟩ := hz0 h
        rw [hf', a1]
        split
        · rw [Int.mul_zero]; decide
        · rw [Int.mul_one]; exact a2
      refine ⟨nz, zz, ?_, e⟩
      by_cases hz : n = 0
      · have := zz hz; omega
      · have e2 := congrArg Int.natAbs e
        rw [Int.natAbs_mul, Int.natAbs_pow, Int.natAbs_pow] at e2
        have hx0 : 0 < (x * x).natAbs ^ (l / 2) := Nat.pow_pos (Int.natAbs_pos.mpr (Int.mul_ne_zero (hn0 hz).1 (hn0 hz).1))
        have : f'.natAbs ≤ f'.natAbs * (x * x).natAbs ^ (l / 2) := Nat.le_mul_of_pos_right _ hx0
        omega
    have xx : 0 < l / 2 → (x * x).natAbs < L := fun h2 => by
      by_cases hz : n = 0
      · rw [(hz0 hz).1]; show 0 < L; omega
      · obtain ⟨_, _, _, e⟩ := key _ rfl
        have nz := (key _ rfl).1 hz
        have e2 := congrArg Int.natAbs e
        rw [Int.natAbs_mul, Int.natAbs_pow, Int.natAbs_pow] at e2
        have hx0 : 0 < (x * x).natAbs := Int.natAbs_pos.mpr (Int.mul_ne_zero (hn0 hz).1 (hn0 hz).1)
        have h3 : (x * x).natAbs ≤ (x * x).natAbs ^ (l / 2) := Nat.le_self_pow (by omega) _
        have h4 : (x * x).natAbs ^ (l / 2) ≤ (f * (if l % 2 = 1 then x else 1)).natAbs * (x * x).natAbs ^ (l / 2) := Nat.le_mul_of_pos_left _ (Int.natAbs_pos.mpr nz)
        omega
    have fin : ∀ {T : D → Sto → Prop} {B C : Sl → Sto → Prop} (f' : Int), f' = f * (if l % 2 = 1 then x else 1) → ((sSeq (sAsg (rBin gDiv (rVar 3) (rC (.int 2))) (gName 3)) (sAsg (rIf (bVal (rBin gGtU (rVar 3) (rC (.int 0)))) (rBin gMul (rVar 0) (rVar 0)) (rVar 0)) (gName 0))) [some (.int x), some (.int k), some (.int f'), some (.int l)] S1).post (fun δ2 S2 => S2 = S1 ∧ ∃ (f x : Int) (l : Nat), l ≤ m' ∧ f * x ^ l = n ^ k ∧ (n ≠ 0 → x ≠ 0 ∧ f ≠ 0) ∧ (n = 0 → x = 0 ∧ f.natAbs ≤ 1) ∧ x.natAbs < L ∧ f.natAbs < L ∧ δ2 = [some (.int x), some (.int k), some (.int f), some (.int l)]) T B C := by
      intro T B C f' hf'
      obtain ⟨k1, k2, k3, k4⟩ := key f' hf'
      walk_at "3"
      refine o_div ⟨by decide, by decide⟩ ?_
      walk_at "3"
      rw [hd]
      walk_at "3"
      refine ⟨fun h2 => ?_, fun h2 => ?_⟩
      · have h2 : (0 : Int) < ((l / 2 : Nat) : Int) := of_decide_eq_true h2
        walk_at "3"
        refine o_mul (fits hx hx) ?_
        walk_at "3"
        exact ⟨rfl, f', x * x, l / 2, by omega, k4, fun h => ⟨Int.mul_ne_zero (hn0 h).1 (hn0 h).1, k1 h⟩, fun h => ⟨by rw [(hz0 h).1]; rfl, k2 h⟩, xx (by omega), k3, rfl⟩
      · have h2 : ¬ (0 : Int) < ((l / 2 : Nat) : Int) := of_decide_eq_false h2
        have h3 : l / 2 = 0 := by omega
        walk_at "3"
        rw [h3, Int.pow_zero] at k4
        exact ⟨rfl, f', x, l / 2, by omega, by rw [h3, Int.pow_zero]; exact k4, fun h => ⟨(hn0 h).1, k1 h⟩, fun h => ⟨(hz0 h).1, k2 h⟩, hx, k3, rfl⟩
    walk_at "3"
    refine o_mod (by decide) ?_
    rw [hmo]
    walk_at "3"
    refine ⟨fun h2 => ?_, fun h2 => ?_⟩
    · have h2 : l % 2 = 1 := by have : ((l % 2 : Nat) : Int) = 1 := by simpa using h2
                                omega
      refine s_asg ?_
      walk_at "3"
      refine o_mul (fits hf hx) ?_
      refine s_name (Nat.le_of_ble_eq_true rfl) ?_
      exact fin (f * x) (by rw [if_pos h2])
    · have h2 : ¬ l % 2 = 1 := fun z => by rw [z] at h2; cases h2
      refine s_next ?_
      exact fin f (by rw [if_neg h2, Int.mul_one])
  · intro h
    have h : ¬ (0 : Int) < l := of_decide_eq_false h
    have hl : l = 0 := by omega
    subst hl
    walk_at "3"
    rw [Int.pow_zero, Int.mul_one] at he
    rw [he]
    exact ⟨rfl, rfl⟩
/-- numbers above below 2 ^ N, below at most 2 ^ 2000 -/
structure RW (N : Nat) (q : Rat) : Prop where
  n : q.num.natAbs < 2 ^ N
  d : q.den ≤ 2 ^ 2000
theorem two_pos {N : Nat} : 1 ≤ 2 ^ N := Nat.one_le_two_pow
theorem plus_w {x y : Rat} {N : Nat} (hx : RW N x) (hy : RW N y) (hN : N ≤ 40000000) (S : Sto) (hS : Sane S) : m_plus [toD x, toD y] S = .ok (toD (x + y)) S := by
  refine m_defS hS (cl _ _) ?_
  show (b_plus [some (.tup [.int x.num, .int x.den]), some (.tup [.int y.num, .int y.den])] S).post _ _ _ _
  unfold b_plus
  have dx : ((x.den : Int)).natAbs < 2 ^ 2001 := Nat.lt_of_le_of_lt hx.d (Nat.pow_lt_pow_right (by decide) (by decide))
  have dy : ((y.den : Int)).natAbs < 2 ^ 2001 := Nat.lt_of_le_of_lt hy.d (Nat.pow_lt_pow_right (by decide) (by decide))
  walk_at "3"
  refine o_mul (fits_w hx.n dy (by omega)) ?_
  walk_at "3"
  refine o_mul (fits_w hy.n dx (by omega)) ?_
  walk_at "3"
  refine o_mul (fits_w dx dy (by omega)) ?_
  walk_at "3"
  refine Res.post.of_eq (fraction_spec _ _ (Int.mul_pos (den_pos' x) (den_pos' y)) ?_ S hS) ⟨by rw [rat_add], rfl⟩
  rw [Int.natAbs_mul]
  exact Nat.lt_of_le_of_lt (Nat.mul_le_mul hx.d hy.d) (by rw [← Nat.pow_add]; exact Nat.pow_lt_pow_right (by decide) (by decide))
theorem times_w {x y : Rat} {N : Nat} (hx : RW N x) (hy : RW N y) (hN : N ≤ 40000000) (S : Sto) (hS : Sane S) : m_times [toD x, toD y] S = .ok (toD (x * y)) S := by
  refine m_defS hS (cl _ _) ?_
  show (b_times [some (.tup [.int x.num, .int x.den]), some (.tup [.int y.num, .int y.den])] S).post _ _ _ _
  unfold b_times
  have dx : ((x.den : Int)).natAbs < 2 ^ 2001 := Nat.lt_of_le_of_lt hx.d (Nat.pow_lt_pow_right (by decide) (by decide))
  have dy : ((y.den : Int)).natAbs < 2 ^ 2001 := Nat.lt_of_le_of_lt hy.d (Nat.pow_lt_pow_right (by decide) (by decide))
  walk_at "3"
  refine o_mul (fits_w hx.n hy.n (by omega)) ?_
  walk_at "3"
  refine o_mul (fits_w dx dy (by omega)) ?_
  walk_at "3"
  refine Res.post.of_eq (fraction_spec _ _ (Int.mul_pos (den_pos' x) (den_pos' y)) ?_ S hS) ⟨by rw [rat_mul], rfl⟩
  rw [Int.natAbs_mul]
  exact Nat.lt_of_le_of_lt (Nat.mul_le_mul hx.d hy.d) (by rw [← Nat.pow_add]; exact Nat.pow_lt_pow_right (by decide) (by decide))
theorem qc_den {V L : Nat} {x : Rat} (hL : 1 ≤ L) (h : QC V L x) : x.den ≤ L := by
  obtain ⟨X, rfl, _⟩ := h
  exact den_le (by omega)
theorem qc_rw {V L N : Nat} {x : Rat} (hV : 1 ≤ V) (hL : 1 ≤ L) (hL2 : L ≤ 2 ^ 2000) (h : QC V L x) (hN : V * L < 2 ^ N) : RW N x :=
  ⟨Nat.lt_of_le_of_lt (qc_rb hV hL h).1 hN, Nat.le_trans (qc_den hL h) hL2⟩
/-- the numbers of the boxes of a plain are there, below 2 ^ w -/
def VW (vals : List (Str × Int)) (w : Nat) (m : Mono) : Prop := ∀ y ∈ m, ∃ v, getT vals y.1 = some v ∧ v.natAbs < 2 ^ w
theorem o_valW {S : Sto} {j w : Nat} {u : D} {vals : List (Str × Int)} {m : Mono} {y : Str × Int} {Q : D → Sto → Prop} (hu : IsDic u vals) (hj : S[j]? = some u) (hv : VW vals w m) (hy : y ∈ m) (h : (valOf vals y.1).natAbs < 2 ^ w → Q (.int (valOf vals y.1)) S) : (Res.lift (gGetU S (.ptr j) (.str y.1)) S).post Q := by
  obtain ⟨v, e, hb⟩ := hv y hy
  have ev : valOf vals y.1 = v := by unfold valOf; rw [e]; rfl
  have e2 : gGetU S (.ptr j) (.str y.1) = some (.int (valOf vals y.1)) := by
    unfold gGetU
    rw [show lookU S (.ptr j) (.str y.1) = _ from dic_lookU hu hj y.1, e, ev]
    rfl
  exact p_lift e2 (h (by rw [ev]; exact hb))
theorem mv_boundW {vals : List (Str × Int)} {w : Nat} : ∀ {m : Mono} {d : Nat}, VW vals w m → (∀ y ∈ m, 1 ≤ y.2) → degT m ≤ d → (mv vals m).natAbs ≤ (2 ^ w) ^ d
  | [], d, _, _, _ => by show (1 : Int).natAbs ≤ _; exact Nat.one_le_pow _ _ two_pos
  | y :: m, d, hv, hn, hd => by
    have e : degT (y :: m) = y.2 + degT m := by unfold degT; rw [List.map_cons, List.sum_cons]
    have hy := hn y List.mem_cons_self
    have h0 : 0 ≤ degT m := by
      have : ∀ m : Mono, (∀ y ∈ m, 1 ≤ y.2) → 0 ≤ degT m := fun m => by
        induction m with
        | nil => intro _; exact Int.le_refl _
        | cons z r ih =>
          intro h
          have := ih fun x hx => h x (List.mem_cons_of_mem _ hx)
          have := h z List.mem_cons_self
          unfold degT at *
          rw [List.map_cons, List.sum_cons]
          omega
      exact this m fun x hx => hn x (List.mem_cons_of_mem _ hx)
    have ih := mv_boundW (m := m) (d := d - y.2.toNat) (fun x hx => hv x (List.mem_cons_of_mem _ hx)) (fun x hx => hn x (List.mem_cons_of_mem _ hx)) (by omega)
    obtain ⟨v, ev, hb⟩ := hv y List.mem_cons_self
    have evv : valOf vals y.1 = v := by unfold valOf; rw [ev]; rfl
    rw [mv_cons, Int.natAbs_mul, Int.natAbs_pow, evv]
    refine Nat.le_trans (Nat.mul_le_mul (Nat.pow_le_pow_left (Nat.le_of_lt hb) _) ih) ?_
    rw [← Nat.pow_add]
    exact Nat.pow_le_pow_right two_pos (by omega)
section
variable {n V L T j w N : Nat} {rows : List (Mono × Rat)} {u : D} {S : Sto} {vals : List (Str × Int)}
theorem plain_value_w (hS : Sane S) (hu : IsDic u vals) (hj : S[j]? = some u) (h : ∀ p ∈ rows, MonO n p.1 ∧ VW vals w p.1 ∧ QC V L p.2) (hn : n ≤ 3) (hw1 : 1 ≤ w) (hw : w ≤ 1000000) (hV : 1 ≤ V) (hL : 1 ≤ L) (hL2 : L ≤ 2 ^ 2000) (hT : rows.length ≤ T) (hT0 : 1 ≤ T) (hN : N ≤ 40000000) (hB : V * (2 ^ w) ^ n * T * L < 2 ^ N) :
    m_plain_value [toD rows, .ptr j] S = .ok (toD (lin (mvR vals) rows)) S := by
  have hW1 : 1 ≤ (2 ^ w) ^ n := Nat.pow_pos two_pos
  generalize hWe : (2 ^ w) ^ n = W at hW1 hB
  refine m_defS hS (cl _ _) ?_
  show (b_plain_value [some (toD rows), some (.ptr j), none, none, none, none, none, none] S).post _ _ _ _
  unfold b_plain_value
  walk_at "3"
  refine .inr (.inl ⟨rows.map toD, rfl, ?_⟩)
  refine s_forT toD (fun xs δ S2 => ∃ (q : Rat) (t : Nat) (o3 o4 o5 o6 o7 : Option D), S2 = S ∧ (∀ p ∈ xs, p ∈ rows) ∧ t + xs.length ≤ T ∧ QC (V * W * t) L q ∧ q + lin (mvR vals) xs = lin (mvR vals) rows ∧ δ = [some (toD rows), some (.ptr j), some (toD q), o3, o4, o5, o6, o7]) ?_ ?_ _ _ _ ⟨0, 0, _, _, _, _, _, rfl, (fun _ z => z), by omega, qc_mono (qc_zero L) (Nat.zero_le _), by grind, rfl⟩
  · rintro x xs δ S2 ⟨q, t, o3, o4, o5, o6, o7, rfl, hin, ht, hq, hs, rfl⟩
    have hx := hin x List.mem_cons_self
    obtain ⟨hm, hv, hc⟩ := h x hx
    rw [List.length_cons] at ht
    show (gTup _ (.tup [toD x.1, toD x.2]) _ _).post _
    walk_at "3"
    refine .inr (.inl ⟨x.1.map toD, rfl, ?_⟩)
    have hb := mv_boundW (d := n) hv (fun y hy => (hm.nc y hy).2) hm.dg
    rw [hWe] at hb
    refine s_forT toD (fun ys δ S3 => ∃ (a : Int) (d : Nat) (o6 o7 : Option D), S3 = S2 ∧ (∀ y ∈ ys, y ∈ x.1) ∧ a * mv vals ys = mv vals x.1 ∧ a.natAbs ≤ (2 ^ w) ^ d ∧ d + (degT ys).toNat ≤ n ∧ δ = [some (toD rows), some (.ptr j), some (toD q), some (toD x.1), some (toD x.2), some (.int a), o6, o7]) ?_ ?_ _ _ _ ⟨1, 0, _, _, rfl, (fun _ z => z), Int.one_mul _, Nat.le_of_eq rfl, by have := hm.dg; omega, rfl⟩
    · rintro y ys δ S3 ⟨a, d, o6, o7, rfl, hiy, ha, hab, hd, rfl⟩
      have hy := hm.nc y (hiy y List.mem_cons_self)
      have hr := (deg_pos (m := ys) fun z hz => hm.nc z (hiy z (List.mem_cons_of_mem _ hz))).1
      have e : degT (y :: ys) = y.2 + degT ys := by unfold degT; rw [List.map_cons, List.sum_cons]
      rw [e] at hd
      have hd : d + y.2.toNat + (degT ys).toNat ≤ n := by omega
      have hp12 : y.2.toNat ≤ 12 := by omega
      show (gTup _ (.tup [.str y.1, .int y.2]) _ _).post _
      walk_at "3"
      refine o_valW hu hj hv (hiy y List.mem_cons_self) fun hvb => ?_
      walk_at "3"
      have ex := toNat_cast (show 0 ≤ y.2 by omega)
      have pw : (valOf vals y.1).natAbs ^ y.2.toNat < 2 ^ (3 * w + 1) := by
        refine Nat.lt_of_le_of_lt (Nat.pow_le_pow_left (Nat.le_of_lt hvb) _) ?_
        rw [← Nat.pow_mul]
        refine Nat.pow_lt_pow_right (by decide) ?_
        have : w * y.2.toNat ≤ w * 3 := Nat.mul_le_mul_left _ (by omega)
        omega
      have pw1 : (valOf vals y.1).natAbs < 2 ^ (3 * w + 1) := Nat.lt_of_lt_of_le hvb (Nat.pow_le_pow_right (by decide) (by omega))
      have hra := raised_w (valOf vals y.1) y.2.toNat (b := 3 * w + 1) (by omega) (by omega) pw pw1 (by omega) _ hS
      rw [← ex] at hra
      refine Res.post.of_eq hra ?_
      walk_at "3"
      have ab : a.natAbs < 2 ^ (3 * w + 1) := by
        refine Nat.lt_of_le_of_lt hab ?_
        rw [← Nat.pow_mul]
        refine Nat.pow_lt_pow_right (by decide) ?_
        have : w * d ≤ w * 3 := Nat.mul_le_mul_left _ (by omega)
        omega
      refine o_mul (fits_w ab (by rw [Int.natAbs_pow]; exact pw) (by omega)) ?_
      walk_at "3"
      refine ⟨a * valOf vals y.1 ^ y.2.toNat, d + y.2.toNat, _, _, rfl, fun z hz => hiy z (List.mem_cons_of_mem _ hz), ?_, ?_, hd, rfl⟩
      · rw [← ha, mv_cons, Int.mul_assoc]
      · rw [Int.natAbs_mul, Int.natAbs_pow, Nat.pow_add]
        exact Nat.mul_le_mul hab (Nat.pow_le_pow_left (Nat.le_of_lt hvb) _)
    · rintro δ S3 ⟨a, d, o6, o7, rfl, hiy, ha, hab, hd, rfl⟩
      have ea : a = mv vals x.1 := by rw [← ha]; show a = a * 1; omega
      subst ea
      walk_at "3"
      refine Res.post.of_eq (fraction_spec (mv vals x.1) 1 (by decide) (Nat.lt_of_lt_of_le (show (1 : Int).natAbs < 2 ^ 1 by decide) (Nat.pow_le_pow_right (by decide) (by decide))) _ hS) ?_
      rw [rat_one]
      walk_at "3"
      have b1 : V * L ≤ V * W * T * L := Nat.mul_le_mul_right _ (Nat.le_trans (Nat.le_mul_of_pos_right _ hW1) (Nat.le_mul_of_pos_right _ hT0))
      have b2 : W ≤ V * W * T * L := Nat.le_trans (Nat.le_trans (Nat.le_mul_of_pos_left _ hV) (Nat.le_mul_of_pos_right _ hT0)) (Nat.le_mul_of_pos_right _ hL)
      refine Res.post.of_eq (times_w (x := x.2) (y := mvR vals x.1) (N := N) (qc_rw hV hL hL2 hc (Nat.lt_of_le_of_lt b1 hB)) ⟨Nat.lt_of_le_of_lt (Nat.le_trans hb b2) hB, Nat.one_le_two_pow⟩ hN _ hS) ?_
      walk_at "3"
      have hVW : 1 ≤ V * W := Nat.mul_pos hV hW1
      have qp : QC (V * W) L (x.2 * mvR vals x.1) := qc_int hc hb
      have r1 : RW N q := qc_rw (V := V * W * T) (Nat.mul_pos hVW hT0) hL hL2 (qc_mono hq (Nat.mul_le_mul_left _ (by omega))) hB
      have r2 : RW N (x.2 * mvR vals x.1) := qc_rw hVW hL hL2 qp (Nat.lt_of_le_of_lt (Nat.mul_le_mul_right _ (Nat.le_mul_of_pos_right _ hT0)) hB)
      refine Res.post.of_eq (plus_w r1 r2 hN _ hS) ?_
      walk_at "3"
      refine ⟨q + x.2 * mvR vals x.1, t + 1, _, _, _, _, _, rfl, fun p hp => hin p (List.mem_cons_of_mem _ hp), by omega, by rw [Nat.mul_succ]; exact qc_add hq qp, ?_, rfl⟩
      rw [← hs, lin_cons]
      grind
  · rintro δ S2 ⟨q, t, o3, o4, o5, o6, o7, rfl, hin, ht, hq, hs, rfl⟩
    have eq : q = lin (mvR vals) rows := by rw [← hs]; show q = q + 0; grind
    subst eq
    walk_at "3"
    exact ⟨rfl, rfl⟩
end
end DL
set_option Elab.async false
set_option linter.all false
set_option maxRecDepth 100000
set_option maxHeartbeats 1000000
set_option autoImplicit false
namespace DL
open PySem L2
open Emb
local macro_rules | `(tactic| walk_at "1") => `(tactic| with_reducible first
  | refine e_seq ?_ | refine e_asgP ?_ | refine e_if ?_ | refine e_next ?_ | refine e_exprP ?_ | refine s_seq ?_ | refine s_asg ?_ | refine s_ret ?_ | refine s_if ?_ | refine s_expr ?_ | refine s_next ?_ | refine s_brk ?_ | refine s_cont ?_ | refine s_for ?_ | refine s_while ?_
  | refine p_c ?_ | refine p_bin ?_ | refine p_as ?_ | refine p_cons ?_ | refine p_nil ?_ | refine p_un ?_ | refine p_call ?_ | refine p_if ?_ | refine p_own ?_
  | refine p_keep ?_ | refine p_tru ?_ | refine p_and ?_ | refine p_or ?_ | refine p_not ?_ | refine p_val ?_ | refine p_rand ?_ | refine p_ror ?_ | refine p_rnot ?_ | refine p_chain ?_ | refine p_bif ?_
  | refine o_add ?_ | refine o_sub ?_ | refine o_ltU ?_ | refine o_leU ?_ | refine o_gtU ?_ | refine o_geU ?_ | refine o_neg ?_ | refine o_eqI ?_ | refine o_neI ?_ | refine o_abs ?_ | refine o_tru ?_ | refine p_true ?_ | refine p_false ?_
  | refine o_lenT ?_ | refine o_lenL ?_ | refine o_ix0 ?_ | refine o_ix1 ?_ | refine o_ix2 ?_ | refine o_ix0L ?_ | refine o_ix1L ?_ | refine o_ix2L ?_
  | refine s_par ?_ | refine p_yes ?_ | refine p_seq ?_ | refine s_gnil ?_ | refine s_gcons ?_ | refine s_gtux ?_ | refine s_gtupl ?_ | refine p_onone ?_ | refine p_osome ?_ | refine p_get2 ?_ | refine s_putU ?_ | refine p_sortIt ?_)
local macro_rules | `(tactic| walk_at "2") => `(tactic| first
  | walk_at "1"
  | (with_reducible refine p_var2 ?_)
  | ((with_reducible refine s_name ?_ ?_); (· exact Nat.le_of_ble_eq_true rfl); dsimp only [List.set_cons_zero, List.set_cons_succ])
  | (with_reducible refine p_tup ?_) | (with_reducible refine p_lst ?_) | ((with_reducible refine ⟨?_, ?_⟩); (· exact Nat.le_of_ble_eq_true rfl))
  | ((with_reducible refine p_ex2 (x := ?_) (y := ?_) ?_ ?_); rotate_left; rotate_left; (· rfl); refine ⟨?_, ?_, ?_⟩; (· exact Nat.le_of_ble_eq_true rfl); (· exact Nat.le_of_ble_eq_true rfl); dsimp only [List.set_cons_zero, List.set_cons_succ])
  | ((with_reducible refine p_isT ?_ ?_); (· rfl)) | ((with_reducible refine p_isF ?_ ?_); (· rfl))
  | ((with_reducible refine p_ex (x := ?_) ?_ ?_); rotate_left; (· rfl)))
local macro_rules | `(tactic| walk_at "3") => `(tactic| repeat walk_at "2")
/-! ### what forms are at a count -/
section
variable {n pl A V L T c : Nat} {rows : List (Kind × Rat)}
theorem at_c (h : Rc n pl A V L rows) (hA : 1 ≤ A) (c : Nat) (hT : rows.length ≤ T) : ∀ p ∈ atT rows c, MonO n p.1 ∧ QC (V * (2 * A) ^ c * T) L p.2 := fun p hp => by
  have fin := onc_end (onc_start (T := T) (by unfold atL; rw [List.length_map]; exact hT) fun x hx => (at_qc h hA c x hx).2)
  exact ⟨(at_ok h hA c hT).m p hp, onc_qc fin p (rows_nz p hp).1⟩
end
def VA : Nat := 10 ^ 24 * (2 * 10 ^ 11) ^ 39 * 6
theorem va_pos : 1 ≤ VA := by unfold VA; decide +kernel
/-- a plain as forms are at the first counts -/
structure Pl4 (L : Nat) (rows : List (Mono × Rat)) : Prop where
  inc : Inc rows
  m : ∀ p ∈ rows, MonO 3 p.1
  q : ∀ p ∈ rows, QC VA L p.2
  nz : ∀ p ∈ rows, p.2 ≠ 0
  len : rows.length ≤ 6
theorem va_1000 {L : Nat} (h : L ≤ 10 ^ 40) : VA * L ≤ 10 ^ 1000 := Nat.le_trans (Nat.mul_le_mul_left _ h) (by unfold VA; decide +kernel)
theorem at_pl {L c : Nat} {rows : List (Kind × Rat)} (h : Rc 3 7 (10 ^ 11) (10 ^ 24) L rows) (hl : rows.length ≤ 6) (hc : c ≤ 39) (hL : 1 ≤ L) : Pl4 L (atT rows c) := by
  have a := at_c h (by decide) c hl
  have ok := at_ok h (by decide) c hl
  refine ⟨nd_rows (nd_addAll _ _ List.nodup_nil), fun p hp => (a p hp).1, fun p hp => qc_mono (a p hp).2 ?_, fun p hp => (rows_nz p hp).2, ok.len⟩
  exact Nat.mul_le_mul_right _ (Nat.mul_le_mul_left _ (Nat.pow_le_pow_right (by decide) hc))
theorem at_walk {L c : Nat} {rows : List (Kind × Rat)} (h : Rc 3 7 (10 ^ 11) (10 ^ 24) L rows) (hl : rows.length ≤ 6) (hc : c ≤ 39) (hL : 1 ≤ L) (hL2 : L ≤ 10 ^ 40) (S : Sto) (hS : Sane S) :
    m_at_count [toD rows, .int c] S = .ok (toD (atT rows c)) S ∧ m__law_at [toD rows, .int c] S = .ok (toD (atT rows c)) S := by
  have hB : 10 ^ 24 * (2 * 10 ^ 11) ^ c * 6 * L ≤ 10 ^ 1000 := Nat.le_trans (Nat.mul_le_mul_right _ (Nat.mul_le_mul_right _ (Nat.mul_le_mul_left _ (Nat.pow_le_pow_right (by decide) hc)))) (va_1000 hL2)
  exact ⟨at_count_spec h (by decide) (by decide) (by decide) (by omega) (by decide) hL hl (by decide) (by decide) hB S hS, lat_spec h (by decide) (by decide) (by decide) (by omega) (by decide) hL hl (by decide) (by decide) hB S hS⟩
section
variable {L : Nat} {rows mine its : List (Mono × Rat)}
theorem Pl4.rb (h : Pl4 L rows) (hL : 1 ≤ L) (hL2 : L ≤ 10 ^ 40) : ∀ p ∈ rows, RB' (10 ^ 1000) p.2 := fun p hp => rb_mono (qc_rb va_pos hL (h.q p hp)) (va_1000 hL2)
theorem Pl4.shw (h : Pl4 L rows) (hL : 1 ≤ L) (hL2 : L ≤ 10 ^ 40) : Shw (toD rows) (py rows).shown := shw_rowsM (fun p hp => mono12 (h.m p hp) (by decide)) (h.rb hL hL2) (by have := h.len; omega)
theorem fit_pl {rows : List (Mono × Rat)} (hm : ∀ p ∈ rows, MonO 3 p.1) (hr : ∀ p ∈ rows, RB' (10 ^ 1000) p.2) (hl : rows.length ≤ 100) : fitP (py rows) = true :=
  (fitE_tuple (n := 100) (fun p hp => fitE_pair (fitE_mono (mono12 (hm p hp) (by decide)) (Nat.le_refl _)) (fitE_rat (hr p hp))) hl).1
theorem Pl4.fit (h : Pl4 L rows) (hL : 1 ≤ L) (hL2 : L ≤ 10 ^ 40) : fitP (py rows) = true := fit_pl h.m (h.rb hL hL2) (by have := h.len; omega)
/-- what one plain has more than another one -/
def negT (its : List (Mono × Rat)) : List (Mono × Rat) := its.map fun p => (p.1, -p.2)
def diffT (mine its : List (Mono × Rat)) : List (Mono × Rat) := rowsT (addAll mine (negT its))
theorem qc_neg {V L : Nat} {q : Rat} (h : QC V L q) : QC V L (-q) := by
  obtain ⟨X, rfl, hX⟩ := h
  refine ⟨-X, ?_, by rw [Int.natAbs_neg]; exact hX⟩
  push_cast
  grind
theorem diff_onc (h1 : Pl4 L mine) (h2 : Pl4 L its) : OnC VA L 12 (addAll mine (negT its)) mine (negT its) := by
  have l1 := h1.len
  have l2 := h2.len
  refine ⟨rfl, inc_nd h1.inc, ⟨mine.length, by unfold negT; rw [List.length_map]; omega, Nat.le_refl _, fun p hp => qc_mono (h1.q p hp) (Nat.le_mul_of_pos_right _ (List.length_pos_of_mem hp))⟩, fun p hp => ?_⟩
  obtain ⟨q, hq, rfl⟩ := List.mem_map.mp hp
  exact qc_neg (h2.q q hq)
structure DfG (L : Nat) (mine its : List (Mono × Rat)) : Prop where
  inc : Inc (diffT mine its)
  m : ∀ p ∈ diffT mine its, MonO 3 p.1
  q : ∀ p ∈ diffT mine its, QC (VA * 12) L p.2
  nz : ∀ p ∈ diffT mine its, p.2 ≠ 0
  len : (diffT mine its).length ≤ 12
  lin : ∀ g : Mono → Rat, lin g (diffT mine its) = lin g mine - lin g its
  ne : mine ≠ its → diffT mine its ≠ []
theorem lin_neg (g : Mono → Rat) (its : List (Mono × Rat)) : DL.lin g (negT its) = -DL.lin g its := by
  unfold DL.lin negT
  rw [sumR_map]
  have : (sumR its fun p => -p.2 * g p.1) = sumR its fun p => (-1) * (p.2 * g p.1) := sumR_congr fun p _ => by grind
  rw [this, sumR_mul]
  grind
theorem con_negT (its : List (Mono × Rat)) (q : Mono) : con (negT its) q = -con its q := by
  unfold con negT
  rw [sumR_map]
  have : (sumR its fun p => if p.1 = q then -p.2 else 0) = sumR its fun p => (-1) * (if p.1 = q then p.2 else 0) := sumR_congr fun p _ => by
    by_cases e : p.1 = q
    · rw [if_pos e, if_pos e]; grind
    · rw [if_neg e, if_neg e]; grind
  rw [this, sumR_mul]
  grind
theorem diff_ok (h1 : Pl4 L mine) (h2 : Pl4 L its) : DfG L mine its := by
  have fin := onc_end (diff_onc h1 h2)
  have l1 := h1.len
  have l2 := h2.len
  have nd := fin.nd
  obtain ⟨t, t1, t2, _⟩ := fin.ex
  have t1 : t ≤ 12 := by simpa using t1
  refine ⟨nd_rows nd, fun p hp => ?_, fun p hp => onc_qc fin p (rows_nz p hp).1, fun p hp => (rows_nz p hp).2, Nat.le_trans (rows_len _) (by omega), fun g => ?_, fun hne z => hne ?_⟩
  · exact rows_all (P := fun m : Mono => MonO 3 m) (fun x hx => h1.m x hx) (fun x hx => by
      obtain ⟨q, hq, rfl⟩ := List.mem_map.mp hx
      exact h2.m q hq) p (rows_nz p hp).1
  · unfold diffT
    rw [lin_rows, lin_addAll g _ (inc_nd h1.inc), lin_neg]
    grind
  · refine rows_one h1.inc h2.inc h1.nz h2.nz fun q => ?_
    have e : at0 (diffT mine its) q = at0 mine q + con (negT its) q := by
      unfold diffT
      rw [at0_rows nd, at0_addAll]
    rw [z, con_negT, con_nd (inc_nd h2.inc)] at e
    have e : (0 : Rat) = at0 mine q + -at0 its q := e
    grind
theorem sumN_le {α : Type} {f : α → Nat} {B : Nat} : ∀ {xs : List α}, (∀ x ∈ xs, f x ≤ B) → sumN xs f ≤ xs.length * B
  | [], _ => Nat.zero_le _
  | x :: xs, h => by
    have ih := sumN_le (xs := xs) fun y hy => h y (List.mem_cons_of_mem _ hy)
    have := h x List.mem_cons_self
    unfold sumN at *
    rw [List.map_cons, List.sum_cons, List.length_cons, Nat.succ_mul]
    omega
theorem gP_bound (d : DfG L mine its) (hL : 1 ≤ L) (hL2 : L ≤ 10 ^ 40) (dm : Nat) (h : ∃ p ∈ diffT mine its, dm = p.2.den) : gP (diffT mine its) dm < 2 ^ 1900 := by
  obtain ⟨p, hp, rfl⟩ := h
  have hd : p.2.den ≤ 10 ^ 40 := Nat.le_trans (qc_den hL (d.q p hp)) hL2
  have hs : (sumN (diffT mine its) fun p => p.2.num.natAbs) ≤ 12 * (VA * 12 * 10 ^ 40) := Nat.le_trans (sumN_le (B := VA * 12 * 10 ^ 40) fun x hx => Nat.le_trans (qc_rb (Nat.mul_pos va_pos (by decide)) hL (d.q x hx)).1 (Nat.mul_le_mul_left _ hL2)) (Nat.mul_le_mul_right _ d.len)
  have h1 := Nat.mul_le_mul hs hd
  have h2 : 2 + 12 * (VA * 12 * 10 ^ 40) * 10 ^ 40 < 2 ^ 1900 := by unfold VA; decide +kernel
  unfold gP
  exact Nat.lt_of_le_of_lt (Nat.add_le_add_left h1 2) h2
theorem mv_same {a b : List (Str × Int)} : ∀ {m : Mono}, (∀ y ∈ m, valOf a y.1 = valOf b y.1) → mv a m = mv b m
  | [], _ => rfl
  | y :: m, h => by rw [mv_cons, mv_cons, h y List.mem_cons_self, mv_same (m := m) fun z hz => h z (List.mem_cons_of_mem _ hz)]
/-- at these numbers both are worth something else -/
theorem worth_ne (h1 : Pl4 L mine) (h2 : Pl4 L its) (hne : mine ≠ its) {vals vals2 : List (Str × Int)} {dm : Nat} (hv : PartV vals ((gP (diffT mine its) dm : Nat) : Int) (ysP (diffT mine its))) (hd : ∀ p ∈ diffT mine its, p.2.den ≤ dm) (hs : ∀ y v, getT vals y = some v → getT vals2 y = some v) :
    DL.lin (mvR vals2) mine ≠ DL.lin (mvR vals2) its := by
  have d := diff_ok h1 h2
  have ng := names_ok d.m
  have k := part_ne (d.ne hne) (inc_nd d.inc) d.m d.nz ng.nd ng.all hv (Nat.le_refl _) hd (by unfold gP; omega)
  have e := d.lin (mvR vals2)
  have e2 : DL.lin (mvR vals2) (diffT mine its) = DL.lin (mvR vals) (diffT mine its) := lin_congr fun p hp => by
    unfold mvR
    rw [mv_same fun y hy => ?_]
    have g := hv y.1 (ng.all p hp y hy)
    unfold valOf
    rw [g, hs _ _ g]
  rw [e2] at e
  intro z
  rw [z] at e
  exact k (by grind)
end
def tbody : RS := (sSeq (sAsg (rOwn (rAs gDict (rCons (rVar 7) rNil))) (gName 9))
    (sSeq (sFor (rSeq (rVar 8)) (gTup (gCons (gName 10) (gCons (gName 11) gNil))) (sExpr (rCall m__law_put (rCons (rVar 9) (rCons (rVar 10) (rCons (rTup (rCons (rBin gSub (rC (.int 0)) (rBin gIx (rVar 11) (rC (.int 0)))) (rCons (rBin gIx (rVar 11) (rC (.int 1))) rNil))) rNil))))))
    (sSeq (sAsg (rCall m__law_parting (rCons (rCall m__law_pairs (rCons (rVar 9) rNil)) rNil)) (gName 12))
    (sSeq (sFor (rSeq (rBin gAdd (rVar 7) (rVar 8))) (gTup (gCons (gName 10) (gCons (gName 11) gNil))) (sExpr (rUpd (rVar 12) (rOwn (rAs gDict (rCons (rKeep (rLc (rSeq (rVar 10)) (gTup (gCons (gName 13) (gCons (gName 14) gNil))) [13, 14] bYes (rTup (rCons (rVar 13) (rCons (rGet2 (rVar 12) (rVar 13) (rC (.int 1))) rNil))))) rNil))))))
    (sIf (bVal (rBin gEq (rCall m_plain_value (rCons (rVar 7) (rCons (rVar 12) rNil))) (rCall m_plain_value (rCons (rVar 8) (rCons (rVar 12) rNil))))) (sRet (rC (.bl false))) sNext)))))
end DL
set_option Elab.async false
set_option linter.all false
set_option maxRecDepth 100000
set_option maxHeartbeats 1000000
set_option autoImplicit false
namespace DL
open PySem L2
open Emb
local macro_rules | `(tactic| walk_at "1") => `(tactic| with_reducible first
  | refine e_seq ?_ | refine e_asgP ?_ | refine e_if ?_ | refine e_next ?_ | refine e_exprP ?_ | refine s_seq ?_ | refine s_asg ?_ | refine s_ret ?_ | refine s_if ?_ | refine s_expr ?_ | refine s_next ?_ | refine s_brk ?_ | refine s_cont ?_ | refine s_for ?_ | refine s_while ?_
  | refine p_c ?_ | refine p_bin ?_ | refine p_as ?_ | refine p_cons ?_ | refine p_nil ?_ | refine p_un ?_ | refine p_call ?_ | refine p_if ?_ | refine p_own ?_
  | refine p_keep ?_ | refine p_tru ?_ | refine p_and ?_ | refine p_or ?_ | refine p_not ?_ | refine p_val ?_ | refine p_rand ?_ | refine p_ror ?_ | refine p_rnot ?_ | refine p_chain ?_ | refine p_bif ?_
  | refine o_add ?_ | refine o_sub ?_ | refine o_ltU ?_ | refine o_leU ?_ | refine o_gtU ?_ | refine o_geU ?_ | refine o_neg ?_ | refine o_eqI ?_ | refine o_neI ?_ | refine o_abs ?_ | refine o_tru ?_ | refine p_true ?_ | refine p_false ?_
  | refine o_lenT ?_ | refine o_lenL ?_ | refine o_ix0 ?_ | refine o_ix1 ?_ | refine o_ix2 ?_ | refine o_ix0L ?_ | refine o_ix1L ?_ | refine o_ix2L ?_
  | refine s_par ?_ | refine p_yes ?_ | refine p_seq ?_ | refine s_gnil ?_ | refine s_gcons ?_ | refine s_gtux ?_ | refine s_gtupl ?_ | refine p_onone ?_ | refine p_osome ?_ | refine p_get2 ?_ | refine s_putU ?_ | refine p_sortIt ?_)
local macro_rules | `(tactic| walk_at "2") => `(tactic| first
  | walk_at "1"
  | (with_reducible refine p_var2 ?_)
  | ((with_reducible refine s_name ?_ ?_); (· exact Nat.le_of_ble_eq_true rfl); dsimp only [List.set_cons_zero, List.set_cons_succ])
  | (with_reducible refine p_tup ?_) | (with_reducible refine p_lst ?_) | ((with_reducible refine ⟨?_, ?_⟩); (· exact Nat.le_of_ble_eq_true rfl))
  | ((with_reducible refine p_ex2 (x := ?_) (y := ?_) ?_ ?_); rotate_left; rotate_left; (· rfl); refine ⟨?_, ?_, ?_⟩; (· exact Nat.le_of_ble_eq_true rfl); (· exact Nat.le_of_ble_eq_true rfl); dsimp only [List.set_cons_zero, List.set_cons_succ])
  | ((with_reducible refine p_isT ?_ ?_); (· rfl)) | ((with_reducible refine p_isF ?_ ?_); (· rfl))
  | ((with_reducible refine p_ex (x := ?_) ?_ ?_); rotate_left; (· rfl)))
local macro_rules | `(tactic| walk_at "3") => `(tactic| repeat walk_at "2")
/-- the numbers for the boxes, added to by ones -/
structure VG (vals vals2 : List (Str × Int)) (w : Nat) : Prop where
  nd : ND vals2
  old : ∀ y v, getT vals y = some v → getT vals2 y = some v
  nice : ∀ p ∈ vals2, nice p.1 = true
  le : ∀ p ∈ vals2, p.2.natAbs < 2 ^ w
def oneT (vals : List (Str × Int)) (m : Mono) : List (Str × Int) := m.map fun y => (y.1, (getT vals y.1).getD 1)
theorem oneT_nd {vals : List (Str × Int)} {m : Mono} (h : ND m) : ND (oneT vals m) := by
  unfold ND oneT at *
  rw [List.map_map]
  exact h
theorem merge_get {y : Str} : ∀ {more kvs : List (Str × Int)}, ND more → getT (mergeT kvs more) y = match getT more y with
    | some v => some v
    | none => getT kvs y
  | [], _, _ => rfl
  | p :: r, kvs, hn => by
    unfold ND at hn
    rw [List.map_cons] at hn
    obtain ⟨h1, h2⟩ := List.nodup_cons.mp hn
    show getT (mergeT (putT kvs p.1 p.2) r) y = _
    rw [merge_get (more := r) h2, getT_put]
    obtain ⟨k, v⟩ := p
    rw [getT_cons]
    by_cases e : k = y
    · subst e
      have : getT r k = none := by
        cases e : getT r k with
        | none => rfl
        | some w => exact absurd (List.mem_map.mpr ⟨_, getT_mem e, rfl⟩) h1
      simp [this]
    · rw [if_neg e]
      cases getT r y with
      | some w => rfl
      | none => exact if_neg (Ne.symm e)
theorem oneT_get {vals : List (Str × Int)} {y : Str} : ∀ {m : Mono}, getT (oneT vals m) y = if y ∈ m.map (·.1) then some ((getT vals y).getD 1) else none
  | [] => by rw [if_neg (by simp)]; rfl
  | p :: m => by
    show getT ((p.1, (getT vals p.1).getD 1) :: oneT vals m) y = _
    rw [getT_cons, oneT_get (m := m), List.map_cons]
    by_cases e : p.1 = y
    · subst e; rw [if_pos rfl, if_pos List.mem_cons_self]
    · rw [if_neg e]
      by_cases h : y ∈ m.map (·.1)
      · rw [if_pos h, if_pos (List.mem_cons_of_mem _ h)]
      · rw [if_neg h, if_neg (fun z => by rcases List.mem_cons.mp z with q | q; (· exact e q.symm); (· exact h q))]
theorem vg_step {vals vals2 : List (Str × Int)} {w : Nat} (hw : 1 ≤ w) (h : VG vals vals2 w) {m : Mono} (hm : MonO 3 m) : VG vals (mergeT vals2 (oneT vals2 m)) w ∧ (∀ y ∈ m, ∃ v, getT (mergeT vals2 (oneT vals2 m)) y.1 = some v) ∧ ∀ y v, getT vals2 y = some v → getT (mergeT vals2 (oneT vals2 m)) y = some v := by
  have g : ∀ y, getT (mergeT vals2 (oneT vals2 m)) y = if y ∈ m.map (·.1) then some ((getT vals2 y).getD 1) else getT vals2 y := fun y => by
    rw [merge_get (oneT_nd (inc_nd hm.inc)), oneT_get]
    by_cases e : y ∈ m.map (·.1)
    · rw [if_pos e, if_pos e]
    · rw [if_neg e, if_neg e]
  have keep : ∀ y v, getT vals2 y = some v → getT (mergeT vals2 (oneT vals2 m)) y = some v := fun y v e => by
    rw [g, e]
    split <;> rfl
  refine ⟨⟨nd_merge h.nd, fun y v e => keep y v (h.old y v e), fun p hp => ?_, fun p hp => ?_⟩, fun y hy => ⟨_, by rw [g, if_pos (List.mem_map.mpr ⟨y, hy, rfl⟩)]⟩, keep⟩
  · refine merge_all (P := fun p : Str × Int => DL.nice p.1 = true) h.nice (fun q hq => ?_) p hp
    obtain ⟨y, hy, rfl⟩ := List.mem_map.mp hq
    exact (hm.nc y hy).1
  · refine merge_all (P := fun p : Str × Int => p.2.natAbs < 2 ^ w) h.le (fun q hq => ?_) p hp
    obtain ⟨y, hy, rfl⟩ := List.mem_map.mp hq
    show ((getT vals2 y.1).getD 1).natAbs < 2 ^ w
    cases e : getT vals2 y.1 with
    | none => exact Nat.lt_of_lt_of_le (show 1 < 2 ^ 1 by decide) (Nat.pow_le_pow_right (by decide) hw)
    | some v => exact h.le _ (getT_mem e)
theorem neg_toD (q : Rat) : (D.tup [.int (0 - q.num), .int q.den]) = toD (-q) := by
  rw [toD_rat, Rat.neg_num, Rat.neg_den, Int.zero_sub]
theorem o_addTT {xs ys : List D} {S : Sto} {Q : D → Sto → Prop} (hl : xs.length + ys.length ≤ 4000) (h : Q (.tup (xs ++ ys)) S) : (Res.lift (gAdd S (.tup xs) (.tup ys)) S).post Q := p_lift (by
  have sl : 4000 ≤ sizeLine := by decide
  unfold gAdd deref
  dsimp only
  rw [if_pos (by omega)]) h
theorem shaped_rat (q : Rat) : SeqAt.shaped (py q) = true := by
  show SeqAt.shaped (.tuple [.int q.num, .int (q.den : Int)]) = true
  unfold SeqAt.shaped
  simp [PyData.canLay0, PyData.canLayAll0, PyData.depth, PyData.depthAll]
theorem o_eqRat {S : Sto} {a b : Rat} {Q : D → Sto → Prop} (hne : a ≠ b) (h : Q (.bl false) S) : (Res.lift (gEq S (toD a) (toD b)) S).post Q :=
  o_eqg (u := py a) (v := py b) (by rw [deref_emb, pyOk]) (by rw [deref_emb, pyOk]) (shaped_rat a) (shaped_rat b) (by
    have : PyData.eqv (py a) (py b) = false := by
      cases q : PyData.eqv (py a) (py b) with
      | false => rfl
      | true => exact absurd (Emb.inj _ _ q) hne
    rw [this]; exact h)
theorem lits (V T L w : Nat) (h : V * T * L < 2 ^ 2000) : V * (2 ^ w) ^ 3 * T * L < 2 ^ (3 * w + 2000) := by
  have e : V * (2 ^ w) ^ 3 * T * L = V * T * L * 2 ^ (3 * w) := by
    rw [← Nat.pow_mul, Nat.mul_comm w 3, Nat.mul_right_comm V, Nat.mul_right_comm (V * T)]
  rw [e, Nat.pow_add, Nat.mul_comm (2 ^ (3 * w))]
  exact Nat.mul_lt_mul_of_pos_right h (Nat.pow_pos (by decide))
theorem val_pl {L w j : Nat} {rows : List (Mono × Rat)} {vals : List (Str × Int)} {S : Sto} (hw1 : 1 ≤ w) (hw : w ≤ 1000000) (hS : Sane S) (hj : S[j]? = some (D.dct (kvD vals))) (h : Pl4 L rows) (hL : 1 ≤ L) (hL2 : L ≤ 10 ^ 40)
    (hv : ∀ p ∈ rows, ∀ y ∈ p.1, ∃ v, getT vals y.1 = some v) (hb : ∀ p ∈ vals, p.2.natAbs < 2 ^ w) : m_plain_value [toD rows, .ptr j] S = .ok (toD (lin (mvR vals) rows)) S := by
  refine plain_value_w (n := 3) (V := VA) (L := L) (T := 6) (w := w) (N := 3 * w + 2000) hS (show IsDic (D.dct (kvD vals)) vals from .inr (.inl ⟨rfl, rfl⟩)) hj (fun p hp => ⟨h.m p hp, fun y hy => ?_, h.q p hp⟩) (by decide) hw1 hw va_pos hL (Nat.le_trans hL2 (by decide +kernel)) h.len (by decide) (by omega) (lits _ _ _ _ ?_)
  · obtain ⟨v, e⟩ := hv p hp y hy
    exact ⟨v, e, hb _ (getT_mem e)⟩
  · exact Nat.lt_of_le_of_lt (Nat.mul_le_mul_left _ hL2) (by unfold VA; decide +kernel)
def W24 : Nat := 486400
theorem turn2 {c L : Nat} {S : Sto} (h : Sta c S) {mine its : List (Mono × Rat)} (h1 : Pl4 L mine) (h2 : Pl4 L its) (hL : 1 ≤ L) (hL2 : L ≤ 10 ^ 40) (hne : mine ≠ its) {o0 o1 o2 o3 o4 o5 o6 o9 o10 o11 o12 o13 o14 : Option D} :
    (tbody [o0, o1, o2, o3, o4, o5, o6, some (toD mine), some (toD its), o9, o10, o11, o12, o13, o14] S).post (fun δ' S' => Sta c S' ∧ (∀ k < S.length, S'[k]? = S[k]?) ∧ ∃ o9 o10 o11 o12 o13 o14, δ' = [o0, o1, o2, o3, o4, o5, o6, some (toD mine), some (toD its), o9, o10, o11, o12, o13, o14]) (fun _ _ => False) NoS NoS := by
  have sl : 3000 ≤ sizeLine := by decide
  have hS := h.sane
  have l1 := h1.len
  have l2 := h2.len
  unfold tbody
  walk_at "3"
  obtain ⟨u, _, e, hu⟩ := dict_of S mine
  rw [merge_id (inc_nd h1.inc)] at hu
  refine p_lift e ?_
  walk_at "3"
  refine .inr (.inl ⟨its.map toD, rfl, ?_⟩)
  refine s_forT toD (fun xs δ S2 => ∃ (acc : List (Mono × Rat)) (u : D) (o10 o11 : Option D), S2 = S ++ [u] ∧ IsDic u acc ∧ OnC VA L 12 (addAll mine (negT its)) acc (negT xs) ∧ δ = [o0, o1, o2, o3, o4, o5, o6, some (toD mine), some (toD its), some (.ptr S.length), o10, o11, o12, o13, o14]) ?_ ?_ _ _ _ ⟨mine, u, _, _, rfl, hu, diff_onc h1 h2, rfl⟩
  · rintro x xs δ S2 ⟨acc, u, o10, o11, rfl, hu, oc, rfl⟩
    show (gTup _ (.tup [toD x.1, .tup [.int x.2.num, .int x.2.den]]) _ _).post _
    walk_at "3"
    obtain ⟨u', e', hu', oc'⟩ := add_one (lput_adds (κ := Mono)) hS hu (show OnC VA L 12 (addAll mine (negT its)) acc ((x.1, -x.2) :: negT xs) from oc) va_pos hL (by decide) (by decide) (Nat.le_trans (Nat.mul_le_mul_left _ hL2) (Nat.le_trans (by unfold VA; decide +kernel : VA * 12 * 10 ^ 40 ≤ 10 ^ 1000) (ten_two (Nat.le_refl _))))
    rw [neg_toD]
    refine Res.post.of_eq e' ?_
    exact ⟨_, u', _, _, rfl, hu', oc', rfl⟩
  · rintro δ S2 ⟨acc, u, o10, o11, rfl, hu, oc, rfl⟩
    have ea : acc = addAll mine (negT its) := oc.eq
    subst ea
    have d := diff_ok h1 h2
    have al : (addAll mine (negT its)).length ≤ 12 := by
      obtain ⟨t, t1, t2, _⟩ := oc.ex
      have t1 : t ≤ 12 := by simpa [negT] using t1
      omega
    have hSa : Sane (S ++ [u]) := sane_app hS (isDic_closed hu _)
    have hst : Sta c (S ++ [u]) := h.app (isDic_closed hu _)
    walk_at "3"
    refine Res.post.of_eq (lpairs_spec hSa hu get_app (by omega)) ?_
    show (m__law_parting [toD (diffT mine its)] (S ++ [u])).post _
    have dr : ∀ p ∈ diffT mine its, RB' (10 ^ 1000) p.2 := fun p hp => rb_mono (qc_rb (Nat.mul_pos va_pos (by decide)) hL (d.q p hp)) (Nat.le_trans (Nat.mul_le_mul_left _ hL2) (by unfold VA; decide +kernel))
    have dl := d.len
    refine (parting_spec (n := 3) (e := 1900) (d.ne hne) d.m (by omega) (fit_pl d.m dr (by omega)) hSa (by decide) (by decide) (by decide) (fun p hp => Nat.lt_of_le_of_lt (Nat.le_trans (qc_den hL (d.q p hp)) hL2) (by decide +kernel)) (gP_bound d hL hL2)).mono ?_
    rintro _ S3 ⟨pu, rfl, rfl, ⟨vals, dm, rfl, vn, vp, vd, vb, vl, vnice⟩, hcl⟩
    walk_at "3"
    refine o_addTT (xs := mine.map toD) (ys := its.map toD) (by rw [List.length_map, List.length_map]; omega) ?_
    rw [← List.map_append]
    walk_at "3"
    refine .inr (.inl ⟨(mine ++ its).map toD, rfl, ?_⟩)
    refine s_forT toD (fun xs δ S2 => ∃ (vals2 : List (Str × Int)) (done : List (Mono × Rat)) (o10 o11 o13 o14 : Option D), BoxSt (S ++ [u]).length (S ++ [u]) S2 vals2 ∧ VG vals vals2 W24 ∧ done ++ xs = mine ++ its ∧ (∀ p ∈ done, ∀ y ∈ p.1, ∃ v, getT vals2 y.1 = some v) ∧
      δ = [o0, o1, o2, o3, o4, o5, o6, some (toD mine), some (toD its), some (.ptr S.length), o10, o11, some (.ptr (S ++ [u]).length), o13, o14]) ?_ ?_ _ _ _ ⟨vals, [], _, _, _, _, ⟨by simp, fun k k1 _ => List.getElem?_append_left k1, get_app, sane_app hSa (closed_kvD _ _)⟩, ⟨vn, fun _ _ z => z, vnice, vb⟩, rfl, (fun _ z => nomatch z), rfl⟩
    · rintro x xs δ S2 ⟨vals2, done, o10, o11, o13, o14, hb, vg, hd, hall, rfl⟩
      have hx : MonO 3 x.1 := by
        have : x ∈ mine ++ its := by rw [← hd]; exact List.mem_append_right _ List.mem_cons_self
        rcases List.mem_append.mp this with z | z
        · exact h1.m x z
        · exact h2.m x z
      show (gTup _ (.tup [toD x.1, toD x.2]) _ _).post _
      have isd : IsDic (D.dct (kvD vals2)) vals2 := .inr (.inl ⟨rfl, rfl⟩)
      have xl : x.1.length ≤ 3 := (mono_len hx).1
      have v5 : vals2.length ≤ 5 := by
        have := nodup_sub (xs := vals2.map (·.1)) (zs := fiveB) (by have := vg.nd; unfold ND at this; exact this) fun y hy => by
          obtain ⟨p, hp, rfl⟩ := List.mem_map.mp hy
          exact nice_five (vg.nice p hp)
        rwa [List.length_map] at this
      walk_at "3"
      refine p_upd (p_var rfl ⟨(S ++ [u]).length, _, rfl, hb.dic, ?_⟩)
      walk_at "3"
      refine p_lcRows x.1 (fun y => (y.1, (getT vals2 y.1).getD 1)) toD (exact_of (p_seq (p_var rfl (.inr (.inl ⟨_, rfl, rfl, rfl⟩))))) (Nat.le_of_ble_eq_true rfl) (Nat.le_of_ble_eq_true rfl) (by omega) (fun y hy => ?_) ?_
      · refine exact_of ?_
        dsimp only [in2, wipeD, List.set_cons_zero, List.set_cons_succ]
        walk_at "3"
        refine ⟨dic_isDct isd hb.dic, ?_⟩
        walk_at "3"
        refine ⟨_, dic_lookU isd hb.dic y.1, ?_⟩
        walk_at "3"
        have eo : ((getT vals2 y.1).map toD).getD (.int 1) = D.int ((getT vals2 y.1).getD 1) := by cases getT vals2 y.1 <;> rfl
        rw [eo]
        exact ⟨rfl, rfl⟩
      walk_at "3"
      obtain ⟨u2, e2, _, hu2⟩ := dict_of S2 (oneT vals2 x.1)
      rw [merge_id (oneT_nd (inc_nd hx.inc))] at hu2
      have eu2 := isDic_str hu2
      subst eu2
      refine p_lift e2 ?_
      have hlen := hb.len
      have jl := (List.getElem?_eq_some_iff.mp hb.dic).1
      have ol : (oneT vals2 x.1).length ≤ 3 := by unfold oneT; rw [List.length_map]; exact xl
      refine ⟨S2.length, kvD vals2, kvD (oneT vals2 x.1), rfl, by omega, by rw [List.getElem?_append_left jl]; exact hb.dic, get_app, by rw [kvD_len, kvD_len]; omega, ?_⟩
      rw [mergeD_kv rfl]
      obtain ⟨g1, g2, g3⟩ := vg_step (by decide) vg hx
      refine ⟨_, done ++ [x], _, _, _, _, boxst_upd (m := oneT vals2 x.1) hb, g1, by rw [List.append_assoc]; exact hd, fun p hp y hy => ?_, rfl⟩
      rcases List.mem_append.mp hp with z | z
      · obtain ⟨v, ev⟩ := hall p z y hy
        exact ⟨v, g3 _ _ ev⟩
      · rw [List.mem_singleton.mp z] at hy
        exact g2 y hy
    · rintro δ S2 ⟨vals2, done, o10, o11, o13, o14, hb, vg, hd, hall, rfl⟩
      rw [List.append_nil] at hd
      subst hd
      have w1 := val_pl (w := W24) (by decide) (by decide) hb.sane hb.dic h1 hL hL2 (fun p hp => hall p (List.mem_append_left _ hp)) vg.le
      have w2 := val_pl (w := W24) (by decide) (by decide) hb.sane hb.dic h2 hL hL2 (fun p hp => hall p (List.mem_append_right _ hp)) vg.le
      have wn := worth_ne h1 h2 hne vp vd vg.old
      walk_at "3"
      refine Res.post.of_eq w1 ?_
      walk_at "3"
      refine Res.post.of_eq w2 ?_
      refine o_eqRat wn ?_
      walk_at "3"
      have l2' := h.len
      have hk : ∀ k < S.length, S2[k]? = S[k]? := fun k k1 => by
        rw [hb.keep k (by rw [List.length_append]; omega) (by rw [List.length_append]; omega), List.getElem?_append_left k1]
      obtain ⟨ns, rs, a, q1, q2, q3, q4, q5⟩ := h.ex
      exact ⟨⟨⟨ns, rs, a, by rw [hk 0 (by omega)]; exact q1, by rw [hk 1 (by omega)]; exact q2, q3, q4, q5⟩, hb.sane⟩, hk, _, _, _, _, _, _, rfl⟩
end DL
set_option Elab.async false
set_option linter.all false
set_option maxRecDepth 100000
set_option maxHeartbeats 4000000
set_option autoImplicit false
/-! The start of the draws. -/
namespace DL
open PySem L2
open Emb
local macro_rules | `(tactic| walk_at "1") => `(tactic| with_reducible first
  | refine s_seq ?_ | refine s_asg ?_ | refine s_ret ?_ | refine s_if ?_ | refine s_expr ?_ | refine s_next ?_ | refine s_brk ?_ | refine s_cont ?_ | refine s_for ?_ | refine s_while ?_
  | refine p_c ?_ | refine p_bin ?_ | refine p_as ?_ | refine p_cons ?_ | refine p_nil ?_ | refine p_un ?_ | refine p_call ?_ | refine p_if ?_ | refine p_own ?_
  | refine p_keep ?_ | refine p_tru ?_ | refine p_and ?_ | refine p_or ?_ | refine p_not ?_ | refine p_val ?_ | refine p_rand ?_ | refine p_ror ?_ | refine p_rnot ?_ | refine p_chain ?_ | refine p_bif ?_
  | refine o_add ?_ | refine o_sub ?_ | refine o_ltU ?_ | refine o_leU ?_ | refine o_gtU ?_ | refine o_geU ?_ | refine o_neg ?_ | refine o_eqI ?_ | refine o_neI ?_ | refine o_abs ?_ | refine o_tru ?_ | refine p_true ?_ | refine p_false ?_
  | refine o_lenT ?_ | refine o_lenL ?_
  | refine s_par ?_ | refine p_yes ?_ | refine p_lc ?_ | refine p_seq ?_ | refine s_gnil ?_ | refine s_gcons ?_ | refine s_gtux ?_ | refine p_onone ?_ | refine p_osome ?_)
local macro_rules | `(tactic| walk_at "2") => `(tactic| first
  | walk_at "1"
  | (with_reducible refine p_var2 ?_)
  | ((with_reducible refine s_name ?_ ?_); (· exact Nat.le_of_ble_eq_true rfl); dsimp only [List.set_cons_zero, List.set_cons_succ])
  | (with_reducible refine p_tup ?_) | ((with_reducible refine ⟨?_, ?_⟩); (· exact Nat.le_of_ble_eq_true rfl))
  | ((with_reducible refine p_ex2 (x := ?_) (y := ?_) ?_ ?_); rotate_left; rotate_left; (· rfl); refine ⟨?_, ?_, ?_⟩; (· exact Nat.le_of_ble_eq_true rfl); (· exact Nat.le_of_ble_eq_true rfl); dsimp only [List.set_cons_zero, List.set_cons_succ])
  | ((with_reducible refine p_isT ?_ ?_); (· rfl)) | ((with_reducible refine p_isF ?_ ?_); (· rfl))
  | ((with_reducible refine p_ex (x := ?_) ?_ ?_); rotate_left; (· rfl)))
local macro_rules | `(tactic| walk_at "3") => `(tactic| repeat (first | walk_at "2" | (with_reducible refine p_lst ?_)))
def greatOf (i : Int) : Int := if (10 : Int) ^ 18 ≤ i then 1 else 0
def restF (d : D) : Option D := match d with
  | .int i => some (.int (i * greatOf i))
  | _ => none
theorem rest_map : ∀ ns : List Int, (ns.map D.int).filterMap restF = (ns.map fun i => i * greatOf i).map .int
  | [] => rfl
  | i :: r => by
    have := rest_map r
    show D.int (i * greatOf i) :: (r.map D.int).filterMap restF = _
    rw [this]
    rfl
theorem great_fits (i : Int) : mulFits i (greatOf i) = true := by
  refine fits_r ?_
  unfold greatOf
  split <;> decide
theorem pairs3 {X : RE} {d : D} {R : Sto} (h : X [some d, none] [] = .ok (.ptr 0) R) : rPairs [((rC (.str "script")), (rVar 0)), ((rC (.str "at")), (rC (.int 0))), ((rC (.str "rest")), X)] [some d, none] [] = .ok [(.str "script", d), (.str "at", .int 0), (.str "rest", .ptr 0)] R := by
  unfold rPairs rPairs rPairs rPairs
  simp [rC, rVar, Res.bind, h]
theorem started_spec (ns : List Int) (hn : ns.length ≤ 63) : ∃ rs : List Int, rs.length = ns.length ∧ m__law_started [.lst (ns.map .int)] [] = .ok (.ptr 1) [.lst (rs.map .int), stD ns 0] := by
  refine ⟨ns.map fun i => i * greatOf i, by rw [List.length_map], ?_⟩
  have sl : 2000 ≤ sizeLine := by decide
  have key : (b__law_started [some (.lst (ns.map .int)), none] []).post NoS (fun z S1 => z = .ptr 1 ∧ S1 = [.lst ((ns.map fun i => i * greatOf i).map .int), stD ns 0]) NoS NoS := by
    unfold b__law_started
    refine s_ret ?_
    refine p_own ?_
    refine p_disp ?_
    have hl : rLc (rSeq (rVar 0)) (gName 1) [1] bYes (rBin gMul (rVar 1) (rAs gInt (rCons (rBin gGeU (rVar 1) (rBin gPow (rC (.int 10)) (rC (.int 18)))) rNil))) [some (.lst (ns.map .int)), none] [] = .ok (.lst ((ns.map fun i => i * greatOf i).map .int)) [] := by
      refine exact_of ?_
      refine p_lc ?_
      refine p_seq ?_
      with_reducible refine p_var2 ?_
      refine ⟨_, rfl, ?_⟩
      refine .inl ⟨_, rfl, ?_⟩
      dsimp only [wipeD, List.set_cons_zero, List.set_cons_succ]
      refine Res.post.of_eq (lcL_gen (f := restF) fun x hx => ?_) ⟨?_, ?_⟩
      · obtain ⟨i, _, rfl⟩ := List.mem_map.mp hx
        refine ⟨_, rfl, .inr ⟨_, rfl, rfl, ?_⟩⟩
        refine exact_of ?_
        walk_at "3"
        refine pow6 (δ := []) (n := 18) (by decide) ?_
        walk_at "3"
        refine p_lift (a := .int (greatOf i)) ?_ ?_
        · show gInt [] [.bl (decide ((10 : Int) ^ 18 ≤ i))] = _
          unfold greatOf
          by_cases h : (10 : Int) ^ 18 ≤ i
          · rw [if_pos h, decide_eq_true h]; rfl
          · rw [if_neg h, decide_eq_false h]; rfl
        · refine o_mul (great_fits i) ?_
          exact ⟨rfl, rfl⟩
      · rw [rest_map, List.length_map, List.length_map]; omega
      · rw [rest_map]
        exact ⟨rfl, rfl⟩
    have ho : rOwn (rLc (rSeq (rVar 0)) (gName 1) [1] bYes (rBin gMul (rVar 1) (rAs gInt (rCons (rBin gGeU (rVar 1) (rBin gPow (rC (.int 10)) (rC (.int 18)))) rNil)))) [some (.lst (ns.map .int)), none] [] = .ok (.ptr 0) [.lst ((ns.map fun i => i * greatOf i).map .int)] := by
      refine exact_of ?_
      refine p_own ?_
      refine Res.post.of_eq hl ?_
      exact ⟨rfl, rfl⟩
    have hp : rPairs [((rC (.str "script")), (rVar 0)), ((rC (.str "at")), (rC (.int 0))), ((rC (.str "rest")), (rOwn (rLc (rSeq (rVar 0)) (gName 1) [1] bYes (rBin gMul (rVar 1) (rAs gInt (rCons (rBin gGeU (rVar 1) (rBin gPow (rC (.int 10)) (rC (.int 18)))) rNil))))))] [some (.lst (ns.map .int)), none] [] = .ok [(.str "script", .lst (ns.map .int)), (.str "at", .int 0), (.str "rest", .ptr 0)] [.lst ((ns.map fun i => i * greatOf i).map .int)] := by
      exact pairs3 ho
    refine Res.post.of_eq hp ⟨rfl, ?_⟩
    refine ⟨rfl, ?_⟩
    show [_, _] = [_, _]
    rfl
  show mDefK 2 b__law_started [.lst (ns.map .int)] [] = _
  unfold mDefK
  show (match b__law_started [some (.lst (ns.map .int)), none] [] with
    | .rt d S1 => Res.ok d S1
    | .nx _ S1 => .ok .non S1
    | .err c fs _ S1 => .err c fs S1
    | _ => .stuck) = _
  cases q : b__law_started [some (.lst (ns.map .int)), none] [] with
  | rt d S1 =>
    rw [q] at key
    obtain ⟨rfl, rfl⟩ : d = .ptr 1 ∧ S1 = _ := key
    rfl
  | _ => rw [q] at key; exact key.elim
end DL
set_option Elab.async false
set_option linter.all false
set_option maxRecDepth 100000
set_option maxHeartbeats 1000000
set_option autoImplicit false
namespace DL
open PySem L2
open Emb
local macro_rules | `(tactic| walk_at "1") => `(tactic| with_reducible first
  | refine e_seq ?_ | refine e_asgP ?_ | refine e_if ?_ | refine e_next ?_ | refine e_exprP ?_ | refine s_seq ?_ | refine s_asg ?_ | refine s_ret ?_ | refine s_if ?_ | refine s_expr ?_ | refine s_next ?_ | refine s_brk ?_ | refine s_cont ?_ | refine s_for ?_ | refine s_while ?_
  | refine p_c ?_ | refine p_bin ?_ | refine p_as ?_ | refine p_cons ?_ | refine p_nil ?_ | refine p_un ?_ | refine p_call ?_ | refine p_if ?_ | refine p_own ?_
  | refine p_keep ?_ | refine p_tru ?_ | refine p_and ?_ | refine p_or ?_ | refine p_not ?_ | refine p_val ?_ | refine p_rand ?_ | refine p_ror ?_ | refine p_rnot ?_ | refine p_chain ?_ | refine p_bif ?_
  | refine o_add ?_ | refine o_sub ?_ | refine o_ltU ?_ | refine o_leU ?_ | refine o_gtU ?_ | refine o_geU ?_ | refine o_neg ?_ | refine o_eqI ?_ | refine o_neI ?_ | refine o_abs ?_ | refine o_tru ?_ | refine p_true ?_ | refine p_false ?_
  | refine o_lenT ?_ | refine o_lenL ?_ | refine o_ix0 ?_ | refine o_ix1 ?_ | refine o_ix2 ?_ | refine o_ix0L ?_ | refine o_ix1L ?_ | refine o_ix2L ?_
  | refine s_par ?_ | refine p_yes ?_ | refine p_seq ?_ | refine s_gnil ?_ | refine s_gcons ?_ | refine s_gtux ?_ | refine s_gtupl ?_ | refine p_onone ?_ | refine p_osome ?_ | refine p_get2 ?_ | refine s_putU ?_ | refine p_sortIt ?_)
local macro_rules | `(tactic| walk_at "2") => `(tactic| first
  | walk_at "1"
  | (with_reducible refine p_var2 ?_)
  | ((with_reducible refine s_name ?_ ?_); (· exact Nat.le_of_ble_eq_true rfl); dsimp only [List.set_cons_zero, List.set_cons_succ])
  | (with_reducible refine p_tup ?_) | (with_reducible refine p_lst ?_) | ((with_reducible refine ⟨?_, ?_⟩); (· exact Nat.le_of_ble_eq_true rfl))
  | ((with_reducible refine p_ex2 (x := ?_) (y := ?_) ?_ ?_); rotate_left; rotate_left; (· rfl); refine ⟨?_, ?_, ?_⟩; (· exact Nat.le_of_ble_eq_true rfl); (· exact Nat.le_of_ble_eq_true rfl); dsimp only [List.set_cons_zero, List.set_cons_succ])
  | ((with_reducible refine p_isT ?_ ?_); (· rfl)) | ((with_reducible refine p_isF ?_ ?_); (· rfl))
  | ((with_reducible refine p_ex (x := ?_) ?_ ?_); rotate_left; (· rfl)))
local macro_rules | `(tactic| walk_at "3") => `(tactic| repeat walk_at "2")
theorem p_cutP {a : RE} {l h : RO} {δ : Sl} {S : Sto} {Q : D → Sto → Prop} (q : (a δ S).post fun x S1 => (l δ S1).post fun i S2 => (h δ S2).post fun j S3 => ∃ z, deref S3 x = .lst z ∧ Q (.lst (cutD z i j)) S3) : (rCut a l h δ S).post Q :=
  p_bind (q.mono fun x S1 q => p_bind (q.mono fun i S2 q => p_bind (q.mono fun j S3 ⟨z, e, q'⟩ => by
    rw [e]
    exact q')))
theorem cut_map {A B : Type} (f : A → B) (xs : List A) (lo hi : Option Int) : cutD (xs.map f) lo hi = (cutD xs lo hi).map f := by
  unfold cutD; rw [List.length_map, List.map_take, List.map_drop]
theorem cut_mem {A : Type} {xs : List A} {lo hi : Option Int} {x : A} (h : x ∈ cutD xs lo hi) : x ∈ xs := List.mem_of_mem_drop (List.mem_of_mem_take h)
theorem o_neBB {S : Sto} {a : Bool} {Q : D → Sto → Prop} (h : Q (.bl false) S) : (Res.lift (gNe S (.bl a) (.bl a)) S).post Q := by
  cases a <;> exact p_lift rfl h
abbrev PP : Type := List (Mono × Rat) × List (Mono × Rat)
theorem at_drf {S : Sto} {j : Nat} {xs : List D} (h : S[j]? = some (.lst xs)) : deref S (.ptr j) = .lst xs := by
  unfold deref
  dsimp only
  rw [List.getD_eq_getElem?_getD, h]
  rfl
def WPL : Nat := 100 * (13200 + 2019 + 7 + 2) + 3
theorem Pl4.fitE {L : Nat} {rows : List (Mono × Rat)} (h : Pl4 L rows) (hL : 1 ≤ L) (hL2 : L ≤ 10 ^ 40) : FitE WPL rows :=
  fitE_tuple (n := 100) (fun p hp => fitE_pair (fitE_mono (mono12 (h.m p hp) (by decide)) (Nat.le_refl _)) (fitE_rat (h.rb hL hL2 p hp))) (by have := h.len; omega)
theorem o_eqNone {S : Sto} {j : Nat} {L : List PP} {w : Nat} {Q : D → Sto → Prop} (hj : S[j]? = some (.lst (L.map toD))) (hf : ∀ x ∈ L, FitE w x) (h : Q (.bl (decide (L = []))) S) : (Res.lift (gEq S (.ptr j) (.lst [])) S).post Q :=
  o_eqg (u := .list (L.map py)) (v := .list []) (by rw [at_drf hj]; show (toPys S (L.map toD)).map PyData.list = _; rw [emb_pys]; rfl) rfl (lst_shaped (fitE_list hf).1 (by decide)) (by decide +kernel) (by
    have : PyData.eqv (.list (L.map py)) (.list []) = decide (L = []) := by
      cases L with
      | nil => rfl
      | cons x r => rw [decide_eq_false (by simp)]; simp [PyData.eqv, PyData.eqvAll]
    rw [this]
    exact h)
/-- what the counts have told so far -/
structure CntG (one other : List (Kind × Rat)) (t : Nat) (L : List PP) : Prop where
  all : ∀ q ∈ L, q.1 ≠ q.2 ∧ ∃ c, c < t ∧ q = (atT one c, atT other c)
  none : L = [] → ∀ c, c < t → atT one c = atT other c
  len : L.length ≤ t
theorem cnt_skip {one other : List (Kind × Rat)} {t : Nat} {L : List PP} (h : CntG one other t L) (e : atT one t = atT other t) : CntG one other (t + 1) L := by
  refine ⟨fun q hq => ?_, fun z c hc => ?_, by have := h.len; omega⟩
  · obtain ⟨h1, c, h2, h3⟩ := h.all q hq
    exact ⟨h1, c, by omega, h3⟩
  · rcases Nat.lt_or_ge c t with g | g
    · exact h.none z c g
    · have : c = t := by omega
      rw [this]; exact e
theorem cnt_put {one other : List (Kind × Rat)} {t : Nat} {L : List PP} (h : CntG one other t L) (e : atT one t ≠ atT other t) : CntG one other (t + 1) (L ++ [(atT one t, atT other t)]) := by
  refine ⟨fun q hq => ?_, fun z => absurd z (by simp), by rw [List.length_append]; have := h.len; show _ + 1 ≤ _; omega⟩
  rcases List.mem_append.mp hq with z | z
  · obtain ⟨h1, c, h2, h3⟩ := h.all q z
    exact ⟨h1, c, by omega, h3⟩
  · rw [List.mem_singleton.mp z]
    exact ⟨e, t, by omega, rfl⟩
theorem law_spec (ns : List Int) (hn : ns.length ≤ 63) : ∃ S, m_law [.lst (ns.map .int)] [] = .ok (.bl true) S := by
  have sl : 3000 ≤ sizeLine := by decide
  refine ⟨[], same_of (m_def ?_)⟩
  show (b_law [some (.lst (ns.map .int)), none, none, none, none, none, none, none, none, none, none, none, none, none, none] []).post _ _ _ _
  unfold b_law
  obtain ⟨rs, hr, e⟩ := started_spec ns hn
  refine s_seq ?_
  refine s_asg ?_
  refine p_call ?_
  walk_at "3"
  refine Res.post.of_eq e ?_
  walk_at "2"
  have h0 : Sta 0 [.lst (rs.map .int), stD ns 0] := ⟨⟨ns, rs, 0, rfl, rfl, hr, Int.le_refl _, Int.le_refl _⟩, by
    unfold Sane closedL closedL closedL
    show (D.closed 2 (.lst (rs.map .int)) && (D.closed 2 (stD ns 0) && true)) = true
    rw [show D.closed 2 (stD ns 0) = true from stD_closed (by decide) ns 0]
    unfold D.closed
    rw [closed_ints']
    rfl⟩
  refine s_seq ?_
  refine s_for ?_
  with_reducible refine p_range1 ?_
  walk_at "3"
  refine p_lift (a := .int (if (((ns.map D.int).length : Nat) : Int) < 16 then (((ns.map D.int).length : Nat) : Int) else 16)) rfl ?_
  walk_at "3"
  refine p_lift rfl ?_
  walk_at "3"
  rw [List.length_map]
  refine ⟨by split <;> split <;> omega, by split <;> split <;> omega, ?_⟩
  generalize hj : (if (if (ns.length : Int) < 16 then (ns.length : Int) else 16) > 4 then (if (ns.length : Int) < 16 then (ns.length : Int) else 16) else 4) = j
  have hj2 : j ≤ 100 := by rw [← hj]; split <;> split <;> omega
  refine s_forL (fun xs δ S => ∃ t, xs.length + t ≤ 100 ∧ Sta (100000 * t) S ∧ ∃ o2 o3 o4 o5 o6 o7 o8 o9 o10 o11 o12 o13 o14, δ = [some (.lst (ns.map .int)), some (.ptr 1), o2, o3, o4, o5, o6, o7, o8, o9, o10, o11, o12, o13, o14]) ?_ ?_ _ _ _ ⟨0, ?_, h0, _, _, _, _, _, _, _, _, _, _, _, _, _, rfl⟩
  · rintro x xs δ S ⟨t, ht, hs, o2, o3, o4, o5, o6, o7, o8, o9, o10, o11, o12, o13, o14, rfl⟩
    rw [List.length_cons] at ht
    walk_at "3"
    refine (form_spec2 hs (by omega) 5 3 (by decide) (by decide)).mono ?_
    rintro _ S1 ⟨one, rfl, f1, g1, d1⟩
    walk_at "3"
    refine (near_spec g1.sta (by omega) f1 d1).mono ?_
    rintro _ S2 ⟨other, rfl, nr, g2⟩
    have hs2 := g2.sta
    have ok := pl_ok nr
    obtain ⟨L, L1, L2, r1, r2⟩ := nr.ex
    have hs3 : Sta (100000 * t + 20000 + 30000) (S2 ++ [.lst []]) := hs2.app rfl
    walk_at "3"
    with_reducible refine p_range1 ?_
    walk_at "3"
    refine Res.post.of_eq (places_spec nr _ hs3.sane) ?_
    walk_at "3"
    have hsum := ok.sum
    generalize hN : ((plB one other).map (·.2)).sum = N at hsum
    refine ⟨by omega, by omega, ?_⟩
    rw [rangeD_nat]
    refine s_forT (fun i : Nat => D.int (i : Int)) (fun xs δ S3 => ∃ (k : Nat) (Ls : List PP) (o6 o7 o8 : Option D), xs = (List.range N).drop k ∧ k ≤ N ∧ S3 = S2 ++ [.lst (Ls.map toD)] ∧ CntG one other k Ls ∧
      δ = [some (.lst (ns.map .int)), some (.ptr 1), some x, some (toD one), some (toD other), some (.ptr S2.length), o6, o7, o8, o9, o10, o11, o12, o13, o14]) ?_ ?_ _ _ _ ⟨0, [], _, _, _, rfl, Nat.zero_le _, rfl, ⟨(fun _ z => nomatch z), (fun _ _ z => by omega), Nat.le_refl _⟩, rfl⟩
    · rintro y ys δ S3 ⟨k, Ls, o6, o7, o8, ey, hk, rfl, cg, rfl⟩
      obtain ⟨rfl, hlt, ey2⟩ := rng_cons ey
      have hS3 : Sane (S2 ++ [.lst (Ls.map toD)]) := sane_app hs2.sane (emb_closed (κ := PP) _ _)
      have hy : y ≤ 39 := by omega
      obtain ⟨a1, a2⟩ := at_walk r1 nr.l1 hy L1 L2 _ hS3
      obtain ⟨b1, b2⟩ := at_walk r2 nr.l2 hy L1 L2 _ hS3
      have p1 := at_pl r1 nr.l1 hy L1
      have p2 := at_pl r2 nr.l2 hy L1
      have w1 := p1.shw L1 L2
      have w2 := p2.shw L1 L2
      walk_at "3"
      refine Res.post.of_eq a1 ?_
      walk_at "3"
      refine Res.post.of_eq b1 ?_
      walk_at "3"
      refine o_shw w1 ?_
      walk_at "3"
      refine Res.post.of_eq a2 ?_
      walk_at "3"
      refine o_shw w1 ?_
      refine o_neSame w1 ?_
      walk_at "3"
      refine o_shw w2 ?_
      walk_at "3"
      refine Res.post.of_eq b2 ?_
      walk_at "3"
      refine o_shw w2 ?_
      refine o_neSame w2 ?_
      walk_at "3"
      refine o_neEmb (p1.fit L1 L2) (p2.fit L1 L2) (by decide) ?_
      walk_at "3"
      refine ⟨fun hb => ?_, fun hb => ?_⟩
      · have hne : atT one y ≠ atT other y := fun z => by rw [decide_eq_true z] at hb; cases hb
        walk_at "3"
        refine p_append (S0 := S2) (xs := Ls.map toD) (p_var rfl ⟨rfl, rfl, by rw [List.length_map]; have := cg.len; omega, ?_⟩)
        walk_at "3"
        exact ⟨rfl, y + 1, Ls ++ [(atT one y, atT other y)], _, _, _, ey2, by omega, by rw [List.map_append]; rfl, cnt_put cg hne, rfl⟩
      · have he : atT one y = atT other y := by
          rcases Decidable.em (atT one y = atT other y) with z | z
          · exact z
          · rw [decide_eq_false z] at hb; cases hb
        walk_at "3"
        exact ⟨y + 1, Ls, _, _, _, ey2, by omega, rfl, cnt_skip cg he, rfl⟩
    · rintro δ S3 ⟨k, Ls, o6, o7, o8, ey, hk, rfl, cg, rfl⟩
      have hk2 : k = N := by have := rng_nil ey; omega
      subst hk2
      have fa := fit_rc r1 (by decide) (by decide) (by decide) (by have := nr.l1; omega) (by decide) L1 (Nat.le_trans (Nat.mul_le_mul_left _ L2) (by decide +kernel))
      have fb := fit_rc r2 (by decide) (by decide) (by decide) (by have := nr.l2; omega) (by decide) L1 (Nat.le_trans (Nat.mul_le_mul_left _ L2) (by decide +kernel))
      have hsL : Sta (100000 * t + 20000 + 30000) (S2 ++ [.lst (Ls.map toD)]) := hs2.app (emb_closed (κ := PP) _ _)
      have pls : ∀ q ∈ Ls, q.1 ≠ q.2 ∧ Pl4 L q.1 ∧ Pl4 L q.2 := fun q hq => by
        obtain ⟨h1, c, h2, rfl⟩ := cg.all q hq
        exact ⟨h1, at_pl r1 nr.l1 (by omega) L1, at_pl r2 nr.l2 (by omega) L1⟩
      have ebool : decide (one = other) = decide (Ls = []) := by
        by_cases z : Ls = []
        · rw [decide_eq_true z]
          exact decide_eq_true (forms_part ok.nd ok.am1 ok.am2 nr.i1 nr.i2 nr.z1 nr.z2 fun n hn => cg.none z n (by omega))
        · rw [decide_eq_false z]
          refine decide_eq_false fun e => ?_
          obtain ⟨q, hq⟩ := List.exists_mem_of_ne_nil _ z
          obtain ⟨h1, c, _, rfl⟩ := cg.all q hq
          exact h1 (by rw [e])
      walk_at "3"
      refine o_eqEmb fa fb (by decide) ?_
      walk_at "3"
      refine o_eqNone (w := WPL + WPL + 7) get_app (fun q hq => fitE_pair (Pl4.fitE (pls q hq).2.1 L1 L2) (Pl4.fitE (pls q hq).2.2 L1 L2)) ?_
      rw [ebool]
      refine o_neBB ?_
      walk_at "3"
      refine p_cutP ?_
      walk_at "3"
      refine ⟨Ls.map toD, at_drf get_app, ?_⟩
      rw [cut_map]
      refine .inl ⟨_, rfl, ?_⟩
      refine s_forT toD (fun xs δ S3 => (∀ q ∈ xs, q ∈ Ls) ∧ Sta (100000 * t + 20000 + 30000) S3 ∧ ∃ o6 o7 o8 o9 o10 o11 o12 o13 o14, δ = [some (.lst (ns.map .int)), some (.ptr 1), some x, some (toD one), some (toD other), some (.ptr S2.length), o6, o7, o8, o9, o10, o11, o12, o13, o14]) ?_ ?_ _ _ _ ⟨fun q hq => cut_mem hq, hsL, _, _, _, _, _, _, _, _, _, rfl⟩
      · rintro q qs δ S3 ⟨hq, hs3', o6, o7, o8, o9, o10, o11, o12, o13, o14, rfl⟩
        obtain ⟨q1, q2, q3⟩ := pls q (hq q List.mem_cons_self)
        show (gTup _ (.tup [toD q.1, toD q.2]) _ _).post _
        walk_at "2"
        walk_at "2"
        walk_at "2"
        walk_at "2"
        walk_at "2"
        walk_at "2"
        refine (turn2 hs3' q2 q3 L1 L2 q1).mono (fun δ' S' z => ?_) (fun _ _ z => z.elim) (fun _ _ z => z.elim) (fun _ _ z => z.elim)
        obtain ⟨z1, z2, p9, p10, p11, p12, p13, p14, rfl⟩ := z
        exact ⟨fun r hr => hq r (List.mem_cons_of_mem _ hr), z1, _, _, _, _, _, _, _, _, _, rfl⟩
      · rintro δ S3 ⟨hq, hs3', o6, o7, o8, o9, o10, o11, o12, o13, o14, rfl⟩
        exact ⟨t + 1, by omega, hs3'.le (by omega), _, _, _, _, _, _, _, _, _, _, _, _, _, rfl⟩
  · rintro δ S ⟨t, ht, hs, o2, o3, o4, o5, o6, o7, o8, o9, o10, o11, o12, o13, o14, rfl⟩
    walk_at "3"
    exact ⟨rfl, rfl, rfl⟩
  · unfold rangeD
    rw [List.length_map, List.length_range]
    omega
end DL
open PySem PySem.W PyProof.Rows
theorem PySem.Challenge.cw_roundless_k24_whole_unlike_forms_part_holds : PySem.Challenge.rw_roundless_k24_whole_unlike_forms_part.Holds := by
  exact DL.holds_of fun ns h => DL.law_spec ns h
