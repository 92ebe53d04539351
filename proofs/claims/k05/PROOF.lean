import PyProof.Rows.All
import Wide.All
import OpenK.AllK
import Wide.FinOn
import HandS.ForMost
import HandS.ForExc
import HandS.Flow
import HandS.IsInst
import HandS.Wide
import KE.KeyNested
import HandS.TupAny
import HandS.Style
import KE.IntBitsLaws
import HandS.NoneIn
import HandS.StrMore
import HandS.RaiseMore
import PyProof.ListStr
import HandS.More
import HandS.Conv
import HandS.HeadHook2
import HandS.HeadEnd
import HandS.Head0
import HandS.Head1
import HandS.Head2
import HandS.Ends
import KE.IntTextLaws
import PyProof.DictRoadsH
import KE.KDictPairs
import KE.KDictWalk
import KE.DataCmp
import KE.SortData
import HandS.DictTup
import HandS.SetTxt0
import HandS.SetFor
import HandS.TupSets
import KE.KRevSl
import HandS.Zip
import PyProof.Rows.Digits
import PyProof.ReprReads
import KE.KEqDict
import HandS.Finally
import HandS.SortInts
import KE.GoesEnum
import PyProof.Rows.SeqMore
import KE.GoesMore
import KE.GoesZip
import HandS.TupLen
import KE.KDictDisplayH
import HandS.TupMul
import HandS.ExcInit
import HandS.ExcOwn
import HandS.ExcIs
import HandS.ExcField
import HandS.ClsMeth
import HandS.WordsExc
import KE.KExcIs
import PySem.Challenge.RW_roundless_k05_polys_as_texts
import KE.KStateDown
import HandS.HeadHook1
import PyProof.StrLawsRepr
import PyProof.ReprText
import PyProof.StrLawsChain
import PyProof.StrLawsTight
set_option Elab.async false
set_option linter.all false
set_option maxRecDepth 100000
set_option maxHeartbeats 4000000
/-! Data layer, first part: data, results, mirrors of expressions and statements (plain Lean). -/
namespace DL
open PySem PySem.Spec PyProof.Rows L2
/-- a thing as data: what is never changed stands as a whole, what may be changed stands by its number in the store -/
inductive D where
  | non | bl (b : Bool) | int (i : Int) | str (x : Str)
  | tup (xs : List D) | lst (xs : List D) | dct (kvs : List (D × D)) | dcn (kvs : List (D × D))
  | ptr (k : Nat) | fn (x : Str) | ty (n : String) | lck (d : D) | tux (xs : List D) | exc (c : Str) (fs : List (D × D)) | dc0 (d : D)
  deriving Inhabited
abbrev Sl := List (Option D)
abbrev Sto := List D
inductive Res (A : Type) where
  | ok (a : A) (S : Sto)
  | err (c : Str) (fs : List (Str × D)) (S : Sto)
  | stuck
abbrev RE := Sl → Sto → Res D
abbrev RB := Sl → Sto → Res Bool
abbrev RA := Sl → Sto → Res (List D)
abbrev RG := D → Sl → Sto → Res Sl
abbrev Mir := List D → Sto → Res D
inductive Out where
  | nx (δ : Sl) (S : Sto) | rt (d : D) (S : Sto) | bk (δ : Sl) (S : Sto) | ct (δ : Sl) (S : Sto)
  | err (c : Str) (fs : List (Str × D)) (δ : Sl) (S : Sto) | stuck
abbrev RS := Sl → Sto → Out
def Res.bind {A B : Type} (r : Res A) (f : A → Sto → Res B) : Res B := match r with
  | .ok a S => f a S
  | .err c fs S => .err c fs S
  | .stuck => .stuck
def Res.out (δ : Sl) {A : Type} (r : Res A) (f : A → Sto → Out) : Out := match r with
  | .ok a S => f a S
  | .err c fs S => .err c fs δ S
  | .stuck => .stuck
def Res.lift {A : Type} (o : Option A) (S : Sto) : Res A := match o with
  | some a => .ok a S
  | none => .stuck
def deref (S : Sto) : D → D
  | .ptr k => match S.getD k .non with
    | .non => .ptr k
    | .lck d => d
    | d => d
  | d => d
/-! expressions -/
def rVar (i : Nat) : RE := fun δ S => match δ[i]? with
  | some (some d) => .ok d S
  | _ => .stuck
def rC (d : D) : RE := fun _ S => .ok d S
def rUn (g : Sto → D → Option D) (a : RE) : RE := fun δ S => (a δ S).bind fun x S1 => .lift (g S1 x) S1
def rBin (g : Sto → D → D → Option D) (a b : RE) : RE := fun δ S => (a δ S).bind fun x S1 => (b δ S1).bind fun y S2 => .lift (g S2 x y) S2
def rAs (g : Sto → List D → Option D) (a : RA) : RE := fun δ S => (a δ S).bind fun x S1 => .lift (g S1 x) S1
def rNil : RA := fun _ S => .ok [] S
def rCons (a : RE) (b : RA) : RA := fun δ S => (a δ S).bind fun x S1 => (b δ S1).bind fun ys S2 => .ok (x :: ys) S2
def rCall (m : Mir) (a : RA) : RE := fun δ S => (a δ S).bind m
def rIf (c : RB) (a b : RE) : RE := fun δ S => (c δ S).bind fun k S1 => if k then a δ S1 else b δ S1
def rOwn (a : RE) : RE := fun δ S => (a δ S).bind fun d S1 => .ok (.ptr S1.length) (S1 ++ [d])
def rTup (a : RA) : RE := fun δ S => (a δ S).bind fun xs S1 => if xs.length ≤ sizeLine then .ok (.tup xs) S1 else .stuck
def rLst (a : RA) : RE := fun δ S => (a δ S).bind fun xs S1 => if xs.length ≤ sizeLine then .ok (.lst xs) S1 else .stuck
def truth (S : Sto) (d : D) : Option Bool := match deref S d with
  | .non => some false
  | .bl b => some b
  | .int i => some (i != 0)
  | .str y => if y.length ≤ sizeLine then some ((y.length : Int) != 0) else none
  | .tup xs => some (!xs.isEmpty)
  | .lst xs => some (!xs.isEmpty)
  | _ => none
/-! tests -/
def bTru (a : RE) : RB := fun δ S => (a δ S).bind fun x S1 => .lift (truth S1 x) S1
def bAnd (a b : RB) : RB := fun δ S => (a δ S).bind fun k S1 => if k then b δ S1 else .ok false S1
def bOr (a b : RB) : RB := fun δ S => (a δ S).bind fun k S1 => if k then .ok true S1 else b δ S1
def bNot (a : RB) : RB := fun δ S => (a δ S).bind fun k S1 => .ok (!k) S1
/-! and, or, not as values -/
def rAnd (a b : RE) : RE := fun δ S => (a δ S).bind fun x S1 => (Res.lift (truth S1 x) S1).bind fun k S2 => if k then b δ S2 else .ok x S2
def rOr (a b : RE) : RE := fun δ S => (a δ S).bind fun x S1 => (Res.lift (truth S1 x) S1).bind fun k S2 => if k then .ok x S2 else b δ S2
def rNot (a : RE) : RE := fun δ S => (a δ S).bind fun x S1 => (Res.lift (truth S1 x) S1).bind fun k S2 => .ok (.bl (!k)) S2
/-! targets -/
def gName (i : Nat) : RG := fun d δ S => if i < δ.length then .ok (δ.set i (some d)) S else .stuck
def gNil : List D → Sl → Sto → Res Sl := fun ds δ S => match ds with
  | [] => .ok δ S
  | _ => .stuck
def gCons (g : RG) (u : List D → Sl → Sto → Res Sl) : List D → Sl → Sto → Res Sl := fun ds δ S => match ds with
  | d :: r => (g d δ S).bind fun δ1 S1 => u r δ1 S1
  | [] => .stuck
def gTup (u : List D → Sl → Sto → Res Sl) : RG := fun d δ S => match deref S d with
  | .tup ds => u ds δ S
  | .tux ds => u ds δ S
  | _ => .stuck
/-! statements -/
def sNext : RS := fun δ S => .nx δ S
def sSeq (a b : RS) : RS := fun δ S => match a δ S with
  | .nx δ1 S1 => b δ1 S1
  | o => o
def sAsg (e : RE) (g : RG) : RS := fun δ S => (e δ S).out δ fun d S1 => (g d δ S1).out δ fun δ1 S2 => .nx δ1 S2
def sExpr (e : RE) : RS := fun δ S => (e δ S).out δ fun _ S1 => .nx δ S1
def sRet (e : RE) : RS := fun δ S => (e δ S).out δ fun d S1 => .rt d S1
def sIf (c : RB) (a b : RS) : RS := fun δ S => (c δ S).out δ fun k S1 => if k then a δ S1 else b δ S1
def sBreak : RS := fun δ S => .bk δ S
def sCont : RS := fun δ S => .ct δ S
def sNever : RS := fun _ _ => .stuck
def forL (g : RG) (b : RS) : List D → RS
  | [], δ, S => .nx δ S
  | x :: xs, δ, S => (g x δ S).out δ fun δ1 S1 => match b δ1 S1 with
    | .nx δ2 S2 => forL g b xs δ2 S2
    | .ct δ2 S2 => forL g b xs δ2 S2
    | .bk δ2 S2 => .nx δ2 S2
    | o => o
def sFor (it : RA) (g : RG) (b : RS) : RS := fun δ S => (it δ S).out δ fun xs S1 => forL g b xs δ S1
def whileL (c : RB) (b : RS) : Nat → RS
  | 0, _, _ => .stuck
  | n + 1, δ, S => (c δ S).out δ fun k S1 => if k then (match b δ S1 with
    | .nx δ2 S2 => whileL c b n δ2 S2
    | .ct δ2 S2 => whileL c b n δ2 S2
    | .bk δ2 S2 => .nx δ2 S2
    | o => o) else .nx δ S1
def sWhile (fuel : Sl → Sto → Nat) (c : RB) (b : RS) : RS := fun δ S => whileL c b (fuel δ S) δ S
/-- the turns of a list comprehension; δ: the slots without its own names -/
def lcL (g : RG) (t : RB) (e : RE) : List D → Sl → Sto → Res (List D)
  | [], _, S => .ok [] S
  | x :: xs, δ, S => (g x δ S).bind fun δ1 S1 => (t δ1 S1).bind fun k S2 =>
    if k then (e δ1 S2).bind fun y S3 => (lcL g t e xs δ S3).bind fun ys S4 => .ok (y :: ys) S4 else lcL g t e xs δ S2
def wipeD (δ : Sl) : List Nat → Sl
  | [] => δ
  | v :: vs => (wipeD δ vs).set v none
def noErr {A : Type} (r : Res A) : Res A := match r with
  | .err _ _ _ => .stuck
  | r => r
def bYes : RB := fun _ S => .ok true S
def rLc (it : RA) (g : RG) (vs : List Nat) (t : RB) (e : RE) : RE := fun δ S => (it δ S).bind fun xs S1 =>
  (noErr (lcL g t e xs (wipeD δ vs) S1)).bind fun ys S2 => if ys.length ≤ sizeLine then .ok (.lst ys) S2 else .stuck
/-! keys of any depth -/
mutual
def keyN : D → Option NestedKey
  | .non => some .none
  | .bl b => some (.num (if b = true then 1 else 0))
  | .int i => some (.num i)
  | .str x => some (.text x)
  | .tup xs => (keyNs xs).map .tup
  | _ => none
def keyNs : List D → Option (List NestedKey)
  | [] => some []
  | d :: r => match keyN d, keyNs r with
    | some k, some ks => some (k :: ks)
    | _, _ => none
end
/-- a tuple that may be a key -/
def isKeyN (d : D) : Bool := match d with
  | .tup _ => (match keyN d with
    | some k => decide (k.depth ≤ 8)
    | none => false)
  | _ => false
def eqN (a b : D) : Bool := match keyN a, keyN b with
  | some x, some y => NestedKey.beq x y
  | _, _ => false
def lookN : List (D × D) → D → Option D
  | [], _ => none
  | (k, v) :: r, q => if eqN k q then some v else lookN r q
def replN : List (D × D) → D → D → List (D × D)
  | [], _, _ => []
  | (k, v) :: r, q, y => if eqN k q then (k, y) :: replN r q y else (k, v) :: replN r q y
def putN (kvs : List (D × D)) (q y : D) : List (D × D) := if (lookN kvs q).isSome then replN kvs q y else kvs ++ [(q, y)]
def mergeN (kvs more : List (D × D)) : List (D × D) := more.foldl (fun acc kv => putN acc kv.1 kv.2) kvs
/-! ghost steps -/
/-- the object of slot i is changed no more -/
def sFreeze (i : Nat) : RS := fun δ S => match δ[i]? with
  | some (some (.ptr k)) => (match S[k]? with
    | some (.lst ds) => .nx (δ.set i (some (.lst ds))) (S.set k .non)
    | _ => .stuck)
  | _ => .stuck
mutual
/-- nothing in it stands in the store from n on -/
def D.closed (n : Nat) : D → Bool
  | .ptr k => decide (k < n)
  | .tup xs => closedL n xs
  | .lst xs => closedL n xs
  | .dct kvs => closedK n kvs
  | .dcn kvs => closedK n kvs
  | .lck d => D.closed n d
  | .tux xs => closedL n xs
  | .exc _ fs => closedK n fs
  | .dc0 d => D.closed n d
  | _ => true
def closedL (n : Nat) : List D → Bool
  | [] => true
  | d :: r => D.closed n d && closedL n r
def closedK (n : Nat) : List (D × D) → Bool
  | [] => true
  | (k, v) :: r => D.closed n k && D.closed n v && closedK n r
end
/-- a thing of the store that is neither gone nor locked -/
def D.open : D → Bool
  | .non => false
  | .lck _ => false
  | _ => true
def D.owned : D → Bool
  | .lst _ => true
  | .dct _ => true
  | .dcn _ => true
  | _ => false
/-- a thing that a def made and gives away, to be changed further -/
def giveD (n : Nat) (d : D) (S1 : Sto) : Res D := match d with
  | .ptr k => (match S1[k]? with
    | some u => if u.owned && D.closed n u && decide (n ≤ k) && closedL n (S1.take n) then .ok (.ptr n) (S1.take n ++ [u]) else .stuck
    | none => .stuck)
  | _ => .stuck
/-- a def: n slots, its body; what it made itself in the store goes -/
def mDef (n : Nat) (b : RS) : Mir := fun ds S => match b (ds.map some ++ List.replicate (n - ds.length) none) S with
  | .rt d S1 => if D.closed S.length d && closedL S.length (S1.take S.length) then .ok d (S1.take S.length) else giveD S.length d S1
  | .nx _ S1 => if closedL S.length (S1.take S.length) then .ok .non (S1.take S.length) else .stuck
  | .err c fs _ S1 => if closedL S.length (fs.map (·.2)) && closedL S.length (S1.take S.length) then .err c fs (S1.take S.length) else .stuck
  | _ => .stuck
end DL
set_option Elab.async false
set_option linter.all false
set_option maxRecDepth 100000
set_option maxHeartbeats 4000000
set_option autoImplicit false
/-! Data layer: tuples that are made, known to the object. -/
namespace DL
open PySem PySem.Spec PyProof.Rows L2
abbrev Fg := PySem.W.Frag
/-- a tuple without a dict of its own -/
def PlT (K : Fg) (F : Hp) (a : Addr) (xs : List V) : Prop := SqT K F a xs ∧ ((∃ o, F a = some (.frz o (.tup xs)) ∧ o.dict = none) ∨ ∃ o, K.lookup a = some o ∧ o.dict = none)
/-- a tuple that is made at a new place -/
def TLays (H : Hp) (xs : List V) (Q : VK) : Prop := ∀ p, H p = none → ∀ o : Obj, o.dict = none → Q (.ref p) (upd H p (.frz o (.tup xs)))
def tupObj (us : Array Value) : Obj := { cls := .type "tuple", data := .seq us }
theorem tup_frz {P : Program} {w : World} {H : Hp} {h : Heap} {us : List Value} {xs : List V} (z : xs.length ≤ sizeLine) (r : Vals xs us) : ObjOk P w H (h.push (tupObj us.toArray)) h.objs.size (.frz (tupObj us.toArray) (.tup xs)) :=
  ⟨Heap.get?_push_size _ rfl, z, us, r, ⟨_, Heap.get?_push_size _ rfl, rfl, _, rfl⟩⟩
section
variable {X : Cx} {es : List Expr} {pos : Pos} {t : TA}
def tTupP (t : TA) : TE := fun σ H Q => t σ H fun xs H1 => xs.length ≤ sizeLine ∧ TLays H1 xs Q
theorem pe_tupP {x1} (h : PA X es t) : PE X (.Tuple es x1 pos) (tTupP t) := by
  refine ⟨fun pins s σ H Q I hq => ?_⟩
  refine wpAny_Tuple_spliced (thn (h.run pos pins s σ H _ I hq) fun us s1 ⟨xs, H1, I1, r, z, q⟩ => ⟨by rw [← r.length]; exact z, ?_⟩)
  have hf : H1 s1.heap.objs.size = none := I1.hok.fresh (Nat.le_refl _)
  exact ⟨.ref s1.heap.objs.size, upd H1 s1.heap.objs.size (.frz (tupObj us.toArray) (.tup xs)), I1.laid (t' := s1.toks) (fun b u e => Heap.get?_push_of_some _ e) (Nat.le_refl _) (tup_frz z r), rfl, q _ hf _ rfl⟩
theorem call_tuple_ofP : CallR X (.type "tuple") (fun xs H Q => ∃ p ys, xs = [.ref p] ∧ ((SqL X.K H p ys ∧ TLays H ys Q) ∨ (SqT X.K H p ys ∧ Q (.ref p) H))) := by
  intro pins s σ H xs us Q I r h
  obtain ⟨p, ys, rfl, h⟩ := h
  obtain ⟨u, rfl, rx⟩ := vals1 r
  cases rx
  rcases h with ⟨hq, q⟩ | ⟨hq, q⟩
  · obtain ⟨its, r', pl, hz⟩ := I.list hq
    have hlen := r'.length
    refine call_tuple_list pl.isList (fun h' kp => ?_) (by simp only [List.size_toArray] <;> omega)
    have I1 : Inv X pins σ H { s with heap := h' } := I.kept (t' := s.toks) kp
    have I2 : Inv X pins σ (upd H h'.objs.size (.frz (tupObj its.toArray) (.tup ys))) { s with heap := h'.push { cls := .type "tuple", data := .seq its.toArray } } :=
      I1.laid (t' := s.toks) (fun b o e => Heap.get?_push_of_some _ e) (Nat.le_refl _) (tup_frz hz r')
    exact ⟨.ref h'.objs.size, _, I2, rfl, q _ (I1.hok.fresh (Nat.le_refl _)) _ rfl⟩
  · obtain ⟨its, r', pl, hz⟩ := I.tuple hq
    exact call_tuple_same pl ⟨.ref p, H, I, rfl, q⟩
/-- t + u -/
def rCatP (K : Fg) : R2 := fun x y H Q => ∃ a b xs ys, x = .ref a ∧ y = .ref b ∧ SqT K H a xs ∧ SqT K H b ys ∧ xs.length + ys.length ≤ sizeLine ∧
  (xs = [] → Q (.ref b) H) ∧ (xs ≠ [] → ys = [] → Q (.ref a) H) ∧ (xs ≠ [] → ys ≠ [] → TLays H (xs ++ ys) Q)
theorem op_catP : OpR X (binaryOp .Add) (rCatP X.K) := by
  intro pins s σ H x y v u Q I rx ry h
  obtain ⟨a, b, xs, ys, rfl, rfl, ha, hb, hz, q0, q1, q2⟩ := h
  cases rx
  cases ry
  obtain ⟨its, r1, p1, _⟩ := I.tuple ha
  obtain ⟨its2, r2, p2, _⟩ := I.tuple hb
  by_cases hx : xs = []
  · subst hx
    cases r1
    exact cat_tup0 p1 p2 ⟨.ref b, H, I, rfl, q0 rfl⟩
  · refine HT.cat_tup p1 p2 (fun z => hx (r1.nil_iff.mp z)) (fun z => ⟨.ref a, H, I, rfl, q1 hx (r2.nil_iff.mp z)⟩) (fun z => ?_) (by rw [← r1.length, ← r2.length]; exact hz)
    exact ⟨.ref s.heap.objs.size, _, I.laid (t' := s.toks) (o := .frz (tupObj (its ++ its2).toArray) (.tup (xs ++ ys))) (fun b ob q => Heap.get?_push_of_some _ q) (Nat.le_refl _) (tup_frz (by rw [List.length_append]; exact hz) (r1.append r2)), rfl, q2 hx (fun w => z (r2.nil_iff.mpr w)) _ (I.hok.fresh (Nat.le_refl _)) _ rfl⟩
/-- t[lo:hi]: the whole of it is t itself -/
def rSlP (K : Fg) : V → Option Int → Option Int → Hp → VK → Prop := fun x lo hi H Q => ∃ a xs, x = .ref a ∧ SqT K H a xs ∧
  (HT.sIx xs.length 0 lo = 0 ∧ HT.sIx xs.length xs.length hi = xs.length → Q (.ref a) H) ∧ (¬ (HT.sIx xs.length 0 lo = 0 ∧ HT.sIx xs.length xs.length hi = xs.length) → TLays H (cutV xs lo hi) Q)
theorem sl_tupP : SlR X (rSlP X.K) := by
  intro pins s σ H x v vl vu lo hi sl Q I rx hs pl pu h
  obtain ⟨a, xs, rfl, hx, q1, q2⟩ := h
  cases rx
  obtain ⟨its, r, ht, hz⟩ := I.tuple hx
  have hlen : its.toArray.size = xs.length := by rw [List.size_toArray]; exact r.length.symm
  refine ⟨"tuple", _, PyProof.Rows.slot_tuple_getitem.lookup, ht.typeIs, ?_⟩
  by_cases hw : HT.sIx xs.length 0 lo = 0 ∧ HT.sIx xs.length xs.length hi = xs.length
  · exact getItem_tuple_whole ht hs pl pu (by rw [hlen]; exact hw) ⟨.ref a, H, I, rfl, q1 hw⟩
  · refine HT.getItem_tuple_cut ht hs pl pu (by rw [hlen]; exact hw) ?_ (by rw [hlen]; exact hz)
    rw [hlen]
    exact ⟨.ref s.heap.objs.size, _, I.laid (t' := s.toks) (o := .frz (tupObj _) (.tup (cutV xs lo hi))) (fun b ob q => Heap.get?_push_of_some _ q) (Nat.le_refl _) (tup_frz (Nat.le_trans (cutV_length xs lo hi) hz) ((r.drop (HT.sIx xs.length 0 lo)).take (HT.sIx xs.length xs.length hi - HT.sIx xs.length 0 lo))), rfl, q2 hw _ (I.hok.fresh (Nat.le_refl _)) _ rfl⟩
end
end DL
set_option Elab.async false
set_option linter.all false
set_option maxRecDepth 100000
set_option maxHeartbeats 4000000
set_option autoImplicit false
/-! Data layer, second part: what data are in the heap; the judgements. -/
namespace DL
open PySem PySem.Spec PyProof.Rows L2
/-- a dict of one pair, its key None -/
def dz (a : Addr) (o : Obj) (v : V) : HO := .ext fun h => (a == sysModules) = false ∧ h.get? a = some o ∧ o.ExactDict ∧ ∃ (ep : Nat) (e : DictEntry), e.key = .none ∧ RelV v e.val ∧ o.data = .dict #[e] ep
/-- an exception that was caught, at a: of the class cls, its dict -/
def exh (a : Addr) (cls : Value) (d : Option Addr) : HO := .ext fun h => ∃ (oe : Obj) (vs : Array Value), h.get? a = some oe ∧ Zc cls d oe ∧ oe.data = .fields vs
theorem exh_ok {P : Program} {w : World} {H : Hp} {h : Heap} {a : Addr} {cls : Value} {d : Option Addr} {oe : Obj} {vs : Array Value} (e : h.get? a = some oe) (z : Zc cls d oe) (q : oe.data = .fields vs) : ObjOk P w H h a (exh a cls d) :=
  ⟨⟨oe, vs, e, z, q⟩, ⟨oe, e⟩, fun _ _ ⟨o, v, q, r⟩ k => ⟨o, v, k o q, r⟩⟩
def ExFs (F : Hp) (d : Option Addr) (ws : List (Str × V)) : Prop := (d = none ∧ ws = []) ∨ ∃ dd, d = some dd ∧ F dd = some (.xd ws)
inductive DKs : List Key → List D → Prop
  | nil : DKs [] []
  | int {i : Int} {ks : List Key} {ds : List D} : DKs ks ds → DKs (.inl i :: ks) (.int i :: ds)
  | str {x : Str} {ks : List Key} {ds : List D} : DKs ks ds → DKs (.inr x :: ks) (.str x :: ds)
theorem DKs.length : ∀ {ks : List Key} {ds : List D}, DKs ks ds → ks.length = ds.length
  | _, _, .nil => rfl
  | _, _, .int t => by rw [List.length_cons, List.length_cons, DKs.length t]
  | _, _, .str t => by rw [List.length_cons, List.length_cons, DKs.length t]
mutual
inductive DV (wd : World) (K : Fg) (mg : Str → Option Value) (F : Hp) (α : List Addr) : V → D → Prop
  | non : DV wd K mg F α .non .non
  | bl (b : Bool) : DV wd K mg F α (.bl b) (.bl b)
  | int (i : Int) : DV wd K mg F α (.int i) (.int i)
  | str (x : Str) : DV wd K mg F α (.str x) (.str x)
  | tux {a : Addr} {xs : List V} {ds : List D} : SqT K F a xs → DVs wd K mg F α xs ds → DV wd K mg F α (.ref a) (.tux ds)
  | tup {a : Addr} {xs : List V} {ds : List D} : PlT K F a xs → DVs wd K mg F α xs ds → DV wd K mg F α (.ref a) (.tup ds)
  | lst {a : Addr} {xs : List V} {ds : List D} : SqL K F a xs → DVs wd K mg F α xs ds → DV wd K mg F α (.ref a) (.lst ds)
  | ptr {k : Nat} {a : Addr} : α[k]? = some a → DV wd K mg F α (.ref a) (.ptr k)
  | fn {x : Str} {a : Addr} : mg x = some (.ref a) → DV wd K mg F α (.ref a) (.fn x)
  | ty (n : String) : DV wd K mg F α (.ty n) (.ty n)
  | exc {c : Str} {C a : Addr} {d : Option Addr} {ws : List (Str × V)} {fs : List (D × D)} : mg c = some (.ref C) → F a = some (exh a (.ref C) d) → ExFs F d ws → fs.map (·.1) = ws.map (fun p => .str p.1) → DVs wd K mg F α (ws.map (·.2)) (fs.map (·.2)) → DV wd K mg F α (.ref a) (.exc c fs)
  | dc0 {a : Addr} {o : Obj} {v : V} {d : D} : F a = some (dz a o v) → DV wd K mg F α v d → DV wd K mg F α (.ref a) (.dc0 d)
inductive DVs (wd : World) (K : Fg) (mg : Str → Option Value) (F : Hp) (α : List Addr) : List V → List D → Prop
  | nil : DVs wd K mg F α [] []
  | cons {v : V} {d : D} {vs : List V} {ds : List D} : DV wd K mg F α v d → DVs wd K mg F α vs ds → DVs wd K mg F α (v :: vs) (d :: ds)
end
/-- more stands for good -/
def Sub (F F' : Hp) : Prop := ∀ a o, F a = some o → F' a = some o
theorem Sub.refl (F : Hp) : Sub F F := fun _ _ h => h
theorem Sub.trans {F F1 F2 : Hp} (a : Sub F F1) (b : Sub F1 F2) : Sub F F2 := fun x o h => b x o (a x o h)
theorem Sub.sqL {K : Fg} {F F' : Hp} {a : Addr} {xs : List V} (s : Sub F F') (h : SqL K F a xs) : SqL K F' a xs := by
  rcases h with (h | ⟨o, h⟩) | h
  · exact .inl (.inl (s _ _ h))
  · exact .inl (.inr ⟨o, s _ _ h⟩)
  · exact .inr h
theorem Sub.rd {F F' : Hp} {a : Addr} {u : HO} (s : Sub F F') (h : Rd F a u) : Rd F' a u := h.imp (s _ _) fun ⟨o, h⟩ => ⟨o, s _ _ h⟩
theorem Sub.sqT {K : Fg} {F F' : Hp} {a : Addr} {xs : List V} (s : Sub F F') (h : SqT K F a xs) : SqT K F' a xs := by
  rcases h with (h | ⟨o, h⟩) | h
  · exact .inl (.inl (s _ _ h))
  · exact .inl (.inr ⟨o, s _ _ h⟩)
  · exact .inr h
theorem Sub.plT {K : Fg} {F F' : Hp} {a : Addr} {xs : List V} (s : Sub F F') (h : PlT K F a xs) : PlT K F' a xs := ⟨s.sqT h.1, h.2.imp (fun ⟨o, e, q⟩ => ⟨o, s _ _ e, q⟩) id⟩
theorem Sub.new {F : Hp} {a : Addr} {o : HO} (h : F a = none) : Sub F (upd F a o) := fun b u e => by
  have : b ≠ a := fun z => by subst z; rw [h] at e; cases e
  rw [upd_ne this]; exact e
section
variable {wd : World} {K : Fg} {mg : Str → Option Value} {F F' : Hp} {α β : List Addr}
theorem at_app {A : Type} {l m : List A} {k : Nat} {a : A} (h : l[k]? = some a) : (l ++ m)[k]? = some a := by
  obtain ⟨hk, e⟩ := List.getElem?_eq_some_iff.mp h
  rw [List.getElem?_append_left hk]; exact h
mutual
theorem DV.mono {v : V} {d : D} (s : Sub F F') : DV wd K mg F α v d → DV wd K mg F' (α ++ β) v d
  | .non => .non
  | .bl b => .bl b
  | .int i => .int i
  | .str x => .str x
  | .tup h t => .tup (s.plT h) (DVs.mono s t)
  | .tux h t => .tux (s.sqT h) (DVs.mono s t)
  | .lst h t => .lst (s.sqL h) (DVs.mono s t)
  | .ptr h => .ptr (at_app h)
  | .fn h => .fn h
  | .ty n => .ty n
  | .exc h1 h2 h3 h4 h5 => .exc h1 (s _ _ h2) (h3.imp id fun ⟨dd, e, q⟩ => ⟨dd, e, s _ _ q⟩) h4 (DVs.mono s h5)
  | .dc0 h t => .dc0 (s _ _ h) (DV.mono s t)
theorem DVs.mono {vs : List V} {ds : List D} (s : Sub F F') : DVs wd K mg F α vs ds → DVs wd K mg F' (α ++ β) vs ds
  | .nil => .nil
  | .cons h t => .cons (DV.mono s h) (DVs.mono s t)
end
theorem DVs.length : ∀ {vs : List V} {ds : List D}, DVs wd K mg F α vs ds → vs.length = ds.length
  | _, _, .nil => rfl
  | _, _, .cons _ t => by rw [List.length_cons, List.length_cons, DVs.length t]
theorem DVs.get : ∀ {vs : List V} {ds : List D} {i : Nat} {d : D}, DVs wd K mg F α vs ds → ds[i]? = some d → ∃ v, vs[i]? = some v ∧ DV wd K mg F α v d
  | _, _, _, _, .nil, e => by simp at e
  | _, _, 0, _, .cons h _, e => by simp at e; subst e; exact ⟨_, rfl, h⟩
  | _, _, i + 1, d, .cons _ t, e => by
    obtain ⟨v, h1, h2⟩ := DVs.get (i := i) (d := d) t (by simpa using e)
    exact ⟨v, by simpa using h1, h2⟩
theorem DVs.append : ∀ {vs ws : List V} {ds es : List D}, DVs wd K mg F α vs ds → DVs wd K mg F α ws es → DVs wd K mg F α (vs ++ ws) (ds ++ es)
  | _, _, _, _, .nil, s => s
  | _, _, _, _, .cons h t, s => .cons h (DVs.append t s)
theorem DVs.take : ∀ {vs : List V} {ds : List D} (n : Nat), DVs wd K mg F α vs ds → DVs wd K mg F α (vs.take n) (ds.take n)
  | _, _, 0, _ => .nil
  | _, _, _ + 1, .nil => .nil
  | _, _, n + 1, .cons h t => .cons h (DVs.take n t)
theorem DVs.drop : ∀ {vs : List V} {ds : List D} (n : Nat), DVs wd K mg F α vs ds → DVs wd K mg F α (vs.drop n) (ds.drop n)
  | _, _, 0, h => h
  | _, _, _ + 1, .nil => .nil
  | _, _, n + 1, .cons _ t => DVs.drop n t
theorem DVs.set {v : V} {d : D} (h : DV wd K mg F α v d) : ∀ {vs : List V} {ds : List D} (i : Nat), DVs wd K mg F α vs ds → DVs wd K mg F α (vs.set i v) (ds.set i d)
  | _, _, _, .nil => .nil
  | _, _, 0, .cons _ t => .cons h t
  | _, _, i + 1, .cons q t => .cons q (DVs.set h i t)
theorem DVs.eraseIdx : ∀ {vs : List V} {ds : List D} (i : Nat), DVs wd K mg F α vs ds → DVs wd K mg F α (vs.eraseIdx i) (ds.eraseIdx i)
  | _, _, _, .nil => .nil
  | _, _, 0, .cons _ t => t
  | _, _, i + 1, .cons q t => .cons q (DVs.eraseIdx i t)
theorem DVs.reverse {vs : List V} {ds : List D} (h : DVs wd K mg F α vs ds) : DVs wd K mg F α vs.reverse ds.reverse := by
  induction vs generalizing ds with
  | nil => cases h; exact .nil
  | cons v r ih =>
    cases h with
    | cons h t =>
      rw [List.reverse_cons, List.reverse_cons]
      exact DVs.append (ih t) (.cons h .nil)
theorem DVs.ints : ∀ {vs : List V} {ns : List Int}, DVs wd K mg F α vs (ns.map .int) → vs = ns.map .int
  | _, [], h => by cases h; rfl
  | _, n :: r, h => by
    cases h with
    | cons h t => cases h; rw [DVs.ints t]; rfl
theorem DVs.strs : ∀ {vs : List V} {ns : List Str}, DVs wd K mg F α vs (ns.map .str) → vs = ns.map .str
  | _, [], h => by cases h; rfl
  | _, n :: r, h => by
    cases h with
    | cons h t => cases h; rw [DVs.strs t]; rfl
theorem DVs.bls : ∀ {vs : List V} {ns : List Bool}, DVs wd K mg F α vs (ns.map .bl) → vs = ns.map .bl
  | _, [], h => by cases h; rfl
  | _, n :: r, h => by
    cases h with
    | cons h t => cases h; rw [DVs.bls t]; rfl
theorem DVs.of_ints : ∀ ns : List Int, DVs wd K mg F α (ns.map .int) (ns.map .int)
  | [] => .nil
  | n :: r => .cons (.int n) (DVs.of_ints r)
theorem DVs.of_strs : ∀ ns : List Str, DVs wd K mg F α (ns.map .str) (ns.map .str)
  | [] => .nil
  | n :: r => .cons (.str n) (DVs.of_strs r)
end
/-- values beside values -/
def NV : List (NestedKey × Addr × V) → List (NestedKey × Addr × Value) → Prop := Paired fun p q => p.1 = q.1 ∧ p.2.1 = q.2.1 ∧ RelV p.2.2 q.2.2
/-- a dict whose keys are tuples -/
def dN (w : World) (a : Addr) (xs : List (NestedKey × Addr × V)) : HO := .ext fun h => (a == sysModules) = false ∧ xs.length ≤ sizeLine ∧ (xs.map (·.1)).Nodup ∧ ∃ vs, NV xs vs ∧ ∃ o es ep, h.get? a = some o ∧ o.ExactDict ∧ o.data = .dict es ep ∧ es.toList = vs.map (fun x => (⟨x.1.hash w, .ref x.2.1, x.2.2⟩ : DictEntry))
/-- its pairs -/
inductive NVs (wd : World) (K : Fg) (mg : Str → Option Value) (F : Hp) (α : List Addr) : List (NestedKey × Addr × V) → List (D × D) → Prop
  | nil : NVs wd K mg F α [] []
  | cons {nk : NestedKey} {b : Addr} {v : V} {q d : D} {xs : List (NestedKey × Addr × V)} {kvs : List (D × D)} : keyN q = some nk → nk.depth ≤ 8 → DV wd K mg F α (.ref b) q → (∃ ds, q = .tup ds) → DV wd K mg F α v d → NVs wd K mg F α xs kvs → NVs wd K mg F α ((nk, b, v) :: xs) ((q, d) :: kvs)
theorem NVs.mono {wd : World} {K : Fg} {mg : Str → Option Value} {F F' : Hp} {α β : List Addr} {xs : List (NestedKey × Addr × V)} {kvs : List (D × D)} (s : Sub F F') (h : NVs wd K mg F α xs kvs) : NVs wd K mg F' (α ++ β) xs kvs := by
  induction h with
  | nil => exact .nil
  | cons h1 h2 h3 h4 h6 _ ih => exact .cons h1 h2 (h3.mono s) h4 (h6.mono s) ih
/-- the store's object at a is d -/
def Own (wd : World) (K : Fg) (mg : Str → Option Value) (F : Hp) (α : List Addr) (H : Hp) (a : Addr) : D → Prop
  | .lst ds => ∃ xs, H a = some (.lst xs) ∧ DVs wd K mg F α xs ds
  | .dct kvs => ∃ ws : List (Key × V), H a = some (.dK ws) ∧ DKs (ws.map (·.1)) (kvs.map (·.1)) ∧ DVs wd K mg F α (ws.map (·.2)) (kvs.map (·.2))
  | .dcn kvs => ∃ xs, H a = some (dN wd a xs) ∧ NVs wd K mg F α xs kvs
  | .lck (.dct kvs) => ∃ o, ∃ ws : List (Key × V), F a = some (.frz o (.dK ws)) ∧ H a = some (.frz o (.dK ws)) ∧ DKs (ws.map (·.1)) (kvs.map (·.1)) ∧ DVs wd K mg F α (ws.map (·.2)) (kvs.map (·.2))
  | .lck (.dcn kvs) => ∃ o xs, F a = some (.frz o (dN wd a xs)) ∧ H a = some (.frz o (dN wd a xs)) ∧ NVs wd K mg F α xs kvs
  | .non => True
  | _ => False
structure Rel (wd : World) (K : Fg) (mg : Str → Option Value) (α : List Addr) (F H : Hp) (S : Sto) : Prop where
  sub : Sub F H
  len : α.length = S.length
  nd : α.Nodup
  here : ∀ a ∈ α, ∃ o, H a = some o
  own : ∀ (k : Nat) (a : Addr) (d : D), α[k]? = some a → S[k]? = some d → Own wd K mg F α H a d ∧ (d.open = true → F a = none)
/-- what stood and isn't the store's stands -/
structure Stp (α : List Addr) (F H : Hp) (β : List Addr) (F' H' : Hp) : Prop where
  new : ∀ b ∈ β, H b = none
  sub : Sub F F'
  frame : ∀ a o, a ∉ α → H a = some o → H' a = some o
  live : ∀ a, H' a = none → H a = none
  fnew : ∀ a, a ∉ α → F a = none → H a ≠ none → F' a = none
theorem Stp.refl {α : List Addr} {F H : Hp} : Stp α F H [] F H := ⟨(fun _ h => nomatch h), Sub.refl F, fun _ _ _ h => h, fun _ h => h, fun _ _ h _ => h⟩
theorem Stp.trans {α β γ : List Addr} {F H F1 H1 F2 H2 : Hp} (a : Stp α F H β F1 H1) (b : Stp (α ++ β) F1 H1 γ F2 H2) : Stp α F H (β ++ γ) F2 H2 := by
  have fr : ∀ x o, x ∉ α → H x = some o → H2 x = some o := fun x o n e => b.frame x o (fun z => by
    rcases List.mem_append.mp z with z | z
    · exact n z
    · rw [a.new x z] at e; cases e) (a.frame x o n e)
  refine ⟨fun x hx => ?_, a.sub.trans b.sub, fr, fun x h => a.live x (b.live x h), fun x h1 h2 h3 => b.fnew x (fun z => ?_) (a.fnew x h1 h2 h3) fun z => h3 (a.live x z)⟩
  rotate_left
  · rcases List.mem_append.mp z with z | z
    · exact h1 z
    · exact h3 (a.new x z)
  rcases List.mem_append.mp hx with z | z
  · exact a.new x z
  · exact a.live x (b.new x z)
section
variable {wd : World} {K : Fg} {mg : Str → Option Value} {α β : List Addr} {F F' H H' : Hp} {S S' : Sto}
theorem Own.mono {a : Addr} {d : D} (s : Sub F F') (e : H' a = H a) (h : Own wd K mg F α H a d) : Own wd K mg F' (α ++ β) H' a d := by
  cases d with
  | lst ds => obtain ⟨xs, h1, h2⟩ := h; exact ⟨xs, e.trans h1, h2.mono s⟩
  | dct kvs => obtain ⟨ws, h1, h2, h3⟩ := h; exact ⟨ws, e.trans h1, h2, h3.mono s⟩
  | dcn kvs => obtain ⟨ws, h1, h2⟩ := h; exact ⟨ws, e.trans h1, h2.mono s⟩
  | lck u =>
    cases u with
    | dct kvs => obtain ⟨o, ws, h0, h1, h2, h3⟩ := h; exact ⟨o, ws, s _ _ h0, e.trans h1, h2, h3.mono s⟩
    | dcn kvs => obtain ⟨o, ws, h0, h1, h2⟩ := h; exact ⟨o, ws, s _ _ h0, e.trans h1, h2.mono s⟩
    | _ => exact h.elim
  | non => trivial
  | _ => exact h.elim
theorem Rel.notF (r : Rel wd K mg α F H S) {p : Addr} (hp : H p = none) : F p = none := by
  cases e : F p with
  | none => rfl
  | some u => rw [r.sub _ _ e] at hp; cases hp
theorem Rel.notin (r : Rel wd K mg α F H S) {p : Addr} (hp : H p = none) : p ∉ α := fun h => by
  obtain ⟨o, e⟩ := r.here p h
  rw [hp] at e; cases e
theorem upd_some {H : Hp} {p a : Addr} {o u : HO} (hp : H p = none) (e : H a = some u) : upd H p o a = some u := by
  have z : a ≠ p := fun z => by subst z; rw [hp] at e; cases e
  rw [upd_ne z]; exact e
theorem upd_none {H : Hp} {p a : Addr} {o : HO} (h : upd H p o a = none) : H a = none := by
  by_cases z : a = p
  · subst z; rw [upd_same] at h; cases h
  · rw [upd_ne z] at h; exact h
theorem Sub.upd {F H : Hp} {p : Addr} {o : HO} (s : Sub F H) : Sub (upd F p o) (L2.upd H p o) := fun a u e => by
  by_cases z : a = p
  · subst z; rw [upd_same] at e ⊢; exact e
  · rw [upd_ne z] at e ⊢; exact s _ _ e
theorem Stp.ofNew {p : Addr} {o : HO} (hp : H p = none) (sb : Sub F F') (h : ∀ b ∈ β, b = p) (hf : ∀ a, a ≠ p → F a = none → F' a = none) : Stp α F H β F' (upd H p o) :=
  ⟨fun b hb => by rw [h b hb]; exact hp, sb, fun a u _ e => upd_some hp e, fun a e => upd_none e, fun a _ h2 h3 => hf a (fun z => h3 (z ▸ hp)) h2⟩
theorem Rel.other (r : Rel wd K mg α F H S) {p : Addr} {o : HO} (hp : p ∉ α) (hf : F p = none) : Rel wd K mg α F (upd H p o) S := by
  refine ⟨fun a u e => ?_, r.len, r.nd, fun a h => ?_, fun k a d h1 h2 => ?_⟩
  · have z : a ≠ p := fun z => by subst z; rw [hf] at e; cases e
    rw [upd_ne z]; exact r.sub _ _ e
  · have z : a ≠ p := fun z => hp (z ▸ h)
    obtain ⟨u, e⟩ := r.here a h
    exact ⟨u, by rw [upd_ne z]; exact e⟩
  · obtain ⟨h3, h4⟩ := r.own k a d h1 h2
    have z : a ≠ p := fun z => hp (z ▸ List.mem_of_getElem? h1)
    have h5 : Own wd K mg F (α ++ []) (upd H p o) a d := h3.mono (Sub.refl F) (upd_ne z)
    rw [List.append_nil] at h5
    exact ⟨h5, h4⟩
theorem Stp.other (s : Stp α F H β F' H') {p : Addr} {o : HO} (hp : H p = none) : Stp α F H β F' (upd H' p o) := by
  refine ⟨s.new, s.sub, fun a u h e => ?_, fun a e => s.live a (upd_none e), s.fnew⟩
  have z : a ≠ p := fun z => by subst z; rw [hp] at e; cases e
  rw [upd_ne z]; exact s.frame a u h e
/-- a new thing that stands for good -/
theorem Rel.newF (r : Rel wd K mg α F H S) {p : Addr} {o : HO} (hp : H p = none) : Rel wd K mg (α ++ []) (upd F p o) (upd H p o) S ∧ Stp α F H [] (upd F p o) (upd H p o) := by
  have hF := r.notF hp
  have sb : Sub F (upd F p o) := Sub.new hF
  refine ⟨⟨r.sub.upd, by rw [List.append_nil]; exact r.len, by rw [List.append_nil]; exact r.nd, fun a h => ?_, fun k a d h1 h2 => ?_⟩, Stp.ofNew hp sb (fun _ h => nomatch h) fun a z e => by rw [upd_ne z]; exact e⟩
  · rw [List.append_nil] at h
    obtain ⟨u, e⟩ := r.here a h
    exact ⟨u, upd_some hp e⟩
  · rw [List.append_nil] at h1
    obtain ⟨h3, h4⟩ := r.own k a d h1 h2
    have z : a ≠ p := fun z => r.notin hp (z ▸ List.mem_of_getElem? h1)
    exact ⟨h3.mono sb (upd_ne z), fun hd => by rw [upd_ne z]; exact h4 hd⟩
/-- the store's object k is changed -/
theorem Rel.setO (r : Rel wd K mg α F H S) {k : Nat} {a : Addr} {o : HO} {d e : D} (h1 : α[k]? = some a) (h2 : S[k]? = some e) (he : e.open = true) (hd : Own wd K mg F α (upd H a o) a d) :
    Rel wd K mg (α ++ []) F (upd H a o) (S.set k d) ∧ Stp α F H [] F (upd H a o) := by
  obtain ⟨_, q⟩ := r.own k a e h1 h2
  have hF := q he
  have hn := r.nd
  have ha : a ∈ α := List.mem_of_getElem? h1
  refine ⟨⟨fun b u e => ?_, by rw [List.append_nil, List.length_set]; exact r.len, by rw [List.append_nil]; exact r.nd, fun b h => ?_, fun j b u g1 g2 => ?_⟩, ⟨(fun _ h => nomatch h), Sub.refl F, fun b u hb e => ?_, fun b e => upd_none e, fun _ _ h _ => h⟩⟩
  · have z : b ≠ a := fun z => by subst z; rw [hF] at e; cases e
    rw [upd_ne z]; exact r.sub _ _ e
  · rw [List.append_nil] at h
    by_cases z : b = a
    · subst z; exact ⟨_, upd_same⟩
    · obtain ⟨u, e⟩ := r.here b h
      exact ⟨u, by rw [upd_ne z]; exact e⟩
  · rw [List.append_nil] at g1
    by_cases z : j = k
    · subst z
      rw [h1] at g1; cases g1
      rw [List.getElem?_set_self (List.getElem?_eq_some_iff.mp h2).1] at g2
      cases g2
      rw [List.append_nil]
      exact ⟨hd, fun _ => hF⟩
    · rw [List.getElem?_set_ne (Ne.symm z)] at g2
      obtain ⟨h3, h4⟩ := r.own j b u g1 g2
      have y : b ≠ a := fun y => by
        subst y
        exact z ((List.getElem_inj hn).mp ((List.getElem?_eq_some_iff.mp g1).2.trans (List.getElem?_eq_some_iff.mp h1).2.symm))
      exact ⟨h3.mono (Sub.refl F) (upd_ne y), h4⟩
  · have z : b ≠ a := fun z => hb (z ▸ ha)
    rw [upd_ne z]; exact e
end
section
variable {wd : World} {K : Fg} {mg : Str → Option Value} {α β : List Addr} {F F' H H' : Hp} {S S' : Sto}
/-- a thing that stands by itself becomes the store's -/
theorem Rel.adopt (r : Rel wd K mg α F H S) {p : Addr} {d : D} (hp : p ∉ α) (hf : F p = none) (hd : Own wd K mg F α H p d) (hn : d.open = true) : Rel wd K mg (α ++ [p]) F H (S ++ [d]) := by
  have ex : ∃ o, H p = some o := by
    cases d with
    | lst ds => obtain ⟨xs, e, _⟩ := hd; exact ⟨_, e⟩
    | dct kvs => obtain ⟨xs, e, _⟩ := hd; exact ⟨_, e⟩
    | dcn kvs => obtain ⟨xs, e, _⟩ := hd; exact ⟨_, e⟩
    | non => cases hn
    | lck _ => cases hn
    | _ => exact hd.elim
  refine ⟨r.sub, by rw [List.length_append, List.length_append, r.len]; rfl, ?_, fun a h => ?_, fun k a e h1 h2 => ?_⟩
  · refine List.nodup_append.mpr ⟨r.nd, by simp, fun a ha b hb z => ?_⟩
    have : b = p := by simpa using hb
    subst this; subst z
    exact hp ha
  · rcases List.mem_append.mp h with h | h
    · exact r.here a h
    · have : a = p := by simpa using h
      subst this
      exact ex
  · have hk : k < (α ++ [p]).length := (List.getElem?_eq_some_iff.mp h1).1
    by_cases q : k < α.length
    · rw [List.getElem?_append_left q] at h1
      rw [List.getElem?_append_left (by rw [← r.len]; exact q)] at h2
      obtain ⟨h3, h4⟩ := r.own k a e h1 h2
      exact ⟨h3.mono (Sub.refl F) rfl, h4⟩
    · have hk' : k = α.length := by rw [List.length_append] at hk; simp at hk; omega
      subst hk'
      rw [List.getElem?_append_right (Nat.le_refl _), Nat.sub_self] at h1
      rw [r.len, List.getElem?_append_right (Nat.le_refl _), Nat.sub_self] at h2
      simp at h1 h2
      subst h1; subst h2
      exact ⟨hd.mono (Sub.refl F) rfl, fun _ => hf⟩
/-- a thing that stands by itself stands for good -/
theorem Rel.freeze (r : Rel wd K mg α F H S) {p : Addr} {o : HO} (hp : p ∉ α) (hf : F p = none) (ho : H p = some o) : Rel wd K mg α (upd F p o) H S ∧ Sub F (upd F p o) := by
  have sb : Sub F (upd F p o) := Sub.new hf
  refine ⟨⟨fun a u e => ?_, r.len, r.nd, r.here, fun k a d h1 h2 => ?_⟩, sb⟩
  · by_cases z : a = p
    · subst z; rw [upd_same] at e; rw [ho]; exact e
    · rw [upd_ne z] at e; exact r.sub _ _ e
  · obtain ⟨h3, h4⟩ := r.own k a d h1 h2
    have z : a ≠ p := fun z => hp (z ▸ List.mem_of_getElem? h1)
    have h5 : Own wd K mg (upd F p o) (α ++ []) H a d := h3.mono sb rfl
    rw [List.append_nil] at h5
    exact ⟨h5, fun hd => by rw [upd_ne z]; exact h4 hd⟩
end
/-! ### what is wanted of a result -/
def ErrAt (wd : World) (K : Fg) (mg : Str → Option Value) (F : Hp) (α : List Addr) (c : Str) (fs : List (Str × D)) (cls : Value) (dd : Option Addr) (H : Hp) : Prop :=
  mg c = some cls ∧ ((fs = [] ∧ dd = none) ∨ ∃ d xs, dd = some d ∧ F d = some (.xd xs) ∧ xs.map (·.1) = fs.map (·.1) ∧ DVs wd K mg F α (xs.map (·.2)) (fs.map (·.2)))
abbrev RelT (B A : Type) := Hp → List Addr → B → A → Prop
def wp {A B : Type} (wd : World) (K : Fg) (mg : Str → Option Value) (α : List Addr) (F H : Hp) (rel : RelT B A) (r : Res A) (Q : B → Hp → Prop) (W : XK) : Prop := match r with
  | .ok a S' => ∀ b H' β F', Rel wd K mg (α ++ β) F' H' S' → Stp α F H β F' H' → rel F' (α ++ β) b a → Q b H'
  | .err c fs S' => ∀ cls dd H' β F', Rel wd K mg (α ++ β) F' H' S' → Stp α F H β F' H' → ErrAt wd K mg F' (α ++ β) c fs cls dd H' → W cls dd H'
  | .stuck => False
section
variable {A B A' B' : Type} {wd : World} {K : Fg} {mg : Str → Option Value} {α β : List Addr} {F F1 H H1 : Hp} {S : Sto} {rel : RelT B A} {rel' : RelT B' A'} {r : Res A} {Q Q1 : B → Hp → Prop} {Q' : B' → Hp → Prop} {W : XK}
theorem wp.step (st : Stp α F H β F1 H1) (h : wp wd K mg α F H rel r Q W) : wp wd K mg (α ++ β) F1 H1 rel r Q W := by
  cases r with
  | ok a S' => intro b H' γ F' hr hs hv; rw [List.append_assoc] at hr hv; exact h b H' (β ++ γ) F' hr (st.trans hs) hv
  | err c fs S' => intro cls dd H' γ F' hr hs hv; rw [List.append_assoc] at hr hv; exact h cls dd H' (β ++ γ) F' hr (st.trans hs) hv
  | stuck => exact h
theorem wp.bind {f : A → Sto → Res A'} (h : wp wd K mg α F H rel' (r.bind f) Q' W)
    (k : ∀ a S1, r = .ok a S1 → ∀ x H1 β F1, Rel wd K mg (α ++ β) F1 H1 S1 → Stp α F H β F1 H1 → rel F1 (α ++ β) x a → wp wd K mg (α ++ β) F1 H1 rel' (f a S1) Q' W → Q1 x H1) : wp wd K mg α F H rel r Q1 W := by
  cases r with
  | ok a S' => exact fun b H' β F' hr hs hv => k a S' rfl b H' β F' hr hs hv (wp.step hs h)
  | err c fs S' => exact h
  | stuck => exact h
theorem wp.imp (h : wp wd K mg α F H rel r Q W) (k : ∀ b H', Q b H' → Q1 b H') : wp wd K mg α F H rel r Q1 W := by
  cases r with
  | ok a S' => exact fun b H' β F' hr hs hv => k b H' (h b H' β F' hr hs hv)
  | err c fs S' => exact h
  | stuck => exact h
/-- a result that is at hand -/
theorem wp.now {a : A} (h : wp wd K mg α F H rel (.ok a S) Q W) (hr : Rel wd K mg α F H S) {b : B} (hv : rel F α b a) : Q b H := by
  have e : α ++ [] = α := List.append_nil α
  exact h b H [] F (by rw [e]; exact hr) Stp.refl (by rw [e]; exact hv)
theorem wp.lift {o : Option A} (h : wp wd K mg α F H rel (.lift o S) Q W) : ∃ a, o = some a ∧ wp wd K mg α F H rel (.ok a S) Q W := by
  cases o with
  | some a => exact ⟨a, rfl, h⟩
  | none => exact h.elim
end
def Slots (wd : World) (K : Fg) (mg : Str → Option Value) (F : Hp) (α : List Addr) (σ : L2.St) (δ : Sl) : Prop :=
  σ.length = δ.length ∧ ∀ (i : Nat) (d : D), δ[i]? = some (some d) → ∃ v, σ[i]? = some (some v) ∧ DV wd K mg F α v d
theorem Slots.mono {wd : World} {K : Fg} {mg : Str → Option Value} {F F' : Hp} {α β : List Addr} {σ : L2.St} {δ : Sl} (h : Slots wd K mg F α σ δ) (s : Sub F F') : Slots wd K mg F' (α ++ β) σ δ :=
  ⟨h.1, fun i d e => let ⟨v, h1, h2⟩ := h.2 i d e; ⟨v, h1, h2.mono s⟩⟩
theorem Slots.set {wd : World} {K : Fg} {mg : Str → Option Value} {F : Hp} {α : List Addr} {σ : L2.St} {δ : Sl} {i : Nat} {v : V} {d : D} (h : Slots wd K mg F α σ δ) (hv : DV wd K mg F α v d) : Slots wd K mg F α (σ.set i (some v)) (δ.set i (some d)) := by
  refine ⟨by rw [List.length_set, List.length_set]; exact h.1, fun j e g => ?_⟩
  by_cases z : j = i
  · subst z
    have hj : j < δ.length := by
      have := (List.getElem?_eq_some_iff.mp g).1
      rw [List.length_set] at this; exact this
    rw [List.getElem?_set_self hj] at g
    cases g
    exact ⟨v, List.getElem?_set_self (by rw [h.1]; exact hj), hv⟩
  · rw [List.getElem?_set_ne (Ne.symm z)] at g
    rw [List.getElem?_set_ne (Ne.symm z)]
    exact h.2 j e g
def relD (wd : World) (K : Fg) (mg : Str → Option Value) : RelT V D := fun F α v d => DV wd K mg F α v d
def relB : RelT Bool Bool := fun _ _ b a => b = a
def relA (wd : World) (K : Fg) (mg : Str → Option Value) : RelT (List V) (List D) := fun F α v d => DVs wd K mg F α v d
def SndE (wd : World) (K : Fg) (mg : Str → Option Value) (W : WX) (t : TE) (r : RE) : Prop := ∀ α F σ H δ S (Q : VK), Rel wd K mg α F H S → Slots wd K mg F α σ δ → wp wd K mg α F H (relD wd K mg) (r δ S) Q (fun c d H' => W c d σ H') → t σ H Q
def SndB (wd : World) (K : Fg) (mg : Str → Option Value) (W : WX) (t : TT) (r : RB) : Prop := ∀ α F σ H δ S (Q : Bool → Hp → Prop), Rel wd K mg α F H S → Slots wd K mg F α σ δ → wp wd K mg α F H relB (r δ S) Q (fun c d H' => W c d σ H') → t σ H Q
def SndA (wd : World) (K : Fg) (mg : Str → Option Value) (W : WX) (t : TA) (r : RA) : Prop := ∀ α F σ H δ S (Q : List V → Hp → Prop), Rel wd K mg α F H S → Slots wd K mg F α σ δ → wp wd K mg α F H (relA wd K mg) (r δ S) Q (fun c d H' => W c d σ H') → t σ H Q
/-- an expression, a test, arguments by their mirrors -/
structure PD (X : Cx) (W : WX) (e : Expr) (r : RE) : Prop where
  ex : ∃ t, PE X e t ∧ SndE X.w X.K X.mg W t r
structure PB (X : Cx) (W : WX) (e : Expr) (r : RB) : Prop where
  ex : ∃ t, PT X e t ∧ SndB X.w X.K X.mg W t r
structure PBw (X : Cx) (W : WX) (e : Expr) (r : RB) : Prop where
  ex : ∃ t, PW X e t ∧ SndB X.w X.K X.mg W t r
structure PDs (X : Cx) (W : WX) (es : List Expr) (r : RA) : Prop where
  ex : ∃ t, PA X es t ∧ SndA X.w X.K X.mg W t r
  len : ∀ δ S ds S', r δ S = .ok ds S' → ds.length = es.length
section
variable {X : Cx} {W : WX} {a b c e : Expr} {es rest : List Expr} {ra rb rc : RE} {ba bb : RB} {rs : RA} {pos p : Pos}
theorem pd_var (i : Nat) {x : Str} {pos : Pos} (hN : X.N[i]? = some x := by rfl) (hv : Vis X.env.scope x := by first | exact Or.inl rfl | exact Or.inr (Or.inl rfl) | exact Or.inr (Or.inr rfl)) (hd : (x == ("__debug__" : Str)) = false := by decide) (hcd : (x == ("__classdict__" : Str)) = false := by decide) : PD X W (.Name x pos) (rVar i) := by
  refine ⟨tVar i, pe_var hN hv hd hcd, fun α F σ H δ S Q hr hs h => ?_⟩
  unfold rVar at h
  split at h
  · rename_i d e
    obtain ⟨v, h1, h2⟩ := hs.2 i d e
    exact ⟨v, h1, h.now hr h2⟩
  · exact h.elim
theorem pd_c {d : D} {v : V} (h : PE X e (tC v)) (hv : ∀ F α, DV X.w X.K X.mg F α v d) : PD X W e (rC d) := ⟨tC v, h, fun α F σ H δ S Q hr hs h => h.now hr (hv F α)⟩
theorem pd_int {i : Int} {j : Nat} : PD X W (.Constant (.int i) j pos) (rC (.int i)) := pd_c pe_int fun _ _ => .int i
theorem pd_bl {i : Bool} {j : Nat} : PD X W (.Constant (.bool i) j pos) (rC (.bl i)) := pd_c pe_bl fun _ _ => .bl i
theorem pd_non {j : Nat} : PD X W (.Constant .none j pos) (rC .non) := pd_c pe_non fun _ _ => .non
theorem pd_str {x : Str} {j : Nat} : PD X W (.Constant (.str x) j pos) (rC (.str x)) := pd_c pe_str fun _ _ => .str x
/-- a module's constant: an int, a text -/
theorem pd_gi {x : Str} {i : Int} {t : Tok} (hm : X.mg x = some (.int i t)) (hg : Gl X x := by rfl) (hd : (x == ("__debug__" : Str)) = false := by decide) : PD X W (.Name x pos) (rC (.int i)) := pd_c (v := .int i) (pe_glob hg hm ⟨t, rfl⟩ hd) fun _ _ => .int i
theorem pd_gs {x y : Str} {t : Tok} (hm : X.mg x = some (.str y t)) (hg : Gl X x := by rfl) (hd : (x == ("__debug__" : Str)) = false := by decide) : PD X W (.Name x pos) (rC (.str y)) := pd_c (v := .str y) (pe_glob hg hm ⟨t, rfl⟩ hd) fun _ _ => .str y
/-! operators by values -/
def OkG (X : Cx) (r : R2) (g : Sto → D → D → Option D) : Prop := ∀ α F H S (x y : V) (d e z : D) (Q : VK), Rel X.w X.K X.mg α F H S → DV X.w X.K X.mg F α x d → DV X.w X.K X.mg F α y e → g S d e = some z →
  (∀ v H' β F', Rel X.w X.K X.mg (α ++ β) F' H' S → Stp α F H β F' H' → DV X.w X.K X.mg F' (α ++ β) v z → Q v H') → r x y H Q
structure OpG (X : Cx) (f : Value → Value → Sem Value) (g : Sto → D → D → Option D) : Prop where
  ex : ∃ r, OpR X f r ∧ OkG X r g
theorem SndE.bin {wd : World} {K : Fg} {mg : Str → Option Value} {ta tb : TE} {g : Sto → D → D → Option D} {k : V → V → Hp → VK → Prop} (sa : SndE wd K mg W ta ra) (sb : SndE wd K mg W tb rb)
    (hk : ∀ α F H S (x y : V) (d e z : D) (Q : VK), Rel wd K mg α F H S → DV wd K mg F α x d → DV wd K mg F α y e → g S d e = some z →
      (∀ v H' β F', Rel wd K mg (α ++ β) F' H' S → Stp α F H β F' H' → DV wd K mg F' (α ++ β) v z → Q v H') → k x y H Q) :
    SndE wd K mg W (fun σ H Q => ta σ H fun x H1 => tb σ H1 fun y H2 => k x y H2 Q) (rBin g ra rb) := by
  intro α F σ H δ S Q hr hs h
  refine sa α F σ H δ S _ hr hs (wp.bind h fun d S1 _ x H1 β F1 r1 s1 v1 h1 => ?_)
  refine sb (α ++ β) F1 σ H1 δ S1 _ r1 (hs.mono s1.sub) (wp.bind h1 fun e S2 _ y H2 γ F2 r2 s2 v2 h2 => ?_)
  obtain ⟨z, e1, h3⟩ := wp.lift h2
  exact hk (α ++ β ++ γ) F2 H2 S2 x y d e z Q r2 (v1.mono s2.sub) v2 e1 fun v H' ε F' r3 s3 v3 => h3 v H' ε F' r3 s3 v3
theorem pd_bin {op : Operator} {g : Sto → D → D → Option D} (ho : OpG X (binaryOp op) g) (ha : PD X W a ra) (hb : PD X W b rb) : PD X W (.BinOp a op b pos) (rBin g ra rb) := by
  obtain ⟨r, h1, h2⟩ := ho.ex
  obtain ⟨ta, pa, sa⟩ := ha.ex
  obtain ⟨tb, pb, sb⟩ := hb.ex
  exact ⟨_, pe_op h1 pa pb, sa.bin sb h2⟩
theorem pd_cmp {op : CmpOp} {g : Sto → D → D → Option D} (ho : OpG X (compareOp op) g) (ha : PD X W a ra) (hb : PD X W b rb) (hm : behindInMarks op b = false) : PD X W (.Compare a [op] [b] pos) (rBin g ra rb) := by
  obtain ⟨r, h1, h2⟩ := ho.ex
  obtain ⟨ta, pa, sa⟩ := ha.ex
  obtain ⟨tb, pb, sb⟩ := hb.ex
  exact ⟨_, pe_cmpR h1 pa pb hm, sa.bin sb h2⟩
/-- the truth of a True or False -/
def bVal (a : RE) : RB := fun δ S => (a δ S).bind fun x S1 => match x with
  | .bl b => .ok b S1
  | _ => .stuck
theorem SndE.val {wd : World} {K : Fg} {mg : Str → Option Value} {t : TE} (s : SndE wd K mg W t ra) : SndB wd K mg W (tTest t) (bVal ra) := by
  intro α F σ H δ S Q hr hs h
  refine s α F σ H δ S _ hr hs (wp.bind h fun d S1 _ x H1 β F1 r1 s1 v1 h1 => ?_)
  cases d with
  | bl b => cases v1; exact ⟨b, rfl, h1.now r1 rfl⟩
  | _ => exact h1.elim
theorem pb_cmp {op : CmpOp} {g : Sto → D → D → Option D} (ho : OpG X (compareOp op) g) (ha : PD X W a ra) (hb : PD X W b rb) (hm : behindInMarks op b = false) : PB X W (.Compare a [op] [b] pos) (bVal (rBin g ra rb)) := by
  obtain ⟨r, h1, h2⟩ := ho.ex
  obtain ⟨ta, pa, sa⟩ := ha.ex
  obtain ⟨tb, pb, sb⟩ := hb.ex
  exact ⟨_, pt_cmpR h1 pa pb hm, (sa.bin sb h2).val⟩
end
end DL
set_option Elab.async false
set_option linter.all false
set_option maxRecDepth 100000
set_option maxHeartbeats 4000000
set_option autoImplicit false
/-! Data layer, third part: calls, tests, statements, loops, comprehensions, defs. -/
namespace DL
open PySem PySem.Spec PyProof.Rows L2
section
variable {X : Cx} {W : WX} {a b c e : Expr} {es rest : List Expr} {ra rb rc : RE} {ba bb : RB} {rs : RA} {pos p : Pos} {wd : World} {K : Fg} {mg : Str → Option Value}
/-! ### one value -/
theorem SndE.un {ta : TE} {g : Sto → D → Option D} {k : V → Hp → VK → Prop} (sa : SndE wd K mg W ta ra)
    (hk : ∀ α F H S (x : V) (d z : D) (Q : VK), Rel wd K mg α F H S → DV wd K mg F α x d → g S d = some z → (∀ v H' β F', Rel wd K mg (α ++ β) F' H' S → Stp α F H β F' H' → DV wd K mg F' (α ++ β) v z → Q v H') → k x H Q) :
    SndE wd K mg W (fun σ H Q => ta σ H fun x H1 => k x H1 Q) (rUn g ra) := by
  intro α F σ H δ S Q hr hs h
  refine sa α F σ H δ S _ hr hs (wp.bind h fun d S1 _ x H1 β F1 r1 s1 v1 h1 => ?_)
  obtain ⟨z, e1, h3⟩ := wp.lift h1
  exact hk (α ++ β) F1 H1 S1 x d z Q r1 v1 e1 fun v H' ε F' r3 s3 v3 => h3 v H' ε F' r3 s3 v3
/-! ### arguments, displays -/
theorem pds_nil : PDs X W [] rNil := ⟨⟨tNil, pa_nil, fun α F σ H δ S Q hr hs h => h.now hr .nil⟩, fun δ S ds S' h => by cases h; rfl⟩
theorem SndE.cons {te : TE} {t : TA} (s1 : SndE wd K mg W te ra) (s2 : SndA wd K mg W t rs) : SndA wd K mg W (tCons te t) (rCons ra rs) := by
  intro α F σ H δ S Q hr hs h
  refine s1 α F σ H δ S _ hr hs (wp.bind h fun d S1 _ x H1 β F1 r1 q1 v1 h1 => ?_)
  refine s2 (α ++ β) F1 σ H1 δ S1 _ r1 (hs.mono q1.sub) (wp.bind h1 fun e S2 _ y H2 γ F2 r2 q2 v2 h2 => ?_)
  exact h2.now r2 (.cons (v1.mono q2.sub) v2)
theorem pds_cons (ha : PD X W e ra) (hr : PDs X W es rs) (hs : starEach (e :: es) X.env = (false, eval e X.env) :: starEach es X.env := by rfl) : PDs X W (e :: es) (rCons ra rs) := by
  obtain ⟨ta, pa, sa⟩ := ha.ex
  obtain ⟨t, pt, st⟩ := hr.ex
  refine ⟨⟨_, pa_cons pa pt hs, sa.cons st⟩, fun δ S ds S' h => ?_⟩
  unfold rCons at h
  cases q : ra δ S with
  | ok d S1 =>
    rw [q] at h
    have h' : (rs δ S1).bind (fun ys S2 => .ok (d :: ys) S2) = .ok ds S' := h
    cases q2 : rs δ S1 with
    | ok ys S2 =>
      rw [q2] at h'
      have h2 : Res.ok (d :: ys) S2 = .ok ds S' := h'
      cases h2
      rw [List.length_cons, List.length_cons, hr.len _ _ _ _ q2]
    | err c fs S2 => rw [q2] at h'; cases h'
    | stuck => rw [q2] at h'; cases h'
  | err c fs S1 => rw [q] at h; cases h
  | stuck => rw [q] at h; cases h
/-- a new tuple, a new list at p -/
theorem PlT.new {K : Fg} {F : Hp} {p : Addr} {xs : List V} {o : Obj} (h : o.dict = none) : PlT K (upd F p (.frz o (.tup xs))) p xs := ⟨.inl (.inr ⟨o, upd_same⟩), .inl ⟨o, upd_same, h⟩⟩
theorem Rel.tup {α : List Addr} {F H : Hp} {S : Sto} {xs : List V} {ds : List D} (hr : Rel wd K mg α F H S) (hv : DVs wd K mg F α xs ds) {p : Addr} {o : Obj} (hp : H p = none) (ho : o.dict = none) : Rel wd K mg (α ++ []) (upd F p (.frz o (.tup xs))) (upd H p (.frz o (.tup xs))) S ∧ Stp α F H [] (upd F p (.frz o (.tup xs))) (upd H p (.frz o (.tup xs))) ∧ DV wd K mg (upd F p (.frz o (.tup xs))) (α ++ []) (.ref p) (.tup ds) := by
  obtain ⟨h1, h2⟩ := hr.newF (o := .frz o (.tup xs)) hp
  exact ⟨h1, h2, .tup (PlT.new ho) (hv.mono h2.sub)⟩
theorem Rel.lst {α : List Addr} {F H : Hp} {S : Sto} {xs : List V} {ds : List D} (hr : Rel wd K mg α F H S) (hv : DVs wd K mg F α xs ds) {p : Addr} (hp : H p = none) : Rel wd K mg (α ++ []) (upd F p (.lst xs)) (upd H p (.lst xs)) S ∧ Stp α F H [] (upd F p (.lst xs)) (upd H p (.lst xs)) ∧ DV wd K mg (upd F p (.lst xs)) (α ++ []) (.ref p) (.lst ds) := by
  obtain ⟨h1, h2⟩ := hr.newF (o := .lst xs) hp
  exact ⟨h1, h2, .lst (.inl (Rd.of upd_same)) (hv.mono h2.sub)⟩
theorem pd_tup {x1 : Nat} (h : PDs X W es rs) : PD X W (.Tuple es x1 pos) (rTup rs) := by
  obtain ⟨t, pt, st⟩ := h.ex
  refine ⟨_, pe_tupP pt, fun α F σ H δ S Q hr hs h => ?_⟩
  refine st α F σ H δ S _ hr hs (wp.bind h fun ds S1 _ xs H1 β F1 r1 q1 v1 h1 => ?_)
  split at h1
  · rename_i hl
    refine ⟨by rw [v1.length]; exact hl, fun q hq o ho => ?_⟩
    obtain ⟨a1, a2, a3⟩ := r1.tup v1 hq ho
    exact h1 _ _ _ _ a1 a2 a3
  · exact h1.elim
/-- a thing that is made, at p: it may stand for good, or be the store's -/
def wpF (wd : World) (K : Fg) (mg : Str → Option Value) (α : List Addr) (F H : Hp) (r : Res D) (Q : VK) (W : XK) : Prop := match r with
  | .ok d S' => ∀ p H' β F', Rel wd K mg (α ++ β) F' H' S' → Stp α F H β F' H' → H p = none → p ∉ α ++ β → F' p = none → Own wd K mg F' (α ++ β) H' p d → d.open = true → Q (.ref p) H'
  | .err c fs S' => ∀ cls dd H' β F', Rel wd K mg (α ++ β) F' H' S' → Stp α F H β F' H' → ErrAt wd K mg F' (α ++ β) c fs cls dd H' → W cls dd H'
  | .stuck => False
theorem wpF.step {α β : List Addr} {F H F1 H1 : Hp} {r : Res D} {Q : VK} {W : XK} (st : Stp α F H β F1 H1) (h : wpF wd K mg α F H r Q W) : wpF wd K mg (α ++ β) F1 H1 r Q W := by
  cases r with
  | ok d S' =>
    intro p H' γ F' hr hs hp ha hf ho hd
    rw [List.append_assoc] at hr ha ho
    exact h p H' (β ++ γ) F' hr (st.trans hs) (st.live p hp) ha hf ho hd
  | err c fs S' => intro cls dd H' γ F' hr hs hv; rw [List.append_assoc] at hr hv; exact h cls dd H' (β ++ γ) F' hr (st.trans hs) hv
  | stuck => exact h
structure PF (X : Cx) (W : WX) (e : Expr) (r : RE) : Prop where
  ex : ∃ t, PE X e t ∧ ∀ α F σ H δ S (Q : VK), Rel X.w X.K X.mg α F H S → Slots X.w X.K X.mg F α σ δ → wpF X.w X.K X.mg α F H (r δ S) Q (fun c d H' => W c d σ H') → t σ H Q
theorem wpF.bind {A B : Type} {α : List Addr} {F H : Hp} {rel : RelT B A} {r : Res A} {f : A → Sto → Res D} {Q : VK} {Q1 : B → Hp → Prop} {W : XK} (h : wpF wd K mg α F H (r.bind f) Q W)
    (k : ∀ a S1, r = .ok a S1 → ∀ x H1 β F1, Rel wd K mg (α ++ β) F1 H1 S1 → Stp α F H β F1 H1 → rel F1 (α ++ β) x a → wpF wd K mg (α ++ β) F1 H1 (f a S1) Q W → Q1 x H1) : wp wd K mg α F H rel r Q1 W := by
  cases r with
  | ok a S' => exact fun b H' β F' hr hs hv => k a S' rfl b H' β F' hr hs hv (wpF.step hs h)
  | err c fs S' => exact h
  | stuck => exact h
/-- a new list, laid now -/
theorem wpF.lay {α : List Addr} {F H : Hp} {S : Sto} {Q : VK} {W : XK} {p : Addr} {o : HO} {d : D} (h : wpF wd K mg α F H (.ok d S) Q W) (hr : Rel wd K mg α F H S) (hp : H p = none) (ho : Own wd K mg F α (upd H p o) p d) (hd : d.open = true) : Q (.ref p) (upd H p o) := by
  have e : α ++ [] = α := List.append_nil α
  have n := hr.notin hp
  have f := hr.notF hp
  exact h p _ [] F (by rw [e]; exact hr.other n f) (Stp.refl.other hp) hp (by rw [e]; exact n) f (by rw [e]; exact ho) hd
theorem pd_own (h : PF X W e ra) : PD X W e (rOwn ra) := by
  obtain ⟨t, pt, st⟩ := h.ex
  refine ⟨t, pt, fun α F σ H δ S Q hr hs h => st α F σ H δ S Q hr hs ?_⟩
  unfold rOwn at h
  cases q : ra δ S with
  | ok d S' =>
    rw [q] at h
    intro p H' β F' r1 s1 hp ha hf ho hd
    have h2 : wp X.w X.K X.mg α F H (relD X.w X.K X.mg) (.ok (.ptr S'.length) (S' ++ [d])) Q _ := h
    refine h2 (.ref p) H' (β ++ [p]) F' ?_ ⟨fun b hb => ?_, s1.sub, s1.frame, s1.live, s1.fnew⟩ ?_
    · rw [← List.append_assoc]
      exact r1.adopt ha hf ho hd
    · rcases List.mem_append.mp hb with z | z
      · exact s1.new b z
      · have : b = p := by simpa using z
        rw [this]; exact hp
    · rw [← List.append_assoc]
      refine .ptr ?_
      rw [List.getElem?_append_right (by rw [r1.len]; exact Nat.le_refl _), r1.len, Nat.sub_self] <;> rfl
  | err c fs S' => rw [q] at h; exact h
  | stuck => rw [q] at h; exact h
/-- a list that stands for good -/
def rKeep (a : RE) : RE := fun δ S => (a δ S).bind fun d S1 => match d with
  | .lst ds => .ok (.lst ds) S1
  | _ => .stuck
theorem pd_keep (h : PF X W e ra) : PD X W e (rKeep ra) := by
  obtain ⟨t, pt, st⟩ := h.ex
  refine ⟨t, pt, fun α F σ H δ S Q hr hs h => st α F σ H δ S Q hr hs ?_⟩
  unfold rKeep at h
  cases q : ra δ S with
  | ok d S' =>
    rw [q] at h
    intro p H' β F' r1 s1 hp ha hf ho hd
    cases d with
    | lst ds =>
      have h2 : wp X.w X.K X.mg α F H (relD X.w X.K X.mg) (.ok (.lst ds) S') Q _ := h
      obtain ⟨xs, o1, o2⟩ := ho
      obtain ⟨a1, a2⟩ := r1.freeze (o := .lst xs) ha hf o1
      exact h2 (.ref p) H' β (upd F' p (.lst xs)) a1 ⟨s1.new, s1.sub.trans a2, s1.frame, s1.live, fun a g1 g2 g3 => by
        have z : a ≠ p := fun z => g3 (z ▸ hp)
        rw [upd_ne z]; exact s1.fnew a g1 g2 g3⟩ (.lst (.inl (Rd.of upd_same)) (by have := o2.mono (β := []) a2; rw [List.append_nil] at this; exact this))
    | _ => exact (show False from h).elim
  | err c fs S' => rw [q] at h; exact h
  | stuck => rw [q] at h; exact h
theorem pf_lst (h : PDs X W es rs) : PF X W (.List es pos) (rLst rs) := by
  obtain ⟨t, pt, st⟩ := h.ex
  refine ⟨_, pe_lst pt, fun α F σ H δ S Q hr hs h => ?_⟩
  refine st α F σ H δ S _ hr hs (wpF.bind h fun ds S1 _ xs H1 β F1 r1 q1 v1 h1 => ?_)
  split at h1
  · rename_i hl
    refine ⟨by rw [v1.length]; exact hl, fun p hp => h1.lay r1 hp ⟨xs, upd_same, v1⟩ rfl⟩
  · exact h1.elim
/-! ### calls -/
def spD (wd : World) (K : Fg) (mg : Str → Option Value) (n : Nat) (m : Mir) : Sp := fun vs H Q E => vs.length = n ∧ ∃ α F S ds, Rel wd K mg α F H S ∧ DVs wd K mg F α vs ds ∧ wp wd K mg α F H (relD wd K mg) (m ds S) Q E
/-- a def that keeps its promise where no repr is under way -/
structure FnG (P : Program) (w : World) (K : Fg) (mg : Str → Option Value) (base : Heap) (k : Nat) (f : Addr) (fd : FuncData) (ps : List Str) (sp : Sp) : Prop where
  len : ∀ vs H Q E, sp vs H Q E → vs.length = ps.length
  run : ∀ (A : Around) (outer : List Env) (s : Shared) (H : Hp) (args : Args) (us : List Value) (vs : List V) (Q : VK) (E : XK), Room k A → A.guards = some [] → Env0 P w K mg base A outer s H → BindsTo s fd args (ps.zip us) → Vals vs us → sp vs H Q E → codeAny (model P w) A (.call (.ref f) args) (CR (L2.CX P w) outer P w H s Q E) s
theorem FnG.call {k : Nat} {f : Addr} {fd : FuncData} {ps : List Str} {sp : Sp} {pins : List (Addr × Obj)} {σ : L2.St} {H : Hp} {s : Shared} {Q : VK} {us : List Value} {vs : List V} (F : FnG X.prog X.w X.K X.mg X.base k f fd ps sp) (hr : Room k X.A) (hG : X.A.guards = some []) (hb : Binds X.K fd ps []) (tk : Takes X W)
    (I : Inv X pins σ H s) (r : Vals vs us) (h : sp vs H Q (WE W σ)) : wpAny (model X.prog X.w) X.A (call (.ref f) us) (EP X pins σ Q) X.xe s := by
  have hl := r.length.symm.trans (F.len vs H Q _ h)
  have b : BindsTo s fd ⟨us, []⟩ (ps.zip us) := by simpa only [List.append_nil] using hb s us I.kIn (by simpa only [List.append_nil] using hl)
  refine wpAny_call (codeAny_mono (F.run _ _ s H _ us vs Q _ hr hG I.env0 b r h) ?_)
  intro res s' q
  cases res with
  | error e => exact passAt tk σ pins H s e s' I q
  | ok fl => cases fl with
    | ret u => exact I.after q
    | next => exact q.elim
    | brk => exact q.elim
    | cont => exact q.elim
theorem pd_call {x : Str} {m : Mir} {n k : Nat} {f : Addr} {fd : FuncData} {ps : List Str} (F : FnG X.prog X.w X.K X.mg X.base k f fd ps (spD X.w X.K X.mg n m)) (hr : Room k X.A) (hG : X.A.guards = some []) (hm : X.mg x = some (.ref f)) (hk : PySem.W.keepIn X.K (.ref f) = true)
    (hb : Binds X.K fd ps []) (tk : Takes X W) (ha : PDs X W (e :: es) rs) (hl : (e :: es).length = n := by rfl) (hg : Gl X x := by rfl) (hdb : (x == ("__debug__" : Str)) = false := by decide)
    (he : starEach (e :: es) X.env = (false, eval e X.env) :: starEach es X.env := by rfl) (hpl : (backTo pos (starEach es X.env)).any (·.1) = false := by rfl) :
    PD X W (.Call (.Name x p) (e :: es) [] pos) (rCall m rs) := by
  obtain ⟨t, pt, st⟩ := ha.ex
  refine ⟨tCallS (spD X.w X.K X.mg n m) (WE W) t, ⟨fun pins s σ H Q I h => wpAny_Call_Name_kw (ld_glob I hg hm ?_ hdb)⟩, fun α F σ H δ S Q hr hs h => ?_⟩
  · exact PySem.W.callWith_K (h₀ := X.base) I.ok.mod.kin hk (thn (pt.run pos pins s σ H _ I h) fun us s1 ⟨vs, H1, I1, r, q⟩ => ⟨I1.kIn, F.call hr hG hb tk I1 r q⟩) he hpl
  · refine st α F σ H δ S _ hr hs (wp.bind h fun ds S1 e1 xs H1 β F1 r1 q1 v1 h1 => ?_)
    exact ⟨by rw [v1.length, ha.len _ _ _ _ e1]; exact hl, α ++ β, F1, S1, ds, r1, v1, h1⟩
end
end DL
set_option Elab.async false
set_option linter.all false
set_option maxRecDepth 100000
set_option maxHeartbeats 4000000
set_option autoImplicit false
/-! Data layer, fourth part: tests, targets, statements, loops, comprehensions, defs. -/
namespace DL
open PySem PySem.Spec PyProof.Rows L2
section
variable {X : Cx} {W : WX} {a b c e : Expr} {es rest : List Expr} {ra rb rc : RE} {ba bb : RB} {rs : RA} {pos p : Pos} {wd : World} {K : Fg} {mg : Str → Option Value} {α β : List Addr} {F H : Hp} {S : Sto}
/-! ### built-in things by their values -/
def OkC (X : Cx) (r : List V → Hp → VK → Prop) (g : Sto → List D → Option D) : Prop := ∀ α F H S (xs : List V) (ds : List D) (z : D) (Q : VK), Rel X.w X.K X.mg α F H S → DVs X.w X.K X.mg F α xs ds → g S ds = some z →
  (∀ v H' β F', Rel X.w X.K X.mg (α ++ β) F' H' S → Stp α F H β F' H' → DV X.w X.K X.mg F' (α ++ β) v z → Q v H') → r xs H Q
theorem SndA.app {t : TA} {g : Sto → List D → Option D} {k : List V → Hp → VK → Prop} (sa : SndA wd K mg W t rs)
    (hk : ∀ α F H S (xs : List V) (ds : List D) (z : D) (Q : VK), Rel wd K mg α F H S → DVs wd K mg F α xs ds → g S ds = some z → (∀ v H' β F', Rel wd K mg (α ++ β) F' H' S → Stp α F H β F' H' → DV wd K mg F' (α ++ β) v z → Q v H') → k xs H Q) :
    SndE wd K mg W (fun σ H Q => t σ H fun xs H1 => k xs H1 Q) (rAs g rs) := by
  intro α F σ H δ S Q hr hs h
  refine sa α F σ H δ S _ hr hs (wp.bind h fun d S1 _ x H1 β F1 r1 s1 v1 h1 => ?_)
  obtain ⟨z, e1, h3⟩ := wp.lift h1
  exact hk (α ++ β) F1 H1 S1 x d z Q r1 v1 e1 fun v H' ε F' r3 s3 v3 => h3 v H' ε F' r3 s3 v3
/-- a built-in by its name, a class by its name -/
structure BiG (X : Cx) (f : Value) (g : Sto → List D → Option D) : Prop where
  ex : ∃ r, CallR X f r ∧ OkC X r g
theorem pd_callB {x : Str} {id : String} {g : Sto → List D → Option D} (hc : BiG X (.builtin id) g) (hm : X.mg x = none) (ha : PDs X W (e :: es) rs) (hg : Gl X x := by rfl) (hv : bootBuiltins x = some (.builtin id) := by decide +kernel) (hn : x ≠ "__name__" := by decide) (hdb : (x == ("__debug__" : Str)) = false := by decide)
    (he : starEach (e :: es) X.env = (false, eval e X.env) :: starEach es X.env := by rfl) (hpl : (backTo pos (starEach es X.env)).any (·.1) = false := by rfl) : PD X W (.Call (.Name x p) (e :: es) [] pos) (rAs g rs) := by
  obtain ⟨r, h1, h2⟩ := hc.ex
  obtain ⟨t, pt, st⟩ := ha.ex
  exact ⟨_, pe_callB h1 hg hm hv pt hn hdb he hpl, st.app h2⟩
theorem pd_callT {x : Str} {T : String} {g : Sto → List D → Option D} (hc : BiG X (.type T) g) (hm : X.mg x = none) (ha : PDs X W (e :: es) rs) (hg : Gl X x := by rfl) (hv : bootBuiltins x = some (.type T) := by decide +kernel) (hn : x ≠ "__name__" := by decide) (hdb : (x == ("__debug__" : Str)) = false := by decide)
    (he : starEach (e :: es) X.env = (false, eval e X.env) :: starEach es X.env := by rfl) (hpl : (backTo pos (starEach es X.env)).any (·.1) = false := by rfl) : PD X W (.Call (.Name x p) (e :: es) [] pos) (rAs g rs) := by
  obtain ⟨r, h1, h2⟩ := hc.ex
  obtain ⟨t, pt, st⟩ := ha.ex
  exact ⟨_, pe_callTy h1 hg hm hv pt hn hdb he hpl, st.app h2⟩
/-! ### what is seen through the store -/
/-- an owned thing, by what it holds -/
theorem Rel.owned (hr : Rel wd K mg α F H S) {k : Nat} {a : Addr} (h : α[k]? = some a) : S[k]? = some (S.getD k .non) ∧ Own wd K mg F α H a (S.getD k .non) ∧ ((S.getD k .non).open = true → F a = none) := by
  have hk : k < S.length := by rw [← hr.len]; exact (List.getElem?_eq_some_iff.mp h).1
  have e2 : S[k]? = some (S.getD k .non) := by rw [List.getD_eq_getElem?_getD]; simp [hk]
  exact ⟨e2, hr.own k a _ h e2⟩
inductive Seen (wd : World) (K : Fg) (mg : Str → Option Value) (F : Hp) (α : List Addr) (H : Hp) : V → D → Prop
  | at {v : V} {d : D} : DV wd K mg F α v d → (∀ k, d ≠ .ptr k) → Seen wd K mg F α H v d
  | dead {v : V} {k : Nat} : Seen wd K mg F α H v (.ptr k)
  | lst {a : Addr} {xs : List V} {ds : List D} : H a = some (.lst xs) → DVs wd K mg F α xs ds → Seen wd K mg F α H (.ref a) (.lst ds)
  | dct {a : Addr} {ws : List (Key × V)} {kvs : List (D × D)} : Rd H a (.dK ws) → DKs (ws.map (·.1)) (kvs.map (·.1)) → DVs wd K mg F α (ws.map (·.2)) (kvs.map (·.2)) → Seen wd K mg F α H (.ref a) (.dct kvs)
  | dcn {a : Addr} {xs : List (NestedKey × Addr × V)} {kvs : List (D × D)} : Rd H a (dN wd a xs) → NVs wd K mg F α xs kvs → Seen wd K mg F α H (.ref a) (.dcn kvs)
theorem Rel.see (hr : Rel wd K mg α F H S) {v : V} {d : D} (h : DV wd K mg F α v d) : Seen wd K mg F α H v (deref S d) := by
  cases d with
  | ptr k =>
    cases h with
    | ptr h =>
      obtain ⟨_, o, _⟩ := hr.owned h
      unfold deref
      dsimp only
      generalize hd : S.getD k .non = d at o
      cases d with
      | lst ds => obtain ⟨xs, h1, h2⟩ := o; exact .lst h1 h2
      | dct kvs => obtain ⟨ws, h1, h2, h3⟩ := o; exact .dct (.inl h1) h2 h3
      | dcn kvs => obtain ⟨ws, h1, h2⟩ := o; exact .dcn (.inl h1) h2
      | lck u =>
        cases u with
        | dct kvs => obtain ⟨o, ws, h0, h1, h2, h3⟩ := o; exact .dct (.inr ⟨o, h1⟩) h2 h3
        | dcn kvs => obtain ⟨o, ws, h0, h1, h2⟩ := o; exact .dcn (.inr ⟨o, h1⟩) h2
        | _ => exact o.elim
      | non => exact .dead
      | _ => exact o.elim
  | _ => exact .at h (fun k e => by cases e)
theorem Rel.viewL (hr : Rel wd K mg α F H S) {v : V} {d : D} {ds : List D} (h : DV wd K mg F α v d) (e : deref S d = .lst ds) : ∃ a xs, v = .ref a ∧ SqL K H a xs ∧ DVs wd K mg F α xs ds := by
  have s := hr.see h
  rw [e] at s
  cases s with
  | «at» h _ => cases h with | lst q t => exact ⟨_, _, rfl, hr.sub.sqL q, t⟩
  | lst q t => exact ⟨_, _, rfl, .inl (Rd.of q), t⟩
theorem Rel.viewT (hr : Rel wd K mg α F H S) {v : V} {d : D} {ds : List D} (h : DV wd K mg F α v d) (e : deref S d = .tup ds) : ∃ a xs, v = .ref a ∧ SqT K H a xs ∧ DVs wd K mg F α xs ds := by
  have s := hr.see h
  rw [e] at s
  cases s with
  | «at» h _ => cases h with | tup q t => exact ⟨_, _, rfl, hr.sub.sqT q.1, t⟩
theorem Rel.viewX (hr : Rel wd K mg α F H S) {v : V} {d : D} {ds : List D} (h : DV wd K mg F α v d) (e : deref S d = .tux ds) : ∃ a xs, v = .ref a ∧ SqT K H a xs ∧ DVs wd K mg F α xs ds := by
  have s := hr.see h
  rw [e] at s
  cases s with
  | «at» h _ => cases h with | tux q t => exact ⟨_, _, rfl, hr.sub.sqT q, t⟩
theorem Rel.viewI (hr : Rel wd K mg α F H S) {v : V} {d : D} {i : Int} (h : DV wd K mg F α v d) (e : deref S d = .int i) : v = .int i := by
  have s := hr.see h
  rw [e] at s
  cases s with
  | «at» h _ => cases h; rfl
theorem Rel.viewS (hr : Rel wd K mg α F H S) {v : V} {d : D} {i : Str} (h : DV wd K mg F α v d) (e : deref S d = .str i) : v = .str i := by
  have s := hr.see h
  rw [e] at s
  cases s with
  | «at» h _ => cases h; rfl
theorem DVs.isEmpty {xs : List V} {ds : List D} (h : DVs wd K mg F α xs ds) : ds.isEmpty = xs.isEmpty := by cases h <;> rfl
theorem Rel.truV (hr : Rel wd K mg α F H S) {v : V} {d : D} {k : Bool} (h : DV wd K mg F α v d) (e : truth S d = some k) : TruV K v H k := by
  have s := hr.see h
  unfold truth at e
  generalize deref S d = dd at e s
  cases s with
  | «at» h hp =>
    cases h with
    | non => cases e; rfl
    | bl b => cases e; rfl
    | int i => cases e; rfl
    | str x =>
      dsimp only at e
      split at e
      · rename_i hl; cases e; exact ⟨hl, rfl⟩
      · cases e
    | tup q t => cases e; exact .inr (.inl ⟨_, hr.sub.sqT q.1, by rw [t.isEmpty]⟩)
    | tux q t => cases e
    | lst q t => cases e; exact .inl ⟨_, hr.sub.sqL q, by rw [t.isEmpty]⟩
    | ptr _ => exact absurd rfl (hp _)
    | fn _ => cases e
    | ty _ => cases e
    | exc _ _ _ _ _ => cases e
    | dc0 _ _ => cases e
  | dead => cases e
  | lst q t => cases e; exact .inl ⟨_, SqL.of q, by rw [t.isEmpty]⟩
  | dct h k t => cases e
  | dcn h t => cases e
/-! ### tests -/
theorem pb_tru (ha : PD X W a ra) (he : ∀ whole, isTrue a X.env whole = (do let v ← whole; standAt a.pos; holding [v] (truthy v)) := by intro _; rfl) : PB X W a (bTru ra) := by
  obtain ⟨ta, pa, sa⟩ := ha.ex
  refine ⟨_, pt_truth pa he, fun α F σ H δ S Q hr hs h => ?_⟩
  refine sa α F σ H δ S _ hr hs (wp.bind h fun d S1 _ x H1 β F1 r1 s1 v1 h1 => ?_)
  obtain ⟨k, e1, h2⟩ := wp.lift h1
  exact ⟨k, r1.truV v1 e1, h2.now r1 rfl⟩
theorem SndB.and {t u : TT} (s1 : SndB wd K mg W t ba) (s2 : SndB wd K mg W u bb) : SndB wd K mg W (tAnd t u) (bAnd ba bb) := by
  intro α F σ H δ S Q hr hs h
  refine s1 α F σ H δ S _ hr hs (wp.bind h fun d S1 _ x H1 β F1 r1 q1 v1 h1 => ?_)
  have e : x = d := v1
  subst e
  cases x with
  | true => exact s2 (α ++ β) F1 σ H1 δ S1 Q r1 (hs.mono q1.sub) h1
  | false => exact h1.now r1 rfl
theorem SndB.or {t u : TT} (s1 : SndB wd K mg W t ba) (s2 : SndB wd K mg W u bb) : SndB wd K mg W (tOr t u) (bOr ba bb) := by
  intro α F σ H δ S Q hr hs h
  refine s1 α F σ H δ S _ hr hs (wp.bind h fun d S1 _ x H1 β F1 r1 q1 v1 h1 => ?_)
  have e : x = d := v1
  subst e
  cases x with
  | false => exact s2 (α ++ β) F1 σ H1 δ S1 Q r1 (hs.mono q1.sub) h1
  | true => exact h1.now r1 rfl
theorem pw_and1D (ha : PB X W a ba) : PBw X W (.BoolOp .And [a] pos) ba := let ⟨t, h, s⟩ := ha.ex; ⟨t, pw_and1 h, s⟩
theorem pw_or1D (ha : PB X W a ba) : PBw X W (.BoolOp .Or [a] pos) ba := let ⟨t, h, s⟩ := ha.ex; ⟨t, pw_or1 h, s⟩
theorem pw_andD (ha : PB X W a ba) (hb : PBw X W (.BoolOp .And (b :: rest) pos) bb) : PBw X W (.BoolOp .And (a :: b :: rest) pos) (bAnd ba bb) := by
  obtain ⟨t, h1, s1⟩ := ha.ex
  obtain ⟨u, h2, s2⟩ := hb.ex
  exact ⟨_, pw_and h1 h2, s1.and s2⟩
theorem pw_orD (ha : PB X W a ba) (hb : PBw X W (.BoolOp .Or (b :: rest) pos) bb) : PBw X W (.BoolOp .Or (a :: b :: rest) pos) (bOr ba bb) := by
  obtain ⟨t, h1, s1⟩ := ha.ex
  obtain ⟨u, h2, s2⟩ := hb.ex
  exact ⟨_, pw_or h1 h2, s1.or s2⟩
theorem pb_w (h : PBw X W a ba) : PB X W a ba := let ⟨t, p, s⟩ := h.ex; ⟨t, p.pt, s⟩
theorem pb_not (ha : PB X W a ba) : PB X W (.UnaryOp .Not a pos) (bNot ba) := by
  obtain ⟨t, h, s⟩ := ha.ex
  refine ⟨_, pt_not h, fun α F σ H δ S Q hr hs h => ?_⟩
  refine s α F σ H δ S _ hr hs (wp.bind h fun d S1 _ x H1 β F1 r1 q1 v1 h1 => ?_)
  have e : x = d := v1
  subst e
  exact h1.now r1 rfl
/-- a < b <= c -/
def rChain (g g' : Sto → D → D → Option D) (ra rb rc : RE) : RE := fun δ S => (ra δ S).bind fun x S1 => (rb δ S1).bind fun y S2 => (Res.lift (g S2 x y) S2).bind fun z S3 => match z with
  | .bl true => (rc δ S3).bind fun u S4 => .lift (g' S4 y u) S4
  | .bl false => .ok (.bl false) S3
  | _ => .stuck
theorem pd_chain2 {op op' : CmpOp} {g g' : Sto → D → D → Option D} (ho : OpG X (compareOp op) g) (ho' : OpG X (compareOp op') g') (ha : PD X W a ra) (hb : PD X W b rb) (hc : PD X W c rc) (hm : lastMarks [op, op'] [b, c] = false := by with_unfolding_all rfl) :
    PD X W (.Compare a [op, op'] [b, c] pos) (rChain g g' ra rb rc) ∧ PB X W (.Compare a [op, op'] [b, c] pos) (bVal (rChain g g' ra rb rc)) := by
  obtain ⟨r, h1, h2⟩ := ho.ex
  obtain ⟨r', h1', h2'⟩ := ho'.ex
  obtain ⟨ta, pa, sa⟩ := ha.ex
  obtain ⟨tb, pb, sb⟩ := hb.ex
  obtain ⟨tc, pc, sc⟩ := hc.ex
  suffices q : SndE X.w X.K X.mg W (tChain r r' ta tb tc) (rChain g g' ra rb rc) from ⟨⟨_, pe_chain h1 h1' pa pb pc hm, q⟩, ⟨_, pt_chain h1 h1' pa pb pc hm, q.val⟩⟩
  intro α F σ H δ S Q hr hs h
  refine sa α F σ H δ S _ hr hs (wp.bind h fun d S1 _ x H1 β F1 r1 s1 v1 q1 => ?_)
  refine sb (α ++ β) F1 σ H1 δ S1 _ r1 (hs.mono s1.sub) (wp.bind q1 fun e S2 _ y H2 γ F2 r2 s2 v2 q2 => ?_)
  cases eg : g S2 d e with
  | none => rw [eg] at q2; exact q2.elim
  | some z =>
    rw [eg] at q2
    refine h2 (α ++ β ++ γ) F2 H2 S2 x y d e z _ r2 (v1.mono s2.sub) v2 eg fun v H3 ε F3 r3 s3 v3 => ?_
    have q3 := wp.step s3 q2
    cases z with
    | bl k =>
      cases v3
      refine ⟨k, rfl, ?_⟩
      cases k with
      | false => exact q3.now r3 (.bl false)
      | true =>
        refine sc (α ++ β ++ γ ++ ε) F3 σ H3 δ S2 _ r3 (((hs.mono s1.sub).mono s2.sub).mono s3.sub) (wp.bind q3 fun u S4 _ w H4 ζ F4 r4 s4 v4 q4 => ?_)
        obtain ⟨z', e', q5⟩ := wp.lift q4
        exact h2' _ F4 H4 S4 y w e u z' Q r4 ((v2.mono s3.sub).mono s4.sub) v4 e' fun v H' ε F' r3 s3 v3 => q5 v H' ε F' r3 s3 v3
    | _ => exact q3.elim
/-! ### and, or, not, if as values -/
theorem pd_if (hc : PB X W c ba) (ha : PD X W a ra) (hb : PD X W b rb) : PD X W (.IfExp c a b pos) (rIf ba ra rb) := by
  obtain ⟨tc, pc, sc⟩ := hc.ex
  obtain ⟨ta, pa, sa⟩ := ha.ex
  obtain ⟨tb, pb, sb⟩ := hb.ex
  refine ⟨_, pe_ifExp pc pa pb, fun α F σ H δ S Q hr hs h => ?_⟩
  refine sc α F σ H δ S _ hr hs (wp.bind h fun d S1 _ x H1 β F1 r1 q1 v1 h1 => ?_)
  have e : x = d := v1
  subst e
  cases x with
  | true => exact sa (α ++ β) F1 σ H1 δ S1 Q r1 (hs.mono q1.sub) h1
  | false => exact sb (α ++ β) F1 σ H1 δ S1 Q r1 (hs.mono q1.sub) h1
theorem pd_one {op : BoolOp} (ha : PD X W a ra) : PD X W (.BoolOp op [a] pos) ra := let ⟨t, h, s⟩ := ha.ex; ⟨t, pe_one h, s⟩
theorem pd_or (ha : PD X W a ra) (hb : PD X W (.BoolOp .Or (b :: rest) pos) rb) : PD X W (.BoolOp .Or (a :: b :: rest) pos) (rOr ra rb) := by
  obtain ⟨ta, pa, sa⟩ := ha.ex
  obtain ⟨tb, pb, sb⟩ := hb.ex
  refine ⟨_, pe_orT pa pb, fun α F σ H δ S Q hr hs h => ?_⟩
  refine sa α F σ H δ S _ hr hs (wp.bind h fun d S1 _ x H1 β F1 r1 q1 v1 h1 => ?_)
  cases e : truth S1 d with
  | none => rw [e] at h1; exact h1.elim
  | some k =>
    rw [e] at h1
    refine ⟨k, r1.truV v1 e, ?_⟩
    cases k with
    | true => exact h1.now r1 v1
    | false => exact sb (α ++ β) F1 σ H1 δ S1 Q r1 (hs.mono q1.sub) h1
theorem pd_and (ha : PD X W a ra) (hb : PD X W (.BoolOp .And (b :: rest) pos) rb) : PD X W (.BoolOp .And (a :: b :: rest) pos) (rAnd ra rb) := by
  obtain ⟨ta, pa, sa⟩ := ha.ex
  obtain ⟨tb, pb, sb⟩ := hb.ex
  refine ⟨_, pe_andT pa pb, fun α F σ H δ S Q hr hs h => ?_⟩
  refine sa α F σ H δ S _ hr hs (wp.bind h fun d S1 _ x H1 β F1 r1 q1 v1 h1 => ?_)
  cases e : truth S1 d with
  | none => rw [e] at h1; exact h1.elim
  | some k =>
    rw [e] at h1
    refine ⟨k, r1.truV v1 e, ?_⟩
    cases k with
    | false => exact h1.now r1 v1
    | true => exact sb (α ++ β) F1 σ H1 δ S1 Q r1 (hs.mono q1.sub) h1
theorem pd_not (ha : PD X W a ra) : PD X W (.UnaryOp .Not a pos) (rNot ra) := by
  obtain ⟨ta, pa, sa⟩ := ha.ex
  refine ⟨_, pe_notT pa, fun α F σ H δ S Q hr hs h => ?_⟩
  refine sa α F σ H δ S _ hr hs (wp.bind h fun d S1 _ x H1 β F1 r1 q1 v1 h1 => ?_)
  cases e : truth S1 d with
  | none => rw [e] at h1; exact h1.elim
  | some k =>
    rw [e] at h1
    exact ⟨k, r1.truV v1 e, h1.now r1 (.bl _)⟩
end
end DL
set_option Elab.async false
set_option linter.all false
set_option maxRecDepth 100000
set_option maxHeartbeats 4000000
set_option autoImplicit false
/-! Data layer, fifth part: targets, statements, loops, comprehensions, defs. -/
namespace DL
open PySem PySem.Spec PyProof.Rows L2
def relS (wd : World) (K : Fg) (mg : Str → Option Value) : RelT L2.St Sl := fun F α σ δ => Slots wd K mg F α σ δ
def SndG (wd : World) (K : Fg) (mg : Str → Option Value) (W : WX) (t : TG) (g : RG) : Prop := ∀ α F σ H δ S v d (Q : L2.St → Hp → Prop), Rel wd K mg α F H S → Slots wd K mg F α σ δ → DV wd K mg F α v d → wp wd K mg α F H (relS wd K mg) (g d δ S) Q (fun c d H' => W c d σ H') → t v σ H Q
def SndGs (wd : World) (K : Fg) (mg : Str → Option Value) (W : WX) (t : TGs) (g : List D → Sl → Sto → Res Sl) : Prop := ∀ α F σ H δ S v d (Q : L2.St → Hp → Prop), Rel wd K mg α F H S → Slots wd K mg F α σ δ → DVs wd K mg F α v d → wp wd K mg α F H (relS wd K mg) (g d δ S) Q (fun c d H' => W c d σ H') → t v σ H Q
structure PGd (X : Cx) (W : WX) (tg : Expr) (g : RG) : Prop where
  ex : ∃ t, PG X tg t ∧ SndG X.w X.K X.mg W t g
/-- .. that raises nothing -/
structure PGn (X : Cx) (W : WX) (tg : Expr) (g : RG) : Prop where
  pg : PGd X W tg g
  ne : ∀ d δ S c fs S', g d δ S ≠ .err c fs S'
structure PGds (X : Cx) (W : WX) (tg : List Expr) (g : List D → Sl → Sto → Res Sl) : Prop where
  ex : ∃ t, PGs X tg t ∧ SndGs X.w X.K X.mg W t g
  ne : ∀ d δ S c fs S', g d δ S ≠ .err c fs S'
  len : ∀ ds δ S δ' S', g ds δ S = .ok δ' S' → ds.length = tg.length
def wpS (wd : World) (K : Fg) (mg : Str → Option Value) (α : List Addr) (F H : Hp) (o : Out) (E : Ends) (W : WX) : Prop := match o with
  | .nx δ S => ∀ σ' H' β F', Rel wd K mg (α ++ β) F' H' S → Stp α F H β F' H' → Slots wd K mg F' (α ++ β) σ' δ → E.nx σ' H'
  | .rt d S => ∀ v H' β F', Rel wd K mg (α ++ β) F' H' S → Stp α F H β F' H' → DV wd K mg F' (α ++ β) v d → E.rt v H'
  | .bk δ S => ∀ σ' H' β F', Rel wd K mg (α ++ β) F' H' S → Stp α F H β F' H' → Slots wd K mg F' (α ++ β) σ' δ → E.bk σ' H'
  | .ct δ S => ∀ σ' H' β F', Rel wd K mg (α ++ β) F' H' S → Stp α F H β F' H' → Slots wd K mg F' (α ++ β) σ' δ → E.ct σ' H'
  | .err c fs δ S => ∀ cls dd σ' H' β F', Rel wd K mg (α ++ β) F' H' S → Stp α F H β F' H' → Slots wd K mg F' (α ++ β) σ' δ → ErrAt wd K mg F' (α ++ β) c fs cls dd H' → W cls dd σ' H'
  | .stuck => False
def SndS (wd : World) (K : Fg) (mg : Str → Option Value) (W : WX) (t : TS) (r : RS) : Prop := ∀ α F σ H δ S (E : Ends), Rel wd K mg α F H S → Slots wd K mg F α σ δ → wpS wd K mg α F H (r δ S) E W → t E σ H
structure PSd (X : Cx) (W : WX) (st : Stmt) (r : RS) : Prop where
  ex : ∃ t, PS X st t ∧ SndS X.w X.K X.mg W t r
structure PSds (X : Cx) (W : WX) (st : List Stmt) (r : RS) : Prop where
  ex : ∃ t, PSs X st t ∧ SndS X.w X.K X.mg W t r
section
variable {X : Cx} {W : WX} {a b c e : Expr} {es rest : List Expr} {ra rb rc : RE} {ba bb : RB} {rs : RA} {pos p : Pos} {wd : World} {K : Fg} {mg : Str → Option Value} {α β : List Addr} {F F1 H H1 : Hp} {S : Sto}
theorem wpS.step {o : Out} {E : Ends} (st : Stp α F H β F1 H1) (h : wpS wd K mg α F H o E W) : wpS wd K mg (α ++ β) F1 H1 o E W := by
  cases o with
  | nx δ S => intro σ' H' γ F' hr hs hv; rw [List.append_assoc] at hr hv; exact h σ' H' (β ++ γ) F' hr (st.trans hs) hv
  | rt d S => intro σ' H' γ F' hr hs hv; rw [List.append_assoc] at hr hv; exact h σ' H' (β ++ γ) F' hr (st.trans hs) hv
  | bk δ S => intro σ' H' γ F' hr hs hv; rw [List.append_assoc] at hr hv; exact h σ' H' (β ++ γ) F' hr (st.trans hs) hv
  | ct δ S => intro σ' H' γ F' hr hs hv; rw [List.append_assoc] at hr hv; exact h σ' H' (β ++ γ) F' hr (st.trans hs) hv
  | err c fs δ S => intro cls dd σ' H' γ F' hr hs hv q; rw [List.append_assoc] at hr hv q; exact h cls dd σ' H' (β ++ γ) F' hr (st.trans hs) hv q
  | stuck => exact h
theorem wpS.out {A B : Type} {rel : RelT B A} {r : Res A} {δ : Sl} {f : A → Sto → Out} {E : Ends} {Q : B → Hp → Prop} {σ : L2.St} (h : wpS wd K mg α F H (r.out δ f) E W) (hs : Slots wd K mg F α σ δ)
    (k : ∀ a S1, r = .ok a S1 → ∀ x H1 β F1, Rel wd K mg (α ++ β) F1 H1 S1 → Stp α F H β F1 H1 → rel F1 (α ++ β) x a → wpS wd K mg (α ++ β) F1 H1 (f a S1) E W → Q x H1) : wp wd K mg α F H rel r Q (fun c d H' => W c d σ H') := by
  cases r with
  | ok a S' => exact fun b H' β F' hr st hv => k a S' rfl b H' β F' hr st hv (wpS.step st h)
  | err c fs S' => exact fun cls dd H' β F' hr st q => h cls dd σ H' β F' hr st (hs.mono st.sub) q
  | stuck => exact h
theorem wpS.nx {δ : Sl} {E : Ends} {σ : L2.St} (h : wpS wd K mg α F H (.nx δ S) E W) (hr : Rel wd K mg α F H S) (hs : Slots wd K mg F α σ δ) : E.nx σ H := by
  have e : α ++ [] = α := List.append_nil α
  exact h σ H [] F (by rw [e]; exact hr) Stp.refl (by rw [e]; exact hs)
theorem wpS.rt {d : D} {E : Ends} {v : V} (h : wpS wd K mg α F H (.rt d S) E W) (hr : Rel wd K mg α F H S) (hv : DV wd K mg F α v d) : E.rt v H := by
  have e : α ++ [] = α := List.append_nil α
  exact h v H [] F (by rw [e]; exact hr) Stp.refl (by rw [e]; exact hv)
theorem wpS.bk {δ : Sl} {E : Ends} {σ : L2.St} (h : wpS wd K mg α F H (.bk δ S) E W) (hr : Rel wd K mg α F H S) (hs : Slots wd K mg F α σ δ) : E.bk σ H := by
  have e : α ++ [] = α := List.append_nil α
  exact h σ H [] F (by rw [e]; exact hr) Stp.refl (by rw [e]; exact hs)
theorem wpS.ct {δ : Sl} {E : Ends} {σ : L2.St} (h : wpS wd K mg α F H (.ct δ S) E W) (hr : Rel wd K mg α F H S) (hs : Slots wd K mg F α σ δ) : E.ct σ H := by
  have e : α ++ [] = α := List.append_nil α
  exact h σ H [] F (by rw [e]; exact hr) Stp.refl (by rw [e]; exact hs)
/-! ### targets -/
theorem pgd_name (i : Nat) {x : Str} (hN : X.N.Nodup) (hi : X.N[i]? = some x := by rfl) (hx : Loc X.env.scope x := by first | exact Or.inl rfl | exact Or.inr rfl) (hf : X.fn x = true ∨ X.env.scope.names.lookup x = some .local := by first | exact .inl rfl | exact .inr rfl | assumption) : PGn X W (.Name x pos) (gName i) := by
  refine ⟨⟨_, pg_name hN hi hx hf, fun α F σ H δ S v d Q hr hs hv h => ?_⟩, fun d δ S c fs S' h => by unfold gName at h; split at h <;> cases h⟩
  unfold gName at h
  split at h
  · exact h.now hr (hs.set hv)
  · exact h.elim
theorem pgds_nil : PGds X W [] gNil := by
  refine ⟨⟨_, pgs_nil, fun α F σ H δ S v d Q hr hs hv h => ?_⟩, fun d δ S c fs S' h => ?_, fun ds δ S δ' S' h => ?_⟩
  · cases hv with
    | nil => exact ⟨rfl, h.now hr hs⟩
    | cons _ _ => exact h.elim
  · cases d <;> cases h
  · cases ds with
    | nil => rfl
    | cons _ _ => cases h
theorem pgds_cons {g : RG} {u : List D → Sl → Sto → Res Sl} (h1 : PGn X W e g) (h2 : PGds X W es u) (hsy : (assignEach (e :: es) X.env).map (·.2) = assign e X.env :: (assignEach es X.env).map (·.2) := by rfl) : PGds X W (e :: es) (gCons g u) := by
  obtain ⟨t, p1, s1⟩ := h1.pg.ex
  obtain ⟨t', p2, s2⟩ := h2.ex
  refine ⟨⟨_, pgs_cons p1 p2 hsy, fun α F σ H δ S v d Q hr hs hv h => ?_⟩, fun d δ S c fs S' h => ?_, fun ds δ S δ' S' h => ?_⟩
  · cases hv with
    | nil => exact h.elim
    | cons hv ht =>
      rename_i v d vs ds
      refine ⟨v, vs, rfl, s1 α F σ H δ S v d _ hr hs hv (wp.bind h fun δ1 S1 _ σ1 H1 β F1 r1 q1 hs1 h1 => ?_)⟩
      refine s2 (α ++ β) F1 σ1 H1 δ1 S1 vs ds Q r1 hs1 (ht.mono q1.sub) ?_
      cases q : u ds δ1 S1 with
      | ok a S' => rw [q] at h1; exact h1
      | err c fs S' => exact absurd q (h2.ne _ _ _ _ _ _)
      | stuck => rw [q] at h1; exact h1
  · cases d with
    | nil => cases h
    | cons d r =>
      have h' : (g d δ S).bind (fun δ1 S1 => u r δ1 S1) = .err c fs S' := h
      cases q : g d δ S with
      | ok a S1 => rw [q] at h'; exact h2.ne _ _ _ _ _ _ h'
      | err c fs S1 => exact h1.ne _ _ _ _ _ _ q
      | stuck => rw [q] at h'; cases h'
  · cases ds with
    | nil => cases h
    | cons d r =>
      have h' : (g d δ S).bind (fun δ1 S1 => u r δ1 S1) = .ok δ' S' := h
      cases q : g d δ S with
      | ok a S1 => rw [q] at h'; rw [List.length_cons, List.length_cons, h2.len _ _ _ _ _ h']
      | err c fs S1 => rw [q] at h'; cases h'
      | stuck => rw [q] at h'; cases h'
theorem pgn_tup {k : Nat} {u : List D → Sl → Sto → Res Sl} (hc : X.calm = true) (h : PGds X W es u) (hn : (assignEach es X.env).length = es.length := by rfl) (hst : (assignEach es X.env).findIdx? (·.1) = none := by rfl) : PGn X W (.Tuple es k pos) (gTup u) := by
  obtain ⟨t, p1, s1⟩ := h.ex
  refine ⟨⟨_, pg_tup hc p1 hn hst, fun α F σ H δ S v d Q hr hs hv h0 => ?_⟩, fun d δ S c fs S' h0 => ?_⟩
  · unfold gTup at h0
    cases q : deref S d with
    | tup ds =>
      rw [q] at h0
      dsimp only at h0
      obtain ⟨a, xs, e1, e2, e3⟩ := hr.viewT hv q
      have len : ds.length = es.length := by
        cases q2 : u ds δ S with
        | ok δ' S' => exact h.len _ _ _ _ _ q2
        | err c fs S' => exact absurd q2 (h.ne _ _ _ _ _ _)
        | stuck => rw [q2] at h0; exact h0.elim
      exact ⟨a, xs, e1, e2, by rw [e3.length]; exact len, s1 α F σ H δ S xs ds Q hr hs e3 h0⟩
    | tux ds =>
      rw [q] at h0
      dsimp only at h0
      obtain ⟨a, xs, e1, e2, e3⟩ := hr.viewX hv q
      have len : ds.length = es.length := by
        cases q2 : u ds δ S with
        | ok δ' S' => exact h.len _ _ _ _ _ q2
        | err c fs S' => exact absurd q2 (h.ne _ _ _ _ _ _)
        | stuck => rw [q2] at h0; exact h0.elim
      exact ⟨a, xs, e1, e2, by rw [e3.length]; exact len, s1 α F σ H δ S xs ds Q hr hs e3 h0⟩
    | _ => rw [q] at h0; exact h0.elim
  · unfold gTup at h0
    cases q : deref S d with
    | tup ds => rw [q] at h0; exact h.ne _ _ _ _ _ _ h0
    | tux ds => rw [q] at h0; exact h.ne _ _ _ _ _ _ h0
    | _ => rw [q] at h0; cases h0
/-! ### statements -/
theorem psds_nil : PSds X W [] sNext := ⟨_, pss_nil, fun α F σ H δ S E hr hs h => h.nx hr hs⟩
theorem psds_cons {st : Stmt} {sts : List Stmt} {r u : RS} (h1 : PSd X W st r) (h2 : PSds X W sts u) : PSds X W (st :: sts) (sSeq r u) := by
  obtain ⟨t, p1, s1⟩ := h1.ex
  obtain ⟨t', p2, s2⟩ := h2.ex
  refine ⟨_, pss_cons p1 p2, fun α F σ H δ S E hr hs h => ?_⟩
  refine s1 α F σ H δ S _ hr hs ?_
  unfold sSeq at h
  cases q : r δ S with
  | nx δ1 S1 =>
    rw [q] at h
    exact fun σ' H' β F' r1 q1 hs1 => s2 (α ++ β) F' σ' H' δ1 S1 E r1 hs1 (wpS.step q1 h)
  | rt d S1 => rw [q] at h; exact h
  | bk δ S1 => rw [q] at h; exact h
  | ct δ S1 => rw [q] at h; exact h
  | err c fs δ S1 => rw [q] at h; exact h
  | stuck => rw [q] at h; exact h
theorem psds_one {st : Stmt} {r : RS} (h1 : PSd X W st r) : PSds X W [st] r := let ⟨t, p, s⟩ := h1.ex; ⟨t, pss_one p, s⟩
theorem psd_never {st : Stmt} : PSd X W st sNever := ⟨_, ps_never, fun α F σ H δ S E hr hs h => h⟩
theorem psd_expr (ha : PD X W e ra) (hsw : swapsWith e none pos.line X.env = pure false := by rfl) : PSd X W (.Expr e pos) (sExpr ra) := by
  obtain ⟨t, p1, s1⟩ := ha.ex
  refine ⟨_, ps_expr p1 hsw, fun α F σ H δ S E hr hs h => ?_⟩
  exact s1 α F σ H δ S _ hr hs (wpS.out h hs fun d S1 _ x H1 β F1 r1 q1 v1 h1 => h1.nx r1 (hs.mono q1.sub))
theorem psd_ret (ha : PD X W e ra) : PSd X W (.Return (some e) pos) (sRet ra) := by
  obtain ⟨t, p1, s1⟩ := ha.ex
  refine ⟨_, ps_ret p1, fun α F σ H δ S E hr hs h => ?_⟩
  exact s1 α F σ H δ S _ hr hs (wpS.out h hs fun d S1 _ x H1 β F1 r1 q1 v1 h1 => h1.rt r1 v1)
theorem psd_if {p q : List Stmt} {t u : RS} (hc : PB X W c ba) (ha : PSds X W p t) (hb : PSds X W q u) : PSd X W (.If c p q pos) (sIf ba t u) := by
  obtain ⟨tc, p0, s0⟩ := hc.ex
  obtain ⟨t', p1, s1⟩ := ha.ex
  obtain ⟨u', p2, s2⟩ := hb.ex
  refine ⟨_, ps_if p0 p1 p2, fun α F σ H δ S E hr hs h => ?_⟩
  refine s0 α F σ H δ S _ hr hs (wpS.out h hs fun d S1 _ x H1 β F1 r1 q1 v1 h1 => ?_)
  have e : x = d := v1
  subst e
  cases x with
  | true => exact s1 (α ++ β) F1 σ H1 δ S1 E r1 (hs.mono q1.sub) h1
  | false => exact s2 (α ++ β) F1 σ H1 δ S1 E r1 (hs.mono q1.sub) h1
theorem psd_asg {tg : Expr} {g : RG} (he : PD X W e ra) (hg : PGd X W tg g) (hsw : swapsWithSole [tg] e pos.line X.env = pure false := by rfl) (hw : swappedStores [tg] e X.env = pure none := by rfl) (h1 : (assignEach [tg] X.env).map (·.2) = [assign tg X.env] := by rfl) : PSd X W (.Assign [tg] e pos) (sAsg ra g) := by
  obtain ⟨t, p1, s1⟩ := he.ex
  obtain ⟨tg', p2, s2⟩ := hg.ex
  refine ⟨_, ps_asg p1 p2 hsw hw h1, fun α F σ H δ S E hr hs h => ?_⟩
  refine s1 α F σ H δ S _ hr hs (wpS.out h hs fun d S1 _ x H1 β F1 r1 q1 v1 h1 => ?_)
  refine s2 (α ++ β) F1 σ H1 δ S1 x d _ r1 (hs.mono q1.sub) v1 (wpS.out h1 (hs.mono q1.sub) fun δ1 S2 _ σ1 H2 γ F2 r2 q2 v2 h2 => ?_)
  exact h2.nx r2 v2
/-! ### loops -/
/-- J walks ds, whatever else is laid -/
structure ItOk (wd : World) (K : Fg) (mg : Str → Option Value) (F : Hp) (α : List Addr) (J : It) (ds : List D) : Prop where
  go : ∀ (F' H' : Hp) (i : Nat), Sub F F' → Sub F' H' → i < ds.length → J.go i H'
  stop : ∀ (F' H' : Hp), Sub F F' → Sub F' H' → J.stop ds.length H'
  yld : ∀ (F' H' H2 : Hp) (i : Nat) (x : V) (d : D), Sub F F' → Sub F' H' → ds[i]? = some d → J.yld i H' x H2 → (H2 = H' ∧ DV wd K mg F' α x d) ∨ ∃ T o, H' T = none ∧ H2 = upd H' T o ∧ DV wd K mg (upd F' T o) α x d
theorem ItOk.mono {J : It} {ds : List D} (h : ItOk wd K mg F α J ds) (s : Sub F F1) : ItOk wd K mg F1 (α ++ β) J ds where
  go := fun F' H' i a b => h.go F' H' i (s.trans a) b
  stop := fun F' H' a b => h.stop F' H' (s.trans a) b
  yld := fun F' H' H2 i x d a b c q => (h.yld F' H' H2 i x d (s.trans a) b c q).imp (fun ⟨z, y⟩ => ⟨z, y.mono (Sub.refl _)⟩) fun ⟨T, o, z1, z2, y⟩ => ⟨T, o, z1, z2, y.mono (Sub.refl _)⟩
def relI (wd : World) (K : Fg) (mg : Str → Option Value) : RelT It (List D) := fun F α J ds => ItOk wd K mg F α J ds
def SndI (wd : World) (K : Fg) (mg : Str → Option Value) (W : WX) (t : TI) (r : RA) : Prop := ∀ α F σ H δ S (Q : It → Hp → Prop), Rel wd K mg α F H S → Slots wd K mg F α σ δ → wp wd K mg α F H (relI wd K mg) (r δ S) Q (fun c d H' => W c d σ H') → t σ H Q
structure PId (X : Cx) (W : WX) (tg iter : Expr) (r : RA) : Prop where
  ex : ∃ t, PI X tg iter t ∧ SndI X.w X.K X.mg W t r
/-- the item that came -/
theorem ItOk.came {J : It} {ds : List D} {H2 : Hp} {i : Nat} {x : V} {d : D} (h : ItOk wd K mg F α J ds) (hr : Rel wd K mg α F H S) (hd : ds[i]? = some d) (q : J.yld i H x H2) :
    ∃ F2, Rel wd K mg (α ++ []) F2 H2 S ∧ Stp α F H [] F2 H2 ∧ DV wd K mg F2 (α ++ []) x d := by
  rcases h.yld F H H2 i x d (Sub.refl F) hr.sub hd q with ⟨e, v⟩ | ⟨T, o, e1, e2, v⟩
  · subst e
    refine ⟨F, ?_, Stp.refl, v.mono (Sub.refl F)⟩
    rw [List.append_nil]; exact hr
  · subst e2
    obtain ⟨a1, a2⟩ := hr.newF (o := o) e1
    exact ⟨_, a1, a2, v.mono (Sub.refl _)⟩
theorem drop_cons {A : Type} {l : List A} {i : Nat} {d : A} (h : l[i]? = some d) : l.drop i = d :: l.drop (i + 1) := by
  obtain ⟨hi, e⟩ := List.getElem?_eq_some_iff.mp h
  rw [List.drop_eq_getElem_cons hi, e]
theorem psd_for {tg iter : Expr} {body : List Stmt} {ri : RA} {g : RG} {r : RS} (hp : PassesOwn (model X.prog X.w) X.A X.env X.xe) (hc : X.calm = true) (hi : PId X W tg iter ri) (hg : PGd X W tg g) (hb : PSds X W body r) (hsx : ∀ x, foldedSetIterable iter X.env x = pure x := by intro _; rfl) : PSd X W (.For tg iter body [] pos) (sFor ri g r) := by
  obtain ⟨ti, p1, s1⟩ := hi.ex
  obtain ⟨tg', p2, s2⟩ := hg.ex
  obtain ⟨tb, p3, s3⟩ := hb.ex
  refine ⟨_, ps_for hp hc p1 p2 p3 hsx, fun α F σ H δ S E hr hs h => ?_⟩
  refine s1 α F σ H δ S _ hr hs (wpS.out h hs fun ds S1 _ J H1 β F1 r1 q1 v1 h1 => ?_)
  have v1 : ItOk X.w X.K X.mg F1 (α ++ β) J ds := v1
  refine ⟨fun i m σ' H' => i + m = ds.length ∧ ∃ γ F' δ' S', Rel X.w X.K X.mg (α ++ β ++ γ) F' H' S' ∧ Sub F1 F' ∧ Slots X.w X.K X.mg F' (α ++ β ++ γ) σ' δ' ∧ wpS X.w X.K X.mg (α ++ β ++ γ) F' H' (forL g r (ds.drop i) δ' S') E W, ⟨ds.length, by omega, [], F1, δ, S1, ?_⟩, fun i m σ' H' ⟨hm, γ, F', δ', S', r2, sb, hs2, h2⟩ => ?_⟩
  · rw [List.append_nil]
    exact ⟨r1, Sub.refl _, hs.mono q1.sub, h1⟩
  · have v2 : ItOk X.w X.K X.mg F' (α ++ β ++ γ) J ds := v1.mono sb
    by_cases hlt : i < ds.length
    · obtain ⟨d, hd⟩ : ∃ d, ds[i]? = some d := ⟨_, List.getElem?_eq_getElem hlt⟩
      refine .inr ⟨v2.go F' H' i (Sub.refl _) r2.sub hlt, fun σ2 H2 => ∃ γ F' δ' S', Rel X.w X.K X.mg (α ++ β ++ γ) F' H2 S' ∧ Sub F1 F' ∧ Slots X.w X.K X.mg F' (α ++ β ++ γ) σ2 δ' ∧ wpS X.w X.K X.mg (α ++ β ++ γ) F' H2 (forL g r (ds.drop (i + 1)) δ' S') E W, fun σ2 H2 z => ⟨m - 1, by omega, by omega, z⟩, fun x H2 hy => ?_⟩
      obtain ⟨F2, r3, q3, v3⟩ := v2.came r2 hd hy
      rw [drop_cons hd] at h2
      have h3 := wpS.step q3 h2
      refine s2 (α ++ β ++ γ ++ []) F2 σ' H2 δ' S' x d _ r3 (hs2.mono q3.sub) v3 (wpS.out h3 (hs2.mono q3.sub) fun δ1 S2 _ σ1 H3 ε F3 r4 q4 v4 h4 => ?_)
      refine s3 (α ++ β ++ γ ++ [] ++ ε) F3 σ1 H3 δ1 S2 _ r4 v4 ?_
      have sb3 : Sub F1 F3 := (sb.trans q3.sub).trans q4.sub
      have ass : ∀ ζ : List Addr, α ++ β ++ γ ++ [] ++ ε ++ ζ = α ++ β ++ (γ ++ ε ++ ζ) := fun ζ => by simp [List.append_assoc]
      cases q : r δ1 S2 with
      | nx δ2 S3 =>
        rw [q] at h4
        intro σ4 H4 ζ F4 r5 q5 v5
        have h5 := wpS.step q5 h4
        rw [ass] at r5 v5 h5
        exact ⟨_, F4, δ2, S3, r5, sb3.trans q5.sub, v5, h5⟩
      | ct δ2 S3 =>
        rw [q] at h4
        intro σ4 H4 ζ F4 r5 q5 v5
        have h5 := wpS.step q5 h4
        rw [ass] at r5 v5 h5
        exact ⟨_, F4, δ2, S3, r5, sb3.trans q5.sub, v5, h5⟩
      | bk δ2 S3 => rw [q] at h4; exact h4
      | rt d S3 => rw [q] at h4; exact h4
      | err c fs δ2 S3 => rw [q] at h4; exact h4
      | stuck => rw [q] at h4; exact h4
    · have e : i = ds.length := by omega
      subst e
      refine .inl ⟨v2.stop F' H' (Sub.refl _) r2.sub, ?_⟩
      rw [List.drop_length] at h2
      exact wpS.nx h2 r2 hs2
theorem psd_while {c : Expr} {body : List Stmt} {r : RS} (fuel : Sl → Sto → Nat) (hp : PassesOwn (model X.prog X.w) X.A X.env X.xe) (hcd : PB X W c ba) (hb : PSds X W body r) : PSd X W (.While c body [] pos) (sWhile fuel ba r) := by
  obtain ⟨tc, p1, s1⟩ := hcd.ex
  obtain ⟨tb, p3, s3⟩ := hb.ex
  refine ⟨_, ps_while hp p1 p3, fun α F σ H δ S E hr hs h => ?_⟩
  refine ⟨fun m σ' H' => ∃ γ F' δ' S', Rel X.w X.K X.mg (α ++ γ) F' H' S' ∧ Slots X.w X.K X.mg F' (α ++ γ) σ' δ' ∧ wpS X.w X.K X.mg (α ++ γ) F' H' (whileL ba r m δ' S') E W, ⟨fuel δ S, [], F, δ, S, ?_⟩, fun m σ' H' ⟨γ, F', δ', S', r2, hs2, h2⟩ => ?_⟩
  · rw [List.append_nil]
    exact ⟨hr, hs, h⟩
  · cases m with
    | zero => exact h2.elim
    | succ m =>
      refine s1 (α ++ γ) F' σ' H' δ' S' _ r2 hs2 (wpS.out h2 hs2 fun k S2 _ x H3 ε F3 r4 q4 v4 h4 => ?_)
      have e : x = k := v4
      subst e
      cases x with
      | false => exact wpS.nx h4 r4 (hs2.mono q4.sub)
      | true =>
        refine ⟨fun σ2 H2 => ∃ γ F' δ' S', Rel X.w X.K X.mg (α ++ γ) F' H2 S' ∧ Slots X.w X.K X.mg F' (α ++ γ) σ2 δ' ∧ wpS X.w X.K X.mg (α ++ γ) F' H2 (whileL ba r m δ' S') E W, fun σ2 H2 z => ⟨m, Nat.lt_succ_self m, z⟩, ?_⟩
        refine s3 (α ++ γ ++ ε) F3 σ' H3 δ' S2 _ r4 (hs2.mono q4.sub) ?_
        have ass : ∀ ζ : List Addr, α ++ γ ++ ε ++ ζ = α ++ (γ ++ ε ++ ζ) := fun ζ => by simp [List.append_assoc]
        rw [if_pos rfl] at h4
        cases q : r δ' S2 with
        | nx δ2 S3 =>
          rw [q] at h4
          intro σ4 H4 ζ F4 r5 q5 v5
          have h5 := wpS.step q5 h4
          rw [ass] at r5 v5 h5
          exact ⟨_, F4, δ2, S3, r5, v5, h5⟩
        | ct δ2 S3 =>
          rw [q] at h4
          intro σ4 H4 ζ F4 r5 q5 v5
          have h5 := wpS.step q5 h4
          rw [ass] at r5 v5 h5
          exact ⟨_, F4, δ2, S3, r5, v5, h5⟩
        | bk δ2 S3 => rw [q] at h4; exact h4
        | rt d S3 => rw [q] at h4; exact h4
        | err c fs δ2 S3 => rw [q] at h4; exact h4
        | stuck => rw [q] at h4; exact h4
end
end DL
set_option Elab.async false
set_option linter.all false
set_option maxRecDepth 100000
set_option maxHeartbeats 4000000
set_option autoImplicit false
/-! Data layer, sixth part: list comprehensions, defs. -/
namespace DL
open PySem PySem.Spec PyProof.Rows L2
abbrev W0 : WX := fun _ _ _ _ => False
section
variable {X : Cx} {W : WX} {a b c e : Expr} {es rest : List Expr} {ra rb rc : RE} {ba bb : RB} {rs : RA} {pos p : Pos} {wd : World} {K : Fg} {mg : Str → Option Value} {α β : List Addr} {F F1 H H1 : Hp} {S : Sto}
/-- an expression's reading by its mirror alone -/
def tCanE (wd : World) (K : Fg) (mg : Str → Option Value) (W : WX) (r : RE) : TE := fun σ H Q => ∃ α F δ S, Rel wd K mg α F H S ∧ Slots wd K mg F α σ δ ∧ wp wd K mg α F H (relD wd K mg) (r δ S) Q (fun c d H' => W c d σ H')
def tCanB (wd : World) (K : Fg) (mg : Str → Option Value) (W : WX) (r : RB) : TT := fun σ H Q => ∃ α F δ S, Rel wd K mg α F H S ∧ Slots wd K mg F α σ δ ∧ wp wd K mg α F H relB (r δ S) Q (fun c d H' => W c d σ H')
theorem PD.can (h : PD X W a ra) : PE X a (tCanE X.w X.K X.mg W ra) := by
  obtain ⟨t, p, s⟩ := h.ex
  exact ⟨fun pins sh σ H Q I ⟨α, F, δ, S, h1, h2, h3⟩ => p.run pins sh σ H Q I (s α F σ H δ S Q h1 h2 h3)⟩
theorem PB.can (h : PB X W a ba) : PT X a (tCanB X.w X.K X.mg W ba) := by
  obtain ⟨t, p, s⟩ := h.ex
  exact ⟨fun pins sh σ H Q I ⟨α, F, δ, S, h1, h2, h3⟩ => p.run pins sh σ H Q I (s α F σ H δ S Q h1 h2 h3)⟩
/-! ### a comprehension's own targets -/
theorem wipe_set {σ : L2.St} {i : Nat} {x : Option V} : ∀ {vs : List Nat}, wipe (σ.set i x) vs = if i ∈ vs then wipe σ vs else (wipe σ vs).set i x
  | [] => rfl
  | v :: vs => by
    unfold wipe
    rw [wipe_set]
    by_cases h : i ∈ vs
    · rw [if_pos h, if_pos (List.mem_cons_of_mem _ h)]
    · rw [if_neg h]
      by_cases z : i = v
      · subst z
        rw [if_pos List.mem_cons_self, List.set_set]
      · rw [if_neg (by intro q; rcases List.mem_cons.mp q with q | q; exact z q; exact h q)]
        exact List.set_comm _ _ z
structure PGx (X : Cx) (vs : List Nat) (tg : Expr) (t : TG) (g : RG) : Prop where
  pg : PG X tg t
  snd : ∀ α F σ H δ S v d (Q : L2.St → Hp → Prop), Rel X.w X.K X.mg α F H S → Slots X.w X.K X.mg F α σ δ → DV X.w X.K X.mg F α v d → wp X.w X.K X.mg α F H (fun F α σ' δ' => Slots X.w X.K X.mg F α σ' δ' ∧ wipe σ' vs = wipe σ vs) (g d δ S) Q (fun _ _ _ => False) → t v σ H Q
  ne : ∀ d δ S c fs S', g d δ S ≠ .err c fs S'
structure PGxs (X : Cx) (vs : List Nat) (tg : List Expr) (t : TGs) (g : List D → Sl → Sto → Res Sl) : Prop where
  pg : PGs X tg t
  snd : ∀ α F σ H δ S v d (Q : L2.St → Hp → Prop), Rel X.w X.K X.mg α F H S → Slots X.w X.K X.mg F α σ δ → DVs X.w X.K X.mg F α v d → wp X.w X.K X.mg α F H (fun F α σ' δ' => Slots X.w X.K X.mg F α σ' δ' ∧ wipe σ' vs = wipe σ vs) (g d δ S) Q (fun _ _ _ => False) → t v σ H Q
  ne : ∀ d δ S c fs S', g d δ S ≠ .err c fs S'
  len : ∀ ds δ S δ' S', g ds δ S = .ok δ' S' → ds.length = tg.length
theorem pgx_name {vs : List Nat} (i : Nat) {x : Str} (hN : X.N.Nodup) (hv : i ∈ vs := by decide) (hi : X.N[i]? = some x := by rfl) (hx : Loc X.env.scope x := by first | exact Or.inl rfl | exact Or.inr rfl) (hf : X.fn x = true ∨ X.env.scope.names.lookup x = some .local := by first | exact .inl rfl | exact .inr rfl | assumption) : PGx X vs (.Name x pos) (L2.gName i) (gName i) := by
  refine ⟨pg_name hN hi hx hf, fun α F σ H δ S v d Q hr hs hd h => ?_, fun d δ S c fs S' h => by unfold gName at h; split at h <;> cases h⟩
  unfold gName at h
  split at h
  · exact h.now hr ⟨hs.set hd, by rw [wipe_set, if_pos hv]⟩
  · exact h.elim
theorem pgxs_nil {vs : List Nat} : PGxs X vs [] L2.gNil gNil := by
  refine ⟨pgs_nil, fun α F σ H δ S v d Q hr hs hv h => ?_, fun d δ S c fs S' h => ?_, fun ds δ S δ' S' h => ?_⟩
  · cases hv with
    | nil => exact ⟨rfl, h.now hr ⟨hs, rfl⟩⟩
    | cons _ _ => exact h.elim
  · cases d <;> cases h
  · cases ds with
    | nil => rfl
    | cons _ _ => cases h
theorem pgxs_cons {vs : List Nat} {t : TG} {t' : TGs} {g : RG} {u : List D → Sl → Sto → Res Sl} (h1 : PGx X vs e t g) (h2 : PGxs X vs es t' u) (hsy : (assignEach (e :: es) X.env).map (·.2) = assign e X.env :: (assignEach es X.env).map (·.2) := by rfl) : PGxs X vs (e :: es) (L2.gCons t t') (gCons g u) := by
  refine ⟨pgs_cons h1.pg h2.pg hsy, fun α F σ H δ S v d Q hr hs hv h => ?_, fun d δ S c fs S' h => ?_, fun ds δ S δ' S' h => ?_⟩
  · cases hv with
    | nil => exact h.elim
    | cons hv ht =>
      rename_i v d vs' ds
      refine ⟨v, vs', rfl, h1.snd α F σ H δ S v d _ hr hs hv (wp.bind h fun δ1 S1 _ σ1 H1 β F1 r1 q1 hs1 q => ?_)⟩
      refine h2.snd (α ++ β) F1 σ1 H1 δ1 S1 vs' ds Q r1 hs1.1 (ht.mono q1.sub) ?_
      rw [hs1.2]
      exact q
  · cases d with
    | nil => cases h
    | cons d r =>
      have h' : (g d δ S).bind (fun δ1 S1 => u r δ1 S1) = .err c fs S' := h
      cases q : g d δ S with
      | ok a S1 => rw [q] at h'; exact h2.ne _ _ _ _ _ _ h'
      | err c fs S1 => exact h1.ne _ _ _ _ _ _ q
      | stuck => rw [q] at h'; cases h'
  · cases ds with
    | nil => cases h
    | cons d r =>
      have h' : (g d δ S).bind (fun δ1 S1 => u r δ1 S1) = .ok δ' S' := h
      cases q : g d δ S with
      | ok a S1 => rw [q] at h'; rw [List.length_cons, List.length_cons, h2.len _ _ _ _ _ h']
      | err c fs S1 => rw [q] at h'; cases h'
      | stuck => rw [q] at h'; cases h'
theorem pgx_tup {vs : List Nat} {k : Nat} {t : TGs} {u : List D → Sl → Sto → Res Sl} (hc : X.calm = true) (h : PGxs X vs es t u) (hn : (assignEach es X.env).length = es.length := by rfl) (hst : (assignEach es X.env).findIdx? (·.1) = none := by rfl) : PGx X vs (.Tuple es k pos) (L2.gTup X.K es.length t) (gTup u) := by
  refine ⟨pg_tup hc h.pg hn hst, fun α F σ H δ S v d Q hr hs hv h0 => ?_, fun d δ S c fs S' h0 => ?_⟩
  · unfold gTup at h0
    cases q : deref S d with
    | tup ds =>
      rw [q] at h0
      dsimp only at h0
      obtain ⟨a, xs, e1, e2, e3⟩ := hr.viewT hv q
      have len : ds.length = es.length := by
        cases q2 : u ds δ S with
        | ok δ' S' => exact h.len _ _ _ _ _ q2
        | err c fs S' => exact absurd q2 (h.ne _ _ _ _ _ _)
        | stuck => rw [q2] at h0; exact h0.elim
      exact ⟨a, xs, e1, e2, by rw [e3.length]; exact len, h.snd α F σ H δ S xs ds Q hr hs e3 h0⟩
    | tux ds =>
      rw [q] at h0
      dsimp only at h0
      obtain ⟨a, xs, e1, e2, e3⟩ := hr.viewX hv q
      have len : ds.length = es.length := by
        cases q2 : u ds δ S with
        | ok δ' S' => exact h.len _ _ _ _ _ q2
        | err c fs S' => exact absurd q2 (h.ne _ _ _ _ _ _)
        | stuck => rw [q2] at h0; exact h0.elim
      exact ⟨a, xs, e1, e2, by rw [e3.length]; exact len, h.snd α F σ H δ S xs ds Q hr hs e3 h0⟩
    | _ => rw [q] at h0; exact h0.elim
  · unfold gTup at h0
    cases q : deref S d with
    | tup ds => rw [q] at h0; exact h.ne _ _ _ _ _ _ h0
    | tux ds => rw [q] at h0; exact h.ne _ _ _ _ _ _ h0
    | _ => rw [q] at h0; cases h0
theorem Slots.wipe {σ : L2.St} {δ : Sl} (h : Slots wd K mg F α σ δ) : ∀ vs : List Nat, Slots wd K mg F α (L2.wipe σ vs) (wipeD δ vs)
  | [] => h
  | v :: vs => by
    have ih := Slots.wipe h vs
    refine ⟨by show ((L2.wipe σ vs).set v none).length = ((wipeD δ vs).set v none).length; rw [List.length_set, List.length_set]; exact ih.1, fun j d e => ?_⟩
    have e' : ((wipeD δ vs).set v none)[j]? = some (some d) := e
    show ∃ w, ((L2.wipe σ vs).set v none)[j]? = some (some w) ∧ _
    by_cases z : v = j
    · subst z
      have hl : v < (wipeD δ vs).length := by
        have := (List.getElem?_eq_some_iff.mp e').1
        rw [List.length_set] at this; exact this
      rw [List.getElem?_set_self hl] at e'
      cases e'
    · rw [List.getElem?_set_ne z] at e' ⊢
      exact ih.2 j d e'
/-- what walks a comprehension: read within its block -/
structure PLc (X : Cx) (vs : List Nat) (scope : Scope) (tg elt : Expr) (ifs : List Expr) (t : TG) (tt : TT) (g : RG) (rt : RB) (re : RE) : Prop where
  g : ∀ (s : Shared) (H : Hp) (C : Addr) (cl : List (Str × Addr)) (fp : List Addr), PGx (X.blk s H scope (compEnvC scope cl C X.env) fp) vs tg t g
  t : ∀ (s : Shared) (H : Hp) (C : Addr) (cl : List (Str × Addr)) (fp : List Addr), PTs (X.blk s H scope (compEnvC scope cl C X.env) fp) ifs tt
  ts : ∀ α F σ H δ S (Q : Bool → Hp → Prop), Rel X.w X.K X.mg α F H S → Slots X.w X.K X.mg F α σ δ → wp X.w X.K X.mg α F H relB (rt δ S) Q (fun _ _ _ => False) → tt σ H Q
  e : ∀ (s : Shared) (H : Hp) (C : Addr) (cl : List (Str × Addr)) (fp : List Addr), PD (X.blk s H scope (compEnvC scope cl C X.env) fp) W0 elt re
theorem plc_no {vs : List Nat} {scope : Scope} {tg elt : Expr} {t : TG} {g : RG} {re : RE} (hg : ∀ (s : Shared) (H : Hp) (C : Addr) (cl : List (Str × Addr)) (fp : List Addr), PGx (X.blk s H scope (compEnvC scope cl C X.env) fp) vs tg t g)
    (he : ∀ (s : Shared) (H : Hp) (C : Addr) (cl : List (Str × Addr)) (fp : List Addr), PD (X.blk s H scope (compEnvC scope cl C X.env) fp) W0 elt re) : PLc X vs scope tg elt [] t tYes g bYes re :=
  ⟨hg, fun _ _ _ _ _ => pts_nil, fun α F σ H δ S Q hr _ h => wp.now (b := true) h hr rfl, he⟩
theorem plc_if {vs : List Nat} {scope : Scope} {tg elt c : Expr} {t : TG} {g : RG} {bc : RB} {re : RE} (hg : ∀ (s : Shared) (H : Hp) (C : Addr) (cl : List (Str × Addr)) (fp : List Addr), PGx (X.blk s H scope (compEnvC scope cl C X.env) fp) vs tg t g)
    (hc : ∀ (s : Shared) (H : Hp) (C : Addr) (cl : List (Str × Addr)) (fp : List Addr), PB (X.blk s H scope (compEnvC scope cl C X.env) fp) W0 c bc) (he : ∀ (s : Shared) (H : Hp) (C : Addr) (cl : List (Str × Addr)) (fp : List Addr), PD (X.blk s H scope (compEnvC scope cl C X.env) fp) W0 elt re) :
    PLc X vs scope tg elt [c] t (tCanB X.w X.K X.mg W0 bc) g bc re :=
  ⟨hg, fun s H C cl fp => pts_one (hc s H C cl fp).can, fun α F σ H δ S Q hr hs h => ⟨α, F, δ, S, hr, hs, h⟩, he⟩
theorem bind_ok {A B : Type} {r : Res A} {f : A → Sto → Res B} {b : B} {S' : Sto} (h : r.bind f = .ok b S') : ∃ a S1, r = .ok a S1 ∧ f a S1 = .ok b S' := by
  cases r with
  | ok a S1 => exact ⟨a, S1, rfl, h⟩
  | err c fs S1 => cases h
  | stuck => cases h
theorem wipe_idem (σ : L2.St) : ∀ vs : List Nat, L2.wipe (L2.wipe σ vs) vs = L2.wipe σ vs
  | [] => rfl
  | v :: vs => by
    show (L2.wipe ((L2.wipe σ vs).set v none) vs).set v none = (L2.wipe σ vs).set v none
    rw [wipe_set, wipe_idem σ vs]
    split
    · rfl
    · rw [List.set_set]
structure Stay (wd : World) (K : Fg) (mg : Str → Option Value) (α : List Addr) (F H : Hp) (ad : Addr) (acc : List V) (accD : List D) (γ : List Addr) (F' H' : Hp) (S' : Sto) : Prop where
  rel : Rel wd K mg (α ++ γ) F' H' S'
  stp : Stp α F H γ F' H'
  nin : ad ∉ α ++ γ
  nF : F' ad = none
  at' : H' ad = some (.lst acc)
  dvs : DVs wd K mg F' (α ++ γ) acc accD
theorem Stay.step {ad : Addr} {acc : List V} {accD : List D} {γ ε : List Addr} {F' H' F2 H2 : Hp} {S' S2 : Sto} (st : Stay wd K mg α F H ad acc accD γ F' H' S') (r : Rel wd K mg (α ++ γ ++ ε) F2 H2 S2) (q : Stp (α ++ γ) F' H' ε F2 H2) : Stay wd K mg α F H ad acc accD (γ ++ ε) F2 H2 S2 := by
  have hn : H' ad ≠ none := by rw [st.at']; exact fun z => nomatch z
  refine ⟨by rw [← List.append_assoc]; exact r, st.stp.trans q, ?_, q.fnew ad st.nin st.nF hn, q.frame ad _ st.nin st.at', by rw [← List.append_assoc]; exact st.dvs.mono q.sub⟩
  rw [← List.append_assoc]
  intro z
  rcases List.mem_append.mp z with z | z
  · exact st.nin z
  · exact hn (q.new ad z)
/-- the loop of a comprehension -/
theorem lc_all {scope : Scope} {vs : List Nat} {tg elt : Expr} {ifs : List Expr} {t : TG} {tt : TT} {g : RG} {rt : RB} {re : RE} (L : PLc X vs scope tg elt ifs t tt g rt re) {σ : L2.St} {δ : Sl} {S1 S2 : Sto} {ds zs : List D} {J : It} {ad : Addr} {Qd : Hp → Prop}
    (hr : Rel X.w X.K X.mg α F H S1) (hs : Slots X.w X.K X.mg F α σ δ) (hJ : ItOk X.w X.K X.mg F α J ds) (hD : H ad = none) (hz : lcL g rt re ds (wipeD δ vs) S1 = .ok zs S2) (hl : zs.length ≤ sizeLine)
    (hq : ∀ H' β F', Rel X.w X.K X.mg (α ++ β) F' H' S2 → Stp α F H β F' H' → ad ∉ α ++ β → F' ad = none → Own X.w X.K X.mg F' (α ++ β) H' ad (.lst zs) → Qd H') :
    ∃ Wl : Nat → Nat → Hp → Prop, (∃ m, Wl 0 m (upd H ad (.lst []))) ∧ ∀ i m H, Wl i m H → (J.stop i H ∧ Qd H) ∨ (J.go i H ∧ ∃ Nx : Hp → Prop, (∀ H', Nx H' → ∃ m', m' < m ∧ Wl (i + 1) m' H') ∧ ∀ x H', J.yld i H x H' → t x (L2.wipe σ vs) H' fun σ2 H2 => L2.wipe σ2 vs = L2.wipe σ vs ∧ tt σ2 H2 fun b H3 =>
      if b = true then tCanE X.w X.K X.mg W0 re σ2 H3 fun y H4 => ∃ acc, H4 ad = some (.lst acc) ∧ acc.length < sizeLine ∧ Nx (upd H4 ad (.lst (acc ++ [y]))) else Nx H3) := by
  refine ⟨fun i m H' => i + m = ds.length ∧ ∃ γ F' S' acc accD, Stay X.w X.K X.mg α F H ad acc accD γ F' H' S' ∧
    (lcL g rt re (ds.drop i) (wipeD δ vs) S').bind (fun ys S3 => .ok (accD ++ ys) S3) = .ok zs S2, ⟨ds.length, by omega, [], F, S1, [], [], ?_, ?_⟩, fun i m H' ⟨hm, γ, F', S', acc, accD, st, eq⟩ => ?_⟩
  · have n := hr.notin hD
    have f := hr.notF hD
    refine ⟨?_, Stp.refl.other hD, ?_, f, upd_same, .nil⟩
    · rw [List.append_nil]; exact hr.other n f
    · rw [List.append_nil]; exact n
  · rw [List.drop_zero, hz]
    rfl
  · have v2 : ItOk X.w X.K X.mg F' (α ++ γ) J ds := hJ.mono st.stp.sub
    by_cases hlt : i < ds.length
    · obtain ⟨d, hd⟩ : ∃ d, ds[i]? = some d := ⟨_, List.getElem?_eq_getElem hlt⟩
      refine .inr ⟨v2.go F' H' i (Sub.refl _) st.rel.sub hlt, fun H4 => ∃ γ F' S' acc accD, Stay X.w X.K X.mg α F H ad acc accD γ F' H4 S' ∧
        (lcL g rt re (ds.drop (i + 1)) (wipeD δ vs) S').bind (fun ys S3 => .ok (accD ++ ys) S3) = .ok zs S2, fun H4 z => ⟨m - 1, by omega, by omega, z⟩, fun x H2 hy => ?_⟩
      obtain ⟨F2, r3, q3, v3⟩ := v2.came st.rel hd hy
      have st3 := st.step r3 q3
      rw [drop_cons hd] at eq
      obtain ⟨ys, S3, eq1, eq2⟩ := bind_ok eq
      cases eq2
      unfold lcL at eq1
      obtain ⟨δ1, S4, eg, eq1⟩ := bind_ok eq1
      obtain ⟨k, S5, et, eq1⟩ := bind_ok eq1
      have hs3 : Slots X.w X.K X.mg F2 (α ++ γ ++ []) (L2.wipe σ vs) (wipeD δ vs) := (((hs.mono st.stp.sub).mono q3.sub).wipe vs)
      refine (L.g X.s_0 H 0 [] []).snd (α ++ γ ++ []) F2 (L2.wipe σ vs) H2 (wipeD δ vs) S' x d _ r3 hs3 v3 ?_
      rw [eg]
      intro σ1 H5 ε F5 r5 q5 ⟨hs5, hw⟩
      rw [List.append_assoc α γ []] at q5 r5 hs5
      have st5 := st3.step r5 q5
      refine ⟨hw.trans (wipe_idem σ vs), ?_⟩
      refine L.ts _ F5 σ1 H5 δ1 S4 _ r5 hs5 ?_
      rw [et]
      intro b H6 ζ F6 r6 q6 eb
      have eb : b = k := eb
      subst eb
      rw [List.append_assoc α (γ ++ []) ε] at q6 r6
      have st6 := st5.step r6 q6
      cases b with
      | false =>
        rw [if_neg (by decide)]
        rw [if_neg (by decide)] at eq1
        exact ⟨_, F6, S5, acc, accD, st6, by rw [eq1]; rfl⟩
      | true =>
        rw [if_pos rfl]
        rw [if_pos rfl] at eq1
        obtain ⟨y, S6, ey, eq1⟩ := bind_ok eq1
        obtain ⟨ys', S7, er, eq1⟩ := bind_ok eq1
        cases eq1
        have hs6 := hs5.mono (β := ζ) q6.sub
        rw [List.append_assoc α (γ ++ []) ε] at hs6
        refine ⟨_, F6, δ1, S5, r6, hs6, ?_⟩
        rw [ey]
        intro v H7 η F7 r7 q7 v7
        rw [List.append_assoc α (γ ++ [] ++ ε) ζ] at q7 r7 v7
        have st7 := st6.step r7 q7
        have hlen : acc.length < sizeLine := by
          have e1 := st.dvs.length
          rw [List.length_append, List.length_cons] at hl
          omega
        have v7 : DV X.w X.K X.mg F7 _ v y := v7
        refine ⟨acc, st7.at', hlen, _, F7, S6, acc ++ [v], accD ++ [y], ⟨st7.rel.other st7.nin st7.nF, ?_, st7.nin, st7.nF, upd_same, st7.dvs.append (.cons ?_ .nil)⟩, ?_⟩
        · exact st7.stp.other hD
        · simpa only [List.append_assoc] using v7
        · rw [er]
          show Res.ok (accD ++ [y] ++ ys') _ = _
          rw [List.append_assoc] <;> rfl
    · have e : i = ds.length := by omega
      subst e
      rw [List.drop_length] at eq
      have eq' : Res.ok (accD ++ []) S' = Res.ok zs S2 := eq
      rw [List.append_nil] at eq'
      cases eq'
      exact .inl ⟨v2.stop F' H' (Sub.refl _) st.rel.sub, hq H' γ F' st.rel st.stp st.nin st.nF ⟨acc, st.at', st.dvs⟩⟩
/-- a mirror that came to a list that fits -/
theorem lc_fits {g : RG} {rt : RB} {re : RE} {vs : List Nat} {δ : Sl} {S1 : Sto} {ds : List D} {Q : VK} {W : XK} (h : wpF wd K mg α F H ((noErr (lcL g rt re ds (wipeD δ vs) S1)).bind fun ys S2 => if ys.length ≤ sizeLine then .ok (.lst ys) S2 else .stuck) Q W) :
    ∃ zs S2, lcL g rt re ds (wipeD δ vs) S1 = .ok zs S2 ∧ zs.length ≤ sizeLine ∧ wpF wd K mg α F H (.ok (.lst zs) S2) Q W := by
  cases q : lcL g rt re ds (wipeD δ vs) S1 with
  | ok zs S2 =>
    rw [q] at h
    have h' : wpF wd K mg α F H (if zs.length ≤ sizeLine then .ok (.lst zs) S2 else .stuck) Q W := h
    split at h'
    · rename_i hl; exact ⟨zs, S2, rfl, hl, h'⟩
    · exact h'.elim
  | err c fs S2 => rw [q] at h; exact h.elim
  | stuck => rw [q] at h; exact h.elim
theorem lc_snd {ri : RA} {wi : TI} {scope : Scope} {vs : List Nat} {tg elt : Expr} {ifs : List Expr} {t : TG} {tt : TT} {g : RG} {rt : RB} {re : RE} (si : SndI X.w X.K X.mg W wi ri) (L : PLc X vs scope tg elt ifs t tt g rt re) {σ : L2.St} {δ : Sl} {Q : VK}
    (hr : Rel X.w X.K X.mg α F H S) (hs : Slots X.w X.K X.mg F α σ δ) (h : wpF X.w X.K X.mg α F H (rLc ri g vs rt re δ S) Q (fun c d H' => W c d σ H')) : tLc wi t tt (tCanE X.w X.K X.mg W0 re) vs σ H Q := by
  refine si α F σ H δ S _ hr hs (wpF.bind h fun ds S1 _ J H1 β F1 r1 q1 v1 h1 => ?_)
  intro ad hD
  obtain ⟨zs, S2, e1, e2, h2⟩ := lc_fits h1
  refine lc_all (Qd := fun H' => Q (.ref ad) H') L r1 (hs.mono q1.sub) v1 hD e1 e2 fun H' γ F' r2 q2 n f o => ?_
  exact h2 ad H' γ F' r2 q2 hD n f o rfl
theorem pf_lc {tg iter elt : Expr} {ifs : List Expr} {scope : Scope} {own : List (Str × Nat)} {t : TG} {tt : TT} {ri : RA} {g : RG} {rt : RB} {re : RE} (hc : X.calm = true) (hN : X.N.Nodup) (hi : PId X W tg iter ri) (ok : BlkOk X.N X.env.scope scope own) (L : PLc X (own.map (·.2)) scope tg elt ifs t tt g rt re)
    (hsx : ∀ x, foldedSetIterable iter X.env x = pure x := by intro _; rfl) : PF X W (.ListComp elt [⟨tg, iter, ifs, 0⟩] scope pos) (rLc ri g (own.map (·.2)) rt re) := by
  obtain ⟨wi, p1, s1⟩ := hi.ex
  exact ⟨_, pe_lc hc hN p1 ok (fun s H C cl fp => (L.g s H C cl fp).pg) L.t (fun s H C cl fp => (L.e s H C cl fp).can) hsx, fun α F σ H δ S Q hr hs h => lc_snd s1 L hr hs h⟩
/-- what is done with a made list: it is the store's, or stands for good -/
theorem wpF.keep {r : Res D} {σ : L2.St} {Q : VK} (h : wp wd K mg α F H (relD wd K mg) (r.bind fun d S1 => match d with | .lst ds => .ok (.lst ds) S1 | _ => .stuck) Q (fun c d H' => W c d σ H')) : wpF wd K mg α F H r Q (fun c d H' => W c d σ H') := by
  cases r with
  | ok d S' =>
    intro p H' β F' r1 s1 hp ha hf ho hd
    cases d with
    | lst ds =>
      have h2 : wp wd K mg α F H (relD wd K mg) (.ok (.lst ds) S') Q _ := h
      obtain ⟨xs, o1, o2⟩ := ho
      obtain ⟨a1, a2⟩ := r1.freeze (o := .lst xs) ha hf o1
      exact h2 (.ref p) H' β (upd F' p (.lst xs)) a1 ⟨s1.new, s1.sub.trans a2, s1.frame, s1.live, fun a g1 g2 g3 => by
        have z : a ≠ p := fun z => g3 (z ▸ hp)
        rw [upd_ne z]; exact s1.fnew a g1 g2 g3⟩ (.lst (.inl (Rd.of upd_same)) (by have := o2.mono (β := []) a2; rw [List.append_nil] at this; exact this))
    | _ => exact (show False from h).elim
  | err c fs S' => exact h
  | stuck => exact h
/-! ### defs -/
theorem closedK_snd {n : Nat} : ∀ {kvs : List (D × D)}, closedK n kvs = true → closedL n (kvs.map (·.2)) = true
  | [], _ => rfl
  | (k, v) :: r, h => by
    unfold closedK at h
    rw [Bool.and_eq_true, Bool.and_eq_true] at h
    show (D.closed n v && closedL n (r.map (·.2))) = true
    rw [h.1.2, closedK_snd h.2]
    rfl
mutual
theorem DV.shrink {v : V} {d : D} : D.closed α.length d = true → DV wd K mg F (α ++ β) v d → DV wd K mg F α v d
  | _, .non => .non
  | _, .bl b => .bl b
  | _, .int i => .int i
  | _, .str x => .str x
  | h, .tup a t => .tup a (DVs.shrink (by simpa [D.closed] using h) t)
  | h, .tux a t => .tux a (DVs.shrink (by simpa [D.closed] using h) t)
  | h, .lst a t => .lst a (DVs.shrink (by simpa [D.closed] using h) t)
  | h, .ptr e => by
    rename_i k a
    have hk : k < α.length := by simpa [D.closed] using h
    rw [List.getElem?_append_left hk] at e
    exact .ptr e
  | _, .fn e => .fn e
  | _, .ty n => .ty n
  | h, .exc h1 h2 h3 h4 h5 => .exc h1 h2 h3 h4 (DVs.shrink (closedK_snd (by simpa [D.closed] using h)) h5)
  | h, .dc0 h1 h2 => .dc0 h1 (DV.shrink (by simpa [D.closed] using h) h2)
theorem DVs.shrink {vs : List V} {ds : List D} : closedL α.length ds = true → DVs wd K mg F (α ++ β) vs ds → DVs wd K mg F α vs ds
  | _, .nil => .nil
  | h, .cons a t => by
    unfold closedL at h
    rw [Bool.and_eq_true] at h
    exact .cons (DV.shrink h.1 a) (DVs.shrink h.2 t)
end
theorem NVs.shrink {xs : List (NestedKey × Addr × V)} : ∀ {kvs : List (D × D)}, closedK α.length kvs = true → NVs wd K mg F (α ++ β) xs kvs → NVs wd K mg F α xs kvs := fun {kvs} h q => by
  induction q with
  | nil => exact .nil
  | cons h1 h2 h3 h4 h6 _ ih =>
    unfold closedK at h
    rw [Bool.and_eq_true, Bool.and_eq_true] at h
    exact .cons h1 h2 (h3.shrink h.1.1) h4 (h6.shrink h.1.2) (ih h.2)
theorem Own.shrink {a : Addr} {d : D} (o : Own wd K mg F (α ++ β) H a d) (hc : D.closed α.length d = true) : Own wd K mg F α H a d := by
  cases d with
  | lst ds => obtain ⟨xs, e1, e2⟩ := o; exact ⟨xs, e1, e2.shrink (by simpa [D.closed] using hc)⟩
  | dct kvs => obtain ⟨ws, e1, e2, e3⟩ := o; exact ⟨ws, e1, e2, e3.shrink (closedK_snd (by simpa [D.closed] using hc))⟩
  | dcn kvs => obtain ⟨ws, e1, e2⟩ := o; exact ⟨ws, e1, e2.shrink (by simpa [D.closed] using hc)⟩
  | lck u =>
    cases u with
    | dct kvs => obtain ⟨o, ws, e0, e1, e2, e3⟩ := o; exact ⟨o, ws, e0, e1, e2, e3.shrink (closedK_snd (by simpa [D.closed] using hc))⟩
    | dcn kvs => obtain ⟨o, ws, e0, e1, e2⟩ := o; exact ⟨o, ws, e0, e1, e2.shrink (by simpa [D.closed] using hc)⟩
    | _ => exact o.elim
  | non => trivial
  | _ => exact o.elim
theorem closedL_get {n : Nat} : ∀ {ds : List D} {k : Nat} {d : D}, closedL n ds = true → ds[k]? = some d → D.closed n d = true
  | [], _, _, _, e => by simp at e
  | d :: r, 0, _, h, e => by
    unfold closedL at h
    rw [Bool.and_eq_true] at h
    simp at e; subst e
    exact h.1
  | d :: r, k + 1, _, h, e => by
    unfold closedL at h
    rw [Bool.and_eq_true] at h
    exact closedL_get (k := k) h.2 (by simpa using e)
theorem Rel.trunc (r : Rel wd K mg (α ++ β) F H S) (h : closedL α.length (S.take α.length) = true) : Rel wd K mg α F H (S.take α.length) := by
  have hl := r.len
  rw [List.length_append] at hl
  refine ⟨r.sub, by rw [List.length_take]; omega, (List.nodup_append.mp r.nd).1, fun a ha => r.here a (List.mem_append_left _ ha), fun k a d h1 h2 => ?_⟩
  have hk : k < α.length := (List.getElem?_eq_some_iff.mp h1).1
  have hc := closedL_get h h2
  rw [List.getElem?_take, if_pos hk] at h2
  obtain ⟨o, q⟩ := r.own k a d (by rw [List.getElem?_append_left hk]; exact h1) h2
  exact ⟨o.shrink hc, q⟩
theorem Rel.give {k : Nat} {a : Addr} {u : D} (r : Rel wd K mg (α ++ β) F H S) (hc : closedL α.length (S.take α.length) = true) (ha : (α ++ β)[k]? = some a) (hk : α.length ≤ k) (hu : S[k]? = some u) (ho : u.owned = true) (hd : D.closed α.length u = true) : a ∈ β ∧ Rel wd K mg (α ++ [a]) F H (S.take α.length ++ [u]) := by
  have r0 := Rel.trunc r hc
  have hb : a ∈ β := by
    rw [List.getElem?_append_right hk] at ha
    exact List.mem_of_getElem? ha
  have hn : a ∉ α := fun h => (List.nodup_append.mp r.nd).2.2 a h a hb rfl
  have hz : u.open = true := by cases u <;> first | rfl | cases ho
  obtain ⟨o1, o2⟩ := r.own k a u ha hu
  exact ⟨hb, r0.adopt hn (o2 hz) (o1.shrink hd) hz⟩
theorem Stp.one {F' H' : Hp} {a : Addr} (s : Stp α F H β F' H') (h : a ∈ β) : Stp α F H [a] F' H' := ⟨fun b hb => by rw [List.mem_singleton.mp hb]; exact s.new a h, s.sub, s.frame, s.live, s.fnew⟩
theorem Stp.drop {F' H' : Hp} (s : Stp α F H β F' H') : Stp α F H [] F' H' := ⟨(fun _ h => nomatch h), s.sub, s.frame, s.live, s.fnew⟩
theorem slots_start {N : List Str} {vs : List V} {ds : List D} (hv : DVs wd K mg F α vs ds) : Slots wd K mg F α (L2.start N vs) (ds.map some ++ List.replicate (N.length - ds.length) none) := by
  have hl := hv.length
  refine ⟨by unfold L2.start; simp [hl], fun i d e => ?_⟩
  unfold L2.start
  by_cases h : i < ds.length
  · rw [List.getElem?_append_left (by simpa using h), List.getElem?_map] at e
    obtain ⟨d', e1⟩ : ∃ d', ds[i]? = some d' := ⟨_, List.getElem?_eq_getElem h⟩
    rw [e1] at e
    have : d' = d := by simpa using e
    subst this
    obtain ⟨v, e2, e3⟩ := hv.get e1
    refine ⟨v, ?_, e3⟩
    rw [List.getElem?_append_left (by rw [List.length_map, hl]; exact h), List.getElem?_map, e2] <;> rfl
  · rw [List.getElem?_append_right (by simpa using h), List.getElem?_replicate] at e
    split at e <;> cases e
theorem fn_G {P : Program} {w : World} {base : Heap} {x qual : Str} {st : Stmt} {f : Addr} {fd : FuncData} {N ps : List Str} {k : Nat} {sp : Sp} (Fu : Fun K x qual st f fd) (Sc : FnScope N ps (defScope st)) (len : ∀ vs H Q E, sp vs H Q E → vs.length = ps.length)
    (hbody : ∀ (cdv : Value) (A : Around) (outer : List Env) (s : Shared) (H : Hp) (vs : List V) (Q : VK) (E : XK), Room k (A.deeper (envOfC qual (defScope st) s.heap.objs.size f cdv)) → A.guards = some [] → sp vs H Q E →
      ∃ t, PSs (cxOf (L2.CX P w) P w K mg base N qual (defScope st) f cdv A outer s H E) (defBody st) t ∧ t ⟨fun _ H' => Q .non H', Q, fun _ _ => False, fun _ _ => False⟩ (L2.start N vs) H) : FnG P w K mg base (k + 1) f fd ps sp := by
  obtain ⟨oc, od, kV, doc, pm, an, cdv, ct, osl, rfl, lk, hcd⟩ := Fu.ex
  refine ⟨len, fun A outer s H args us vs Q E room hG e0 hb rv hsp => ?_⟩
  have kin : K.In s.heap := e0.mod.kin.keeps fun b o e => (e0.bs b o e).1
  have names : ∀ y ∈ ps.zip us, (defScope st).names.lookup y.1 = some .local ∨ ((defScope st).names.lookup y.1 = some .cell ∧ ((cellsFrom (s.heap.objs.size + 1) (defScope st).names []).lookup y.1).isSome = true) := fun y hy =>
    (Sc.par y.1 (List.of_mem_zip hy).1).imp id fun q => ⟨q, PySem.W.cellsFrom_some _ _ _ (.inl q)⟩
  refine codeAny_call_function room.depth (kin _ _ lk) rfl Sc.co Sc.gen rfl (PySem.W.codeRec_of kin hcd) (hb _ _ _ _ (wpAny_newFunctionEnv_cells Sc.kind names fun env he s1 x => ?_))
  subst he
  refine ⟨(e0.mod.nolimit.keeps fun b o e => (e0.bs b o e).1).keeps x.toInCall.keep, codeAny_func ?_⟩
  obtain ⟨t, ht, hq⟩ := hbody cdv A outer s H vs Q E (room.deeper _) hG hsp
  refine wpAny_mono (ht.run [] s1 (L2.start N vs) H _ (inv_start Sc room.hd e0 (len _ _ _ _ hsp) rv x) hq) ?_ fun _ _ hs => hs
  intro fl s' hs
  cases fl with
  | ret u =>
    obtain ⟨v, _, H', J, r, q⟩ := hs
    exact ⟨v, H', J.os, J.bare, J.base, J.hok, r, q⟩
  | next =>
    obtain ⟨_, H', J, q⟩ := hs
    exact ⟨V.non, H', J.os, J.bare, J.base, J.hok, rfl, q⟩
  | brk => obtain ⟨_, _, _, q⟩ := hs; exact q.elim
  | cont => obtain ⟨_, _, _, q⟩ := hs; exact q.elim
theorem fn_okD {P : Program} {w : World} {base : Heap} {x qual : Str} {st : Stmt} {f : Addr} {fd : FuncData} {N ps : List Str} {k : Nat} {r : RS} (Fu : Fun K x qual st f fd) (Sc : FnScope N ps (defScope st))
    (hbody : ∀ (cdv : Value) (A : Around) (outer : List Env) (s : Shared) (H : Hp) (E : XK), Room k (A.deeper (envOfC qual (defScope st) s.heap.objs.size f cdv)) → A.guards = some [] → PSds (cxOf (L2.CX P w) P w K mg base N qual (defScope st) f cdv A outer s H E) (fun cls d _ H => E cls d H) (defBody st) r) :
    FnG P w K mg base (k + 1) f fd ps (spD w K mg ps.length (mDef N.length r)) := by
  refine fn_G Fu Sc (fun vs H Q E h => h.1) fun cdv A outer s H vs Q E hr hG h => ?_
  obtain ⟨hl, α, F, S, ds, h1, h2, h3⟩ := h
  obtain ⟨t, pt, st⟩ := (hbody cdv A outer s H E hr hG).ex
  refine ⟨t, pt, st α F _ H _ S _ h1 (slots_start h2) ?_⟩
  have h3 : wp w K mg α F H (relD w K mg) (mDef N.length r ds S) Q E := h3
  have hl : α.length = S.length := h1.len
  unfold mDef at h3
  rw [← hl] at h3
  have an : α ++ [] = α := List.append_nil α
  cases q : r (ds.map some ++ List.replicate (N.length - ds.length) none) S with
  | nx δ S1 =>
    rw [q] at h3
    dsimp only at h3
    split at h3
    · rename_i hc
      intro σ' H' β F' r1 s1 _
      exact h3 .non H' [] F' (by rw [an]; exact Rel.trunc r1 hc) s1.drop .non
    · exact h3.elim
  | rt d S1 =>
    rw [q] at h3
    dsimp only at h3
    split at h3
    · rename_i hc
      rw [Bool.and_eq_true] at hc
      intro v H' β F' r1 s1 hv
      exact h3 v H' [] F' (by rw [an]; exact Rel.trunc r1 hc.2) s1.drop (by rw [an]; exact DV.shrink hc.1 hv)
    · unfold giveD at h3
      cases d with
      | ptr k =>
        dsimp only at h3
        cases q2 : S1[k]? with
        | none => rw [q2] at h3; exact h3.elim
        | some u =>
          rw [q2] at h3
          dsimp only at h3
          split at h3
          · rename_i hc
            rw [Bool.and_eq_true, Bool.and_eq_true, Bool.and_eq_true, decide_eq_true_eq] at hc
            intro v H' β F' r1 s1 hv
            cases hv with
            | ptr ea =>
              rename_i a
              obtain ⟨g1, g2⟩ := Rel.give r1 hc.2 ea hc.1.2 q2 hc.1.1.1 hc.1.1.2
              exact h3 (.ref a) H' [a] F' g2 (s1.one g1) (.ptr (by rw [List.getElem?_append_right (Nat.le_refl _), Nat.sub_self]; rfl))
          · exact h3.elim
      | _ => exact h3.elim
  | err c fs δ S1 =>
    rw [q] at h3
    dsimp only at h3
    split at h3
    · rename_i hc
      rw [Bool.and_eq_true] at hc
      intro cls dd σ' H' β F' r1 s1 _ he
      refine h3 cls dd H' [] F' (by rw [an]; exact Rel.trunc r1 hc.2) s1.drop ?_
      rw [an]
      refine ⟨he.1, he.2.imp id fun ⟨d, xs, e1, e2, e3, e4⟩ => ⟨d, xs, e1, e2, e3, DVs.shrink hc.1 e4⟩⟩
    · exact h3.elim
  | bk δ S1 => rw [q] at h3; exact h3.elim
  | ct δ S1 => rw [q] at h3; exact h3.elim
  | stuck => rw [q] at h3; exact h3.elim
/-! ### ghost steps -/
theorem psds_freeze {sts : List Stmt} {i : Nat} {r : RS} (h : PSds X W sts r) : PSds X W sts (sSeq (sFreeze i) r) := by
  obtain ⟨t, pt, st⟩ := h.ex
  refine ⟨t, pt, fun α F σ H δ S E hr hs h => ?_⟩
  unfold sSeq sFreeze at h
  cases q : δ[i]? with
  | none => rw [q] at h; exact h.elim
  | some o =>
    rw [q] at h
    cases o with
    | none => exact h.elim
    | some d =>
      cases d with
      | ptr k =>
        cases q2 : S[k]? with
        | none => simp only [q2] at h; exact h.elim
        | some u =>
          cases u with
          | lst ds =>
            simp only [q2] at h
            obtain ⟨v, e1, e2⟩ := hs.2 i _ q
            cases e2 with
            | ptr ea =>
              rename_i a
              obtain ⟨o1, o2⟩ := hr.own k a _ ea q2
              obtain ⟨xs, o3, o4⟩ := o1
              have hf := o2 rfl
              have sb : Sub F (upd F a (.lst xs)) := Sub.new hf
              have an : α ++ [] = α := List.append_nil α
              have st1 : Stp α F H [] (upd F a (.lst xs)) H := ⟨(fun _ h => nomatch h), sb, fun _ _ _ h => h, fun _ h => h, fun b h1 h2 _ => by
                have z : b ≠ a := fun z => h1 (z ▸ List.mem_of_getElem? ea)
                rw [upd_ne z]; exact h2⟩
              have rl : Rel X.w X.K X.mg α (upd F a (.lst xs)) H (S.set k .non) := by
                refine ⟨fun b u e => ?_, by rw [List.length_set]; exact hr.len, hr.nd, hr.here, fun j b u g1 g2 => ?_⟩
                · by_cases z : b = a
                  · subst z; rw [upd_same] at e; rw [o3]; exact e
                  · rw [upd_ne z] at e; exact hr.sub _ _ e
                · by_cases z : j = k
                  · subst z
                    rw [List.getElem?_set_self (List.getElem?_eq_some_iff.mp q2).1] at g2
                    cases g2
                    exact ⟨trivial, fun z => (nomatch z)⟩
                  · rw [List.getElem?_set_ne (Ne.symm z)] at g2
                    obtain ⟨h3, h4⟩ := hr.own j b u g1 g2
                    have y : b ≠ a := fun y => by
                      subst y
                      exact z ((List.getElem_inj hr.nd).mp ((List.getElem?_eq_some_iff.mp g1).2.trans (List.getElem?_eq_some_iff.mp ea).2.symm))
                    have h5 : Own X.w X.K X.mg (upd F a (.lst xs)) (α ++ []) H b u := h3.mono sb rfl
                    rw [an] at h5
                    exact ⟨h5, fun hd => by rw [upd_ne y]; exact h4 hd⟩
              have hs1 : Slots X.w X.K X.mg (upd F a (.lst xs)) α σ δ := by have := hs.mono (β := []) sb; rw [an] at this; exact this
              have hs2 : Slots X.w X.K X.mg (upd F a (.lst xs)) α σ (δ.set i (some (.lst ds))) := by
                refine ⟨by rw [List.length_set]; exact hs1.1, fun j d g => ?_⟩
                by_cases z : j = i
                · subst z
                  rw [List.getElem?_set_self (List.getElem?_eq_some_iff.mp q).1] at g
                  cases g
                  exact ⟨_, e1, .lst (.inl (Rd.of upd_same)) (by have := o4.mono (β := []) sb; rw [an] at this; exact this)⟩
                · rw [List.getElem?_set_ne (Ne.symm z)] at g
                  exact hs1.2 j d g
              have h2 := wpS.step st1 h
              rw [an] at h2
              exact st α _ σ H _ _ E rl hs2 h2
          | _ => simp only [q2] at h; exact h.elim
      | _ => exact h.elim
end
end DL
set_option Elab.async false
set_option linter.all false
set_option maxRecDepth 100000
set_option maxHeartbeats 4000000
set_option autoImplicit false
/-! Data layer, seventh part: operators on data. -/
namespace DL
open PySem PySem.Spec PyProof.Rows L2
/-! ### what they come to -/
def gAdd : Sto → D → D → Option D := fun S d e => match deref S d, deref S e with
  | .int i, .int j => some (.int (i + j))
  | .str x, .str y => if x.length + y.length ≤ sizeLine then some (.str (x ++ y)) else none
  | .tup xs, .tup ys => if xs.length + ys.length ≤ sizeLine then some (.tup (xs ++ ys)) else none
  | _, _ => none
def gCat : Sto → D → D → Option D := fun S d e => match deref S d, deref S e with
  | .lst xs, .lst ys => if xs.length + ys.length ≤ sizeLine then some (.lst (xs ++ ys)) else none
  | _, _ => none
def gSub : Sto → D → D → Option D := fun _ d e => match d, e with
  | .int i, .int j => some (.int (i - j))
  | _, _ => none
/-- the sizes of two factors -/
def mulFits (i j : Int) : Bool := decide (i.natAbs.log2 + j.natAbs.log2 < 100000000) || (decide (i.natAbs < 2 ^ 64) || decide (j.natAbs < 2 ^ 64))
def gMul : Sto → D → D → Option D := fun _ d e => match d, e with
  | .int i, .int j => if mulFits i j then some (.int (i * j)) else none
  | _, _ => none
def gDiv : Sto → D → D → Option D := fun _ d e => match d, e with
  | .int i, .int j => if j ≠ 0 ∧ j.natAbs.log2 < 9000 then some (.int (i.fdiv j)) else none
  | _, _ => none
def gMod : Sto → D → D → Option D := fun _ d e => match d, e with
  | .int i, .int j => if j ≠ 0 then some (.int (i.fmod j)) else none
  | _, _ => none
def gPow : Sto → D → D → Option D := fun _ d e => match d, e with
  | .int i, .int j => if 0 ≤ j ∧ ((j ≤ 1000000 ∧ i.natAbs < 2 ^ 64) ∨ (Builtin.Int.intBits i : Int) * j ≤ 2 ^ 27) then some (.int (i ^ j.toNat)) else none
  | _, _ => none
def gNeg : Sto → D → Option D := fun _ d => match d with
  | .int i => some (.int (-i))
  | _ => none
def gLt : Sto → D → D → Option D := fun _ d e => match d, e with
  | .int i, .int j => some (.bl (decide (i < j)))
  | _, _ => none
def gLe : Sto → D → D → Option D := fun _ d e => match d, e with
  | .int i, .int j => some (.bl (decide (i ≤ j)))
  | _, _ => none
def gGt : Sto → D → D → Option D := fun _ d e => match d, e with
  | .int i, .int j => some (.bl (decide (j < i)))
  | _, _ => none
def gGe : Sto → D → D → Option D := fun _ d e => match d, e with
  | .int i, .int j => some (.bl (decide (j ≤ i)))
  | _, _ => none
mutual
/-- as the model's data -/
def toPy (S : Sto) : D → Option PyData
  | .non => some .none
  | .bl b => some (.bool b)
  | .int i => some (.int i)
  | .str x => some (.str x)
  | .tup xs => (toPys S xs).map .tuple
  | .lst xs => (toPys S xs).map .list
  | _ => none
def toPys (S : Sto) : List D → Option (List PyData)
  | [] => some []
  | d :: r => match toPy S d, toPys S r with
    | some x, some xs => some (x :: xs)
    | _, _ => none
end
def eqD (S : Sto) (d e : D) : Option Bool := match toPy S (deref S d), toPy S (deref S e) with
  | some x, some y => if SeqAt.shaped x && SeqAt.shaped y then some (PyData.eqv x y) else none
  | _, _ => none
def gEq : Sto → D → D → Option D := fun S d e => (eqD S d e).map .bl
def gNe : Sto → D → D → Option D := fun S d e => (eqD S d e).map fun b => .bl (!b)
def gIs : Sto → D → D → Option D := fun _ d e => match e with
  | .non => (match d with
    | .non => some (.bl true)
    | .ptr _ => some (.bl false)
    | _ => some (.bl false))
  | .bl b => (match d with
    | .bl a => some (.bl (decide (a = b)))
    | _ => none)
  | _ => none
def gIsN : Sto → D → D → Option D := fun S d e => match gIs S d e with
  | some (.bl b) => some (.bl (!b))
  | _ => none
section
variable {X : Cx} {W : WX} {a b c e : Expr} {es rest : List Expr} {ra rb rc : RE} {ba bb : RB} {rs : RA} {pos p : Pos} {wd : World} {K : Fg} {mg : Str → Option Value} {α β : List Addr} {F F1 H H1 : Hp} {S : Sto}
/-- two ints by a rule -/
theorem opg_int {f : Value → Value → Sem Value} {C : Int → Int → Prop} {h : Int → Int → Int} {g : Sto → D → D → Option D} (ho : OpR X f (rI C fun i j => .int (h i j)))
    (hg : ∀ S d e z, g S d e = some z → ∃ i j, d = .int i ∧ e = .int j ∧ C i j ∧ z = .int (h i j)) : OpG X f g := by
  refine ⟨_, ho, fun α F H S x y d e z Q hr hx hy hz q => ?_⟩
  obtain ⟨i, j, rfl, rfl, hc, rfl⟩ := hg S d e z hz
  cases hx; cases hy
  have an : α ++ [] = α := List.append_nil α
  exact ⟨i, j, rfl, rfl, hc, q _ H [] F (by rw [an]; exact hr) Stp.refl (.int _)⟩
theorem g_sub : OpG X (binaryOp .Sub) gSub := by
  refine ⟨_, op_sub, fun α F H S x y d e z Q hr hx hy hz q => ?_⟩
  unfold gSub at hz
  split at hz
  · cases hz; cases hx; cases hy
    have an : α ++ [] = α := List.append_nil α
    exact ⟨_, _, rfl, rfl, q _ H [] F (by rw [an]; exact hr) Stp.refl (.int _)⟩
  · cases hz
theorem mulFits_ok {i j : Int} (h : mulFits i j = true) : IntMulOk i j := by
  unfold mulFits at h
  rw [Bool.or_eq_true, Bool.or_eq_true] at h
  rcases h with h | h | h
  · have hl := of_decide_eq_true h
    have hb : ∀ k : Int, Builtin.Int.intBits k ≤ k.natAbs.log2 + 1 := fun k => by
      unfold Builtin.Int.intBits
      split
      · exact Nat.zero_le _
      · exact Nat.le_refl _
    exact IntMulOk.of_le (hb i) (hb j) (by omega)
  · have := of_decide_eq_true h
    exact CMul.ok (.inl ⟨by omega, by omega⟩)
  · have := of_decide_eq_true h
    exact CMul.ok (.inr ⟨by omega, by omega⟩)
theorem op_mulX : OpR X (binaryOp .Mult) (rI (fun i j => mulFits i j = true) fun i j => .int (i * j)) := opI fun _ _ _ _ _ _ _ hc q => mul_int q (mulFits_ok hc)
theorem g_mul : OpG X (binaryOp .Mult) gMul := opg_int op_mulX fun S d e z h => by
  unfold gMul at h
  split at h
  · split at h
    · rename_i q
      cases h
      exact ⟨_, _, rfl, rfl, q, rfl⟩
    · cases h
  · cases h
theorem op_fdivA : OpR X (binaryOp .FloorDiv) (rI (fun _ j => j ≠ 0 ∧ j.natAbs.log2 < 9000) fun i j => .int (i.fdiv j)) := opI fun i j _ _ _ _ _ hc q => floordiv_int hc.1 q (.inl (PyProof.noPylong_of_log2 hc.2))
theorem g_div : OpG X (binaryOp .FloorDiv) gDiv := opg_int op_fdivA fun S d e z h => by
  unfold gDiv at h
  split at h
  · split at h
    · rename_i q
      cases h
      exact ⟨_, _, rfl, rfl, q, rfl⟩
    · cases h
  · cases h
theorem g_mod : OpG X (binaryOp .Mod) gMod := opg_int op_modN fun S d e z h => by
  unfold gMod at h
  split at h
  · split at h
    · rename_i q
      cases h
      exact ⟨_, _, rfl, rfl, q, rfl⟩
    · cases h
  · cases h
def CPowW (i j : Int) : Prop := 0 ≤ j ∧ ((j ≤ 1000000 ∧ i.natAbs < 2 ^ 64) ∨ (Builtin.Int.intBits i : Int) * j ≤ 2 ^ 27)
theorem op_powW : OpR X (binaryOp .Pow) (rI CPowW fun i j => .int (i ^ j.toNat)) := opI fun _ _ _ _ _ _ _ hc q => by
  rcases hc with ⟨h0, ⟨h1, h2⟩ | h1⟩
  · exact pow_int_small h0 h1 h2 q
  · exact PyProof.Rows.pow_int h0 h1 q
theorem g_pow : OpG X (binaryOp .Pow) gPow := by
  refine ⟨_, op_powW, fun α F H S x y d e z Q hr hx hy hz q => ?_⟩
  unfold gPow at hz
  split at hz
  · split at hz
    · rename_i hc
      cases hz; cases hx; cases hy
      have an : α ++ [] = α := List.append_nil α
      exact ⟨_, _, rfl, rfl, hc, q _ H [] F (by rw [an]; exact hr) Stp.refl (.int _)⟩
    · cases hz
  · cases hz
/-! ### ==, != -/
mutual
theorem DV.dp {v : V} : ∀ {d : D} {x : PyData}, DV wd K mg F α v d → toPy S d = some x → Sub F H → Dp K H v x
  | _, _, .non, e, _ => by cases e; exact .non
  | _, _, .bl b, e, _ => by cases e; exact .bl b
  | _, _, .int i, e, _ => by cases e; exact .int i
  | _, _, .str y, e, _ => by cases e; exact .str y
  | _, _, .tup h t, e, s => by
    rename_i ds
    unfold toPy at e
    cases q : toPys S ds with
    | none => rw [q] at e; cases e
    | some ys => rw [q] at e; cases e; exact .tup (s.sqT h.1) (DVs.dp t q s)
  | _, _, .lst h t, e, s => by
    rename_i ds
    unfold toPy at e
    cases q : toPys S ds with
    | none => rw [q] at e; cases e
    | some ys => rw [q] at e; cases e; exact .lst (s.sqL h) (DVs.dp t q s)
  | _, _, .tux _ _, e, _ => by cases e
  | _, _, .ptr _, e, _ => by cases e
  | _, _, .fn _, e, _ => by cases e
  | _, _, .ty _, e, _ => by cases e
  | _, _, .exc _ _ _ _ _, e, _ => by cases e
  | _, _, .dc0 _ _, e, _ => by cases e
theorem DVs.dp {vs : List V} : ∀ {ds : List D} {xs : List PyData}, DVs wd K mg F α vs ds → toPys S ds = some xs → Sub F H → DpAll K H vs xs
  | _, _, .nil, e, _ => by cases e; exact .nil
  | _, _, .cons h t, e, s => by
    rename_i d _ ds
    unfold toPys at e
    cases q1 : toPy S d with
    | none => rw [q1] at e; cases e
    | some x =>
      cases q2 : toPys S ds with
      | none => rw [q1, q2] at e; cases e
      | some xs => rw [q1, q2] at e; cases e; exact .cons (DV.dp h q1 s) (DVs.dp t q2 s)
end
theorem Rel.dp (hr : Rel wd K mg α F H S) {v : V} {d : D} {x : PyData} (h : DV wd K mg F α v d) (e : toPy S (deref S d) = some x) : Dp K H v x := by
  have s := hr.see h
  generalize deref S d = dd at e s
  cases s with
  | «at» h _ => exact h.dp e hr.sub
  | dead => cases e
  | lst q t =>
    rename_i ds
    unfold toPy at e
    cases q2 : toPys S ds with
    | none => rw [q2] at e; cases e
    | some ys => rw [q2] at e; cases e; exact .lst (SqL.of q) (t.dp q2 hr.sub)
  | dct _ _ _ => cases e
  | dcn _ _ => cases e
theorem Rel.eqD (hr : Rel wd K mg α F H S) {v u : V} {d e : D} {k : Bool} (h1 : DV wd K mg F α v d) (h2 : DV wd K mg F α u e) (q : DL.eqD S d e = some k) : ∃ x y, Dp K H v x ∧ Dp K H u y ∧ SeqAt.shaped x = true ∧ SeqAt.shaped y = true ∧ k = PyData.eqv x y := by
  unfold DL.eqD at q
  split at q
  · rename_i x y e1 e2
    split at q
    · rename_i hc
      rw [Bool.and_eq_true] at hc
      cases q
      exact ⟨x, y, hr.dp h1 e1, hr.dp h2 e2, hc.1, hc.2, rfl⟩
    · cases q
  · cases q
theorem g_eq (hu : X.A.units + 64 < cLine) : OpG X (compareOp .Eq) gEq := by
  refine ⟨_, op_eqD hu, fun α F H S x y d e z Q hr hx hy hz q => ?_⟩
  unfold gEq at hz
  cases q1 : DL.eqD S d e with
  | none => rw [q1] at hz; cases hz
  | some k =>
    rw [q1] at hz; cases hz
    obtain ⟨x', y', a1, a2, a3, a4, rfl⟩ := hr.eqD hx hy q1
    have an : α ++ [] = α := List.append_nil α
    exact ⟨x', y', a1, a2, a3, a4, q _ H [] F (by rw [an]; exact hr) Stp.refl (.bl _)⟩
theorem g_ne (hu : X.A.units + 64 < cLine) : OpG X (compareOp .NotEq) gNe := by
  refine ⟨_, op_neD hu, fun α F H S x y d e z Q hr hx hy hz q => ?_⟩
  unfold gNe at hz
  cases q1 : DL.eqD S d e with
  | none => rw [q1] at hz; cases hz
  | some k =>
    rw [q1] at hz; cases hz
    obtain ⟨x', y', a1, a2, a3, a4, rfl⟩ := hr.eqD hx hy q1
    have an : α ++ [] = α := List.append_nil α
    exact ⟨x', y', a1, a2, a3, a4, q _ H [] F (by rw [an]; exact hr) Stp.refl (.bl _)⟩
/-! ### is -/
theorem g_is : OpG X (compareOp .Is) gIs := by
  refine ⟨_, op_isN.or op_isBl, fun α F H S x y d e z Q hr hx hy hz q => ?_⟩
  have an : α ++ [] = α := List.append_nil α
  have fin : ∀ k, z = .bl k → Q (.bl k) H := fun k ek => by subst ek; exact q _ H [] F (by rw [an]; exact hr) Stp.refl (.bl _)
  unfold gIs at hz
  split at hz
  · cases hy
    refine .inl ⟨rfl, fin _ ?_⟩
    cases hx <;> cases hz <;> rfl
  · cases hy
    split at hz
    · cases hx
      cases hz
      exact .inr ⟨_, _, rfl, rfl, fin _ rfl⟩
    · cases hz
  · cases hz
theorem g_isN : OpG X (compareOp .IsNot) gIsN := by
  refine ⟨_, op_notN.or op_notBl, fun α F H S x y d e z Q hr hx hy hz q => ?_⟩
  have an : α ++ [] = α := List.append_nil α
  have fin : ∀ k, z = .bl k → Q (.bl k) H := fun k ek => by subst ek; exact q _ H [] F (by rw [an]; exact hr) Stp.refl (.bl _)
  unfold gIsN at hz
  split at hz
  · rename_i k q1
    cases hz
    unfold gIs at q1
    split at q1
    · cases hy
      refine .inl ⟨rfl, fin _ ?_⟩
      cases hx <;> cases q1 <;> rfl
    · cases hy
      split at q1
      · cases hx
        cases q1
        exact .inr ⟨_, _, rfl, rfl, fin _ rfl⟩
      · cases q1
    · cases q1
  · cases hz
end
end DL
set_option Elab.async false
set_option linter.all false
set_option maxRecDepth 100000
set_option maxHeartbeats 4000000
set_option autoImplicit false
/-! Data layer, eighth part: built-in functions, methods of texts, items, slices. -/
namespace DL
open PySem PySem.Spec PyProof.Rows L2
def tyName (S : Sto) (d : D) : Option String := match deref S d with
  | .non => some "NoneType"
  | .bl _ => some "bool"
  | .int _ => some "int"
  | .str _ => some "str"
  | .tup _ => some "tuple"
  | .lst _ => some "list"
  | .dct _ => some "dict"
  | _ => none
def gIsi : Sto → List D → Option D := fun S ds => match ds with
  | [d, .ty T] => (tyName S d).bind fun t => (kitB t T).map .bl
  | _ => none
def gLen : Sto → List D → Option D := fun S ds => match ds with
  | [d] => (match deref S d with
    | .str y => if y.length ≤ sizeLine then some (.int y.length) else none
    | .tup xs => some (.int xs.length)
    | .lst xs => some (.int xs.length)
    | _ => none)
  | _ => none
def gAbs : Sto → List D → Option D := fun _ ds => match ds with
  | [.int i] => some (.int (if i < 0 then -i else i))
  | _ => none
def gInt : Sto → List D → Option D := fun _ ds => match ds with
  | [.int i] => some (.int i)
  | [.bl k] => some (.int (if k then 1 else 0))
  | [.str a] => (match intText? a with
    | some n => if a.length ≤ 640 then some (.int n) else none
    | none => none)
  | _ => none
def gStr : Sto → List D → Option D := fun _ ds => match ds with
  | [.int i] => if i.natAbs.log2 < 1920 then some (.str (toString i)) else none
  | [.str a] => some (.str a)
  | _ => none
def asBls : List D → Option (List Bool)
  | [] => some []
  | .bl b :: r => (asBls r).map (b :: ·)
  | _ => none
def asInts : List D → Option (List Int)
  | [] => some []
  | .int b :: r => (asInts r).map (b :: ·)
  | _ => none
def asStrs : List D → Option (List Str)
  | [] => some []
  | .str b :: r => (asStrs r).map (b :: ·)
  | _ => none
def gAll : Sto → List D → Option D := fun S ds => match ds with
  | [d] => (match deref S d with
    | .lst xs => (asBls xs).map fun bs => .bl (bs.all id)
    | _ => none)
  | _ => none
def gAny : Sto → List D → Option D := fun S ds => match ds with
  | [d] => (match deref S d with
    | .lst xs => (asBls xs).map fun bs => .bl (bs.any id)
    | _ => none)
  | _ => none
def gSum : Sto → List D → Option D := fun S ds => match ds with
  | [d] => (match deref S d with
    | .lst xs => (asInts xs).map fun bs => .int bs.sum
    | _ => none)
  | _ => none
def toPyR (S : Sto) : D → Option PyData
  | .ptr k => (match S.getD k .non with
    | .dct [] => some (.dict [])
    | _ => toPy S (deref S (.ptr k)))
  | d => toPy S d
def gRepr : Sto → List D → Option D := fun S ds => match ds with
  | [d] => (match toPyR S d with
    | some x => if x.showable && decide (x.depth ≤ 64) && decide (x.shown.length ≤ sizeLine) then some (.str x.shown) else none
    | none => none)
  | _ => none
section
variable {X : Cx} {W : WX} {a b c e : Expr} {es rest : List Expr} {ra rb rc : RE} {ba bb : RB} {rs : RA} {pos p : Pos} {wd : World} {K : Fg} {mg : Str → Option Value} {α β : List Addr} {F F1 H H1 : Hp} {S : Sto}
theorem asBls_eq : ∀ {xs : List D} {bs : List Bool}, asBls xs = some bs → xs = bs.map .bl
  | [], _, h => by cases h; rfl
  | .bl b :: r, _, h => by
    unfold asBls at h
    cases q : asBls r with
    | none => rw [q] at h; cases h
    | some ys => rw [q] at h; cases h; rw [asBls_eq q]; rfl
theorem asInts_eq : ∀ {xs : List D} {bs : List Int}, asInts xs = some bs → xs = bs.map .int
  | [], _, h => by cases h; rfl
  | .int b :: r, _, h => by
    unfold asInts at h
    cases q : asInts r with
    | none => rw [q] at h; cases h
    | some ys => rw [q] at h; cases h; rw [asInts_eq q]; rfl
theorem asStrs_eq : ∀ {xs : List D} {bs : List Str}, asStrs xs = some bs → xs = bs.map .str
  | [], _, h => by cases h; rfl
  | .str b :: r, _, h => by
    unfold asStrs at h
    cases q : asStrs r with
    | none => rw [q] at h; cases h
    | some ys => rw [q] at h; cases h; rw [asStrs_eq q]; rfl
/-- the end of a rule that changes nothing -/
theorem fin_now {v : V} {z : D} {Q : VK} (hr : Rel wd K mg α F H S) (hv : DV wd K mg F α v z) (q : ∀ v H' β F', Rel wd K mg (α ++ β) F' H' S → Stp α F H β F' H' → DV wd K mg F' (α ++ β) v z → Q v H') : Q v H := by
  have an : α ++ [] = α := List.append_nil α
  exact q v H [] F (by rw [an]; exact hr) Stp.refl (by rw [an]; exact hv)
theorem pd_ty {x : Str} {n : String} (hm : X.mg x = none) (hg : Gl X x := by rfl) (hv : bootBuiltins x = some (.type n) := by decide +kernel) (hn : x ≠ "__name__" := by decide) (hd : (x == ("__debug__" : Str)) = false := by decide) : PD X W (.Name x pos) (rC (.ty n)) :=
  pd_c (v := .ty n) (pe_bltn hg hm hv rfl hn hd) fun _ _ => .ty n
theorem Rel.tyX (hr : Rel wd K mg α F H S) {v : V} {d : D} {t : String} (h : DV wd K mg F α v d) (e : tyName S d = some t) : TyX K H v (.type t) := by
  have s := hr.see h
  unfold tyName at e
  generalize deref S d = dd at e s
  cases s with
  | «at» h hp =>
    cases h with
    | non => cases e; exact .base .non
    | bl b => cases e; exact .base (.bl b)
    | int i => cases e; exact .base (.int i)
    | str x => cases e; exact .base (.str x)
    | tup q t =>
      cases e
      rcases hr.sub.sqT q.1 with (q | ⟨o, q⟩) | ⟨o, its, n, q, c, _⟩
      · exact .base (.tup q)
      · exact .fTuple q
      · exact .kTuple q c
    | lst q t =>
      cases e
      rcases hr.sub.sqL q with (q | ⟨o, q⟩) | ⟨o, its, n, q, c, _⟩
      · exact .base (.lst q)
      · exact .base (.frz q)
      · exact .kList q c
    | tux q t => cases e
    | ptr _ => exact absurd rfl (hp _)
    | fn _ => cases e
    | ty _ => cases e
    | exc _ _ _ _ _ => cases e
    | dc0 _ _ => cases e
  | dead => cases e
  | lst q t => cases e; exact .base (.lst q)
  | dct q k t =>
    cases e
    rcases q with q | ⟨o, q⟩
    · exact .base (.dK q)
    · exact .fDict q
  | dcn _ _ => cases e
theorem b_isi : BiG X (.builtin "isinstance") gIsi := by
  refine ⟨_, call_isi, fun α F H S xs ds z Q hr hv hz q => ?_⟩
  unfold gIsi at hz
  split at hz
  · rename_i d T
    cases hv with
    | cons h1 h2 =>
      cases h2 with
      | cons h2 h3 =>
        cases h3
        cases h2
        rename_i v
        cases e1 : tyName S d with
        | none => rw [e1] at hz; cases hz
        | some t =>
          rw [e1] at hz
          cases e2 : kitB t T with
          | none => rw [Option.bind_some, e2] at hz; cases hz
          | some k =>
            rw [Option.bind_some, e2] at hz
            cases hz
            exact ⟨v, .ty T, .type t, .type T, k, rfl, .ty T, hr.tyX h1 e1, kit_ty e2, fin_now hr (.bl _) q⟩
  · cases hz
theorem b_len : BiG X (.builtin "len") gLen := by
  refine ⟨_, call_len, fun α F H S xs ds z Q hr hv hz q => ?_⟩
  unfold gLen at hz
  split at hz
  · rename_i d
    cases hv with
    | cons h1 h2 =>
      cases h2
      rename_i v
      split at hz
      · rename_i y e
        split at hz
        · rename_i hl
          cases hz
          have := hr.viewS h1 e
          subst this
          exact ⟨_, y.length, rfl, ⟨hl, rfl⟩, fin_now hr (.int _) q⟩
        · cases hz
      · rename_i ys e
        cases hz
        obtain ⟨a, us, rfl, h3, h4⟩ := hr.viewT h1 e
        exact ⟨_, us.length, rfl, .inr ⟨us, h3, rfl⟩, by rw [h4.length]; exact fin_now hr (.int _) q⟩
      · rename_i ys e
        cases hz
        obtain ⟨a, us, rfl, h3, h4⟩ := hr.viewL h1 e
        exact ⟨_, us.length, rfl, .inl ⟨us, h3, rfl⟩, by rw [h4.length]; exact fin_now hr (.int _) q⟩
      · cases hz
  · cases hz
theorem b_abs : BiG X (.builtin "abs") gAbs := by
  refine ⟨_, call_abs, fun α F H S xs ds z Q hr hv hz q => ?_⟩
  unfold gAbs at hz
  split at hz
  · cases hz
    cases hv with
    | cons h1 h2 => cases h2; cases h1; exact ⟨_, rfl, fin_now hr (.int _) q⟩
  · cases hz
theorem b_int : BiG X (.type "int") gInt := by
  refine ⟨_, call_int1.or call_int_str, fun α F H S xs ds z Q hr hv hz q => ?_⟩
  unfold gInt at hz
  split at hz
  · cases hz
    cases hv with
    | cons h1 h2 => cases h2; cases h1; exact .inl (.inl ⟨_, rfl, fin_now hr (.int _) q⟩)
  · cases hz
    cases hv with
    | cons h1 h2 => cases h2; cases h1; exact .inl (.inr ⟨_, rfl, fin_now hr (.int _) q⟩)
  · cases hv with
    | cons h1 h2 =>
      cases h2; cases h1
      split at hz
      · rename_i n e
        split at hz
        · rename_i hl
          cases hz
          exact .inr ⟨_, n, rfl, e, hl, fin_now hr (.int _) q⟩
        · cases hz
      · cases hz
  · cases hz
theorem b_str : BiG X (.type "str") gStr := by
  refine ⟨_, call_str_int.or SkE.call_str_str, fun α F H S xs ds z Q hr hv hz q => ?_⟩
  unfold gStr at hz
  split at hz
  · split at hz
    · rename_i hl
      cases hz
      cases hv with
      | cons h1 h2 => cases h2; cases h1; exact .inl ⟨_, rfl, hl, fin_now hr (.str _) q⟩
    · cases hz
  · cases hz
    cases hv with
    | cons h1 h2 => cases h2; cases h1; exact .inr ⟨_, rfl, fin_now hr (.str _) q⟩
  · cases hz
theorem b_all (hc : X.calm = true) : BiG X (.builtin "all") gAll := by
  refine ⟨_, cr_all hc, fun α F H S xs ds z Q hr hv hz q => ?_⟩
  unfold gAll at hz
  split at hz
  · rename_i d
    cases hv with
    | cons h1 h2 =>
      cases h2
      split at hz
      · rename_i ys e
        cases e2 : asBls ys with
        | none => rw [e2] at hz; cases hz
        | some bs =>
          rw [e2] at hz; cases hz
          obtain ⟨a, us, rfl, h3, h4⟩ := hr.viewL h1 e
          rw [asBls_eq e2] at h4
          rw [h4.bls] at h3
          exact ⟨a, bs, rfl, h3, fin_now hr (.bl _) q⟩
      · cases hz
  · cases hz
theorem b_any (hc : X.calm = true) : BiG X (.builtin "any") gAny := by
  refine ⟨_, cr_any hc, fun α F H S xs ds z Q hr hv hz q => ?_⟩
  unfold gAny at hz
  split at hz
  · rename_i d
    cases hv with
    | cons h1 h2 =>
      cases h2
      split at hz
      · rename_i ys e
        cases e2 : asBls ys with
        | none => rw [e2] at hz; cases hz
        | some bs =>
          rw [e2] at hz; cases hz
          obtain ⟨a, us, rfl, h3, h4⟩ := hr.viewL h1 e
          rw [asBls_eq e2] at h4
          rw [h4.bls] at h3
          exact ⟨a, bs, rfl, h3, fin_now hr (.bl _) q⟩
      · cases hz
  · cases hz
theorem b_sum (hc : X.calm = true) : BiG X (.builtin "sum") gSum := by
  refine ⟨_, cr_sum hc, fun α F H S xs ds z Q hr hv hz q => ?_⟩
  unfold gSum at hz
  split at hz
  · rename_i d
    cases hv with
    | cons h1 h2 =>
      cases h2
      split at hz
      · rename_i ys e
        cases e2 : asInts ys with
        | none => rw [e2] at hz; cases hz
        | some bs =>
          rw [e2] at hz; cases hz
          obtain ⟨a, us, rfl, h3, h4⟩ := hr.viewL h1 e
          rw [asInts_eq e2] at h4
          rw [h4.ints] at h3
          exact ⟨a, bs, rfl, h3, fin_now hr (.int _) q⟩
      · cases hz
  · cases hz
end
end DL
set_option Elab.async false
set_option linter.all false
set_option maxRecDepth 100000
set_option maxHeartbeats 4000000
set_option autoImplicit false
/-! Data layer, ninth part: repr, methods, texts, items, slices, lists that are made. -/
namespace DL
open PySem PySem.Spec PyProof.Rows L2
section
variable {X : Cx} {W : WX} {a b c e : Expr} {es rest : List Expr} {ra rb rc : RE} {ba bb : RB} {rs : RA} {pos p : Pos} {wd : World} {K : Fg} {mg : Str → Option Value} {α β : List Addr} {F F1 H H1 : Hp} {S : Sto}
instance (x : Str) (n : Int) : Decidable (MulOk x n) := by unfold MulOk; infer_instance
theorem g_add : OpG X (binaryOp .Add) gAdd := by
  refine ⟨_, (op_add.or op_add_str).or op_catP, fun α F H S x y d e z Q hr hx hy hz q => ?_⟩
  unfold gAdd at hz
  split at hz
  · rename_i e1 e2
    cases hz
    have := hr.viewI hx e1
    have := hr.viewI hy e2
    subst x; subst y
    exact .inl (.inl ⟨_, _, rfl, rfl, fin_now hr (.int _) q⟩)
  · rename_i e1 e2
    split at hz
    · rename_i hl
      cases hz
      have := hr.viewS hx e1
      have := hr.viewS hy e2
      subst x; subst y
      exact .inl (.inr ⟨_, _, rfl, rfl, hl, fin_now hr (.str _) q⟩)
    · cases hz
  · rename_i xs ys e1 e2
    split at hz
    · rename_i hl
      cases hz
      obtain ⟨a, us, rfl, a1, a2⟩ := hr.viewT hx e1
      obtain ⟨b, ws, rfl, b1, b2⟩ := hr.viewT hy e2
      refine .inr ⟨a, b, us, ws, rfl, rfl, a1, b1, by rw [a2.length, b2.length]; exact hl, fun en => ?_, fun _ en => ?_, fun n1 n2 p hp o ho => ?_⟩
      · subst en
        have en : xs = [] := by cases a2; rfl
        subst en
        have sy := hr.see hy
        rw [e2] at sy
        cases sy with
        | «at» h _ => exact fin_now hr h q
      · subst en
        have en : ys = [] := by cases b2; rfl
        subst en
        rw [List.append_nil] at q
        have sx := hr.see hx
        rw [e1] at sx
        cases sx with
        | «at» h _ => exact fin_now hr h q
      · obtain ⟨c1, c2, c3⟩ := hr.tup (a2.append b2) hp ho
        exact q _ _ _ _ c1 c2 c3
    · cases hz
  · cases hz
mutual
theorem dp_noD {v : V} : ∀ {d : PyData}, Dp K H v d → d.hasDict = false
  | _, .non => by simp [PyData.hasDict]
  | _, .bl _ => by simp [PyData.hasDict]
  | _, .int _ => by simp [PyData.hasDict]
  | _, .str _ => by simp [PyData.hasDict]
  | _, .lst _ t => by rw [PyData.hasDict]; exact dpA_noD t
  | _, .tup _ t => by rw [PyData.hasDict]; exact dpA_noD t
theorem dpA_noD {vs : List V} : ∀ {ds : List PyData}, DpAll K H vs ds → PyData.hasDictAll ds = false
  | _, .nil => by simp [PyData.hasDictAll]
  | _, .cons h t => by rw [PyData.hasDictAll, dp_noD h, dpA_noD t]; rfl
end
/-! ### repr -/
theorem repr_ok (hG : X.A.guards = some []) (hu : X.A.units + 80 < cLine) : CallR X (.builtin "repr") (fun xs H Q => ∃ x d, xs = [x] ∧ (Dp X.K H x d ∨ (d = .dict [] ∧ ∃ a, x = .ref a ∧ H a = some (.dK []))) ∧ d.showable = true ∧ d.depth ≤ 64 ∧ d.shown.length ≤ sizeLine ∧ Q (.str d.shown) H) := by
  intro pins s σ H xs us Q I rv h
  obtain ⟨x, d, rfl, hd, h1, h2, h3, q⟩ := h
  obtain ⟨u, rfl, rx⟩ := vals1 rv
  have done : ∀ h' t tk, (∀ b o, s.heap.get? b = some o → h'.get? b = some o) → EP X pins σ Q (.str d.shown t) { s with heap := h', toks := tk } := fun h' t tk k => ⟨.str _, H, I.kept (t' := tk) k, ⟨_, rfl⟩, q⟩
  rcases hd with hd | ⟨rfl, a, rfl, ha⟩
  · obtain ⟨as, r⟩ := Dp.reads I d x u hd rx
    have noD : d.hasDict = false := dp_noD hd
    cases hd with
    | non => cases rx; exact P.repr_of_none (done s.heap _ _ fun _ _ e => e)
    | bl b => cases rx; exact P.repr_of_bool (done s.heap _ _ fun _ _ e => e)
    | int i => obtain ⟨t, rfl⟩ := rx; exact P.repr_of_int (of_decide_eq_true (by simpa [PyData.showable] using h1)) (done s.heap _ _ fun _ _ e => e)
    | str z => obtain ⟨t, rfl⟩ := rx; exact P.repr_of_str (by simpa [PyData.shown] using done s.heap s.toks (s.toks + 1) fun _ _ e => e) (by simpa [PyData.shown] using h3)
    | lst _ _ => cases rx; exact repr_of_reads' r h1 (fun z => by rw [noD] at z; cases z) hG (by omega) (fun _ _ e => e) (fun h' u tk k => done h' u tk k) h3
    | tup _ _ => cases rx; exact repr_of_reads' r h1 (fun z => by rw [noD] at z; cases z) hG (by omega) (fun _ _ e => e) (fun h' u tk k => done h' u tk k) h3
  · cases rx
    obtain ⟨_, hs, vs, hk, o, es, ep, e1, e2, e3, hdd⟩ := I.hok a _ ha
    cases hk
    have e5 : es.toList = [] := by
      have h5 := hdd.2.1
      cases h6 : es.toList with
      | nil => rfl
      | cons _ _ => rw [h6] at h5; cases h5
    have r : Reads s.heap (.ref a) (.dict []) (a :: [] ++ []) := .dict e1 e2.1 e3 (by rw [e5]; exact .nil) (by rw [e5]; exact .nil)
    exact repr_of_reads' r h1 (fun _ => by simpa using (beq_eq_false_iff_ne.mp hs).symm) hG (by omega) (fun _ _ e => e) (fun h' u tk k => done h' u tk k) h3
theorem b_repr (hG : X.A.guards = some []) (hu : X.A.units + 80 < cLine) : BiG X (.builtin "repr") gRepr := by
  refine ⟨_, repr_ok hG hu, fun α F H S xs ds z Q hr hv hz q => ?_⟩
  unfold gRepr at hz
  split at hz
  · rename_i d
    cases hv with
    | cons h1 h2 =>
      cases h2
      split at hz
      · rename_i x e
        split at hz
        · rename_i hc
          rw [Bool.and_eq_true, Bool.and_eq_true] at hc
          cases hz
          refine ⟨_, x, rfl, ?_, hc.1.1, of_decide_eq_true hc.1.2, of_decide_eq_true hc.2, fin_now hr (.str _) q⟩
          cases d with
          | ptr k =>
            unfold toPyR at e
            dsimp only at e
            split at e
            · rename_i e6
              cases e
              cases h1 with
              | ptr ha =>
                obtain ⟨_, o, _⟩ := hr.owned ha
                rw [e6] at o
                obtain ⟨ws, a1, a2, a3⟩ := o
                have : ws = [] := by have := a2.length; simpa using this
                subst this
                exact .inr ⟨rfl, _, rfl, a1⟩
            · exact .inl (hr.dp h1 e)
          | _ => exact .inl (hr.dp h1 e)
        · cases hz
      · cases hz
  · cases hz
end
end DL
set_option Elab.async false
set_option linter.all false
set_option maxRecDepth 100000
set_option maxHeartbeats 4000000
set_option autoImplicit false
/-! Data layer, tenth part: methods, lists that are made, items, slices. -/
namespace DL
open PySem PySem.Spec PyProof.Rows L2
/-! ### what they come to -/
/-- the type by whose method it goes -/
def isTy (T : String) (S : Sto) (d : D) : Bool := match deref S d with
  | .str _ => T == "str"
  | .lst _ => T == "list"
  | .dct _ => T == "dict"
  | _ => false
/-- a method: the receiver's type is looked at ahead of the arguments -/
def rMeth (T : String) (g : Sto → D → List D → Option (D × Sto)) (a : RE) (as : RA) : RE := fun δ S => (a δ S).bind fun x S1 => if isTy T S1 x then (as δ S1).bind fun ys S2 => match g S2 x ys with
  | some (z, S3) => .ok z S3
  | none => .stuck else .stuck
def pureM (g : Sto → D → List D → Option D) : Sto → D → List D → Option (D × Sto) := fun S d ds => (g S d ds).map fun z => (z, S)
def gStarts : Sto → D → List D → Option D := fun _ d ds => match d, ds with
  | .str a, [.str b] => some (.bl (Txt.startswith a b))
  | _, _ => none
def gJoin : Sto → D → List D → Option D := fun S d ds => match d, ds with
  | .str a, [e] => (match deref S e with
    | .lst xs => (match asStrs xs with
      | some ys => if (ys.map (·.length)).sum + ys.length * a.length ≤ 16777216 then some (.str (Txt.join a ys)) else none
      | none => none)
    | _ => none)
  | _, _ => none
def mAppend : Sto → D → List D → Option (D × Sto) := fun S d ds => match d, ds with
  | .ptr k, [y] => (match S[k]? with
    | some (.lst xs) => if xs.length < sizeLine then some (.non, S.set k (.lst (xs ++ [y]))) else none
    | _ => none)
  | _, _ => none
/-- an item of a list, a tuple, a text -/
def gIx : Sto → D → D → Option D := fun S d e => match deref S d, e with
  | .lst xs, .int i => atI xs i
  | .tup xs, .int i => atI xs i
  | .str z, .int i => if z.length ≤ sizeLine then (atI z.cps.toList i).map fun c => .str ⟨#[c]⟩ else none
  | _, _ => none
/-- a part: from, to -/
def cutD {A : Type} (xs : List A) (lo hi : Option Int) : List A := (xs.drop (HT.sIx xs.length 0 lo)).take (HT.sIx xs.length xs.length hi - HT.sIx xs.length 0 lo)
abbrev RO := Sl → Sto → Res (Option Int)
def oNone : RO := fun _ S => .ok none S
def oSome (a : RE) : RO := fun δ S => (a δ S).bind fun x S1 => match x with
  | .int i => .ok (some i) S1
  | _ => .stuck
def rCut (a : RE) (l h : RO) : RE := fun δ S => (a δ S).bind fun x S1 => (l δ S1).bind fun i S2 => (h δ S2).bind fun j S3 => match deref S3 x with
  | .lst xs => .ok (.lst (cutD xs i j)) S3
  | .tup xs => .ok (.tup (cutD xs i j)) S3
  | .str z => if z.length ≤ sizeLine then .ok (.str (cutS z i j)) S3 else .stuck
  | _ => .stuck
section
variable {X : Cx} {W : WX} {a b c e : Expr} {es rest : List Expr} {ra rb rc : RE} {ba bb : RB} {rs : RA} {pos p : Pos} {wd : World} {K : Fg} {mg : Str → Option Value} {α β : List Addr} {F F1 H H1 : Hp} {S : Sto}
theorem isTy_ok (hr : Rel wd K mg α F H S) {v : V} {d : D} {T : String} (h : DV wd K mg F α v d) (e : isTy T S d = true) (hT : T ≠ "dict") : tyV K T v H := by
  have s := hr.see h
  unfold isTy at e
  generalize deref S d = dd at e s
  cases s with
  | «at» h hp =>
    cases h with
    | str x => exact beq_iff_eq.mp e
    | lst q t => exact .inl ⟨beq_iff_eq.mp e, _, hr.sub.sqL q⟩
    | ptr _ => exact absurd rfl (hp _)
    | _ => cases e
  | dead => cases e
  | lst q t => exact .inl ⟨beq_iff_eq.mp e, _, SqL.of q⟩
  | dct q k t => exact absurd (beq_iff_eq.mp e) hT
  | dcn q t => cases e
def OkM (X : Cx) (r : V → List V → Hp → VK → Prop) (g : Sto → D → List D → Option (D × Sto)) : Prop := ∀ α F H S (x : V) (xs : List V) (d : D) (ds : List D) (z : D) (S' : Sto) (Q : VK), Rel X.w X.K X.mg α F H S → DV X.w X.K X.mg F α x d → DVs X.w X.K X.mg F α xs ds → g S d ds = some (z, S') →
  (∀ v H' β F', Rel X.w X.K X.mg (α ++ β) F' H' S' → Stp α F H β F' H' → DV X.w X.K X.mg F' (α ++ β) v z → Q v H') → r x xs H Q
structure MdG (X : Cx) (id : String) (g : Sto → D → List D → Option (D × Sto)) : Prop where
  ex : ∃ r, MtR X id r ∧ OkM X r g
theorem pd_meth {o : Expr} {name : Str} {T id : String} {g : Sto → D → List D → Option (D × Sto)} {apos cpos : Pos} {ro : RE} (hm : MdG X id g) (pa : PlainAttrs T) (slot : Slot T name id) (hty : typeOf (.builtin id) = pure (.type "method_descriptor")) (ho : PD X W o ro) (ha : PDs X W (e :: es) rs) (hT : T ≠ "dict" := by decide)
    (hbase : attributeBase o name X.env (eval o X.env) = eval o X.env := by rfl)
    (hfew : ((backTo cpos (starEach (e :: es) X.env)).all (fun x => !x.1) && (backToKw cpos (keywordEach [] X.env)).all (fun x => x.1.isSome) && decide ((e :: es).length + ([] : List Keyword).length + (if ([] : List Keyword).isEmpty then 0 else 1) < 30)) = true := by rfl)
    (hline : (apos.endLine == cpos.line) = true := by rfl) (hs : starEach (e :: es) X.env = (false, eval e X.env) :: starEach es X.env := by rfl) (hplain : (backTo cpos (starEach es X.env)).any (·.1) = false := by rfl) :
    PD X W (.Call (.Attribute o name apos) (e :: es) [] cpos) (rMeth T g ro rs) := by
  obtain ⟨r, h1, h2⟩ := hm.ex
  obtain ⟨to, po, so⟩ := ho.ex
  obtain ⟨t, pt, st⟩ := ha.ex
  refine ⟨_, pe_bm pa slot hty h1 po pt hbase hfew hline hs hplain, fun α F σ H δ S Q hr hs h => ?_⟩
  refine so α F σ H δ S _ hr hs (wp.bind h fun d S1 _ x H1 β F1 r1 q1 v1 h1 => ?_)
  split at h1
  · rename_i ety
    refine ⟨isTy_ok r1 v1 ety hT, ?_⟩
    refine st (α ++ β) F1 σ H1 δ S1 _ r1 (hs.mono q1.sub) (wp.bind h1 fun ds S2 _ xs H2 γ F2 r2 q2 v2 h3 => ?_)
    cases eg : g S2 d ds with
    | none => rw [eg] at h3; exact h3.elim
    | some zs =>
      obtain ⟨z, S3⟩ := zs
      rw [eg] at h3
      exact h2 _ F2 H2 S2 x xs d ds z S3 Q r2 (v1.mono q2.sub) v2 eg fun v H' ε F' r3 s3 v3 => h3 v H' ε F' r3 s3 v3
  · exact h1.elim
theorem mdg_pure {id : String} {r : V → List V → Hp → VK → Prop} {g : Sto → D → List D → Option D} (h : MtR X id r) (hk : ∀ α F H S (x : V) (xs : List V) (d : D) (ds : List D) (z : D) (Q : VK), Rel X.w X.K X.mg α F H S → DV X.w X.K X.mg F α x d → DVs X.w X.K X.mg F α xs ds → g S d ds = some z →
    (∀ v H' β F', Rel X.w X.K X.mg (α ++ β) F' H' S → Stp α F H β F' H' → DV X.w X.K X.mg F' (α ++ β) v z → Q v H') → r x xs H Q) : MdG X id (pureM g) := by
  refine ⟨r, h, fun α F H S x xs d ds z S' Q hr hx hv hz q => ?_⟩
  unfold pureM at hz
  cases e : g S d ds with
  | none => rw [e] at hz; cases hz
  | some y => rw [e] at hz; cases hz; exact hk α F H S x xs d ds z Q hr hx hv e q
theorem m_starts : MdG X "str.startswith" (pureM gStarts) := mdg_pure mt_startswith fun α F H S x xs d ds z Q hr hx hv hz q => by
  unfold gStarts at hz
  split at hz
  · cases hz; cases hx
    cases hv with
    | cons h1 h2 => cases h2; cases h1; exact ⟨_, _, rfl, rfl, fin_now hr (.bl _) q⟩
  · cases hz
theorem m_join : MdG X "str.join" (pureM gJoin) := mdg_pure mt_join fun α F H S x xs d ds z Q hr hx hv hz q => by
  unfold gJoin at hz
  split at hz
  · rename_i a e
    split at hz
    · rename_i ys e1
      split at hz
      · rename_i zs e2
        split at hz
        · rename_i hl
          cases hz; cases hx
          cases hv with
          | cons h1 h2 =>
            cases h2
            obtain ⟨l, us, rfl, a1, a2⟩ := hr.viewL h1 e1
            rw [asStrs_eq e2] at a2
            rw [a2.strs] at a1
            exact ⟨_, l, zs, rfl, rfl, .inl a1, hl, fin_now hr (.str _) q⟩
        · cases hz
      · cases hz
    · cases hz
  · cases hz
theorem m_append : MdG X "list.append" mAppend := by
  refine ⟨rAppend, mt_append, fun α F H S x xs d ds z S' Q hr hx hv hz q => ?_⟩
  unfold mAppend at hz
  split at hz
  · rename_i k y
    split at hz
    · rename_i zs e
      split at hz
      · rename_i hl
        cases hz
        cases hx with
        | ptr ha =>
          obtain ⟨o, _⟩ := hr.own k _ _ ha e
          obtain ⟨us, o1, o2⟩ := o
          cases hv with
          | cons h1 h2 =>
            cases h2
            obtain ⟨a1, a2⟩ := hr.setO (o := .lst (us ++ [_])) (d := .lst (zs ++ [y])) ha e rfl ⟨_, upd_same, o2.append (.cons h1 .nil)⟩
            exact ⟨_, us, _, rfl, rfl, o1, by rw [o2.length]; exact hl, q _ _ _ _ a1 a2 .non⟩
      · cases hz
    · cases hz
  · cases hz
/-! ### items -/
theorem atI_DV {xs : List D} {us : List V} {i : Int} {d : D} (h : DVs wd K mg F α us xs) (e : atI xs i = some d) : ∃ v, atI us i = some v ∧ DV wd K mg F α v d := by
  unfold atI at e ⊢
  rw [h.length]
  cases q : ixN xs.length i with
  | none => rw [q] at e; cases e
  | some j => rw [q] at e; exact h.get e
theorem pd_ix (ha : PD X W a ra) (hb : PD X W b rb) (hs : PlainIx b := by intro _ _; rfl) : PD X W (.Subscript a b pos) (rBin gIx ra rb) := by
  obtain ⟨ta, pa, sa⟩ := ha.ex
  obtain ⟨tb, pb, sb⟩ := hb.ex
  refine ⟨_, pe_ix ix_seq pa pb hs, sa.bin sb fun α F H S x y d e z Q hr hx hy hz q => ?_⟩
  unfold gIx at hz
  split at hz
  · rename_i xs i e1
    cases hy
    obtain ⟨l, us, rfl, a1, a2⟩ := hr.viewL hx e1
    obtain ⟨v, e3, e4⟩ := atI_DV a2 hz
    exact .inl ⟨l, us, i, v, rfl, rfl, a1, e3, fin_now hr e4 q⟩
  · rename_i xs i e1
    cases hy
    obtain ⟨l, us, rfl, a1, a2⟩ := hr.viewT hx e1
    obtain ⟨v, e3, e4⟩ := atI_DV a2 hz
    exact .inr (.inl ⟨l, us, i, v, rfl, rfl, a1, e3, fin_now hr e4 q⟩)
  · rename_i zz i e1
    split at hz
    · rename_i hl
      cases hy
      have := hr.viewS hx e1
      subst this
      cases e3 : atI zz.cps.toList i with
      | none => rw [e3] at hz; cases hz
      | some c => rw [e3] at hz; cases hz; exact .inr (.inr ⟨zz, i, c, rfl, rfl, hl, e3, fin_now hr (.str _) q⟩)
    · cases hz
  · cases hz
end
end DL
set_option Elab.async false
set_option linter.all false
set_option maxRecDepth 100000
set_option maxHeartbeats 4000000
set_option autoImplicit false
/-! Data layer, eleventh part: slices, what is walked, targets, lists that are made, dicts. -/
namespace DL
open PySem PySem.Spec PyProof.Rows L2
def gIn1 : Sto → D → D → Option D := fun S d e => match d, deref S e with
  | .str x, .str z => if x.length = 1 then some (.bl (decide (x.cps.getD 0 0 ∈ z.cps.toList))) else none
  | _, _ => none
def flatD : D → Option V
  | .non => some .non
  | .bl b => some (.bl b)
  | .int i => some (.int i)
  | .str x => some (.str x)
  | _ => none
def flatDs : List D → Option (List V)
  | [] => some []
  | d :: r => match flatD d, flatDs r with
    | some v, some vs => some (v :: vs)
    | _, _ => none
/-- in a list or tuple of flat things -/
def gInQ : Sto → D → D → Option D := fun S d e => match flatD d, deref S e with
  | some x, .lst ys => (flatDs ys).map fun vs => .bl (inV x vs)
  | some x, .tup ys => (flatDs ys).map fun vs => .bl (inV x vs)
  | _, _ => none
def rSeq (a : RE) : RA := fun δ S => (a δ S).bind fun x S1 => match x with
  | .lst ds => .ok ds S1
  | .tup ds => .ok ds S1
  | .str z => .ok (z.cps.toList.map fun c => .str ⟨#[c]⟩) S1
  | _ => .stuck
def rangeD (lo hi : Int) : List D := (List.range (hi - lo).toNat).map fun (i : Nat) => .int (lo + i)
def rRange (a : RA) : RA := fun δ S => (a δ S).bind fun xs S1 => match xs with
  | [.int j] => if -(2 ^ 62) ≤ j ∧ j < 2 ^ 62 then .ok (rangeD 0 j) S1 else .stuck
  | [.int i, .int j] => if -(2 ^ 62) ≤ i ∧ i < 2 ^ 62 ∧ -(2 ^ 62) ≤ j ∧ j < 2 ^ 62 then .ok (rangeD i j) S1 else .stuck
  | _ => .stuck
def enumD : Nat → List D → List D
  | _, [] => []
  | n, d :: r => .tux [.int n, d] :: enumD (n + 1) r
def rEnum (a : RA) : RA := fun δ S => (a δ S).bind fun xs S1 => match xs with
  | [.lst ds] => .ok (enumD 0 ds) S1
  | _ => .stuck
/-- a, b = x, y -/
def sPar (i j : Nat) (a : RA) : RS := fun δ S => (a δ S).out δ fun xs S1 => match xs with
  | [x, y] => if i < δ.length ∧ j < δ.length then .nx ((δ.set i (some x)).set j (some y)) S1 else .stuck
  | _ => .stuck
section
variable {X : Cx} {W : WX} {a b c e tg : Expr} {es rest : List Expr} {ra rb rc : RE} {ba bb : RB} {rs : RA} {pos p : Pos} {wd : World} {K : Fg} {mg : Str → Option Value} {α β : List Addr} {F F1 H H1 : Hp} {S : Sto}
/-! ### slices -/
def SndO (wd : World) (K : Fg) (mg : Str → Option Value) (W : WX) (t : TO) (r : RO) : Prop := ∀ α F σ H δ S (Q : Option Int → Hp → Prop), Rel wd K mg α F H S → Slots wd K mg F α σ δ → wp wd K mg α F H (fun _ _ (b a : Option Int) => b = a) (r δ S) Q (fun c d H' => W c d σ H') → t σ H Q
structure POd (X : Cx) (W : WX) (e : Option Expr) (r : RO) : Prop where
  ex : ∃ t, PO X e t ∧ SndO X.w X.K X.mg W t r
theorem pod_none : POd X W none oNone := ⟨_, po_none, fun α F σ H δ S Q hr hs h => h.now hr rfl⟩
theorem pod_some (ha : PD X W a ra) : POd X W (some a) (oSome ra) := by
  obtain ⟨t, p1, s1⟩ := ha.ex
  refine ⟨_, po_some p1, fun α F σ H δ S Q hr hs h => ?_⟩
  refine s1 α F σ H δ S _ hr hs (wp.bind h fun d S1 _ x H1 β F1 r1 q1 v1 h1 => ?_)
  cases d with
  | int i => cases v1; exact ⟨i, rfl, h1.now r1 rfl⟩
  | _ => exact h1.elim
theorem cut_DVs {xs : List D} {us : List V} (lo hi : Option Int) (h : DVs wd K mg F α us xs) : DVs wd K mg F α (cutV us lo hi) (cutD xs lo hi) := by
  unfold cutV cutD
  rw [h.length]
  exact (h.drop _).take _
theorem pd_cut {lo hi : Option Expr} {p2 : Pos} {ol oh : RO} (ha : PD X W a ra) (hl : POd X W lo ol) (hh : POd X W hi oh) : PD X W (.Subscript a (.Slice lo hi none p2) pos) (rCut ra ol oh) := by
  obtain ⟨ta, pa, sa⟩ := ha.ex
  obtain ⟨tl, pl, sl⟩ := hl.ex
  obtain ⟨th, ph, sh⟩ := hh.ex
  refine ⟨_, pe_slice ((sl_list.or sl_tupP).or sl_str) pa pl ph, fun α F σ H δ S Q hr hs h => ?_⟩
  refine sa α F σ H δ S _ hr hs (wp.bind h fun d S1 _ x H1 β F1 r1 q1 v1 h1 => ?_)
  refine sl (α ++ β) F1 σ H1 δ S1 _ r1 (hs.mono q1.sub) (wp.bind h1 fun i S2 _ i' H2 γ F2 r2 q2 v2 h2 => ?_)
  have v2 : i' = i := v2
  subst v2
  refine sh (α ++ β ++ γ) F2 σ H2 δ S2 _ r2 ((hs.mono q1.sub).mono q2.sub) (wp.bind h2 fun j S3 _ j' H3 ε F3 r3 q3 v3 h3 => ?_)
  have v3 : j' = j := v3
  subst v3
  have vx := (v1.mono (β := γ) q2.sub).mono (β := ε) q3.sub
  split at h3
  · rename_i xs e1
    obtain ⟨l, us, rfl, a1, a2⟩ := r3.viewL vx e1
    refine .inl (.inl ⟨l, us, rfl, a1, fun p hp => ?_⟩)
    obtain ⟨c1, c2, c3⟩ := r3.lst (cut_DVs _ _ a2) hp
    exact h3 _ _ _ _ c1 c2 c3
  · rename_i xs e1
    obtain ⟨l, us, rfl, a1, a2⟩ := r3.viewT vx e1
    refine .inl (.inr ⟨l, us, rfl, a1, fun hw => ?_, fun _ p hp o ho => ?_⟩)
    · have ew : cutD xs i' j' = xs := by
        unfold cutD
        rw [a2.length] at hw
        rw [hw.1, hw.2, List.drop_zero, Nat.sub_zero, List.take_length]
      rw [ew] at h3
      have sx := r3.see vx
      rw [e1] at sx
      cases sx with
      | «at» h _ => exact h3.now r3 h
    · obtain ⟨c1, c2, c3⟩ := r3.tup (cut_DVs _ _ a2) hp ho
      exact h3 _ _ _ _ c1 c2 c3
  · rename_i zz e1
    split at h3
    · rename_i hl
      have := r3.viewS vx e1
      subst this
      exact .inr ⟨zz, rfl, hl, h3.now r3 (.str _)⟩
    · exact h3.elim
  · exact h3.elim
/-! ### in -/
theorem len1_eq {x : Str} (h : x.length = 1) : x = ⟨#[x.cps.getD 0 0]⟩ := by
  obtain ⟨⟨l⟩⟩ := x
  match l, h with
  | [c], _ => rfl
theorem g_in1 : OpG X (compareOp .In) gIn1 := by
  refine ⟨_, op_in_sign, fun α F H S x y d e z Q hr hx hy hz q => ?_⟩
  unfold gIn1 at hz
  split at hz
  · rename_i x zz e1
    split at hz
    · rename_i hl
      cases hz; cases hx
      have := hr.viewS hy e1
      subst this
      exact ⟨_, zz, by rw [← len1_eq hl], rfl, fin_now hr (.bl _) q⟩
    · cases hz
  · cases hz
theorem flatD_eq {d : D} {v u : V} (h : flatD d = some v) (hv : DV wd K mg F α u d) : u = v ∧ flatV v = true := by
  cases hv <;> cases h <;> exact ⟨rfl, rfl⟩
theorem flatDs_eq : ∀ {ds : List D} {vs us : List V}, flatDs ds = some vs → DVs wd K mg F α us ds → us = vs ∧ vs.all flatV = true
  | [], _, _, h, hv => by cases h; cases hv; exact ⟨rfl, rfl⟩
  | d :: r, _, _, h, hv => by
    unfold flatDs at h
    split at h
    · rename_i e1 e2
      cases h
      cases hv with
      | cons h1 h2 =>
        obtain ⟨a1, a2⟩ := flatD_eq e1 h1
        obtain ⟨b1, b2⟩ := flatDs_eq e2 h2
        subst a1; subst b1
        exact ⟨rfl, by rw [List.all_cons, a2, b2]; rfl⟩
    · cases h
theorem inQ_ok {S : Sto} {d e : D} {k : Bool} {x y : V} (hr : Rel wd K mg α F H S) (hx : DV wd K mg F α x d) (hy : DV wd K mg F α y e) (h : gInQ S d e = some (.bl k)) : ∃ p xs, y = .ref p ∧ (SqL K H p xs ∨ SqT K H p xs) ∧ flatV x = true ∧ xs.all flatV = true ∧ k = inV x xs := by
  unfold gInQ at h
  split at h
  · rename_i v ys e1 e2
    cases e3 : flatDs ys with
    | none => rw [e3] at h; cases h
    | some vs =>
      rw [e3] at h; cases h
      obtain ⟨a1, a2⟩ := flatD_eq e1 hx
      obtain ⟨l, us, rfl, b1, b2⟩ := hr.viewL hy e2
      obtain ⟨c1, c2⟩ := flatDs_eq e3 b2
      subst a1; subst c1
      exact ⟨l, us, rfl, .inl b1, a2, c2, rfl⟩
  · rename_i v ys e1 e2
    cases e3 : flatDs ys with
    | none => rw [e3] at h; cases h
    | some vs =>
      rw [e3] at h; cases h
      obtain ⟨a1, a2⟩ := flatD_eq e1 hx
      obtain ⟨l, us, rfl, b1, b2⟩ := hr.viewT hy e2
      obtain ⟨c1, c2⟩ := flatDs_eq e3 b2
      subst a1; subst c1
      exact ⟨l, us, rfl, .inr b1, a2, c2, rfl⟩
  · cases h
theorem inQ_bl {S : Sto} {d e z : D} (h : gInQ S d e = some z) : ∃ k, z = .bl k := by
  unfold gInQ at h
  split at h
  · rename_i v ys _ _
    cases e3 : flatDs ys with
    | none => rw [e3] at h; cases h
    | some vs => rw [e3] at h; cases h; exact ⟨_, rfl⟩
  · rename_i v ys _ _
    cases e3 : flatDs ys with
    | none => rw [e3] at h; cases h
    | some vs => rw [e3] at h; cases h; exact ⟨_, rfl⟩
  · cases h
theorem g_inQ : OpG X (compareOp .In) gInQ := by
  refine ⟨_, op_in_seq, fun α F H S x y d e z Q hr hx hy hz q => ?_⟩
  obtain ⟨k, rfl⟩ := inQ_bl hz
  obtain ⟨l, us, rfl, a1, a2, a3, rfl⟩ := inQ_ok hr hx hy hz
  exact ⟨l, us, rfl, a1, a2, a3, fin_now hr (.bl _) q⟩
/-! ### what is walked -/
theorem pi_or {wi wi' : TI} (h : PI X tg e wi) (h' : PI X tg e wi') : PI X tg e (fun σ H R => wi σ H R ∨ wi' σ H R) :=
  ⟨fun pins s σ H R I q => q.elim (h.run pins s σ H R I) (h'.run pins s σ H R I)⟩
theorem it_list {l : Addr} {us : List V} {ds : List D} (h : SqL K F l us) (hv : DVs wd K mg F α us ds) : ItOk wd K mg F α (Itl K l) ds where
  go := fun F' H' i a b hi => by
    obtain ⟨v, e1, _⟩ := hv.get (List.getElem?_eq_getElem hi)
    exact ⟨us, v, (a.trans b).sqL h, e1⟩
  stop := fun F' H' a b => ⟨us, (a.trans b).sqL h, by rw [hv.length]; exact Nat.le_refl _⟩
  yld := fun F' H' H2 i x d a b hd ⟨e1, e2⟩ => by
    refine .inl ⟨e1, ?_⟩
    have e3 := e2 us ((a.trans b).sqL h)
    obtain ⟨v, e4, e5⟩ := hv.get hd
    rw [e3] at e4; cases e4
    have := e5.mono (β := []) a
    rw [List.append_nil] at this; exact this
theorem it_tup {l : Addr} {us : List V} {ds : List D} (h : SqT K F l us) (hv : DVs wd K mg F α us ds) : ItOk wd K mg F α (Itt K l) ds where
  go := fun F' H' i a b hi => by
    obtain ⟨v, e1, _⟩ := hv.get (List.getElem?_eq_getElem hi)
    exact ⟨us, v, (a.trans b).sqT h, e1⟩
  stop := fun F' H' a b => ⟨us, (a.trans b).sqT h, by rw [hv.length]; exact Nat.le_refl _⟩
  yld := fun F' H' H2 i x d a b hd ⟨e1, e2⟩ => by
    refine .inl ⟨e1, ?_⟩
    have e3 := e2 us ((a.trans b).sqT h)
    obtain ⟨v, e4, e5⟩ := hv.get hd
    rw [e3] at e4; cases e4
    have := e5.mono (β := []) a
    rw [List.append_nil] at this; exact this
theorem it_str (z : Str) : ItOk wd K mg F α (Its z) (z.cps.toList.map fun c => .str ⟨#[c]⟩) where
  go := fun F' H' i a b hi => by show i < z.cps.size; simpa using hi
  stop := fun F' H' a b => by show z.cps.size ≤ _; simp
  yld := fun F' H' H2 i x d a b hd ⟨e1, c, e2, e3⟩ => by
    subst e3
    refine .inl ⟨e1, ?_⟩
    rw [List.getElem?_map, Array.getElem?_toList, e2] at hd
    cases hd
    exact .str _
theorem it_range (lo hi : Int) : ItOk wd K mg F α (Itr lo (hi - lo).toNat) (rangeD lo hi) where
  go := fun F' H' i a b h => by show i < (hi - lo).toNat; simpa [rangeD] using h
  stop := fun F' H' a b => by show _ ≤ (rangeD lo hi).length; simp [rangeD]
  yld := fun F' H' H2 i x d a b hd ⟨e1, e2⟩ => by
    subst e2
    refine .inl ⟨e1, ?_⟩
    unfold rangeD at hd
    rw [List.getElem?_map] at hd
    cases q : (List.range (hi - lo).toNat)[i]? with
    | none => rw [q] at hd; cases hd
    | some j =>
      rw [q] at hd; cases hd
      have : j = i := by
        obtain ⟨_, e⟩ := List.getElem?_eq_some_iff.mp q
        simpa using e.symm
      subst this
      exact .int _
theorem pid_seq (ha : PD X W e ra) : PId X W tg e (rSeq ra) := by
  obtain ⟨t, p1, s1⟩ := ha.ex
  refine ⟨_, pi_or (pi_or (pi_list p1) (pi_tup p1)) (pi_str p1), fun α F σ H δ S Q hr hs h => ?_⟩
  unfold rSeq at h
  cases q : ra δ S with
  | err c fs S1 =>
    rw [q] at h
    refine .inl (.inl (s1 α F σ H δ S _ hr hs ?_))
    rw [q]; exact h
  | stuck => rw [q] at h; exact h.elim
  | ok d S1 =>
    rw [q] at h
    cases d with
    | lst ds =>
      refine .inl (.inl (s1 α F σ H δ S _ hr hs ?_))
      rw [q]
      intro v H' β F' r1 st v1
      cases v1 with
      | lst h1 h2 => exact ⟨_, rfl, ⟨_, r1.sub.sqL h1⟩, h _ H' β F' r1 st (it_list h1 h2)⟩
    | tup ds =>
      refine .inl (.inr (s1 α F σ H δ S _ hr hs ?_))
      rw [q]
      intro v H' β F' r1 st v1
      cases v1 with
      | tup h1 h2 => exact ⟨_, rfl, ⟨_, r1.sub.sqT h1.1⟩, h _ H' β F' r1 st (it_tup h1.1 h2)⟩
    | str z =>
      refine .inr (s1 α F σ H δ S _ hr hs ?_)
      rw [q]
      intro v H' β F' r1 st v1
      cases v1
      exact ⟨z, rfl, h _ H' β F' r1 st (it_str z)⟩
    | _ => exact (show False from h).elim
theorem pid_range1 (hm : X.mg "range" = none) (ha : PDs X W [a] rs) (hg : Gl X "range" := by rfl) (hs : starEach [a] X.env = [(false, eval a X.env)] := by rfl) : PId X W tg (.Call (.Name "range" p) [a] [] pos) (rRange rs) := by
  obtain ⟨t, p1, s1⟩ := ha.ex
  refine ⟨_, pi_range1 hg hm p1 hs, fun α F σ H δ S Q hr hs h => ?_⟩
  refine s1 α F σ H δ S _ hr hs (wp.bind h fun ds S1 e1 xs H1 β F1 r1 q1 v1 h1 => ?_)
  have hl := ha.len _ _ _ _ e1
  match ds, hl with
  | [d], _ =>
    cases v1 with
    | cons v1 vn =>
      cases vn
      cases d with
      | int j =>
        cases v1
        dsimp only at h1
        split at h1
        · rename_i hc
          refine ⟨j, rfl, hc.1, hc.2, ?_⟩
          have := it_range (wd := X.w) (K := X.K) (mg := X.mg) (F := F1) (α := α ++ β) 0 j
          rw [Int.sub_zero] at this
          exact h1.now r1 this
        · exact h1.elim
      | _ => exact h1.elim
theorem enumD_get : ∀ {ds : List D} {n i : Nat} {d : D}, (enumD n ds)[i]? = some d → ∃ e, ds[i]? = some e ∧ d = .tux [.int ((n + i : Nat) : Int), e]
  | [], _, _, _, h => by simp [enumD] at h
  | e :: r, n, 0, d, h => by simp [enumD] at h; exact ⟨e, rfl, by rw [← h]; rfl⟩
  | e :: r, n, i + 1, d, h => by
    obtain ⟨e', h1, h2⟩ := enumD_get (ds := r) (n := n + 1) (i := i) (d := d) (by simpa [enumD] using h)
    exact ⟨e', by simpa using h1, by rw [h2]; congr 4; omega⟩
theorem enumD_len : ∀ (n : Nat) (ds : List D), (enumD n ds).length = ds.length
  | _, [] => rfl
  | n, _ :: r => by rw [enumD, List.length_cons, List.length_cons, enumD_len]
theorem it_enum {l : Addr} {us : List V} {ds : List D} (h : SqL K F l us) (hv : DVs wd K mg F α us ds) : ItOk wd K mg F α (Ite K l) (enumD 0 ds) where
  go := fun F' H' i a b hi => by
    rw [enumD_len] at hi
    obtain ⟨v, e1, _⟩ := hv.get (List.getElem?_eq_getElem hi)
    exact ⟨us, v, (a.trans b).sqL h, e1⟩
  stop := fun F' H' a b => ⟨us, (a.trans b).sqL h, by rw [hv.length, enumD_len]; exact Nat.le_refl _⟩
  yld := fun F' H' H2 i x d a b hd ⟨T, y, e1, e2, e3, e4⟩ => by
    have e5 := e4 us ((a.trans b).sqL h)
    obtain ⟨e, e6, rfl⟩ := enumD_get hd
    obtain ⟨v, e7, e8⟩ := hv.get e6
    rw [e5] at e7; cases e7
    subst e1
    have nF : F' T = none := by
      cases z : F' T with
      | none => rfl
      | some u => rw [b _ _ z] at e2; cases e2
    refine .inr ⟨T, _, e2, e3, .tux (SqT.of upd_same) (.cons ?_ (.cons ?_ .nil))⟩
    · rw [Nat.zero_add]; exact .int _
    · have := e8.mono (β := []) (a.trans (Sub.new (o := .tup [.int (i : Nat), y]) nF))
      rw [List.append_nil] at this; exact this
theorem pid_enum {elts : List Expr} {kk : Nat} {tpos : Pos} (hm : X.mg "enumerate" = none) (ha : PDs X W [e] rs) (hg : Gl X "enumerate" := by rfl) (hs : starEach [e] X.env = [(false, eval e X.env)] := by rfl) : PId X W (.Tuple elts kk tpos) (.Call (.Name "enumerate" p) [e] [] pos) (rEnum rs) := by
  obtain ⟨t, p1, s1⟩ := ha.ex
  refine ⟨_, pi_enum hg hm p1 hs, fun α F σ H δ S Q hr hs h => ?_⟩
  refine s1 α F σ H δ S _ hr hs (wp.bind h fun ds S1 e1 xs H1 β F1 r1 q1 v1 h1 => ?_)
  have hl := ha.len _ _ _ _ e1
  match ds, hl with
  | [d], _ =>
    cases v1 with
    | cons v1 vn =>
      cases vn
      cases d with
      | lst ys =>
        cases v1 with
        | lst a1 a2 => exact ⟨_, _, rfl, r1.sub.sqL a1, h1.now r1 (it_enum a1 a2)⟩
      | _ => exact h1.elim
/-! ### targets from a list, two names at once -/
end
end DL
set_option Elab.async false
set_option linter.all false
set_option maxRecDepth 100000
set_option maxHeartbeats 4000000
set_option autoImplicit false
/-! Data layer, twelfth part: lists that are made, dicts. -/
namespace DL
open PySem PySem.Spec PyProof.Rows L2
def keyEq : D → D → Bool
  | .int i, .int j => i == j
  | .str x, .str y => decide (x = y)
  | _, _ => false
def lookD : List (D × D) → D → Option D
  | [], _ => none
  | (k, v) :: r, q => if keyEq k q then some v else lookD r q
def replD : List (D × D) → D → D → List (D × D)
  | [], _, _ => []
  | (k, v) :: r, q, y => if keyEq k q then (k, y) :: replD r q y else (k, v) :: replD r q y
def putD (kvs : List (D × D)) (q y : D) : List (D × D) := if (lookD kvs q).isSome then replD kvs q y else kvs ++ [(q, y)]
def mergeD (kvs more : List (D × D)) : List (D × D) := more.foldl (fun acc kv => putD acc kv.1 kv.2) kvs
def isKey : D → Bool
  | .int _ => true
  | .str _ => true
  | _ => false
/-- pairs of a display, from the left -/
def rPairs : List (RE × RE) → Sl → Sto → Res (List (D × D))
  | [], _, S => .ok [] S
  | (k, v) :: r, δ, S => (k δ S).bind fun x S1 => (v δ S1).bind fun y S2 => (rPairs r δ S2).bind fun ps S3 => .ok ((x, y) :: ps) S3
def rDisp (ps : List (RE × RE)) : RE := fun δ S => (rPairs ps δ S).bind fun kvs S1 => if kvs.all (fun p => isKey p.1) && decide (kvs.length ≤ 15) then .ok (.dct (mergeD [] kvs)) S1 else .stuck
def gSplit : Sto → D → List D → Option D := fun _ d ds => match d, ds with
  | .str a, [.str b] => if (b.length == 0) = false ∧ a.length + 2 ≤ sizeLine then some (.lst ((Txt.split a b).map .str)) else none
  | _, _ => none
def gTuple : Sto → List D → Option D := fun S ds => match ds with
  | [d] => (match deref S d with
    | .lst xs => some (.tup xs)
    | .tup xs => some (.tup xs)
    | _ => none)
  | _ => none
section
variable {X : Cx} {W : WX} {a b c e tg : Expr} {es rest : List Expr} {ra rb rc : RE} {ba bb : RB} {rs : RA} {pos p : Pos} {wd : World} {K : Fg} {mg : Str → Option Value} {α β : List Addr} {F F1 H H1 : Hp} {S : Sto}
/-! ### made by operators, calls, methods -/
theorem wpF.now {d : D} {Q : VK} {W : XK} {ad : Addr} {o : HO} (h : wpF wd K mg α F H (.ok d S) Q W) (hr : Rel wd K mg α F H S) (hp : H ad = none) (ho : Own wd K mg F α (upd H ad o) ad d) (hd : d.open = true) : Q (.ref ad) (upd H ad o) := h.lay hr hp ho hd
/-- by a list that is laid at a new place -/
def Lays (H : Hp) (xs : List V) (Q : VK) : Prop := ∀ p, H p = none → Q (.ref p) (upd H p (.lst xs))
theorem pf_bin {op : Operator} {g : Sto → D → D → Option D} {r : R2} (ho : OpR X (binaryOp op) r) (hg : ∀ α F H S x y d e z Q, Rel X.w X.K X.mg α F H S → DV X.w X.K X.mg F α x d → DV X.w X.K X.mg F α y e → g S d e = some z → ∃ ds xs, z = .lst ds ∧ DVs X.w X.K X.mg F α xs ds ∧ (Lays H xs Q → r x y H Q)) (ha : PD X W a ra) (hb : PD X W b rb) :
    PF X W (.BinOp a op b pos) (rBin g ra rb) := by
  obtain ⟨ta, pa, sa⟩ := ha.ex
  obtain ⟨tb, pb, sb⟩ := hb.ex
  refine ⟨_, pe_op ho pa pb, fun α F σ H δ S Q hr hs h => ?_⟩
  refine sa α F σ H δ S _ hr hs (wpF.bind h fun d S1 _ x H1 β F1 r1 s1 v1 h1 => ?_)
  refine sb (α ++ β) F1 σ H1 δ S1 _ r1 (hs.mono s1.sub) (wpF.bind h1 fun e S2 _ y H2 γ F2 r2 s2 v2 h2 => ?_)
  cases eg : g S2 d e with
  | none => rw [eg] at h2; exact h2.elim
  | some z =>
    rw [eg] at h2
    obtain ⟨ds, xs, rfl, e1, e2⟩ := hg _ F2 H2 S2 x y d e z Q r2 (v1.mono s2.sub) v2 eg
    exact e2 fun p hp => wpF.lay h2 r2 hp ⟨xs, upd_same, e1⟩ rfl
theorem op_catR : OpR X (binaryOp .Add) (fun x y H Q => ∃ l m xs zs, x = .ref l ∧ y = .ref m ∧ SqL X.K H l xs ∧ SqL X.K H m zs ∧ xs.length + zs.length ≤ sizeLine ∧ Lays H (xs ++ zs) Q) := by
  intro pins s σ H x y v u Q I rx ry h
  obtain ⟨l, m, xs, zs, rfl, rfl, h1, h2, hz, q⟩ := h
  cases rx; cases ry
  obtain ⟨its, r, ⟨o1, n1, g1, c1, _, w1⟩, _⟩ := I.list h1
  obtain ⟨its2, r2, ⟨o2, n2, g2, c2, _, w2⟩, _⟩ := I.list h2
  obtain ⟨k1, dd1, dt1, sl1⟩ := o1
  obtain ⟨k2, dd2, dt2, sl2⟩ := o2
  simp only at c1 c2 w1 w2
  subst c1 c2 w1 w2
  have l1 := r.length
  have l2 := r2.length
  have sz : its.toArray.size + its2.toArray.size ≤ sizeLine := by rw [List.size_toArray, List.size_toArray]; omega
  refine concat_meets ⟨_, g1, rfl⟩ ⟨_, g2, rfl⟩ noFill_list_add seq_list_add PySem.F.slot_list_add PySem.F.entry_list_add (PySem.F.args_list_add_2 _ _) (list_addW l m its.toArray its2.toArray n1 n2 dd1 dd2 sl1 sl2 sz) ⟨g1, g2, ?_⟩
  rw [show its.toArray ++ its2.toArray = (its ++ its2).toArray by simp]
  exact ⟨.ref s.heap.objs.size, _, I.lnew (t' := s.toks) (r.append r2) (by simp; omega), rfl, q _ I.fresh⟩
theorem pf_cat (ha : PD X W a ra) (hb : PD X W b rb) : PF X W (.BinOp a .Add b pos) (rBin gCat ra rb) := pf_bin op_catR (fun α F H S x y d e z Q hr hx hy hz => by
  unfold gCat at hz
  split at hz
  · rename_i xs ys e1 e2
    split at hz
    · rename_i hl
      cases hz
      obtain ⟨l, us, rfl, a1, a2⟩ := hr.viewL hx e1
      obtain ⟨m, ws, rfl, b1, b2⟩ := hr.viewL hy e2
      exact ⟨_, us ++ ws, rfl, a2.append b2, fun q => ⟨l, m, us, ws, rfl, rfl, a1, b1, by rw [a2.length, b2.length]; exact hl, q⟩⟩
    · cases hz
  · cases hz) ha hb
theorem DVs.rep {us : List V} {xs : List D} (h : DVs wd K mg F α us xs) : ∀ n : Nat, DVs wd K mg F α (List.replicate n us).flatten (List.replicate n xs).flatten
  | 0 => .nil
  | n + 1 => by
    rw [List.replicate_succ, List.replicate_succ, List.flatten_cons, List.flatten_cons]
    exact h.append (DVs.rep h n)
/-- a list, laid new, times a number -/
def gRepF : Sto → D → D → Option D := fun _ d e => match d, e with
  | .lst xs, .int k => if -(2 ^ 63) ≤ k ∧ k < 2 ^ 63 ∧ xs.length * k.toNat ≤ sizeLine then some (.lst (List.replicate k.toNat xs).flatten) else none
  | _, _ => none
theorem pf_rep (ha : PF X W a ra) (hb : PD X W b rb) : PF X W (.BinOp a .Mult b pos) (rBin gRepF ra rb) := by
  obtain ⟨ta, pa, sa⟩ := ha.ex
  obtain ⟨tb, pb, sb⟩ := hb.ex
  refine ⟨_, pe_op op_rep pa pb, fun α F σ H δ S Q hr hs h => ?_⟩
  refine sa α F σ H δ S _ hr hs ?_
  unfold rBin at h
  cases q : ra δ S with
  | err c fs S1 => rw [q] at h; exact h
  | stuck => rw [q] at h; exact h
  | ok d S1 =>
    rw [q] at h
    intro ad H1 β F1 r1 s1 hp hα hf ho hd
    have h1 : wpF X.w X.K X.mg (α ++ β) F1 H1 ((rb δ S1).bind fun y S2 => .lift (gRepF S2 d y) S2) Q _ := wpF.step s1 h
    refine sb (α ++ β) F1 σ H1 δ S1 _ r1 (hs.mono s1.sub) (wpF.bind h1 fun e S2 _ y H2 γ F2 r2 s2 v2 h2 => ?_)
    cases eg : gRepF S2 d e with
    | none => rw [eg] at h2; exact h2.elim
    | some z =>
      rw [eg] at h2
      cases d with
      | lst xs =>
        cases e with
        | int k =>
          unfold gRepF at eg
          dsimp only at eg
          split at eg
          · rename_i hl
            cases eg
            cases v2
            obtain ⟨us, o1, o2⟩ := ho
            refine ⟨ad, k, us, rfl, rfl, s2.frame ad _ hα o1, hl.1, hl.2.1, by rw [o2.length]; exact hl.2.2, fun p' hp' => ?_⟩
            exact wpF.lay h2 r2 hp' ⟨_, upd_same, (o2.mono s2.sub).rep _⟩ rfl
          · cases eg
        | _ => cases eg
      | _ => cases eg
theorem b_tuple : BiG X (.type "tuple") gTuple := by
  refine ⟨_, call_tuple_ofP, fun α F H S xs ds z Q hr hv hz q => ?_⟩
  unfold gTuple at hz
  split at hz
  · cases hv with
    | cons h1 h2 =>
      cases h2
      split at hz
      · rename_i ys e1
        cases hz
        obtain ⟨l, us, rfl, a1, a2⟩ := hr.viewL h1 e1
        refine ⟨l, us, rfl, .inl ⟨a1, fun p hp o ho => ?_⟩⟩
        obtain ⟨c1, c2, c3⟩ := hr.tup a2 hp ho
        exact q _ _ _ _ c1 c2 c3
      · rename_i ys e1
        cases hz
        obtain ⟨l, us, rfl, a1, a2⟩ := hr.viewT h1 e1
        have sx := hr.see h1
        rw [e1] at sx
        cases sx with
        | «at» h _ => exact ⟨l, us, rfl, .inr ⟨a1, fin_now hr h q⟩⟩
      · cases hz
  · cases hz
def rSplit (ro rf : RE) : RE := fun δ S => (ro δ S).bind fun x S1 => match x with
  | .str _ => (rf δ S1).bind fun y S2 => .lift (gSplit S2 x [y]) S2
  | _ => .stuck
theorem pf_split {o f : Expr} {ro rf : RE} {apos cpos : Pos} (ho : PD X W o ro) (hf : PD X W f rf) (hs : starEach [f] X.env = [(false, eval f X.env)] := by rfl) (hbase : attributeBase o "split" X.env (eval o X.env) = eval o X.env := by rfl) (hline : (apos.endLine == cpos.line) = true := by rfl) :
    PF X W (.Call (.Attribute o "split" apos) [f] [] cpos) (rSplit ro rf) := by
  obtain ⟨to, po, so⟩ := ho.ex
  obtain ⟨tf, pf, sf⟩ := hf.ex
  refine ⟨_, pe_split po pf hs hbase hline, fun α F σ H δ S Q hr hs h => ?_⟩
  refine so α F σ H δ S _ hr hs (wpF.bind h fun d S1 _ x H1 β F1 r1 q1 v1 h1 => ?_)
  cases d with
  | str z =>
    cases v1
    refine ⟨⟨z, rfl⟩, ?_⟩
    refine sf (α ++ β) F1 σ H1 δ S1 _ r1 (hs.mono q1.sub) (wpF.bind h1 fun e S2 _ y H2 γ F2 r2 q2 v2 h2 => ?_)
    cases eg : gSplit S2 (.str z) [e] with
    | none => rw [eg] at h2; exact h2.elim
    | some zz =>
      rw [eg] at h2
      unfold gSplit at eg
      split at eg
      · rename_i a b q3 q4
        cases q3; cases q4
        split at eg
        · rename_i hl
          cases eg
          cases v2
          exact ⟨_, _, rfl, rfl, hl.1, hl.2, fun p hp => wpF.lay h2 r2 hp ⟨_, upd_same, DVs.of_strs _⟩ rfl⟩
        · cases eg
      · cases eg
  | _ => exact h1.elim
end
end DL
set_option Elab.async false
set_option linter.all false
set_option maxRecDepth 100000
set_option maxHeartbeats 4000000
set_option autoImplicit false
/-! Data layer, thirteenth part: dicts by numbers and texts; an item stored. -/
namespace DL
open PySem PySem.Spec PyProof.Rows L2
def kD : Key → D
  | .inl i => .int i
  | .inr x => .str x
theorem isKey_kD {d : D} (h : isKey d = true) : ∃ k, d = kD k := by
  cases d with
  | int i => exact ⟨.inl i, rfl⟩
  | str x => exact ⟨.inr x, rfl⟩
  | _ => cases h
theorem keyEq_kD (a b : Key) : keyEq (kD a) (kD b) = decide (a = b) := by
  cases a with
  | inl i => cases b with
    | inl j => show (i == j) = _; rw [key_ll]
    | inr y => show false = _; rw [key_lr]
  | inr x => cases b with
    | inl j => show false = _; rw [key_rl]
    | inr y => show decide (x = y) = _; rw [key_rr]
section
variable {X : Cx} {W : WX} {a b c e tg : Expr} {es rest : List Expr} {ra rb rc : RE} {ba bb : RB} {rs : RA} {pos p : Pos} {wd : World} {K : Fg} {mg : Str → Option Value} {α β : List Addr} {F F1 H H1 : Hp} {S : Sto}
theorem kD_DV {k : Key} {v : V} (h : DV wd K mg F α v (kD k)) : v = kV k := by cases k <;> cases h <;> rfl
/-- a dict's pairs -/
inductive KVs (wd : World) (K : Fg) (mg : Str → Option Value) (F : Hp) (α : List Addr) : List (Key × V) → List (D × D) → Prop
  | nil : KVs wd K mg F α [] []
  | cons {k : Key} {v : V} {d : D} {ws : List (Key × V)} {kvs : List (D × D)} : DV wd K mg F α v d → KVs wd K mg F α ws kvs → KVs wd K mg F α ((k, v) :: ws) ((kD k, d) :: kvs)
theorem KVs.of : ∀ {ws : List (Key × V)} {kvs : List (D × D)}, DKs (ws.map (·.1)) (kvs.map (·.1)) → DVs wd K mg F α (ws.map (·.2)) (kvs.map (·.2)) → KVs wd K mg F α ws kvs
  | [], [], _, _ => .nil
  | [], _ :: _, h, _ => by have := h.length; simp at this
  | _ :: _, [], h, _ => by have := h.length; simp at this
  | (k, v) :: ws, (q, d) :: kvs, h, g => by
    have h' : DKs (k :: ws.map (·.1)) (q :: kvs.map (·.1)) := h
    have g' : DVs wd K mg F α (v :: ws.map (·.2)) (d :: kvs.map (·.2)) := g
    cases g' with
    | cons g1 g2 =>
      cases h' with
      | int h2 => exact .cons (k := .inl _) g1 (KVs.of h2 g2)
      | str h2 => exact .cons (k := .inr _) g1 (KVs.of h2 g2)
theorem KVs.keys {ws : List (Key × V)} {kvs : List (D × D)} (h : KVs wd K mg F α ws kvs) : DKs (ws.map (·.1)) (kvs.map (·.1)) := by
  induction h with
  | nil => exact .nil
  | @cons k v d ws kvs _ _ ih => cases k with
    | inl i => exact .int ih
    | inr x => exact .str ih
theorem KVs.vals {ws : List (Key × V)} {kvs : List (D × D)} (h : KVs wd K mg F α ws kvs) : DVs wd K mg F α (ws.map (·.2)) (kvs.map (·.2)) := by
  induction h with
  | nil => exact .nil
  | cons h _ ih => exact .cons h ih
theorem KVs.length {ws : List (Key × V)} {kvs : List (D × D)} (h : KVs wd K mg F α ws kvs) : ws.length = kvs.length := by
  have := h.vals.length
  simpa using this
theorem KVs.look {ws : List (Key × V)} {kvs : List (D × D)} (h : KVs wd K mg F α ws kvs) (k : Key) : (∀ d, lookD kvs (kD k) = some d → ∃ v, valV ws k = some v ∧ DV wd K mg F α v d) ∧ (lookD kvs (kD k) = none → valV ws k = none) := by
  induction h with
  | nil => exact ⟨(fun d e => by cases e), fun _ => rfl⟩
  | @cons j v d ws kvs h _ ih =>
    unfold lookD
    rw [keyEq_kD]
    by_cases q : j = k
    · subst q
      rw [decide_eq_true rfl, if_pos rfl, valV_pos (p := (j, v)) rfl]
      exact ⟨(fun e z => by cases z; exact ⟨v, rfl, h⟩), fun z => by cases z⟩
    · rw [decide_eq_false q, if_neg (by decide), valV_neg (p := (j, v)) q]
      exact ih
theorem KVs.isSome {ws : List (Key × V)} {kvs : List (D × D)} (h : KVs wd K mg F α ws kvs) (k : Key) : (lookD kvs (kD k)).isSome = (valV ws k).isSome := by
  obtain ⟨h1, h2⟩ := h.look k
  cases e : lookD kvs (kD k) with
  | none => rw [h2 e]; rfl
  | some d => obtain ⟨v, e1, _⟩ := h1 d e; rw [e1]; rfl
theorem KVs.append {ws ws' : List (Key × V)} {kvs kvs' : List (D × D)} (h : KVs wd K mg F α ws kvs) (g : KVs wd K mg F α ws' kvs') : KVs wd K mg F α (ws ++ ws') (kvs ++ kvs') := by
  induction h with
  | nil => exact g
  | cons h _ ih => exact .cons h ih
theorem KVs.put {ws : List (Key × V)} {kvs : List (D × D)} (h : KVs wd K mg F α ws kvs) (k : Key) {v : V} {d : D} (hv : DV wd K mg F α v d) : KVs wd K mg F α (putK ws k v) (putD kvs (kD k) d) := by
  unfold putK putD
  rw [h.isSome k, valV_any]
  by_cases q : (valV ws k).isSome = true
  · rw [if_pos q, if_pos q]
    clear q
    induction h with
    | nil => exact .nil
    | @cons j u e ws kvs h1 _ ih =>
      rw [List.map_cons]
      unfold replD
      rw [keyEq_kD]
      by_cases z : j = k
      · subst z
        rw [decide_eq_true rfl, if_pos rfl, if_pos rfl]
        exact .cons hv ih
      · rw [if_neg (show ¬ (j, u).1 = k from z), decide_eq_false z, if_neg (show ¬ false = true by decide)]
        exact .cons h1 ih
  · rw [if_neg q, if_neg q]
    exact h.append (.cons hv .nil)
theorem KVs.merge {more : List (Key × V)} {mk : List (D × D)} (g : KVs wd K mg F α more mk) : ∀ {ws : List (Key × V)} {kvs : List (D × D)}, KVs wd K mg F α ws kvs → KVs wd K mg F α (mergeK ws more) (mergeD kvs mk) := by
  induction g with
  | nil => exact fun h => h
  | cons h1 _ ih => exact fun h => ih (h.put _ h1)
theorem Own.dctK {ad : Addr} {kvs : List (D × D)} : Own wd K mg F α H ad (.dct kvs) ↔ ∃ ws, H ad = some (.dK ws) ∧ KVs wd K mg F α ws kvs :=
  ⟨fun ⟨ws, h1, h2, h3⟩ => ⟨ws, h1, .of h2 h3⟩, fun ⟨ws, h1, h2⟩ => ⟨ws, h1, h2.keys, h2.vals⟩⟩
theorem Rel.viewD (hr : Rel wd K mg α F H S) {v : V} {d : D} {kvs : List (D × D)} (h : DV wd K mg F α v d) (e : deref S d = .dct kvs) : ∃ a ws, v = .ref a ∧ Rd H a (.dK ws) ∧ KVs wd K mg F α ws kvs := by
  have s := hr.see h
  rw [e] at s
  cases s with
  | «at» h _ => cases h
  | dct q k t => exact ⟨_, _, rfl, q, .of k t⟩
/-! ### displays -/
structure PPd (X : Cx) (W : WX) (pos : Pos) (ks : List (Option Expr)) (vs : List Expr) (ps : List (RE × RE)) : Prop where
  ex : ∃ trs, PPs X pos ks vs trs ∧ ∀ α F σ H δ S (Q : List (V × V) → Hp → Prop), Rel X.w X.K X.mg α F H S → Slots X.w X.K X.mg F α σ δ →
    wp X.w X.K X.mg α F H (fun F α (b : List (V × V)) (a : List (D × D)) => DVs X.w X.K X.mg F α (b.map (·.1)) (a.map (·.1)) ∧ DVs X.w X.K X.mg F α (b.map (·.2)) (a.map (·.2))) (rPairs ps δ S) Q (fun c d H' => W c d σ H') → tPairs trs σ H Q
theorem ppd_nil : PPd X W pos [] [] [] := ⟨[], pps_nil, fun α F σ H δ S Q hr hs h => h.now hr ⟨.nil, .nil⟩⟩
theorem ppd_cons {k v : Expr} {ks : List (Option Expr)} {vs : List Expr} {rk rv : RE} {ps : List (RE × RE)} (hk : PD X W k rk) (hv : PD X W v rv) (h : PPd X W pos ks vs ps) : PPd X W pos (some k :: ks) (v :: vs) ((rk, rv) :: ps) := by
  obtain ⟨tk, p1, s1⟩ := hk.ex
  obtain ⟨tv, p2, s2⟩ := hv.ex
  obtain ⟨trs, p3, s3⟩ := h.ex
  refine ⟨(tk, tv) :: trs, pps_cons p1 p2 p3, fun α F σ H δ S Q hr hs h => ?_⟩
  refine s1 α F σ H δ S _ hr hs (wp.bind h fun x S1 _ xv H1 β F1 r1 q1 v1 h1 => ?_)
  refine s2 (α ++ β) F1 σ H1 δ S1 _ r1 (hs.mono q1.sub) (wp.bind h1 fun y S2 _ yv H2 γ F2 r2 q2 v2 h2 => ?_)
  refine s3 (α ++ β ++ γ) F2 σ H2 δ S2 _ r2 ((hs.mono q1.sub).mono q2.sub) (wp.bind h2 fun zs S3 _ zv H3 ε F3 r3 q3 v3 h3 => ?_)
  exact h3.now r3 ⟨.cons ((v1.mono q2.sub).mono q3.sub) v3.1, .cons (v2.mono q3.sub) v3.2⟩
theorem keysOf : ∀ {kvs : List (D × D)} {ps : List (V × V)}, kvs.all (fun p => isKey p.1) = true → DVs wd K mg F α (ps.map (·.1)) (kvs.map (·.1)) → DVs wd K mg F α (ps.map (·.2)) (kvs.map (·.2)) → ∃ ws : List (Key × V), ps = ws.map (fun kv => (kV kv.1, kv.2)) ∧ KVs wd K mg F α ws kvs
  | [], [], _, _, _ => ⟨[], rfl, .nil⟩
  | [], _ :: _, _, h, _ => by have := h.length; simp at this
  | _ :: _, [], _, h, _ => by have := h.length; simp at this
  | (q, d) :: kvs, (x, y) :: ps, hk, h, g => by
    rw [List.all_cons, Bool.and_eq_true] at hk
    have h' : DVs wd K mg F α (x :: ps.map (·.1)) (q :: kvs.map (·.1)) := h
    have g' : DVs wd K mg F α (y :: ps.map (·.2)) (d :: kvs.map (·.2)) := g
    cases h' with
    | cons h1 h2 =>
      cases g' with
      | cons g1 g2 =>
        obtain ⟨ws, e1, e2⟩ := keysOf hk.2 h2 g2
        obtain ⟨k, ek⟩ := isKey_kD hk.1
        have ek : q = kD k := ek
        subst ek
        have := kD_DV h1
        subst this
        exact ⟨(k, y) :: ws, by rw [e1]; rfl, .cons g1 e2⟩
theorem pf_disp {ks : List (Option Expr)} {vs : List Expr} {ps : List (RE × RE)} (h : PPd X W pos ks vs ps) (hall : ks.all (·.isSome) = true := by rfl) (hl : ks.length = vs.length := by rfl) (h0 : ks ≠ [] := by intro z; cases z) (h15 : ks.length ≤ 15 := by decide) : PF X W (.Dict ks vs pos) (rDisp ps) := by
  obtain ⟨trs, p1, s1⟩ := h.ex
  refine ⟨_, pe_disp p1 hall hl h0 h15, fun α F σ H δ S Q hr hs h => fun ad had => ?_⟩
  have n := hr.notin had
  have f := hr.notF had
  unfold rDisp at h
  have hr' := hr.other (o := .dK []) n f
  refine s1 α F σ (upd H ad (.dK [])) δ S _ hr' hs ?_
  have stt : Stp α F H [] F (upd H ad (.dK [])) := Stp.refl.other had
  cases q : rPairs ps δ S with
  | err c fs S1 =>
    rw [q] at h
    intro cls dd H' β F' r1 st er
    have := stt.trans (β := []) (γ := β) (by rw [List.append_nil]; exact st)
    exact h cls dd H' β F' r1 this er
  | stuck => rw [q] at h; exact h.elim
  | ok kvs S1 =>
    rw [q] at h
    have h1 : wpF X.w X.K X.mg α F H (if kvs.all (fun p => isKey p.1) && decide (kvs.length ≤ 15) then .ok (.dct (mergeD [] kvs)) S1 else .stuck) Q _ := h
    split at h1
    · rename_i hc
      rw [Bool.and_eq_true] at hc
      intro pv H' β F' r1 st ⟨g1, g2⟩
      obtain ⟨ws, e1, e2⟩ := keysOf hc.1 g1 g2
      have st' := stt.trans (β := []) (γ := β) (by rw [List.append_nil]; exact st)
      rw [List.nil_append] at st'
      have hD : H' ad = some (.dK []) := st.frame ad _ n upd_same
      have fD : F' ad = none := st.fnew ad n f (by rw [upd_same]; exact fun z => nomatch z)
      have nD : ad ∉ α ++ β := by
        intro z
        rcases List.mem_append.mp z with z | z
        · exact n z
        · have := st.new ad z
          rw [upd_same] at this; cases this
      refine ⟨hD, ws, e1, by rw [e2.length]; exact of_decide_eq_true hc.2, ?_⟩
      exact h1 ad _ β F' (r1.other nD fD) (st'.other had) had nD fD (Own.dctK.mpr ⟨_, upd_same, KVs.merge e2 .nil⟩) rfl
    · exact h1.elim
theorem pf_dnew : PF X W (.Dict [] [] pos) (rC (.dct [])) := ⟨_, pe_dnewK, fun α F σ H δ S Q hr hs h => fun ad had => wpF.lay h hr had (Own.dctK.mpr ⟨[], upd_same, .nil⟩) rfl⟩
end
end DL
set_option Elab.async false
set_option linter.all false
set_option maxRecDepth 100000
set_option maxHeartbeats 4000000
set_option autoImplicit false
/-! Data layer, last part: defs by their names, the law's end. -/
namespace DL
open PySem PySem.Spec PyProof.Rows L2
/-- the text of a def stands under its name -/
structure Fd (K : Fg) (mg : Str → Option Value) (x : Str) (st : Stmt) (ps : List Str) : Prop where
  ex : ∃ (f : Addr) (fd : FuncData), Fun K x x st f fd ∧ mg x = some (.ref f) ∧ Binds K fd ps []
/-- a def keeps to its mirror -/
structure Fn (P : Program) (w : World) (K : Fg) (mg : Str → Option Value) (base : Heap) (x : Str) (n k : Nat) (m : Mir) : Prop where
  ex : ∃ (f : Addr) (fd : FuncData) (ps : List Str), mg x = some (.ref f) ∧ PySem.W.keepIn K (.ref f) = true ∧ Binds K fd ps [] ∧ FnG P w K mg base k f fd ps (spD w K mg n m)
section
variable {X : Cx} {W : WX} {a b c e tg : Expr} {es rest : List Expr} {ra rb rc : RE} {ba bb : RB} {rs : RA} {pos p : Pos} {wd : World} {K : Fg} {mg : Str → Option Value} {α β : List Addr} {F F1 H H1 : Hp} {S : Sto}
theorem pd_fn {x : Str} {m : Mir} {n k : Nat} (F : Fn X.prog X.w X.K X.mg X.base x n k m) (hr : Room k X.A) (hG : X.A.guards = some []) (tk : Takes X W) (ha : PDs X W (e :: es) rs) (hl : (e :: es).length = n := by rfl) (hg : Gl X x := by rfl) (hdb : (x == ("__debug__" : Str)) = false := by decide)
    (he : starEach (e :: es) X.env = (false, eval e X.env) :: starEach es X.env := by rfl) (hpl : (backTo pos (starEach es X.env)).any (·.1) = false := by rfl) : PD X W (.Call (.Name x p) (e :: es) [] pos) (rCall m rs) := by
  obtain ⟨f, fd, ps, h1, h2, h3, h4⟩ := F.ex
  exact pd_call h4 hr hG h1 h2 h3 tk ha hl hg hdb he hpl
theorem pd_gsE {x y : Str} (hm : ∃ t, X.mg x = some (.str y t)) (hg : Gl X x := by rfl) (hd : (x == ("__debug__" : Str)) = false := by decide) : PD X W (.Name x pos) (rC (.str y)) := let ⟨_, h⟩ := hm; pd_gs h hg hd
theorem pd_giE {x : Str} {i : Int} (hm : ∃ t, X.mg x = some (.int i t)) (hg : Gl X x := by rfl) (hd : (x == ("__debug__" : Str)) = false := by decide) : PD X W (.Name x pos) (rC (.int i)) := let ⟨_, h⟩ := hm; pd_gi h hg hd
theorem fun_of {x qual : Str} {st : Stmt} {f : Addr} {fd : FuncData} (F : FunD K x qual (defArgs st) (defBody st) (defScope st) [] [] f fd) : Fun K x qual st f fd := by
  obtain ⟨oc, od, dV, kV, doc, pm, an, cdv, ct, osl, e, lk, hcd, hD, _⟩ := F.ex
  rcases hD with ⟨_, rfl⟩ | ⟨z, _⟩
  · exact ⟨⟨oc, od, kV, doc, pm, an, cdv, ct, osl, e, lk, hcd⟩, F.kp⟩
  · exact absurd rfl z
/-- what a body's derivation is given -/
structure Env1 (X : Cx) (k : Nat) : Prop where
  room : Room k X.A
  gu : X.A.guards = some []
  hp : PassesOwn (model X.prog X.w) X.A X.env X.xe
theorem Env1.u64 {k : Nat} (h : Env1 X k) : X.A.units + 64 < cLine := by have := h.room.un; omega
theorem Env1.u80 {k : Nat} (h : Env1 X k) : X.A.units + 80 < cLine := by have := h.room.un; omega
theorem fn_mk {P : Program} {w : World} {base : Heap} {x : Str} {st : Stmt} {N ps : List Str} {k : Nat} {r : RS} (Fu : Fd K mg x st ps) (Sc : FnScope N ps (defScope st))
    (hbody : ∀ (f : Addr) (cdv : Value) (A : Around) (outer : List Env) (s : Shared) (H : Hp) (E : XK), Env1 (cxOf (L2.CX P w) P w K mg base N x (defScope st) f cdv A outer s H E) k → Takes (cxOf (L2.CX P w) P w K mg base N x (defScope st) f cdv A outer s H E) (fun cls d _ H => E cls d H) →
      PSds (cxOf (L2.CX P w) P w K mg base N x (defScope st) f cdv A outer s H E) (fun cls d _ H => E cls d H) (defBody st) r) : Fn P w K mg base x ps.length (k + 1) (mDef N.length r) := by
  obtain ⟨f, fd, h1, h2, h3⟩ := Fu.ex
  exact ⟨f, fd, ps, h2, h1.kp, h3, fn_okD h1 Sc fun cdv A outer s H E hr hG => hbody f cdv A outer s H E ⟨hr, hG, passes_of rfl⟩ (takes_of rfl rfl rfl rfl)⟩
end
end DL
set_option Elab.async false
set_option linter.all false
set_option maxRecDepth 100000
set_option maxHeartbeats 4000000
set_option autoImplicit false
/-! Data layer: the law's call. -/
namespace DL
open PySem PySem.Spec PyProof.Rows L2
section
variable {P : Program} {w : World} {K : Fg} {mg mb : Str → Option Value} {k : Nat} {fa a : Addr} {fd : FuncData} {x : Str} {m : Mir} {S1 : Shared} {us : List Value} {ns : List Int} {H : Hp}
theorem bv_len : bootBuiltins "len" = some (.builtin "len") := by decide +kernel
theorem bv_abs : bootBuiltins "abs" = some (.builtin "abs") := by decide +kernel
theorem bv_repr : bootBuiltins "repr" = some (.builtin "repr") := by decide +kernel
theorem bv_isinstance : bootBuiltins "isinstance" = some (.builtin "isinstance") := by decide +kernel
theorem bv_all : bootBuiltins "all" = some (.builtin "all") := by decide +kernel
theorem bv_any : bootBuiltins "any" = some (.builtin "any") := by decide +kernel
theorem bv_sum : bootBuiltins "sum" = some (.builtin "sum") := by decide +kernel
theorem bv_int : bootBuiltins "int" = some (.type "int") := by decide +kernel
theorem bv_str : bootBuiltins "str" = some (.type "str") := by decide +kernel
theorem bv_tuple : bootBuiltins "tuple" = some (.type "tuple") := by decide +kernel
/-- what the tracked heap of a law's beginning may hold: the script alone, known to its object -/
structure Lone (K : Fg) (H : Hp) (a : Addr) : Prop where
  at_ : ∀ b, H b ≠ none → b = a
  notK : H a ≠ none → K.lookup a = none
  frz : ∀ b u, H b = some u → ∃ o xs, u = .frz o (.lst xs)
theorem Lone.off (L : Lone K H a) {b : Addr} (h : b ≠ a) : H b = none := by
  cases q : H b with
  | none => rfl
  | some u => exact absurd (L.at_ b (by rw [q]; simp)) h
abbrev lsObj (us : List Value) : Obj := { cls := .type "list", data := .seq us.toArray }
theorem Lone.space (L : Lone K H a) (ha : S1.heap.get? a = some (lsObj us)) {b : Addr} {f : Str → Option Value} (h : S1.heap.Ns b f) : (hidT S1.heap H).Ns b f := by
  obtain ⟨o, es, ep, g, d, r⟩ := h
  have hb : b ≠ a := fun z => by
    subst z
    have e : lsObj us = o := Option.some.inj (ha.symm.trans g)
    subst e
    exact nomatch d
  exact ⟨o, es, ep, hidT_get g (L.off hb), d, r⟩
theorem Lone.frag (L : Lone K H a) (KX : K.In S1.heap) : K.In (hidT S1.heap H) := fun b o e => hidT_get (KX b o e) (by
  by_cases z : b = a
  · subst z
    cases q : H b with
    | none => rfl
    | some u => exact absurd ((L.notK (by rw [q]; simp)).symm.trans e) (by simp)
  · exact L.off z)
abbrev Ended (h : Heap) (os : OsState) : Result → Shared → Prop := fun r z => r = .ok (.ret (.bool true)) ∧ OldK h z.heap ∧ z.os = os ∧ AllBare z.gens
theorem law_lone (L : Lone K H a) (KX : K.In S1.heap) (n1 : S1.heap.Ns mainGlobals mg) (n2 : S1.heap.Ns builtinsNs mb) (nb : ∀ y : Str, y ≠ "__name__" → mb y = bootBuiltins y) (n3 : S1.heap.NoLimit)
    (g0 : S1.gens = #[]) (ha : S1.heap.get? a = some (lsObj us)) (hok : HOk P w H S1.heap) (hS : SqL K H a (ns.map V.int)) (room : Room k callerA)
    (F : ∀ base : Heap, K.In base → base.Ns mainGlobals mg → Fn P w K mg base x 1 k m) (bd : mg x = some (.ref fa))
    (hm : ∃ S, m [.lst (ns.map .int)] [] = .ok (.bl true) S) : codeAny (model P w) callerA (.call (.ref fa) ⟨[.ref a], []⟩) (Ended S1.heap S1.os) S1 := by
  obtain ⟨c, i1, i2⟩ := n3
  have M : Mod K mg (hidT S1.heap H) := ⟨L.frag KX, L.space ha n1, ⟨mb, L.space ha n2, nb⟩, ⟨c, L.space ha i1, i2⟩⟩
  have e0 : Env0 P w K mg (hidT S1.heap H) callerA [] S1 H := ⟨rfl, M, fun _ _ e => of_hidT e, Nat.le_of_eq (hidT_size _ _), trivial, fun _ q => (nomatch q), hok, .of_eq g0⟩
  have sp : spD w K mg 1 m [V.ref a] H (fun v _ => v = .bl true) (fun _ _ _ => False) := by
    refine ⟨rfl, [], H, [], [.lst (ns.map .int)], ⟨Sub.refl _, rfl, List.nodup_nil, fun _ q => (nomatch q), fun j b d q => (by simp at q)⟩, .cons (.lst hS (DVs.of_ints ns)) .nil, ?_⟩
    obtain ⟨S, e⟩ := hm
    rw [e]
    intro b H' β F' _ _ hv
    cases hv
    rfl
  obtain ⟨f', fd, ps, q1, _, q2, q3⟩ := (F _ M.kin (L.space ha n1)).ex
  obtain rfl : f' = fa := by rw [q1] at bd; cases bd; rfl
  have bt : BindsTo S1 fd ⟨[.ref a], []⟩ (ps.zip [.ref a]) := q2 S1 [.ref a] KX (q3.len _ _ _ _ sp)
  refine codeAny_mono (q3.run callerA [] S1 H ⟨[.ref a], []⟩ [.ref a] [V.ref a] (fun v _ => v = .bl true) _ room rfl e0 bt (.cons rfl .nil) sp) fun r z q => ?_
  match r, q with
  | .error _, ⟨_, _, _, _, _, _, _, _, _, _, _, q⟩ => exact q.2.elim
  | .ok (.ret u), ⟨v, H', os, bare, un, hok', r', q⟩ =>
    have q : v = .bl true := q
    subst q
    have r' : u = Value.bool true := r'
    subst r'
    refine ⟨rfl, OldK.of_keep fun b o e => ?_, os, bare⟩
    by_cases z : H b = none
    · exact un.keep b o e z (fun y => nomatch y) (fun y => nomatch y)
    · obtain ⟨y, hy⟩ : ∃ y, H b = some y := by
        cases q : H b with
        | none => exact absurd q z
        | some y => exact ⟨y, rfl⟩
      obtain ⟨ob, xs, rfl⟩ := L.frz b y hy
      have o1 := (hok b _ hy).1
      have o2 := (hok' b _ (un.frzs b ob _ hy)).1
      rw [e] at o1
      exact o2.trans o1.symm
  | .ok .next, q => exact q.elim
  | .ok .brk, q => exact q.elim
  | .ok .cont, q => exact q.elim
theorem law_mir (KX : K.In S1.heap) (n1 : S1.heap.Ns mainGlobals mg) (n2 : S1.heap.Ns builtinsNs mb) (nb : ∀ y : Str, y ≠ "__name__" → mb y = bootBuiltins y) (n3 : S1.heap.NoLimit) (g0 : S1.gens = #[]) (ha : S1.heap.get? a = some (lsObj us))
    (hi : IntsAre us ns) (hl : ns.length ≤ sizeLine) (room : Room k callerA) (F : ∀ base : Heap, K.In base → base.Ns mainGlobals mg → Fn P w K mg base x 1 k m) (bd : mg x = some (.ref fa))
    (hm : ∃ S, m [.lst (ns.map .int)] [] = .ok (.bl true) S) : codeAny (model P w) callerA (.call (.ref fa) ⟨[.ref a], []⟩) (Ended S1.heap S1.os) S1 := by
  have rv := vals_ints hi
  cases hk : K.lookup a with
  | some o =>
    have e := (KX a o hk).symm.trans ha
    cases e
    exact law_lone (H := fun _ => none) ⟨fun _ q => absurd rfl q, fun q => absurd rfl q, fun _ _ q => nomatch q⟩ KX n1 n2 nb n3 g0 ha (fun _ _ q => nomatch q)
      (.inr ⟨_, us.toArray, _, hk, rfl, rfl, rfl, by rw [List.size_toArray, hi.length]; exact hl, by simpa using rv⟩) room F bd hm
  | none =>
    refine law_lone (H := upd (fun _ => none) a (.frz (lsObj us) (.lst (ns.map V.int)))) ⟨fun b q => ?_, fun _ => hk, fun b u q => ?_⟩ KX n1 n2 nb n3 g0 ha (fun b u q => ?_) (.inl (.inr ⟨_, upd_same⟩)) room F bd hm
    · by_cases z : b = a
      · exact z
      · rw [upd_ne z] at q; exact absurd rfl q
    · by_cases z : b = a
      · subst z; rw [upd_same] at q; cases q; exact ⟨_, _, rfl⟩
      · rw [upd_ne z] at q; cases q
    · by_cases z : b = a
      · subst z; rw [upd_same] at q; cases q
        exact ⟨ha, by rw [List.length_map]; exact hl, us, _, rv, ha⟩
      · rw [upd_ne z] at q; cases q
end
/-- a law's end: what is given by the head, the mirror's answer -/
theorem walkG {l : PySem.W.OpenLaw} {n k : Nat} {q : Program} {loose : List Str} {XP : (Str → Option Value) → Heap → Prop} {YP : World → Heap → Prop} {d : DefRec} {m : Mir} (hn : l.most = some n) (hs : n ≤ sizeLine) (hd : d.params.defaults = []) (hr : Room k callerA)
    (F : ∀ (w : World) (mg : Str → Option Value) (h : Heap), YP w h → h.Ns mainGlobals mg → ∃ K : Fg, K.In h ∧ ∀ base : Heap, K.In base → base.Ns mainGlobals mg → Fn l.prog w K mg base d.name 1 k m)
    (hm : ∀ ns : List Int, ns.length ≤ n → ∃ S, m [.lst (ns.map .int)] [] = .ok (.bl true) S) : PySem.W.WalkO q loose XP YP l.row.toRowW d [] (fun f vs => PySem.call f vs) :=
  Att.attach_call hn hd fun w _ z mg mb fa _ _ _ _ a us ns G Y _ _ _ hmg ha hi hl hg => by
    obtain ⟨K, KX, hF⟩ := F w mg _ Y G.T.g
    exact law_mir KX G.T.g G.T.b G.T.builtins G.T.nolimit hg ha hi (Nat.le_trans hl hs) hr hF hmg (hm ns hl)
end DL
set_option Elab.async false
set_option linter.all false
set_option maxRecDepth 100000
set_option maxHeartbeats 4000000
set_option autoImplicit false
/-! Plain part: what a mirror answers, told by what must hold of its answer. -/
namespace DL
open PySem L2
def Res.post {A : Type} (r : Res A) (Q : A → Sto → Prop) : Prop := match r with
  | .ok a S => Q a S
  | _ => False
def Out.post (o : Out) (nx : Sl → Sto → Prop) (rt : D → Sto → Prop) (bk ct : Sl → Sto → Prop) : Prop := match o with
  | .nx δ S => nx δ S
  | .rt d S => rt d S
  | .bk δ S => bk δ S
  | .ct δ S => ct δ S
  | _ => False
abbrev NoS : Sl → Sto → Prop := fun _ _ => False
abbrev NoD : D → Sto → Prop := fun _ _ => False
section
variable {A A' : Type} {r : Res A} {f : A → Sto → Res A'} {Q : A → Sto → Prop} {Q' : A' → Sto → Prop} {δ : Sl} {S : Sto} {QD : D → Sto → Prop} {QL : List D → Sto → Prop} {QB : Bool → Sto → Prop} {QS : Sl → Sto → Prop} {N B C : Sl → Sto → Prop} {T : D → Sto → Prop}
theorem Res.post.ok {a : A} (h : Q a S) : (Res.ok a S).post Q := h
theorem Res.post.ex (h : r.post Q) : ∃ a S, r = .ok a S ∧ Q a S := by
  cases r with
  | ok a S => exact ⟨a, S, rfl, h⟩
  | err => exact h.elim
  | stuck => exact h.elim
theorem Res.post.mono {Q1 : A → Sto → Prop} (h : r.post Q1) (k : ∀ a S, Q1 a S → Q a S) : r.post Q := by
  cases r with
  | ok a S => exact k a S h
  | err => exact h.elim
  | stuck => exact h.elim
theorem Res.post.of_eq {a : A} (h : r = .ok a S) (q : Q a S) : r.post Q := by rw [h]; exact q
theorem Out.post.mono {o : Out} {N1 B1 C1 : Sl → Sto → Prop} {T1 : D → Sto → Prop} (h : o.post N1 T1 B1 C1) (k1 : ∀ δ S, N1 δ S → N δ S) (k2 : ∀ d S, T1 d S → T d S) (k3 : ∀ δ S, B1 δ S → B δ S) (k4 : ∀ δ S, C1 δ S → C δ S) : o.post N T B C := by
  cases o with
  | nx δ S => exact k1 _ _ h
  | rt δ S => exact k2 _ _ h
  | bk δ S => exact k3 _ _ h
  | ct δ S => exact k4 _ _ h
  | err => exact h.elim
  | stuck => exact h.elim
theorem p_bind (h : r.post fun a S1 => (f a S1).post Q') : (r.bind f).post Q' := by
  cases r with
  | ok a S => exact h
  | err => exact h.elim
  | stuck => exact h.elim
theorem p_lift {o : Option A} {a : A} (h : o = some a) (q : Q a S) : (Res.lift o S).post Q := by rw [h]; exact q
theorem p_out {g : A → Sto → Out} (h : r.post fun a S1 => (g a S1).post N T B C) : (r.out δ g).post N T B C := by
  cases r with
  | ok a S => exact h
  | err => exact h.elim
  | stuck => exact h.elim
/-! expressions -/
theorem p_var {i : Nat} {d : D} (e : δ[i]? = some (some d)) (h : QD d S) : (rVar i δ S).post QD := by unfold rVar; rw [e]; exact h
theorem p_c {d : D} (h : QD d S) : (rC d δ S).post QD := h
theorem p_un {g : Sto → D → Option D} {a : RE} (h : (a δ S).post fun x S1 => (Res.lift (g S1 x) S1).post QD) : (rUn g a δ S).post QD := p_bind h
theorem p_bin {g : Sto → D → D → Option D} {a b : RE} (h : (a δ S).post fun x S1 => (b δ S1).post fun y S2 => (Res.lift (g S2 x y) S2).post QD) : (rBin g a b δ S).post QD := p_bind (h.mono fun _ _ q => p_bind q)
theorem p_as {g : Sto → List D → Option D} {a : RA} (h : (a δ S).post fun x S1 => (Res.lift (g S1 x) S1).post QD) : (rAs g a δ S).post QD := p_bind h
theorem p_nil (h : QL [] S) : (rNil δ S).post QL := h
theorem p_cons {a : RE} {b : RA} (h : (a δ S).post fun x S1 => (b δ S1).post fun ys S2 => QL (x :: ys) S2) : (rCons a b δ S).post QL := p_bind (h.mono fun _ _ q => p_bind (q.mono fun _ _ q => q))
theorem p_call {m : Mir} {a : RA} (h : (a δ S).post fun xs S1 => (m xs S1).post QD) : (rCall m a δ S).post QD := p_bind h
theorem p_if {c : RB} {a b : RE} (h : (c δ S).post fun k S1 => (k = true → (a δ S1).post QD) ∧ (k = false → (b δ S1).post QD)) : (rIf c a b δ S).post QD := p_bind (h.mono fun k _ q => by
  cases k with
  | true => exact q.1 rfl
  | false => exact q.2 rfl)
theorem p_own {a : RE} (h : (a δ S).post fun d S1 => QD (.ptr S1.length) (S1 ++ [d])) : (rOwn a δ S).post QD := p_bind (h.mono fun _ _ q => q)
theorem p_tup {a : RA} (h : (a δ S).post fun xs S1 => xs.length ≤ sizeLine ∧ QD (.tup xs) S1) : (rTup a δ S).post QD := p_bind (h.mono fun _ _ q => by rw [if_pos q.1]; exact q.2)
theorem p_lst {a : RA} (h : (a δ S).post fun xs S1 => xs.length ≤ sizeLine ∧ QD (.lst xs) S1) : (rLst a δ S).post QD := p_bind (h.mono fun _ _ q => by rw [if_pos q.1]; exact q.2)
theorem p_keep {a : RE} (h : (a δ S).post fun d S1 => ∃ ds, d = .lst ds ∧ QD (.lst ds) S1) : (rKeep a δ S).post QD := p_bind (h.mono fun d _ ⟨ds, e, q⟩ => by subst e; exact q)
theorem p_tru {a : RE} (h : (a δ S).post fun d S1 => (Res.lift (truth S1 d) S1).post QB) : (bTru a δ S).post QB := p_bind h
theorem p_and {a b : RB} (h : (a δ S).post fun k S1 => (k = true → (b δ S1).post QB) ∧ (k = false → QB false S1)) : (bAnd a b δ S).post QB := p_bind (h.mono fun k _ q => by
  cases k with
  | true => exact q.1 rfl
  | false => exact q.2 rfl)
theorem p_or {a b : RB} (h : (a δ S).post fun k S1 => (k = true → QB true S1) ∧ (k = false → (b δ S1).post QB)) : (bOr a b δ S).post QB := p_bind (h.mono fun k _ q => by
  cases k with
  | true => exact q.1 rfl
  | false => exact q.2 rfl)
theorem p_not {a : RB} (h : (a δ S).post fun k S1 => QB (!k) S1) : (bNot a δ S).post QB := p_bind (h.mono fun _ _ q => q)
theorem p_val {a : RE} (h : (a δ S).post fun d S1 => ∃ k, d = .bl k ∧ QB k S1) : (bVal a δ S).post QB := p_bind (h.mono fun _ _ ⟨k, e, q⟩ => by subst e; exact q)
theorem p_rand {a b : RE} (h : (a δ S).post fun x S1 => ∃ k, truth S1 x = some k ∧ (k = true → (b δ S1).post QD) ∧ (k = false → QD x S1)) : (rAnd a b δ S).post QD := p_bind (h.mono fun x S1 ⟨k, e, q⟩ => p_bind (p_lift e (by
  cases k with
  | true => exact q.1 rfl
  | false => exact q.2 rfl)))
theorem p_ror {a b : RE} (h : (a δ S).post fun x S1 => ∃ k, truth S1 x = some k ∧ (k = true → QD x S1) ∧ (k = false → (b δ S1).post QD)) : (rOr a b δ S).post QD := p_bind (h.mono fun x S1 ⟨k, e, q⟩ => p_bind (p_lift e (by
  cases k with
  | true => exact q.1 rfl
  | false => exact q.2 rfl)))
theorem p_rnot {a : RE} (h : (a δ S).post fun x S1 => ∃ k, truth S1 x = some k ∧ QD (.bl (!k)) S1) : (rNot a δ S).post QD := p_bind (h.mono fun x S1 ⟨k, e, q⟩ => p_bind (p_lift e q))
theorem p_chain {g g' : Sto → D → D → Option D} {a b c : RE} (h : (a δ S).post fun x S1 => (b δ S1).post fun y S2 => ∃ k, g S2 x y = some (.bl k) ∧ (k = true → (c δ S2).post fun u S4 => (Res.lift (g' S4 y u) S4).post QD) ∧ (k = false → QD (.bl false) S2)) : (rChain g g' a b c δ S).post QD :=
  p_bind (h.mono fun x S1 q => p_bind (q.mono fun y S2 ⟨k, e, q⟩ => p_bind (p_lift e (by
    cases k with
    | true => exact p_bind (q.1 rfl)
    | false => exact q.2 rfl))))
theorem p_meth {T : String} {g : Sto → D → List D → Option (D × Sto)} {a : RE} {as : RA} (h : (a δ S).post fun x S1 => isTy T S1 x = true ∧ (as δ S1).post fun ys S2 => ∃ z S3, g S2 x ys = some (z, S3) ∧ QD z S3) : (rMeth T g a as δ S).post QD :=
  p_bind (h.mono fun x S1 ⟨e, q⟩ => by rw [if_pos e]; exact p_bind (q.mono fun ys S2 ⟨z, S3, e, q⟩ => by rw [e]; exact q))
/-! statements -/
theorem s_next (h : N δ S) : (sNext δ S).post N T B C := h
theorem s_seq {a b : RS} (h : (a δ S).post (fun δ1 S1 => (b δ1 S1).post N T B C) T B C) : (sSeq a b δ S).post N T B C := by
  unfold sSeq
  cases q : a δ S with
  | nx δ1 S1 => rw [q] at h; exact h
  | _ => rw [q] at h; exact h
theorem s_asg {e : RE} {g : RG} (h : (e δ S).post fun d S1 => (g d δ S1).post fun δ1 S2 => N δ1 S2) : (sAsg e g δ S).post N T B C := p_out (h.mono fun _ _ q => p_out (q.mono fun _ _ q => q))
theorem s_name {i : Nat} {d : D} (hi : i < δ.length) (h : QS (δ.set i (some d)) S) : (gName i d δ S).post QS := by unfold gName; rw [if_pos hi]; exact h
theorem s_gtup {u : List D → Sl → Sto → Res Sl} {d : D} {ds : List D} (e : deref S d = .tup ds) (h : (u ds δ S).post QS) : (gTup u d δ S).post QS := by unfold gTup; rw [e]; exact h
theorem s_gnil (h : QS δ S) : (gNil [] δ S).post QS := h
theorem s_gcons {g : RG} {u : List D → Sl → Sto → Res Sl} {d : D} {r : List D} (h : (g d δ S).post fun δ1 S1 => (u r δ1 S1).post QS) : (gCons g u (d :: r) δ S).post QS := p_bind h
theorem s_expr {e : RE} (h : (e δ S).post fun _ S1 => N δ S1) : (sExpr e δ S).post N T B C := p_out (h.mono fun _ _ q => q)
theorem s_ret {e : RE} (h : (e δ S).post fun d S1 => T d S1) : (sRet e δ S).post N T B C := p_out (h.mono fun _ _ q => q)
theorem s_if {c : RB} {a b : RS} (h : (c δ S).post fun k S1 => (k = true → (a δ S1).post N T B C) ∧ (k = false → (b δ S1).post N T B C)) : (sIf c a b δ S).post N T B C := p_out (h.mono fun k _ q => by
  cases k with
  | true => exact q.1 rfl
  | false => exact q.2 rfl)
theorem s_brk (h : B δ S) : (sBreak δ S).post N T B C := h
theorem s_cont (h : C δ S) : (sCont δ S).post N T B C := h
theorem s_par {i j : Nat} {a : RA} (h : (a δ S).post fun xs S1 => ∃ x y, xs = [x, y] ∧ i < δ.length ∧ j < δ.length ∧ N ((δ.set i (some x)).set j (some y)) S1) : (sPar i j a δ S).post N T B C :=
  p_out (h.mono fun xs S1 ⟨x, y, e, h1, h2, q⟩ => by subst e; dsimp only; rw [if_pos ⟨h1, h2⟩]; exact q)
theorem s_for {it : RA} {g : RG} {b : RS} (h : (it δ S).post fun xs S1 => (forL g b xs δ S1).post N T B C) : (sFor it g b δ S).post N T B C := p_out h
/-- the loop's law: I holds ahead of each turn -/
theorem s_forL {g : RG} {b : RS} (I : List D → Sl → Sto → Prop) (step : ∀ x xs δ S, I (x :: xs) δ S → (g x δ S).post fun δ1 S1 => (b δ1 S1).post (fun δ2 S2 => I xs δ2 S2) T N fun δ2 S2 => I xs δ2 S2) (fin : ∀ δ S, I [] δ S → N δ S) :
    ∀ (xs : List D) (δ : Sl) (S : Sto), I xs δ S → (forL g b xs δ S).post N T B C
  | [], δ, S, h => fin δ S h
  | x :: xs, δ, S, h => by
    unfold forL
    refine p_out ((step x xs δ S h).mono fun δ1 S1 q => ?_)
    cases e : b δ1 S1 with
    | nx δ2 S2 => rw [e] at q; exact s_forL I step fin xs δ2 S2 q
    | ct δ2 S2 => rw [e] at q; exact s_forL I step fin xs δ2 S2 q
    | bk δ2 S2 => rw [e] at q; exact q
    | rt d S2 => rw [e] at q; exact q
    | err => rw [e] at q; exact q.elim
    | stuck => rw [e] at q; exact q.elim
theorem s_while {fuel : Sl → Sto → Nat} {c : RB} {b : RS} (h : (whileL c b (fuel δ S) δ S).post N T B C) : (sWhile fuel c b δ S).post N T B C := h
/-- I n: at most n turns are left -/
theorem s_whileL {c : RB} {b : RS} (I : Nat → Sl → Sto → Prop) (step : ∀ n δ S, I n δ S → (c δ S).post fun k S1 => (k = true → ∃ m, n = m + 1 ∧ (b δ S1).post (fun δ2 S2 => I m δ2 S2) T N fun δ2 S2 => I m δ2 S2) ∧ (k = false → N δ S1)) :
    ∀ (n m : Nat) (δ : Sl) (S : Sto), I n δ S → n < m → (whileL c b m δ S).post N T B C
  | _, 0, _, _, _, hm => absurd hm (Nat.not_lt_zero _)
  | n, m + 1, δ, S, h, hm => by
    unfold whileL
    refine p_out ((step n δ S h).mono fun k S1 q => ?_)
    cases k with
    | false => exact q.2 rfl
    | true =>
      obtain ⟨n', rfl, q'⟩ := q.1 rfl
      clear q
      rw [if_pos rfl]
      cases e : b δ S1 with
      | nx δ2 S2 => rw [e] at q'; exact s_whileL I step n' m δ2 S2 q' (by omega)
      | ct δ2 S2 => rw [e] at q'; exact s_whileL I step n' m δ2 S2 q' (by omega)
      | bk δ2 S2 => rw [e] at q'; exact q'
      | rt d S2 => rw [e] at q'; exact q'
      | err => rw [e] at q'; exact q'.elim
      | stuck => rw [e] at q'; exact q'.elim
/-! walks -/
theorem p_seq {a : RE} (h : (a δ S).post fun x S1 => (∃ ds, x = .lst ds ∧ QL ds S1) ∨ (∃ ds, x = .tup ds ∧ QL ds S1) ∨ ∃ z, x = .str z ∧ QL (z.cps.toList.map fun c => .str ⟨#[c]⟩) S1) : (rSeq a δ S).post QL :=
  p_bind (h.mono fun x S1 q => by rcases q with ⟨ds, e, q⟩ | ⟨ds, e, q⟩ | ⟨z, e, q⟩ <;> subst e <;> exact q)
theorem p_enum {a : RA} (h : (a δ S).post fun xs S1 => ∃ ds, xs = [.lst ds] ∧ QL (enumD 0 ds) S1) : (rEnum a δ S).post QL := p_bind (h.mono fun _ _ ⟨ds, e, q⟩ => by subst e; exact q)
theorem p_range1 {a : RA} (h : (a δ S).post fun xs S1 => ∃ j, xs = [.int j] ∧ -(2 ^ 62) ≤ j ∧ j < 2 ^ 62 ∧ QL (rangeD 0 j) S1) : (rRange a δ S).post QL := p_bind (h.mono fun _ _ ⟨j, e, h1, h2, q⟩ => by subst e; dsimp only; rw [if_pos ⟨h1, h2⟩]; exact q)
theorem p_lc {it : RA} {g : RG} {vs : List Nat} {t : RB} {e : RE} (h : (it δ S).post fun xs S1 => (lcL g t e xs (wipeD δ vs) S1).post fun ys S2 => ys.length ≤ sizeLine ∧ QD (.lst ys) S2) : (rLc it g vs t e δ S).post QD :=
  p_bind (h.mono fun xs S1 q => p_bind (by
    obtain ⟨ys, S2, e1, e2⟩ := q.ex
    rw [e1]
    show (if ys.length ≤ sizeLine then Res.ok (D.lst ys) S2 else .stuck).post QD
    rw [if_pos e2.1]; exact e2.2))
theorem p_yes (h : QB true S) : (bYes δ S).post QB := h
/-! a def -/
theorem m_def {n : Nat} {b : RS} {ds : List D} (h : (b (ds.map some ++ List.replicate (n - ds.length) none) S).post
    (fun _ S1 => closedL S.length (S1.take S.length) = true ∧ QD .non (S1.take S.length)) (fun d S1 => (D.closed S.length d && closedL S.length (S1.take S.length)) = true ∧ QD d (S1.take S.length)) NoS NoS) : (mDef n b ds S).post QD := by
  unfold mDef
  cases q : b (ds.map some ++ List.replicate (n - ds.length) none) S with
  | nx δ S1 => rw [q] at h; dsimp only; rw [if_pos h.1]; exact h.2
  | rt d S1 => rw [q] at h; dsimp only; rw [if_pos h.1]; exact h.2
  | _ => rw [q] at h; exact h.elim
end
end DL
set_option Elab.async false
set_option linter.all false
set_option maxRecDepth 100000
set_option maxHeartbeats 4000000
set_option autoImplicit false
/-! Plain part: operations on what is known. -/
namespace DL
open PySem L2
section
variable {S : Sto} {i j : Int} {x y : Str} {b c : Bool} {Q : D → Sto → Prop} {QB : Bool → Sto → Prop}
theorem o_add (h : Q (.int (i + j)) S) : (Res.lift (gAdd S (.int i) (.int j)) S).post Q := h
theorem o_sub (h : Q (.int (i - j)) S) : (Res.lift (gSub S (.int i) (.int j)) S).post Q := h
theorem o_mul (f : mulFits i j = true) (h : Q (.int (i * j)) S) : (Res.lift (gMul S (.int i) (.int j)) S).post Q := p_lift (by unfold gMul; dsimp only; rw [if_pos f]) h
theorem o_mod (f : j ≠ 0) (h : Q (.int (i.fmod j)) S) : (Res.lift (gMod S (.int i) (.int j)) S).post Q := p_lift (by unfold gMod; dsimp only; rw [if_pos f]) h
theorem o_div (f : j ≠ 0 ∧ j.natAbs.log2 < 9000) (h : Q (.int (i.fdiv j)) S) : (Res.lift (gDiv S (.int i) (.int j)) S).post Q := p_lift (by unfold gDiv; dsimp only; rw [if_pos f]) h
theorem o_pow (f : 0 ≤ j ∧ j ≤ 1000000 ∧ i.natAbs < 2 ^ 64) (h : Q (.int (i ^ j.toNat)) S) : (Res.lift (gPow S (.int i) (.int j)) S).post Q := p_lift (by unfold gPow; dsimp only; rw [if_pos ⟨f.1, .inl f.2⟩]) h
theorem o_neg (h : Q (.int (-i)) S) : (Res.lift (gNeg S (.int i)) S).post Q := h
theorem o_lt (h : Q (.bl (decide (i < j))) S) : (Res.lift (gLt S (.int i) (.int j)) S).post Q := h
theorem o_le (h : Q (.bl (decide (i ≤ j))) S) : (Res.lift (gLe S (.int i) (.int j)) S).post Q := h
theorem o_gt (h : Q (.bl (decide (j < i))) S) : (Res.lift (gGt S (.int i) (.int j)) S).post Q := h
theorem o_ge (h : Q (.bl (decide (j ≤ i))) S) : (Res.lift (gGe S (.int i) (.int j)) S).post Q := h
theorem o_eqg {d e : D} {u v : PyData} (h1 : toPy S (deref S d) = some u) (h2 : toPy S (deref S e) = some v) (h3 : SeqAt.shaped u = true) (h4 : SeqAt.shaped v = true) (h : Q (.bl (PyData.eqv u v)) S) : (Res.lift (gEq S d e) S).post Q :=
  p_lift (by unfold gEq eqD; rw [h1, h2]; dsimp only; rw [h3, h4]; rfl) h
theorem o_neg_ {d e : D} {u v : PyData} (h1 : toPy S (deref S d) = some u) (h2 : toPy S (deref S e) = some v) (h3 : SeqAt.shaped u = true) (h4 : SeqAt.shaped v = true) (h : Q (.bl (!PyData.eqv u v)) S) : (Res.lift (gNe S d e) S).post Q :=
  p_lift (by unfold gNe eqD; rw [h1, h2]; dsimp only; rw [h3, h4]; rfl) h
theorem shaped_int : SeqAt.shaped (.int i) = true := by unfold SeqAt.shaped; simp [PyData.canLay0, PyData.depth]
theorem shaped_str (h : PyData.strOk x = true) : SeqAt.shaped (.str x) = true := by unfold SeqAt.shaped; simp [PyData.canLay0, PyData.depth, h]
theorem o_eqI (h : Q (.bl (i == j)) S) : (Res.lift (gEq S (.int i) (.int j)) S).post Q := o_eqg rfl rfl shaped_int shaped_int (by simpa [PyData.eqv] using h)
theorem o_neI (h : Q (.bl (!(i == j))) S) : (Res.lift (gNe S (.int i) (.int j)) S).post Q := o_neg_ rfl rfl shaped_int shaped_int (by simpa [PyData.eqv] using h)
theorem o_eqS (h1 : PyData.strOk x = true) (h2 : PyData.strOk y = true) (h : Q (.bl (x == y)) S) : (Res.lift (gEq S (.str x) (.str y)) S).post Q := o_eqg rfl rfl (shaped_str h1) (shaped_str h2) (by simpa [PyData.eqv] using h)
theorem o_neS (h1 : PyData.strOk x = true) (h2 : PyData.strOk y = true) (h : Q (.bl (!(x == y))) S) : (Res.lift (gNe S (.str x) (.str y)) S).post Q := o_neg_ rfl rfl (shaped_str h1) (shaped_str h2) (by simpa [PyData.eqv] using h)
theorem o_abs (h : Q (.int i.natAbs) S) : (Res.lift (gAbs S [.int i]) S).post Q := p_lift (a := .int i.natAbs) (by unfold gAbs; dsimp only; congr 2; omega) h
theorem o_tru (h : QB b S) : (Res.lift (truth S (.bl b)) S).post QB := h
theorem o_ixT {xs : List D} {d : D} (e : atI xs i = some d) (h : Q d S) : (Res.lift (gIx S (.tup xs) (.int i)) S).post Q := p_lift e h
theorem o_ixL {xs : List D} {d : D} (e : atI xs i = some d) (h : Q d S) : (Res.lift (gIx S (.lst xs) (.int i)) S).post Q := p_lift e h
theorem p_true {A B : Prop} (h : A) : (true = true → A) ∧ (true = false → B) := ⟨fun _ => h, fun z => nomatch z⟩
theorem p_false {A B : Prop} (h : B) : (false = true → A) ∧ (false = false → B) := ⟨fun z => (nomatch z), fun _ => h⟩
theorem p_ex {A : Type} {x : A} {R T : A → Prop} (e : R x) (h : T x) : ∃ x, R x ∧ T x := ⟨x, e, h⟩
theorem p_ex2 {A B : Type} {x : A} {y : B} {R T : A → B → Prop} (e : R x y) (h : T x y) : ∃ x y, R x y ∧ T x y := ⟨x, y, e, h⟩
theorem p_var2 {i : Nat} {δ : Sl} (h : ∃ d, δ[i]? = some (some d) ∧ Q d S) : (rVar i δ S).post Q := let ⟨_, e, q⟩ := h; p_var e q
theorem p_isT {k : Bool} {A B : Prop} (e : k = true) (h : A) : (k = true → A) ∧ (k = false → B) := by subst e; exact p_true h
theorem p_isF {k : Bool} {A B : Prop} (e : k = false) (h : B) : (k = true → A) ∧ (k = false → B) := by subst e; exact p_false h
end
local macro_rules | `(tactic| walk_at "1") => `(tactic| with_reducible first
  | refine s_seq ?_ | refine s_asg ?_ | refine s_ret ?_ | refine s_if ?_ | refine s_expr ?_ | refine s_next ?_ | refine s_brk ?_ | refine s_cont ?_ | refine s_for ?_ | refine s_while ?_
  | refine p_c ?_ | refine p_bin ?_ | refine p_as ?_ | refine p_cons ?_ | refine p_nil ?_ | refine p_un ?_ | refine p_call ?_ | refine p_if ?_ | refine p_own ?_
  | refine p_keep ?_ | refine p_tru ?_ | refine p_and ?_ | refine p_or ?_ | refine p_not ?_ | refine p_val ?_ | refine p_rand ?_ | refine p_ror ?_ | refine p_rnot ?_ | refine p_chain ?_
  | refine o_add ?_ | refine o_sub ?_ | refine o_lt ?_ | refine o_le ?_ | refine o_gt ?_ | refine o_ge ?_ | refine o_neg ?_ | refine o_eqI ?_ | refine o_neI ?_ | refine o_abs ?_ | refine o_tru ?_ | refine p_true ?_ | refine p_false ?_
  | refine s_par ?_ | refine p_yes ?_ | refine p_lc ?_ | refine p_seq ?_ | refine s_gnil ?_ | refine s_gcons ?_)
local macro_rules | `(tactic| walk_at "2") => `(tactic| first
  | walk_at "1"
  | (with_reducible refine p_var2 ?_)
  | ((with_reducible refine s_name ?_ ?_); (· exact Nat.le_of_ble_eq_true rfl); dsimp only [List.set_cons_zero, List.set_cons_succ])
  | (with_reducible refine p_tup ?_) | ((with_reducible refine ⟨?_, ?_⟩); (· exact Nat.le_of_ble_eq_true rfl))
  | ((with_reducible refine p_ex2 (x := ?_) (y := ?_) ?_ ?_); rotate_left; rotate_left; (· rfl); refine ⟨?_, ?_, ?_⟩; (· exact Nat.le_of_ble_eq_true rfl); (· exact Nat.le_of_ble_eq_true rfl); dsimp only [List.set_cons_zero, List.set_cons_succ])
  | ((with_reducible refine p_isT ?_ ?_); (· rfl)) | ((with_reducible refine p_isF ?_ ?_); (· rfl))
  | ((with_reducible refine p_ex (x := ?_) ?_ ?_); rotate_left; (· rfl)))
/-! a trial: the greatest common divisor -/
end DL
set_option Elab.async false
set_option linter.all false
set_option maxRecDepth 100000
set_option maxHeartbeats 4000000
set_option autoImplicit false
/-! Plain part: comprehensions that leave the store, answers that leave it. -/
namespace DL
open PySem L2
theorem lcL_map {i : Nat} {e : RE} {f : D → D} {δ : Sl} {S : Sto} (hi : i < δ.length) : ∀ {xs : List D}, (∀ x ∈ xs, e (δ.set i (some x)) S = .ok (f x) S) → lcL (gName i) bYes e xs δ S = .ok (xs.map f) S
  | [], _ => rfl
  | x :: xs, h => by
    unfold lcL gName
    rw [if_pos hi]
    show (e (δ.set i (some x)) S).bind _ = _
    rw [h x List.mem_cons_self]
    show (lcL (gName i) bYes e xs δ S).bind _ = _
    rw [lcL_map hi fun y hy => h y (List.mem_cons_of_mem _ hy)]
    rfl
/-- an answer that leaves the store as it is -/
theorem same_of {m : Mir} {ds : List D} {d : D} {S : Sto} (h : (m ds S).post fun z S' => z = d ∧ S' = S) : m ds S = .ok d S := by
  obtain ⟨a, S1, e, rfl, rfl⟩ := h.ex
  exact e
theorem exact_of {A : Type} {r : Res A} {a : A} {S : Sto} (h : r.post fun z S' => z = a ∧ S' = S) : r = .ok a S := by
  obtain ⟨a, S1, e, rfl, rfl⟩ := h.ex
  exact e
/-- a store in which nothing that is made now is told -/
def Sane (S : Sto) : Prop := closedL S.length S = true
theorem m_defS {n : Nat} {b : RS} {ds : List D} {S : Sto} {d : D} (hS : Sane S) (hd : D.closed S.length d = true) (h : (b (ds.map some ++ List.replicate (n - ds.length) none) S).post NoS (fun z S1 => z = d ∧ S1 = S) NoS NoS) : mDef n b ds S = .ok d S :=
  same_of (m_def (h.mono (fun _ _ z => z.elim) (fun z S1 ⟨e1, e2⟩ => by
    subst e1 e2
    rw [List.take_length, hd, show closedL S1.length S1 = true from hS]
    exact ⟨rfl, rfl, rfl⟩) (fun _ _ z => z) (fun _ _ z => z)))
theorem fits_l {i j : Int} (h : i.natAbs < 2 ^ 64) : mulFits i j = true := by
  unfold mulFits
  rw [decide_eq_true h, Bool.true_or, Bool.or_true]
theorem fits_r {i j : Int} (h : j.natAbs < 2 ^ 64) : mulFits i j = true := by
  unfold mulFits
  rw [decide_eq_true h, Bool.or_true, Bool.or_true]
end DL
set_option Elab.async false
set_option linter.all false
set_option maxRecDepth 100000
set_option maxHeartbeats 4000000
set_option autoImplicit false
/-! Plain part: dicts in the store, what a def gives away. -/
namespace DL
open PySem L2
theorem closedL_set {n : Nat} : ∀ {S : Sto} {k : Nat} {d : D}, closedL n S = true → D.closed n d = true → closedL n (S.set k d) = true
  | [], _, _, h, _ => h
  | a :: r, 0, d, h, hd => by
    unfold closedL at h
    rw [Bool.and_eq_true] at h
    show closedL n (d :: r) = true
    unfold closedL
    rw [hd, h.2]; rfl
  | a :: r, k + 1, d, h, hd => by
    unfold closedL at h
    rw [Bool.and_eq_true] at h
    show closedL n (a :: r.set k d) = true
    unfold closedL
    rw [h.1, closedL_set h.2 hd]; rfl
theorem sane_set {S : Sto} {k : Nat} {d : D} (h : Sane S) (hd : D.closed S.length d = true) : Sane (S.set k d) := by
  unfold Sane
  rw [List.length_set]
  exact closedL_set h hd
mutual
theorem closed_mono {n m : Nat} (h : n ≤ m) : ∀ {d : D}, D.closed n d = true → D.closed m d = true
  | .ptr k, e => by
    unfold D.closed at e ⊢
    exact decide_eq_true (Nat.lt_of_lt_of_le (of_decide_eq_true e) h)
  | .tup xs, e => by unfold D.closed at e ⊢; exact closedL_mono h e
  | .lst xs, e => by unfold D.closed at e ⊢; exact closedL_mono h e
  | .dct xs, e => by unfold D.closed at e ⊢; exact closedK_mono h e
  | .dcn xs, e => by unfold D.closed at e ⊢; exact closedK_mono h e
  | .lck d, e => by unfold D.closed at e ⊢; exact closed_mono h e
  | .tux xs, e => by unfold D.closed at e ⊢; exact closedL_mono h e
  | .exc _ xs, e => by unfold D.closed at e ⊢; exact closedK_mono h e
  | .dc0 d, e => by unfold D.closed at e ⊢; exact closed_mono h e
  | .non, _ => rfl
  | .bl _, _ => rfl
  | .int _, _ => rfl
  | .str _, _ => rfl
  | .fn _, _ => rfl
  | .ty _, _ => rfl
theorem closedL_mono {n m : Nat} (h : n ≤ m) : ∀ {d : List D}, closedL n d = true → closedL m d = true
  | [], _ => rfl
  | a :: r, e => by
    unfold closedL at e ⊢
    rw [Bool.and_eq_true] at e ⊢
    exact ⟨closed_mono h e.1, closedL_mono h e.2⟩
theorem closedK_mono {n m : Nat} (h : n ≤ m) : ∀ {d : List (D × D)}, closedK n d = true → closedK m d = true
  | [], _ => rfl
  | (a, b) :: r, e => by
    unfold closedK at e ⊢
    rw [Bool.and_eq_true, Bool.and_eq_true] at e ⊢
    exact ⟨⟨closed_mono h e.1.1, closed_mono h e.1.2⟩, closedK_mono h e.2⟩
end
theorem closedL_app {n : Nat} : ∀ {a b : List D}, closedL n a = true → closedL n b = true → closedL n (a ++ b) = true
  | [], b, _, h => h
  | x :: a, b, e, h => by
    unfold closedL at e
    rw [Bool.and_eq_true] at e
    show closedL n (x :: (a ++ b)) = true
    unfold closedL
    rw [e.1, closedL_app e.2 h]; rfl
theorem sane_app {S : Sto} {d : D} (h : Sane S) (hd : D.closed (S.length + 1) d = true) : Sane (S ++ [d]) := by
  unfold Sane
  rw [List.length_append]
  refine closedL_app (closedL_mono (Nat.le_add_right _ _) h) ?_
  show closedL (S.length + 1) [d] = true
  unfold closedL closedL
  rw [hd]; rfl
section
variable {S : Sto} {δ : Sl} {QD : D → Sto → Prop} {N B C : Sl → Sto → Prop} {T : D → Sto → Prop}
theorem p_disp {ps : List (RE × RE)} (h : (rPairs ps δ S).post fun kvs S1 => (kvs.all (fun p => isKey p.1) && decide (kvs.length ≤ 15)) = true ∧ QD (.dct (mergeD [] kvs)) S1) : (rDisp ps δ S).post QD := p_bind (h.mono fun kvs S1 q => by rw [if_pos q.1]; exact q.2)
end
section
variable {δ : Sl} {S : Sto} {g : RG} {t : RB} {e : RE} {b : RS} {x : D} {xs : List D} {Q : List D → Sto → Prop} {N B C : Sl → Sto → Prop} {T : D → Sto → Prop}
theorem p_lc_nil (h : Q [] S) : (lcL g t e [] δ S).post Q := h
theorem p_lc_cons (h : (g x δ S).post fun δ1 S1 => (t δ1 S1).post fun k S2 => (k = true → (e δ1 S2).post fun y S3 => (lcL g t e xs δ S3).post fun ys S4 => Q (y :: ys) S4) ∧ (k = false → (lcL g t e xs δ S2).post Q)) : (lcL g t e (x :: xs) δ S).post Q := by
  unfold lcL
  refine p_bind (h.mono fun δ1 S1 q => p_bind (q.mono fun k S2 q => ?_))
  cases k with
  | true =>
    rw [if_pos rfl]
    exact p_bind ((q.1 rfl).mono fun y S3 q => p_bind (q.mono fun ys S4 q => q))
  | false => exact q.2 rfl
end
/-- S' is S but at k -/
structure But (k : Nat) (S S' : Sto) : Prop where
  len : S'.length = S.length
  at_ : ∀ j, j ≠ k → S'[j]? = S[j]?
  sane : Sane S'
theorem But.trans {k : Nat} {S S1 S2 : Sto} (a : But k S S1) (b : But k S1 S2) : But k S S2 := ⟨b.len.trans a.len, fun j hj => (b.at_ j hj).trans (a.at_ j hj), b.sane⟩
end DL
set_option Elab.async false
set_option linter.all false
set_option maxRecDepth 100000
set_option maxHeartbeats 4000000
set_option autoImplicit false
/-! Plain part: texts by their signs. -/
namespace DL
open PySem L2
/-- the text of these signs -/
def mk (cs : List Nat) : Str := ⟨cs.toArray⟩
theorem mk_of (w : Str) : w = mk w.cps.toList := by unfold mk; simp
theorem mk_len (cs : List Nat) : (mk cs).length = cs.length := by show cs.toArray.size = _; simp
theorem mk_list (cs : List Nat) : (mk cs).cps.toList = cs := by unfold mk; simp
theorem mk_inj {a b : List Nat} (h : mk a = mk b) : a = b := by
  have := congrArg (fun z : Str => z.cps.toList) h
  rwa [mk_list, mk_list] at this
theorem mk_beq (a b : List Nat) : (mk a == mk b) = decide (a = b) := by
  by_cases h : a = b
  · subst h; rw [beq_self_eq_true, decide_eq_true rfl]
  · rw [decide_eq_false h]
    exact beq_eq_false_iff_ne.mpr fun z => h (mk_inj z)
theorem cut_tail (cs : List Nat) : cutS (mk cs) (some 1) none = mk (cs.drop 1) := by
  unfold cutS
  rw [mk_list, mk_len]
  have e : HT.sIx cs.length 0 (some 1) = min 1 cs.length := HT.sIx_nat _ _ 1
  rw [e]
  show mk _ = mk _
  congr 1
  rw [HT.sIx_none]
  rcases cs with _ | ⟨a, r⟩
  · rfl
  · simp
/-- signs that a text may have -/
def Fine (cs : List Nat) : Prop := ∀ c ∈ cs, c < 128
theorem Fine.ok {cs : List Nat} (h : Fine cs) : PyData.strOk (mk cs) = true := by
  unfold PyData.strOk mk
  rw [Array.all_eq_true']
  intro c hc
  have := h c (by simpa using hc)
  exact decide_eq_true (by omega)
theorem Fine.drop {cs : List Nat} (h : Fine cs) (n : Nat) : Fine (cs.drop n) := fun c hc => h c (List.mem_of_mem_drop hc)
theorem Fine.take {cs : List Nat} (h : Fine cs) (n : Nat) : Fine (cs.take n) := fun c hc => h c (List.mem_of_mem_take hc)
theorem starts_dash (cs : List Nat) : Txt.startswith (mk cs) "-" = (cs.head? == some 45) := by
  have e : ("-" : Str) = mk [45] := by kernel_rfl
  rw [e]
  unfold Txt.startswith Builtin.Str.subAt
  rw [mk_len, mk_len]
  rcases cs with _ | ⟨a, r⟩
  · rfl
  · have h1 : decide (0 + [45].length ≤ (a :: r).length) = true := decide_eq_true (by simp)
    rw [h1, Bool.true_and]
    have h2 : (mk (a :: r)).cps.extract 0 (0 + [45].length) = #[a] := by unfold mk; simp
    rw [h2]
    show (#[a] == #[45]) = (some a == some 45)
    by_cases z : a = 45
    · subst z; rfl
    · rw [beq_eq_false_iff_ne.mpr (fun y => z (by simpa using y)), beq_eq_false_iff_ne.mpr (fun y => z (by simpa using y))]
section
variable {δ : Sl} {S : Sto} {QD : D → Sto → Prop} {QO : Option Int → Sto → Prop} {a : RE} {l h : RO}
theorem p_onone (q : QO none S) : (oNone δ S).post QO := q
theorem p_osome (q : (a δ S).post fun x S1 => ∃ i, x = .int i ∧ QO (some i) S1) : (oSome a δ S).post QO := p_bind (q.mono fun x S1 ⟨i, e, q'⟩ => by subst e; exact q')
theorem p_cutS (q : (a δ S).post fun x S1 => (l δ S1).post fun i S2 => (h δ S2).post fun j S3 => ∃ z, x = .str z ∧ z.length ≤ sizeLine ∧ QD (.str (cutS z i j)) S3) : (rCut a l h δ S).post QD :=
  p_bind (q.mono fun x S1 q => p_bind (q.mono fun i S2 q => p_bind (q.mono fun j S3 ⟨z, e, e2, q'⟩ => by
    subst e
    show (if z.length ≤ sizeLine then Res.ok (D.str (cutS z i j)) S3 else .stuck).post QD
    rw [if_pos e2]; exact q')))
theorem p_cutL (q : (a δ S).post fun x S1 => (l δ S1).post fun i S2 => (h δ S2).post fun j S3 => ∃ z, x = .lst z ∧ QD (.lst (cutD z i j)) S3) : (rCut a l h δ S).post QD :=
  p_bind (q.mono fun x S1 q => p_bind (q.mono fun i S2 q => p_bind (q.mono fun j S3 ⟨z, e, q'⟩ => by
    subst e
    exact q')))
theorem o_len {z : Str} (e : z.length ≤ sizeLine) (q : QD (.int z.length) S) : (Res.lift (gLen S [.str z]) S).post QD := p_lift (by unfold gLen deref; dsimp only; rw [if_pos e]) q
theorem o_in1 {c : Nat} {z : Str} (q : QD (.bl (decide (c ∈ z.cps.toList))) S) : (Res.lift (gIn1 S (.str ⟨#[c]⟩) (.str z)) S).post QD := p_lift (by unfold gIn1 deref; rfl) q
theorem o_ixS {z : Str} {i : Int} {c : Nat} (e : z.length ≤ sizeLine) (e2 : atI z.cps.toList i = some c) (q : QD (.str ⟨#[c]⟩) S) : (Res.lift (gIx S (.str z) (.int i)) S).post QD := p_lift (by unfold gIx deref; dsimp only; rw [if_pos e, e2]; rfl) q
end
/-- the texts of single signs -/
def sgs (cs : List Nat) : List D := cs.map fun c => .str ⟨#[c]⟩
theorem walk_mk (cs : List Nat) : ((mk cs).cps.toList.map fun c => D.str ⟨#[c]⟩) = sgs cs := by rw [mk_list]; rfl
theorem figs : ("0123456789" : Str).cps.toList = [48, 49, 50, 51, 52, 53, 54, 55, 56, 57] := by kernel_rfl
theorem in_figs (c : Nat) : c ∈ ("0123456789" : Str).cps.toList ↔ 48 ≤ c ∧ c ≤ 57 := by
  rw [figs]
  simp only [List.mem_cons, List.not_mem_nil, or_false]
  omega
theorem toPys_strs {S : Sto} : ∀ xs : List Str, toPys S (xs.map .str) = some (xs.map .str)
  | [] => rfl
  | i :: r => by unfold List.map toPys toPy; rw [toPys_strs r]
theorem eqvAll_strs : ∀ xs ys : List Str, PyData.eqvAll (xs.map .str) (ys.map .str) = decide (xs = ys)
  | [], [] => by simp [PyData.eqvAll]
  | [], _ :: _ => by simp [PyData.eqvAll]
  | _ :: _, [] => by simp [PyData.eqvAll]
  | a :: r, b :: q => by simp [PyData.eqvAll, PyData.eqv, eqvAll_strs r q, Bool.beq_eq_decide_eq]
theorem lay_strs : ∀ xs : List Str, (∀ x ∈ xs, PyData.strOk x = true) → PyData.canLayAll0 (xs.map .str) = true ∧ PyData.depthAll (xs.map .str) = 0
  | [], _ => ⟨by simp [PyData.canLayAll0], by simp [PyData.depthAll]⟩
  | a :: r, h => by
    obtain ⟨h1, h2⟩ := lay_strs r fun x hx => h x (List.mem_cons_of_mem _ hx)
    exact ⟨by simp [PyData.canLayAll0, PyData.canLay0, h1, h a List.mem_cons_self], by simp [PyData.depthAll, PyData.depth, h2]⟩
theorem shaped_strs {xs : List Str} (h : ∀ x ∈ xs, PyData.strOk x = true) : SeqAt.shaped (.list (xs.map .str)) = true := by
  obtain ⟨h1, h2⟩ := lay_strs xs h
  unfold SeqAt.shaped; simp [PyData.canLay0, PyData.depth, h1, h2]
theorem o_neStrs {S : Sto} {xs ys : List Str} {Q : D → Sto → Prop} (h1 : ∀ x ∈ xs, PyData.strOk x = true) (h2 : ∀ x ∈ ys, PyData.strOk x = true) (h : Q (.bl (!decide (xs = ys))) S) : (Res.lift (gNe S (.lst (xs.map .str)) (.lst (ys.map .str))) S).post Q :=
  o_neg_ (u := .list (xs.map .str)) (v := .list (ys.map .str)) (by show (toPys S (xs.map .str)).map PyData.list = _; rw [toPys_strs]; rfl) (by show (toPys S (ys.map .str)).map PyData.list = _; rw [toPys_strs]; rfl) (shaped_strs h1) (shaped_strs h2) (by simpa [PyData.eqv, eqvAll_strs] using h)
theorem sgs_mem {x : D} {cs : List Nat} (h : x ∈ sgs cs) : ∃ c ∈ cs, x = .str ⟨#[c]⟩ := by
  obtain ⟨c, h1, h2⟩ := List.mem_map.mp h
  exact ⟨c, h1, h2.symm⟩
theorem asBls_map : ∀ bs : List Bool, asBls (bs.map .bl) = some bs
  | [] => rfl
  | b :: r => by unfold List.map asBls; rw [asBls_map r]; rfl
theorem o_all {S : Sto} {bs : List Bool} {Q : D → Sto → Prop} (h : Q (.bl (bs.all id)) S) : (Res.lift (gAll S [.lst (bs.map .bl)]) S).post Q := p_lift (by unfold gAll deref; dsimp only; rw [asBls_map]; rfl) h
theorem o_int {S : Sto} {x : Str} {n : Int} {Q : D → Sto → Prop} (e : intText? x = some n) (l : x.length ≤ 640) (h : Q (.int n) S) : (Res.lift (gInt S [.str x]) S).post Q := p_lift (by unfold gInt; dsimp only; rw [e]; dsimp only; rw [if_pos l]) h
end DL
set_option Elab.async false
set_option linter.all false
set_option maxRecDepth 100000
set_option maxHeartbeats 4000000
set_option autoImplicit false
/-! Data layer: dicts whatever their keys: get, in, store. -/
namespace DL
open PySem PySem.Spec PyProof.Rows L2
/-! ### keys -/
mutual
inductive NK (K : Fg) (H : Hp) : NestedKey → V → Prop
  | non : NK K H .none .non
  | bl (b : Bool) : NK K H (.num (if b = true then 1 else 0)) (.bl b)
  | int (i : Int) : NK K H (.num i) (.int i)
  | str (x : Str) : NK K H (.text x) (.str x)
  | tup {a : Addr} {vs : List V} {ks : List NestedKey} : SqT K H a vs → NKs K H ks vs → NK K H (.tup ks) (.ref a)
inductive NKs (K : Fg) (H : Hp) : List NestedKey → List V → Prop
  | nil : NKs K H [] []
  | cons {k : NestedKey} {v : V} {ks : List NestedKey} {vs : List V} : NK K H k v → NKs K H ks vs → NKs K H (k :: ks) (v :: vs)
end
section
variable {wd : World} {K : Fg} {mg : Str → Option Value} {F H : Hp} {α : List Addr} {S : Sto}
mutual
theorem DV.nk {v : V} : ∀ {d : D} {k : NestedKey}, DV wd K mg F α v d → keyN d = some k → Sub F H → NK K H k v
  | _, _, .non, e, _ => by cases e; exact .non
  | _, _, .bl b, e, _ => by cases e; exact .bl b
  | _, _, .int i, e, _ => by cases e; exact .int i
  | _, _, .str x, e, _ => by cases e; exact .str x
  | _, _, .tup h t, e, s => by
    rename_i ds
    unfold keyN at e
    cases q : keyNs ds with
    | none => rw [q] at e; cases e
    | some ys => rw [q] at e; cases e; exact .tup (s.sqT h.1) (DVs.nk t q s)
  | _, _, .lst _ _, e, _ => by cases e
  | _, _, .tux _ _, e, _ => by cases e
  | _, _, .ptr _, e, _ => by cases e
  | _, _, .fn _, e, _ => by cases e
  | _, _, .ty _, e, _ => by cases e
  | _, _, .exc _ _ _ _ _, e, _ => by cases e
  | _, _, .dc0 _ _, e, _ => by cases e
theorem DVs.nk {vs : List V} : ∀ {ds : List D} {ks : List NestedKey}, DVs wd K mg F α vs ds → keyNs ds = some ks → Sub F H → NKs K H ks vs
  | _, _, .nil, e, _ => by cases e; exact .nil
  | _, _, .cons h t, e, s => by
    rename_i d _ ds
    unfold keyNs at e
    cases q1 : keyN d with
    | none => rw [q1] at e; cases e
    | some x =>
      cases q2 : keyNs ds with
      | none => rw [q1, q2] at e; cases e
      | some xs => rw [q1, q2] at e; cases e; exact .cons (DV.nk h q1 s) (DVs.nk t q2 s)
end
end
section
variable {X : Cx} {pins : List (Addr × Obj)} {σ : L2.St} {H : Hp} {s : Shared}
mutual
theorem NK.is (I : Inv X pins σ H s) : ∀ {k : NestedKey} {v : V} {u : Value}, NK X.K H k v → RelV v u → NestedIs s.heap k u
  | _, _, u, .non, r => by have : u = Value.none := r; subst this; exact .none
  | _, _, u, .bl b, r => by have : u = Value.bool b := r; subst this; exact .bool rfl
  | _, _, u, .int i, r => by obtain ⟨t, e⟩ := (show ∃ t, u = Value.int i t from r); subst e; exact .int _ _
  | _, _, u, .str x, r => by obtain ⟨t, e⟩ := (show ∃ t, u = Value.str x t from r); subst e; exact .text _ _
  | _, _, u, .tup (a := a) h t, r => by
    have : u = Value.ref a := r
    subst this
    obtain ⟨its, rv, ⟨o, ho, hc, n, hd⟩, _⟩ := I.tuple h
    exact .tup ho hc hd (by simpa using NKs.are I t rv)
theorem NKs.are (I : Inv X pins σ H s) : ∀ {ks : List NestedKey} {vs : List V} {us : List Value}, NKs X.K H ks vs → Vals vs us → NestedAll s.heap ks us
  | _, _, _, .nil, r => by cases r; exact .nil
  | _, _, _, .cons h t, r => by
    cases r with
    | cons r1 r2 => exact .cons (NK.is I h r1) (NKs.are I t r2)
end
end
/-! ### what a dict holds, by values -/
def lookV (xs : List (NestedKey × Addr × V)) (k : NestedKey) : Option V := (xs.find? fun x => decide (x.1 = k)).map (·.2.2)
def putV1 (k : NestedKey) (v : V) (x : NestedKey × Addr × V) : NestedKey × Addr × V := if x.1 = k then (x.1, x.2.1, v) else x
def putV (xs : List (NestedKey × Addr × V)) (k : NestedKey) (a : Addr) (v : V) : List (NestedKey × Addr × V) := if (lookV xs k).isSome then xs.map (putV1 k v) else xs ++ [(k, a, v)]
theorem NV.look {xs : List (NestedKey × Addr × V)} {vs : List (NestedKey × Addr × Value)} (h : NV xs vs) (k : NestedKey) : RelO (lookV xs k) ((atKey vs k).map (·.2)) := by
  unfold NV at h
  induction h with
  | nil => trivial
  | @cons a b l₁ l₂ r t ih =>
    unfold lookV atKey at ih ⊢
    rw [List.find?_cons, List.find?_cons, ← r.1]
    by_cases q : a.1 = k
    · rw [decide_eq_true q]
      exact r.2.2
    · rw [decide_eq_false q]
      exact ih
theorem NV.isSome {xs : List (NestedKey × Addr × V)} {vs : List (NestedKey × Addr × Value)} (h : NV xs vs) (k : NestedKey) : (lookV xs k).isSome = (atKey vs k).isSome := by
  have := (h.look k).isSome_eq
  rw [Option.isSome_map] at this
  exact this
theorem NV.put {xs : List (NestedKey × Addr × V)} {vs : List (NestedKey × Addr × Value)} (h : NV xs vs) (k : NestedKey) (a : Addr) {v : V} {u : Value} (r : RelV v u) : NV (putV xs k a v) (storedH vs k a u) := by
  have e := h.isSome k
  unfold putV storedH
  rw [e]
  by_cases q : (atKey vs k).isSome = true
  · rw [if_pos q, if_pos q]
    clear q e
    unfold NV at h ⊢
    induction h with
    | nil => exact .nil
    | @cons x y l₁ l₂ z t ih =>
      refine .cons ?_ ih
      unfold putV1 putAt
      rw [← z.1]
      by_cases c : x.1 = k
      · rw [if_pos c, if_pos c]; exact ⟨rfl, z.2.1, r⟩
      · rw [if_neg c, if_neg c]; exact z
  · rw [if_neg q, if_neg q]
    exact Paired.snoc h ⟨rfl, rfl, r⟩
theorem NV.length {xs : List (NestedKey × Addr × V)} {vs : List (NestedKey × Addr × Value)} (h : NV xs vs) : xs.length = vs.length := Paired.length h
theorem NV.keys {xs : List (NestedKey × Addr × V)} {vs : List (NestedKey × Addr × Value)} (h : NV xs vs) : xs.map (·.1) = vs.map (·.1) := by
  unfold NV at h
  induction h with
  | nil => rfl
  | cons r _ ih => rw [List.map_cons, List.map_cons, ih, r.1]
theorem putV_length (xs : List (NestedKey × Addr × V)) (k : NestedKey) (a : Addr) (v : V) : (putV xs k a v).length ≤ xs.length + 1 := by
  unfold putV
  split
  · rw [List.length_map]; omega
  · rw [List.length_append]; exact Nat.le_refl _
/-- every key is a key -/
def NKeys (K : Fg) (H : Hp) (xs : List (NestedKey × Addr × V)) : Prop := ∀ x ∈ xs, NK K H x.1 (.ref x.2.1) ∧ x.1.depth ≤ 8
/-- at a stands a dict xs of tuple keys; the empty one is any -/
def NAt (w : World) (H : Hp) (a : Addr) (xs : List (NestedKey × Addr × V)) : Prop := Rd H a (dN w a xs) ∨ (xs = [] ∧ Rd H a (.dK []))
/-- .. that may be written -/
def NWr (w : World) (H : Hp) (a : Addr) (xs : List (NestedKey × Addr × V)) : Prop := H a = some (dN w a xs) ∨ (xs = [] ∧ H a = some (.dK []))
theorem NWr.at {w : World} {H : Hp} {a : Addr} {xs : List (NestedKey × Addr × V)} (h : NWr w H a xs) : NAt w H a xs := h.imp .inl fun ⟨e, q⟩ => ⟨e, .inl q⟩
theorem n_at {X : Cx} {pins : List (Addr × Obj)} {σ : L2.St} {H : Hp} {s : Shared} {a : Addr} {xs : List (NestedKey × Addr × V)} (I : Inv X pins σ H s) (e : NAt X.w H a xs) (hk : NKeys X.K H xs) :
    xs.length ≤ sizeLine ∧ (a == sysModules) = false ∧ ∃ vs, NV xs vs ∧ s.heap.DictOfH (nestedKind X.prog X.w) a vs := by
  rcases e with e | ⟨rfl, e⟩
  · obtain ⟨⟨h1, h2, h3, vs, h4, o, es, ep, h5, h6, h7, h8⟩, _⟩ := (show ObjOk X.prog X.w H s.heap a (dN X.w a xs) from e.ok I.hok)
    refine ⟨h2, h1, vs, h4, o, es, ep, h5, h6, h7, h8, fun x hx => ?_, by rw [← h4.keys]; exact h3⟩
    obtain ⟨i, hi⟩ := List.mem_iff_getElem?.mp hx
    have hl := h4.length
    obtain ⟨y, hy⟩ : ∃ y, xs[i]? = some y := ⟨_, List.getElem?_eq_getElem (by rw [hl]; exact (List.getElem?_eq_some_iff.mp hi).1)⟩
    obtain ⟨z, hz, q1, q2, _⟩ := paired_get h4 hy
    rw [hi] at hz
    cases hz
    obtain ⟨k1, k2⟩ := hk y (List.mem_of_getElem? hy)
    rw [← q1, ← q2]
    exact ⟨NK.is I k1 rfl, k2⟩
  · obtain ⟨h1, h2, vs, kv, o, es, ep, h3, h4, h5, h6⟩ := dk_rd I.hok e
    refine ⟨Nat.zero_le _, h2, [], .nil, o, es, ep, h3, h4, h5, ?_, (fun _ h => (nomatch h)), List.nodup_nil⟩
    have l1 := h6.2.1.length
    have l2 : ([] : List (Key × V)).length = vs.length := Paired.length kv
    rw [← l2] at l1
    exact List.eq_nil_of_length_eq_zero l1
section
variable {X : Cx} {pins : List (Addr × Obj)} {σ : L2.St} {H : Hp} {s : Shared} {a b : Addr} {xs : List (NestedKey × Addr × V)} {k : NestedKey} {v d : V} {u r : Value} {A : Around} {E : Value → Shared → Prop}
theorem room8 (hu : A.units + 10 < cLine) : (nestedKind X.prog X.w).room A.in1 := by
  show A.units + 1 + 8 < cLine
  omega
theorem n_getItem {Q : Value → Shared → Prop} (hu : A.units + 10 < cLine) (I : Inv X pins σ H s) (e : NAt X.w H a xs) (hk : NKeys X.K H xs) (kk : NK X.K H k (.ref b)) (hd : k.depth ≤ 8) (l : lookV xs k = some v) (h : ∀ w' s', Inv X pins σ H s' → RelV v w' → Q w' s') :
    wpAny (model X.prog X.w) A (getItem (.ref a) (.ref b)) Q E s := by
  obtain ⟨_, h2, vs, rel, dd⟩ := n_at I e hk
  obtain ⟨w', hw, rw'⟩ := RelO.some_of (v := v) (o := (atKey vs k).map (·.2)) (by rw [← l]; exact rel.look k)
  obtain ⟨p, hp, hp2⟩ := Option.map_eq_some_iff.mp hw
  refine wpAny_getItem_heap (knd := nestedKind X.prog X.w) (room8 hu) (k := k) ⟨NK.is I kk rfl, hd⟩ dd hp ?_
  rw [hp2]
  exact h w' _ (I.tok _) rw'
theorem n_get2 {Q : Value → Shared → Prop} (hu : A.units + 10 < cLine) (I : Inv X pins σ H s) (e : NAt X.w H a xs) (hk : NKeys X.K H xs) (kk : NK X.K H k (.ref b)) (hd : k.depth ≤ 8) (rd : RelV d r) (h : ∀ w' s', Inv X pins σ H s' → RelV ((lookV xs k).getD d) w' → Q w' s') :
    wpAny (model X.prog X.w) A (call (.builtin "dict.get") [.ref a, .ref b, r]) Q E s := by
  obtain ⟨_, h2, vs, rel, dd⟩ := n_at I e hk
  exact call_meetsIn PySem.F.slot_dict_get dd.typeIs PySem.F.entry_dict_get (PySem.F.args_dict_get_3 _ _ _) (meetsH_dict_get_default (nestedKind X.prog X.w) a b h2 r) ⟨room8 hu, k, vs, ⟨NK.is I kk rfl, hd⟩, dd, h _ _ (I.tok _) ((rel.look k).getD rd)⟩
theorem n_setItem {Q : Unit → Shared → Prop} (hu : A.units + 10 < cLine) (I : Inv X pins σ H s) (e : NWr X.w H a xs) (hk : NKeys X.K H xs) (hz : xs.length < sizeLine) (kk : NK X.K H k (.ref b)) (hd : k.depth ≤ 8) (rv : RelV v r) (h : ∀ s', Inv X pins σ (upd H a (dN X.w a (putV xs k b v))) s' → Q () s') :
    wpAny (model X.prog X.w) A (setItem (.ref a) (.ref b) r) Q E s := by
  obtain ⟨h1, h2, vs, rel, dd⟩ := n_at I e.at hk
  have hz' : vs.length ≤ sizeLine := by rw [← rel.length]; exact h1
  refine wpAny_setItem_heap (knd := nestedKind X.prog X.w) (hsz := hz') (room8 hu) (k := k) ⟨NK.is I kk rfl, hd⟩ dd fun h' dd' hs => h _ ?_
  obtain ⟨q, es, ep, hq, g2, g3, g4, _, g5⟩ := dd'
  refine d_write I (by rcases e with e | ⟨_, e⟩ <;> rw [e] <;> exact True.intro) hs ⟨q, hq⟩ ?_
  have rel' := rel.put k b rv
  refine ⟨⟨h2, by have := putV_length xs k b v; omega, by rw [rel'.keys]; exact g5, _, rel', q, es, ep, hq, g2, g3, g4⟩, ⟨q, hq⟩, fun z1 z2 ⟨p1, p2, p3, vs', p4, o', es', ep', p5, p6⟩ st => ⟨p1, p2, p3, vs', p4, o', es', ep', st _ p5, p6⟩⟩
end
/-- what the dict at a holds at y, whatever its keys -/
def UGet (w : World) (K : Fg) (H : Hp) (a : Addr) (y : V) (o : Option V) : Prop := DGet H a y o ∨ ∃ xs k b, NAt w H a xs ∧ NKeys K H xs ∧ y = .ref b ∧ NK K H k (.ref b) ∧ k.depth ≤ 8 ∧ o = lookV xs k
/-- the heap behind a[y] = v -/
def UPut (w : World) (K : Fg) (H : Hp) (a : Addr) (y v : V) (H' : Hp) : Prop := DPut H a y v H' ∨ ∃ xs k b, NWr w H a xs ∧ NKeys K H xs ∧ y = .ref b ∧ NK K H k (.ref b) ∧ k.depth ≤ 8 ∧ xs.length < sizeLine ∧ H' = upd H a (dN w a (putV xs k b v))
section
variable {X : Cx} {pins : List (Addr × Obj)} {σ : L2.St} {H : Hp} {s : Shared} {a : Addr} {y v d : V} {u r : Value} {o : Option V} {A : Around} {E : Value → Shared → Prop}
theorem u_typeIs (I : Inv X pins σ H s) (g : UGet X.w X.K H a y o) : s.TypeIs (.ref a) "dict" ∧ (∀ b, Value.ref a = .ref b → ∃ ob, s.heap.get? b = some ob ∧ ob.dict = none) := by
  rcases g with g | ⟨xs, k, b, e, hk, _⟩
  · exact ⟨dict_typeIs I g, dict_noDict I g⟩
  · obtain ⟨_, _, vs, _, dd⟩ := n_at I e hk
    refine ⟨dd.typeIs, fun b q => ?_⟩
    cases q
    obtain ⟨ob, _, _, h1, h2, _⟩ := dd
    exact ⟨ob, h1, h2.2.1⟩
theorem u_getItem {Q : Value → Shared → Prop} (hu : A.units + 10 < cLine) (I : Inv X pins σ H s) (g : UGet X.w X.K H a y (some v)) (ry : RelV y u) (h : ∀ w' s', Inv X pins σ H s' → RelV v w' → Q w' s') :
    wpAny (model X.prog X.w) A (getItem (.ref a) u) Q E s := by
  rcases g with g | ⟨xs, k, b, e, hk, rfl, kk, hd, l⟩
  · exact d_getItem (by omega) I g ry h
  · cases (show u = Value.ref b from ry)
    exact n_getItem hu I e hk kk hd l.symm h
theorem u_get2 {Q : Value → Shared → Prop} (hu : A.units + 10 < cLine) (I : Inv X pins σ H s) (g : UGet X.w X.K H a y o) (ry : RelV y u) (rd : RelV d r) (h : ∀ w' s', Inv X pins σ H s' → RelV (o.getD d) w' → Q w' s') :
    wpAny (model X.prog X.w) A (call (.builtin "dict.get") [.ref a, u, r]) Q E s := by
  rcases g with g | ⟨xs, k, b, e, hk, rfl, kk, hd, l⟩
  · exact d_get2 (by omega) I g ry rd h
  · cases (show u = Value.ref b from ry)
    subst l
    exact n_get2 hu I e hk kk hd rd h
theorem u_setItem {H' : Hp} {Q : Unit → Shared → Prop} (hu : A.units + 10 < cLine) (I : Inv X pins σ H s) (g : UPut X.w X.K H a y v H') (ry : RelV y u) (rv : RelV v r) (h : ∀ s', Inv X pins σ H' s' → Q () s') :
    wpAny (model X.prog X.w) A (setItem (.ref a) u r) Q E s := by
  rcases g with g | ⟨xs, k, b, e, hk, rfl, kk, hd, hz, rfl⟩
  · exact d_setItem (by omega) I g ry rv h
  · cases (show u = Value.ref b from ry)
    exact n_setItem hu I e hk hz kk hd rv h
end
def tUGet (X : Cx) (td ty : TE) : TE := fun σ H Q => td σ H fun x H1 => ty σ H1 fun y H2 => ∃ a v, x = .ref a ∧ UGet X.w X.K H2 a y (some v) ∧ Q v H2
def sUPut (X : Cx) (td ty tv : TE) : TS := fun D σ H => tv σ H fun v H1 => td σ H1 fun x H2 => ty σ H2 fun y H3 => ∃ a H4, x = .ref a ∧ UPut X.w X.K H3 a y v H4 ∧ D.nx σ H4
/-- a is a dict -/
def UsD (w : World) (K : Fg) (H : Hp) (a : Addr) : Prop := IsD H a ∨ ∃ xs, NAt w H a xs ∧ NKeys K H xs
def tUGet2 (X : Cx) (td ty tx : TE) : TE := fun σ H Q => td σ H fun x H1 => ∃ a, x = .ref a ∧ UsD X.w X.K H1 a ∧ ty σ H1 fun y H2 => tx σ H2 fun z H3 => ∃ o, UGet X.w X.K H3 a y o ∧ Q (o.getD z) H3
section
variable {X : Cx} {o i e f value : Expr} {pos pos' tpos apos cpos : Pos} {td ty tv tx : TE}
theorem usd_at {pins : List (Addr × Obj)} {σ : L2.St} {H : Hp} {s : Shared} {a : Addr} (I : Inv X pins σ H s) (d : UsD X.w X.K H a) :
    s.TypeIs (.ref a) "dict" ∧ (∀ b, Value.ref a = .ref b → ∃ ob, s.heap.get? b = some ob ∧ ob.dict = none) := by
  rcases d with d | ⟨xs, e, hk⟩
  · obtain ⟨h1, h2, _⟩ := isD_at I d
    exact ⟨h1, h2⟩
  · obtain ⟨_, _, vs, _, dd⟩ := n_at I e hk
    refine ⟨dd.typeIs, fun b q => ?_⟩
    cases q
    obtain ⟨ob, _, _, h1, h2, _⟩ := dd
    exact ⟨ob, h1, h2.2.1⟩
theorem pe_uget (hu : X.A.units + 10 < cLine) (ho : PE X o td) (hi : PE X i ty) (hs : NoSl i) : PE X (.Subscript o i pos) (tUGet X td ty) := by
  refine ⟨fun pins s σ H Q I h => ?_⟩
  refine subD_of PySem.F.slot_dict_getitem.lookup hs (thn (ho.run pins s σ H _ I h) fun u s1 ⟨x, H1, I1, rx, q1⟩ => thn (hi.run pins s1 σ H1 _ I1 q1) fun iv s2 ⟨y, H2, I2, ry, a, v, ex, g, q2⟩ => ?_)
  subst ex
  obtain rfl : u = Value.ref a := rx
  exact ⟨(u_typeIs I2 g).1, u_getItem hu I2 g ry fun w' s3 I3 rw' => ⟨v, H2, I3, rw', q2⟩⟩
theorem ps_uput (hu : X.A.units + 10 < cLine) (ho : PE X o td) (hi : PE X i ty) (hv : PE X value tv) (hs : swapsWith value (some (.Subscript o i pos')) pos.line X.env = pure false) :
    PS X (.Assign [.Subscript o i pos'] value pos) (sUPut X td ty tv) := by
  refine ⟨fun pins s σ H D I h => ?_⟩
  refine wpAny_Assign_Subscript (thn (hv.run pins s σ H _ I h) fun r s1 ⟨v, H1, I1, rv, q1⟩ => thn (ho.run pins s1 σ H1 _ I1 q1) fun u s2 ⟨x, H2, I2, rx, q2⟩ => thn (hi.run pins s2 σ H2 _ I2 q2) fun iv s3 ⟨y, H3, I3, ry, a, H4, ex, g, q3⟩ => ?_) hs
  subst ex
  obtain rfl : u = Value.ref a := rx
  exact u_setItem hu I3 g ry rv fun s4 I4 => ⟨σ, H4, I4, q3⟩
theorem pe_uget2 (hu : X.A.units + 10 < cLine) (ho : PE X o td) (he : PE X e ty) (hf : PE X f tx) (m : M2 X o "get" apos e f cpos) : PE X (.Call (.Attribute o "get" apos) [e, f] [] cpos) (tUGet2 X td ty tx) := by
  refine ⟨fun pins s σ H Q I h => ?_⟩
  refine wpAny_Call_method m.base m.few m.line PySem.F.plainAttrs_dict PySem.F.slot_dict_get PySem.F.type_dict_get (thn (ho.run pins s σ H _ I h) fun u s1 ⟨x, H1, I1, rx, a, ex, d, q1⟩ => ?_)
  subst ex
  obtain rfl : u = Value.ref a := rx
  obtain ⟨t1, t2⟩ := usd_at I1 d
  refine ⟨t1, t2, ?_⟩
  rw [m.trees]
  refine Calls.callWith_builtin rfl (Calls.evalArgs_plain (Calls.spliced_cons (thn (he.run pins s1 σ H1 _ I1 q1) fun iv s2 ⟨y, H2, I2, ry, q2⟩ =>
    Calls.spliced_cons (thn (hf.run pins s2 σ H2 _ I2 q2) fun fv s3 ⟨z, H3, I3, rz, ov, g, q3⟩ => Calls.spliced_nil ?_))))
  exact u_get2 hu I3 g ry rz fun w' s4 I4 rw' => ⟨_, H3, I4, rw', q3⟩
end
end DL
set_option Elab.async false
set_option linter.all false
set_option maxRecDepth 100000
set_option maxHeartbeats 4000000
set_option autoImplicit false
/-! Data layer: dicts whatever their keys, by data. -/
namespace DL
open PySem PySem.Spec PyProof.Rows L2
def lookU (S : Sto) (d q : D) : Option (Option D) := match deref S d with
  | .dct kvs => if isKey q then some (lookD kvs q) else if kvs.isEmpty && isKeyN q then some none else none
  | .dcn kvs => if isKeyN q then some (lookN kvs q) else none
  | _ => none
def gGetU : Sto → D → D → Option D := fun S d q => match lookU S d q with
  | some (some v) => some v
  | _ => none
def isDct (S : Sto) (d : D) : Bool := match deref S d with
  | .dct _ => true
  | .dcn _ => true
  | _ => false
/-- d.get(k, x) -/
def rGet2 (a k x : RE) : RE := fun δ S => (a δ S).bind fun d S1 => if isDct S1 d then (k δ S1).bind fun q S2 => (x δ S2).bind fun z S3 => .lift ((lookU S3 d q).map (·.getD z)) S3 else .stuck
/-- d[k] = v -/
def putU (u y z : D) : Option D := match u with
  | .dct kvs => if isKey y then (if kvs.length < sizeLine then some (.dct (putD kvs y z)) else none) else if kvs.isEmpty && isKeyN y then some (.dcn [(y, z)]) else none
  | .dcn kvs => if isKeyN y && decide (kvs.length < sizeLine) then some (.dcn (putN kvs y z)) else none
  | _ => none
def sPutU (d k v : RE) : RS := fun δ S => (v δ S).out δ fun z S1 => (d δ S1).out δ fun x S2 => (k δ S2).out δ fun y S3 => match x with
  | .ptr n => (match S3[n]? with
    | some u => (match putU u y z with
      | some u' => .nx δ (S3.set n u')
      | none => .stuck)
    | none => .stuck)
  | _ => .stuck
section
variable {wd : World} {K : Fg} {mg : Str → Option Value} {α β : List Addr} {F F1 H H1 : Hp} {S : Sto}
theorem isKeyN_ex {q : D} (h : isKeyN q = true) : ∃ ds nk, q = .tup ds ∧ keyN q = some nk ∧ nk.depth ≤ 8 := by
  cases q with
  | tup ds =>
    unfold isKeyN at h
    dsimp only at h
    split at h
    · rename_i k e
      exact ⟨ds, k, rfl, e, of_decide_eq_true h⟩
    · cases h
  | _ => cases h
theorem eqN_dec {a b : D} {x y : NestedKey} (h1 : keyN a = some x) (h2 : keyN b = some y) : eqN a b = decide (x = y) := by
  unfold eqN
  rw [h1, h2, NestedKey.decide_eq]
theorem NVs.keys {xs : List (NestedKey × Addr × V)} {kvs : List (D × D)} (h : NVs wd K mg F α xs kvs) (s : Sub F H) : NKeys K H xs := by
  induction h with
  | nil => intro x hx; cases hx
  | cons h1 h2 h3 _ _ _ ih =>
    intro x hx
    rcases List.mem_cons.mp hx with rfl | hx
    · exact ⟨h3.nk h1 s, h2⟩
    · exact ih x hx
theorem NVs.length {xs : List (NestedKey × Addr × V)} {kvs : List (D × D)} (h : NVs wd K mg F α xs kvs) : xs.length = kvs.length := by
  induction h with
  | nil => rfl
  | cons _ _ _ _ _ _ ih => rw [List.length_cons, List.length_cons, ih]
theorem putV1_pos {k : NestedKey} {v : V} {x : NestedKey × Addr × V} (h : x.1 = k) : putV1 k v x = (x.1, x.2.1, v) := if_pos h
theorem putV1_neg {k : NestedKey} {v : V} {x : NestedKey × Addr × V} (h : ¬ x.1 = k) : putV1 k v x = x := if_neg h
theorem NVs.look {xs : List (NestedKey × Addr × V)} {kvs : List (D × D)} (h : NVs wd K mg F α xs kvs) {q : D} {nk : NestedKey} (hq : keyN q = some nk) :
    (∀ d, lookN kvs q = some d → ∃ v, lookV xs nk = some v ∧ DV wd K mg F α v d) ∧ (lookN kvs q = none → lookV xs nk = none) := by
  induction h with
  | nil => exact ⟨(fun d e => by cases e), fun _ => rfl⟩
  | @cons nk' b' v' q' d' xs kvs h1 h2 h3 h4 h5 h6 ih =>
    unfold lookN lookV
    rw [eqN_dec h1 hq, List.find?_cons]
    by_cases e : nk' = nk
    · rw [decide_eq_true e]
      exact ⟨(fun d z => by cases z; exact ⟨_, rfl, h5⟩), fun z => by cases z⟩
    · rw [decide_eq_false e]
      exact ih
theorem NVs.isSome {xs : List (NestedKey × Addr × V)} {kvs : List (D × D)} (h : NVs wd K mg F α xs kvs) {q : D} {nk : NestedKey} (hq : keyN q = some nk) : (lookN kvs q).isSome = (lookV xs nk).isSome := by
  obtain ⟨h1, h2⟩ := h.look hq
  cases e : lookN kvs q with
  | none => rw [h2 e]; rfl
  | some d => obtain ⟨v, e1, _⟩ := h1 d e; rw [e1]; rfl
theorem NVs.append {xs ys : List (NestedKey × Addr × V)} {kvs lws : List (D × D)} (h : NVs wd K mg F α xs kvs) (g : NVs wd K mg F α ys lws) : NVs wd K mg F α (xs ++ ys) (kvs ++ lws) := by
  induction h with
  | nil => exact g
  | cons h1 h2 h3 h4 h5 _ ih => exact .cons h1 h2 h3 h4 h5 ih
theorem NVs.put {xs : List (NestedKey × Addr × V)} {kvs : List (D × D)} (h : NVs wd K mg F α xs kvs) {q d : D} {nk : NestedKey} {b : Addr} {v : V} (hq : keyN q = some nk) (hd : nk.depth ≤ 8) (hb : DV wd K mg F α (.ref b) q) (ht : ∃ ds, q = .tup ds) (hv : DV wd K mg F α v d) :
    NVs wd K mg F α (putV xs nk b v) (putN kvs q d) := by
  unfold putV putN
  rw [← h.isSome hq]
  by_cases c : (lookN kvs q).isSome = true
  · rw [if_pos c, if_pos c]
    clear c
    induction h with
    | nil => exact .nil
    | @cons nk' b' v' q' d' xs kvs h1 h2 h3 h4 h5 _ ih =>
      rw [List.map_cons]
      unfold replN
      rw [eqN_dec h1 hq]
      by_cases z : nk' = nk
      · rw [decide_eq_true z, if_pos rfl, putV1_pos (x := (nk', b', v')) z]
        exact .cons h1 h2 h3 h4 hv ih
      · rw [decide_eq_false z, if_neg (show ¬ false = true by decide), putV1_neg (x := (nk', b', v')) z]
        exact .cons h1 h2 h3 h4 h5 ih
  · rw [if_neg c, if_neg c]
    exact h.append (.cons hq hd hb ht hv .nil)
theorem DV.isRef {v : V} {ds : List D} (h : DV wd K mg F α v (.tup ds)) : ∃ b, v = .ref b := by cases h; exact ⟨_, rfl⟩
theorem Rel.uget (hr : Rel wd K mg α F H S) {x y : V} {d q : D} {r : Option D} (hx : DV wd K mg F α x d) (hy : DV wd K mg F α y q) (e : lookU S d q = some r) :
    ∃ a o, x = .ref a ∧ UGet wd K H a y o ∧ (r = none → o = none) ∧ ∀ z, r = some z → ∃ v, o = some v ∧ DV wd K mg F α v z := by
  have s := hr.see hx
  unfold lookU at e
  generalize hd : deref S d = dd at e s
  cases s with
  | «at» h _ => cases h <;> cases e
  | dead => cases e
  | lst _ _ => cases e
  | @dct a ws kvs rd k t =>
    dsimp only at e
    split at e
    · rename_i hk
      cases e
      obtain ⟨k', rfl⟩ := isKey_kD hk
      have := kD_DV hy
      subst this
      have kv := KVs.of k t
      obtain ⟨g1, g2⟩ := kv.look k'
      exact ⟨a, valV ws k', rfl, .inl (.inl ⟨ws, k', rd, rfl, rfl⟩), g2, g1⟩
    · split at e
      · rename_i hc
        cases e
        rw [Bool.and_eq_true] at hc
        obtain ⟨ds, nk, rfl, h1, h2⟩ := isKeyN_ex hc.2
        obtain ⟨b, rfl⟩ := DV.isRef hy
        have : kvs = [] := List.isEmpty_iff.mp hc.1
        subst this
        have : ws = [] := by have := t.length; simpa using this
        subst this
        exact ⟨a, none, rfl, .inr ⟨[], nk, b, .inr ⟨rfl, rd⟩, (fun _ h => nomatch h), rfl, hy.nk h1 hr.sub, h2, rfl⟩, fun _ => rfl, fun z hz => by cases hz⟩
      · cases e
  | @dcn a xs kvs rd nv =>
    dsimp only at e
    split at e
    · rename_i hk
      cases e
      obtain ⟨ds, nk, rfl, h1, h2⟩ := isKeyN_ex hk
      obtain ⟨b, rfl⟩ := DV.isRef hy
      obtain ⟨g1, g2⟩ := nv.look h1
      exact ⟨a, lookV xs nk, rfl, .inr ⟨xs, nk, b, .inl rd, nv.keys hr.sub, rfl, hy.nk h1 hr.sub, h2, rfl⟩, g2, g1⟩
    · cases e
theorem Rel.usd (hr : Rel wd K mg α F H S) {x : V} {d : D} (hx : DV wd K mg F α x d) (e : isDct S d = true) : ∃ a, x = .ref a ∧ UsD wd K H a := by
  have s := hr.see hx
  unfold isDct at e
  generalize deref S d = dd at e s
  cases s with
  | «at» h _ => cases h <;> cases e
  | dead => cases e
  | lst _ _ => cases e
  | @dct a ws kvs rd k t => exact ⟨a, rfl, .inl (.inl ⟨ws, rd⟩)⟩
  | @dcn a xs kvs rd nv => exact ⟨a, rfl, .inr ⟨xs, .inl rd, nv.keys hr.sub⟩⟩
end
section
variable {X : Cx} {W : WX} {a b c e tg : Expr} {es rest : List Expr} {ra rb rc : RE} {ba bb : RB} {rs : RA} {pos p : Pos} {wd : World} {K : Fg} {mg : Str → Option Value} {α β : List Addr} {F F1 H H1 : Hp} {S : Sto}
theorem pd_uget (hu : X.A.units + 10 < cLine) (ha : PD X W a ra) (hb : PD X W b rb) (hs : NoSl b := by intro _ _; rfl) : PD X W (.Subscript a b pos) (rBin gGetU ra rb) := by
  obtain ⟨ta, pa, sa⟩ := ha.ex
  obtain ⟨tb, pb, sb⟩ := hb.ex
  refine ⟨_, pe_uget hu pa pb hs, sa.bin sb fun α F H S x y d e z Q hr hx hy hz q => ?_⟩
  unfold gGetU at hz
  split at hz
  · rename_i v e1
    cases hz
    obtain ⟨l, o, rfl, h1, _, h3⟩ := hr.uget hx hy e1
    obtain ⟨v', rfl, h4⟩ := h3 z rfl
    exact ⟨l, v', rfl, h1, fin_now hr h4 q⟩
  · cases hz
theorem pd_get2 {apos cpos : Pos} (hu : X.A.units + 10 < cLine) (ha : PD X W a ra) (hb : PD X W b rb) (hc : PD X W c rc) (m : M2 X a "get" apos b c cpos := by exact ⟨rfl, rfl, rfl, rfl⟩) : PD X W (.Call (.Attribute a "get" apos) [b, c] [] cpos) (rGet2 ra rb rc) := by
  obtain ⟨ta, pa, sa⟩ := ha.ex
  obtain ⟨tb, pb, sb⟩ := hb.ex
  obtain ⟨tc, pc, sc⟩ := hc.ex
  refine ⟨_, pe_uget2 hu pa pb pc m, fun α F σ H δ S Q hr hs h => ?_⟩
  refine sa α F σ H δ S _ hr hs (wp.bind h fun d S1 _ x H1 β F1 r1 s1 v1 h1 => ?_)
  split at h1
  · rename_i hd
    obtain ⟨l, rfl, hd'⟩ := r1.usd v1 hd
    refine ⟨l, rfl, hd', ?_⟩
    refine sb (α ++ β) F1 σ H1 δ S1 _ r1 (hs.mono s1.sub) (wp.bind h1 fun q S2 _ y H2 γ F2 r2 s2 v2 h2 => ?_)
    refine sc (α ++ β ++ γ) F2 σ H2 δ S2 _ r2 ((hs.mono s1.sub).mono s2.sub) (wp.bind h2 fun z S3 _ w H3 ε F3 r3 s3 v3 h3 => ?_)
    obtain ⟨z', e1, h4⟩ := wp.lift h3
    obtain ⟨o, e2, e3⟩ := Option.map_eq_some_iff.mp e1
    obtain ⟨l', o', e4, g1, g2, g3⟩ := r3.uget ((v1.mono s2.sub).mono s3.sub) (v2.mono s3.sub) e2
    cases e4
    refine ⟨o', g1, ?_⟩
    subst e3
    cases o with
    | none => rw [g2 rfl]; exact h4.now r3 v3
    | some v => obtain ⟨v', rfl, q'⟩ := g3 v rfl; exact h4.now r3 q'
  · exact h1.elim
theorem psd_putU {o i value : Expr} {pos' : Pos} {ro ri rv : RE} (hu : X.A.units + 10 < cLine) (ho : PD X W o ro) (hi : PD X W i ri) (hv : PD X W value rv) (hs : swapsWith value (some (.Subscript o i pos')) pos.line X.env = pure false := by rfl) : PSd X W (.Assign [.Subscript o i pos'] value pos) (sPutU ro ri rv) := by
  obtain ⟨to, po, so⟩ := ho.ex
  obtain ⟨ti, pi, si⟩ := hi.ex
  obtain ⟨tv, pv', sv⟩ := hv.ex
  refine ⟨_, ps_uput hu po pi pv' hs, fun α F σ H δ S E hr hs h => ?_⟩
  refine sv α F σ H δ S _ hr hs (wpS.out h hs fun z S1 _ v H1 β F1 r1 q1 v1 h1 => ?_)
  have hs1 := hs.mono (β := β) q1.sub
  refine so (α ++ β) F1 σ H1 δ S1 _ r1 hs1 (wpS.out h1 hs1 fun x S2 _ xv H2 γ F2 r2 q2 v2 h2 => ?_)
  have hs2 := hs1.mono (β := γ) q2.sub
  refine si (α ++ β ++ γ) F2 σ H2 δ S2 _ r2 hs2 (wpS.out h2 hs2 fun y S3 _ yv H3 ε F3 r3 q3 v3 h3 => ?_)
  have hs3 := hs2.mono (β := ε) q3.sub
  split at h3
  · rename_i n
    split at h3
    · rename_i u e1
      split at h3
      · rename_i u' e2
        have v2' := v2.mono (β := ε) q3.sub
        have vz := (v1.mono (β := γ) q2.sub).mono (β := ε) q3.sub
        cases v2' with
        | @ptr _ ad ea =>
          obtain ⟨o1, _⟩ := r3.own _ _ _ ea e1
          unfold putU at e2
          cases u with
          | dct kvs =>
            dsimp only at e2
            split at e2
            · rename_i hk
              split at e2
              · rename_i hl
                cases e2
                obtain ⟨k, rfl⟩ := isKey_kD hk
                obtain ⟨ws, o2, o3⟩ := Own.dctK.mp o1
                have := kD_DV v3
                subst this
                obtain ⟨a1, a2⟩ := r3.setO (o := .dK (putK ws k v)) (d := .dct (putD kvs (kD k) z)) ea e1 rfl (Own.dctK.mpr ⟨_, upd_same, o3.put k vz⟩)
                exact ⟨_, _, rfl, .inl (.inl ⟨ws, k, o2, rfl, by rw [o3.length]; exact hl, rfl⟩), h3 _ _ _ _ a1 a2 (hs3.mono a2.sub)⟩
              · cases e2
            · split at e2
              · rename_i hc
                cases e2
                rw [Bool.and_eq_true] at hc
                obtain ⟨ds, nk, rfl, g1, g2⟩ := isKeyN_ex hc.2
                obtain ⟨b, rfl⟩ := DV.isRef v3
                have : kvs = [] := List.isEmpty_iff.mp hc.1
                subst this
                obtain ⟨ws, o2, o3⟩ := Own.dctK.mp o1
                cases o3
                obtain ⟨a1, a2⟩ := r3.setO (o := dN X.w ad (putV [] nk b v)) (d := .dcn [(.tup ds, z)]) ea e1 rfl ⟨_, upd_same, .cons g1 g2 v3 ⟨_, rfl⟩ vz .nil⟩
                exact ⟨_, _, rfl, .inr ⟨[], nk, b, .inr ⟨rfl, o2⟩, (fun _ h => nomatch h), rfl, v3.nk g1 r3.sub, g2, by decide, rfl⟩, h3 _ _ _ _ a1 a2 (hs3.mono a2.sub)⟩
              · cases e2
          | dcn kvs =>
            dsimp only at e2
            split at e2
            · rename_i hc
              cases e2
              rw [Bool.and_eq_true] at hc
              obtain ⟨ds, nk, rfl, g1, g2⟩ := isKeyN_ex hc.1
              obtain ⟨b, rfl⟩ := DV.isRef v3
              obtain ⟨xs, o2, o3⟩ := o1
              obtain ⟨a1, a2⟩ := r3.setO (o := dN X.w ad (putV xs nk b v)) (d := .dcn (putN kvs (.tup ds) z)) ea e1 rfl ⟨_, upd_same, o3.put g1 g2 v3 ⟨_, rfl⟩ vz⟩
              exact ⟨_, _, rfl, .inr ⟨xs, nk, b, .inl o2, o3.keys r3.sub, rfl, v3.nk g1 r3.sub, g2, by rw [o3.length]; exact of_decide_eq_true hc.2, rfl⟩, h3 _ _ _ _ a1 a2 (hs3.mono a2.sub)⟩
            · cases e2
          | _ => cases e2
      · exact h3.elim
    · exact h3.elim
  · exact h3.elim
end
end DL
set_option Elab.async false
set_option linter.all false
set_option maxRecDepth 100000
set_option maxHeartbeats 4000000
set_option autoImplicit false
/-! Data layer: dicts walked while they are locked. -/
namespace DL
open PySem PySem.Spec PyProof.Rows L2
/-! ### a locked dict of tuple keys -/
section
variable {X : Cx} {pins : List (Addr × Obj)} {σ : L2.St} {H : Hp} {s : Shared} {d : Addr} {o : Obj}
theorem frzN {xs : List (NestedKey × Addr × V)} (I : Inv X pins σ H s) (h : H d = some (.frz o (dN X.w d xs))) :
    (d == sysModules) = false ∧ s.heap.get? d = some o ∧ o.ExactDict ∧ ∃ (es : Array DictEntry) (ep : Nat), o.data = .dict es ep ∧ es.size = xs.length ∧
      ∀ (i : Nat) (k : NestedKey) (b : Addr) (v : V), xs[i]? = some (k, b, v) → ∃ en : DictEntry, es[i]? = some en ∧ en.key = .ref b ∧ RelV v en.val := by
  obtain ⟨hd, ⟨h1, h2, h3, vs, h4, o', es, ep, h5, h6, h7, h8⟩, _⟩ := I.hok d _ h
  rw [hd] at h5
  cases h5
  have hl := h4.length
  refine ⟨h1, hd, h6, es, ep, h7, ?_, fun i k b v e => ?_⟩
  · rw [← Array.length_toList, h8, List.length_map, hl]
  · obtain ⟨y, hy, e1, e2, e3⟩ := paired_get h4 e
    refine ⟨⟨y.1.hash X.w, .ref y.2.1, y.2.2⟩, ?_, ?_, e3⟩
    · rw [← Array.getElem?_toList, h8, List.getElem?_map, hy]; rfl
    · show Value.ref y.2.1 = .ref b
      rw [← e2]
end
/-- the pairs, each a new tuple -/
def ItiN (w : World) (d : Addr) (o : Obj) (xs : List (NestedKey × Addr × V)) : It :=
  ⟨fun i H => H d = some (.frz o (dN w d xs)) ∧ i < xs.length, fun i H x H' => ∃ T k b v, xs[i]? = some (k, b, v) ∧ x = .ref T ∧ H T = none ∧ H' = upd H T (.tup [.ref b, v]), fun i H => H d = some (.frz o (dN w d xs)) ∧ xs.length ≤ i⟩
section
variable {P : Program} {w : World} {K : Fg} {tg : Expr} {d : Addr} {o : Obj} {es : Array DictEntry} {ep : Nat}
theorem turn_itemsN {xs : List (NestedKey × Addr × V)} {elts : List Expr} {kk : Nat} {tpos : Pos} (it : Addr) (hod : o.data = .dict es ep) :
    Turn P w K (.Tuple elts kk tpos) (ItiN w d o xs) [it] it (fun i h => ∃ ok ov, IsItemIter h it d i xs.length ep ok ov) where
  mem := by simp
  obj := fun i h st b hb => by
    have e : b = it := by simpa using hb
    subst e
    obtain ⟨ok, ov, e⟩ := st
    exact ⟨_, e, fun v z => nomatch z⟩
  keep := fun i h h' st k => let ⟨ok, ov, e⟩ := st; ⟨ok, ov, k it (by simp) _ e⟩
  item := by
    intro X hP hw hK hc i pins s σ H E I hf st hg
    subst hP hw hK
    obtain ⟨hd, hi⟩ := hg
    obtain ⟨hs, hgd, hx, es', ep', hdt, hsz, ent⟩ := frzN I hd
    obtain ⟨rfl, rfl⟩ := dict_ep hod hdt
    obtain ⟨⟨k, b, v⟩, hkv⟩ : ∃ p, xs[i]? = some p := ⟨xs[i], List.getElem?_eq_getElem hi⟩
    obtain ⟨en, hen, hkey, rv⟩ := ent i k b v hkv
    obtain ⟨ok, ov, he⟩ := st
    rw [← hsz] at he
    have hlt : it < s.heap.objs.size := Heap.lt_size he
    have hi' : i < es'.size := by rw [hsz]; exact hi
    have ee : es'[i] = en := by
      rw [Array.getElem?_eq_getElem hi'] at hen
      exact Option.some.inj hen
    refine wpAny_pyNext_items_item_raw he ⟨o, hgd, hx, hdt⟩ hi' fun h' ho hT hz hk => ?_
    refine ⟨_, rfl, wpAny_letOwnedTupleGo_items (s := { s with heap := h' }) ho fun h'' he' sb => ?_⟩
    have hT2 : h''.get? s.heap.objs.size = some { cls := .type "tuple", data := .seq #[es'[i].key, es'[i].val] } := (sb.2 _ (Nat.ne_of_gt hlt)).trans hT
    have new : ObjOk X.prog X.w (upd H s.heap.objs.size (.tup [.ref b, v])) h'' s.heap.objs.size (.tup [.ref b, v]) :=
      ⟨by show 2 ≤ sizeLine; decide, [es'[i].key, es'[i].val], .cons (show es'[i].key = .ref b by rw [ee]; exact hkey) (.cons (by rw [ee]; exact rv) .nil), ⟨_, hT2, rfl, _, rfl⟩⟩
    have I1 : Inv X pins σ (upd H s.heap.objs.size (.tup [.ref b, v])) { s with heap := h'' } :=
      I.turnedNew (t' := s.toks) (ch := [it]) (fun b ob hb e => (sb.2 b (by simpa using hb)).trans (hk b ob (by simpa using hb) e)) hf (Nat.le_refl _) new
    refine ⟨.ref s.heap.objs.size, _, I1, rfl, ⟨_, k, b, v, hkv, rfl, I.hok.fresh (Nat.le_refl _), rfl⟩, ⟨es'[i].key, es'[i].val, ?_⟩, fun b hb => ?_⟩
    · rw [← hsz]; exact he'
    · have e : b = it := by simpa using hb
      rw [e, upd_ne (Nat.ne_of_lt hlt)]
      exact (hf it (by simp)).1
  done := by
    intro X hP hw hK hc i pins s σ H E I hf st hg
    subst hP hw hK
    obtain ⟨hd, hi⟩ := hg
    obtain ⟨f0, f1, f2, f3, f4, f5⟩ := hf it (by simp)
    obtain ⟨hs, hgd, hx, es', ep', hdt, hsz, ent⟩ := frzN I hd
    obtain ⟨rfl, rfl⟩ := dict_ep hod hdt
    obtain ⟨ok, ov, he⟩ := st
    rw [← hsz] at he
    exact wpAny_pyNext_items_end_raw (I.ok.hd hc) he ⟨o, hgd, hx, hdt⟩ (by omega) fun h' eb => ⟨rfl, I.turned (t' := s.toks) (fun b ob hb e => eb b ob hb e) f0 f1 f3 f4 f5⟩
  self := fun A i s Q E st h => let ⟨_, _, e⟩ := st; PySem.W.kcp_self e h
end
def iItemsU (X : Cx) (td : TE) : TI := fun σ H R => td σ H fun x H1 => ∃ d o, x = .ref d ∧ ((∃ kvs, H1 d = some (.frz o (.dK kvs)) ∧ R (Iti d o kvs) H1) ∨ ∃ xs, H1 d = some (.frz o (dN X.w d xs)) ∧ R (ItiN X.w d o xs) H1)
section
variable {X : Cx} {tg e : Expr} {td : TE} {apos cpos : Pos}
theorem pi_itemsU {elts : List Expr} {kk : Nat} {tpos : Pos} (he : PE X e td) (hbase : attributeBase e "items" X.env (eval e X.env) = eval e X.env := by rfl) (hline : (apos.endLine == cpos.line) = true := by rfl) :
    PI X (.Tuple elts kk tpos) (.Call (.Attribute e "items" apos) [] [] cpos) (iItemsU X td) := by
  refine ⟨fun pins s σ H R I h => ?_⟩
  refine wpAny_Call_method (T := "dict") (id := "dict.items") hbase rfl hline F.plainAttrs_dict F.slot_dict_items F.type_dict_items (thn (he.run pins s σ H _ I h) fun u s1 ⟨x, H1, I1, rx, d, o, ex, q⟩ => ?_)
  subst ex
  obtain rfl : u = Value.ref d := rx
  rcases q with ⟨kvs, hd, q⟩ | ⟨xs, hd, q⟩
  · obtain ⟨hs, hgd, hx, es, ep, vs, hdt, hsz, kv, hm⟩ := I1.frzK hd
    have hl : kvs.length = vs.length := Paired.length kv
    refine ⟨hm.dictOf.typeIs, hm.dictOf.mapOf.noDict, ?_⟩
    have I2 : Inv X pins σ H1 { s1 with heap := s1.heap.push { cls := .type "dict_items", data := .fields #[.ref d] } } := I1.kept (t' := s1.toks) fun b ob q => Heap.get?_push_of_some _ q
    have fin : wpAny (model X.prog X.w) X.A (pyIter (.ref s1.heap.objs.size)) (PIE X pins σ (.Tuple elts kk tpos) R) X.xe { s1 with heap := s1.heap.push { cls := .type "dict_items", data := .fields #[.ref d] } } := by
      refine wpAny_pyIter_items (d := d) (knd := mixKind X.prog X.w) ⟨_, Heap.get?_push_size _ rfl, rfl, rfl⟩ (hm.push _) (pi_one (tk := s1.toks) I2 _ (turn_items _ hdt) ⟨.none, .none, ?_⟩ q)
      rw [hl]
      exact Heap.get?_push_size _ rfl
    show wpAny _ _ (callWith cpos (.builtin "dict.items") [.ref d] [] []) _ X.xe s1
    exact method_meetsIn F.slot_dict_items F.entry_dict_items rfl (PySem.evalArgs_none ⟨rfl, hm.dictOf.typeIs, F.args_dict_items_1 _, _, meets_dict_items (mixKind X.prog X.w) d hs, ⟨vs, hm.dictOf⟩, fin⟩)
  · obtain ⟨hs, hgd, hx, es, ep, hdt, hsz, ent⟩ := frzN I1 hd
    have raw : s1.heap.DictRaw d es ep := ⟨o, hgd, hx, hdt⟩
    refine ⟨raw.typeIs, fun b e => ?_, ?_⟩
    · cases e; exact ⟨o, hgd, hx.2.1⟩
    have I2 : Inv X pins σ H1 { s1 with heap := s1.heap.push { cls := .type "dict_items", data := .fields #[.ref d] } } := I1.kept (t' := s1.toks) fun b ob q => Heap.get?_push_of_some _ q
    have fin : wpAny (model X.prog X.w) X.A (pyIter (.ref s1.heap.objs.size)) (PIE X pins σ (.Tuple elts kk tpos) R) X.xe { s1 with heap := s1.heap.push { cls := .type "dict_items", data := .fields #[.ref d] } } := by
      refine wpAny_pyIter_items_raw (d := d) ⟨_, Heap.get?_push_size _ rfl, rfl, rfl⟩ (raw.at fun o e => Heap.get?_push_of_some _ e) (pi_one (tk := s1.toks) I2 _ (turn_itemsN _ hdt) ⟨.none, .none, ?_⟩ q)
      rw [← hsz]
      exact Heap.get?_push_size _ rfl
    show wpAny _ _ (callWith cpos (.builtin "dict.items") [.ref d] [] []) _ X.xe s1
    exact method_meetsIn F.slot_dict_items F.entry_dict_items rfl (PySem.evalArgs_none ⟨rfl, raw.typeIs, F.args_dict_items_1 _, _, meets_dict_items_raw d hs, ⟨es, ep, raw⟩, fin⟩)
end
/-! ### by data -/
def pairsD (kvs : List (D × D)) : List D := kvs.map fun p => .tux [p.1, p.2]
def lckOf (S : Sto) (d : D) : Option (List (D × D)) := match d with
  | .ptr k => (match S[k]? with
    | some (.lck (.dct kvs)) => some kvs
    | some (.lck (.dcn kvs)) => some kvs
    | _ => none)
  | _ => none
/-- d.items(), d, of a locked dict -/
def rItems (a : RE) : RA := fun δ S => (a δ S).bind fun d S1 => .lift ((lckOf S1 d).map pairsD) S1
section
variable {wd : World} {K : Fg} {mg : Str → Option Value} {α β : List Addr} {F F1 H H1 : Hp} {S : Sto}
theorem KVs.at {ws : List (Key × V)} {kvs : List (D × D)} (h : KVs wd K mg F α ws kvs) : ∀ {i : Nat} {p : D × D}, kvs[i]? = some p → ∃ k v, ws[i]? = some (k, v) ∧ p.1 = kD k ∧ DV wd K mg F α v p.2 := by
  induction h with
  | nil => intro i p e; simp at e
  | cons h _ ih =>
    intro i p e
    cases i with
    | zero => simp at e; subst e; exact ⟨_, _, rfl, rfl, h⟩
    | succ i => simp at e; obtain ⟨k, v, e1, e2, e3⟩ := ih e; exact ⟨k, v, by simpa using e1, e2, e3⟩
theorem NVs.at {xs : List (NestedKey × Addr × V)} {kvs : List (D × D)} (h : NVs wd K mg F α xs kvs) : ∀ {i : Nat} {p : D × D}, kvs[i]? = some p → ∃ k b v, xs[i]? = some (k, b, v) ∧ DV wd K mg F α (.ref b) p.1 ∧ DV wd K mg F α v p.2 := by
  induction h with
  | nil => intro i p e; simp at e
  | cons h1 h2 h3 h4 h5 _ ih =>
    intro i p e
    cases i with
    | zero => simp at e; subst e; exact ⟨_, _, _, rfl, h3, h5⟩
    | succ i => simp at e; obtain ⟨k, b, v, e1, e2, e3⟩ := ih e; exact ⟨k, b, v, by simpa using e1, e2, e3⟩
theorem DV.key (k : Key) : DV wd K mg F α (kV k) (kD k) := by cases k <;> constructor
theorem Sub.at {F F' : Hp} {a : Addr} {u : HO} (s : Sub F F') (h : F a = some u) : F' a = some u := s _ _ h
theorem it_items {a : Addr} {o : Obj} {ws : List (Key × V)} {kvs : List (D × D)} (hF : F a = some (.frz o (.dK ws))) (h : KVs wd K mg F α ws kvs) : ItOk wd K mg F α (Iti a o ws) (pairsD kvs) where
  go := fun F' H' i s1 s2 hi => ⟨s2 _ _ (s1 _ _ hF), by unfold pairsD at hi; rw [List.length_map] at hi; rw [h.length]; exact hi⟩
  stop := fun F' H' s1 s2 => ⟨s2 _ _ (s1 _ _ hF), by unfold pairsD; rw [List.length_map, h.length]; exact Nat.le_refl _⟩
  yld := fun F' H' H2 i x d s1 s2 hd ⟨T, k, v, e1, e2, e3, e4⟩ => by
    unfold pairsD at hd
    rw [List.getElem?_map] at hd
    obtain ⟨p, hp, rfl⟩ := Option.map_eq_some_iff.mp hd
    obtain ⟨k', v', g1, g2, g3⟩ := h.at hp
    rw [e1] at g1
    cases g1
    refine .inr ⟨T, _, e3, e4, ?_⟩
    subst e2
    have hn : F' T = none := by
      cases q : F' T with
      | none => rfl
      | some u => rw [s2 _ _ q] at e3; cases e3
    have g3' := g3.mono (β := []) (s1.trans (Sub.new (o := .tup [kV k, v]) hn))
    rw [List.append_nil] at g3'
    rw [g2]
    exact .tux (SqT.of upd_same) (.cons (DV.key k) (.cons g3' .nil))
theorem it_itemsN {a : Addr} {o : Obj} {xs : List (NestedKey × Addr × V)} {kvs : List (D × D)} (hF : F a = some (.frz o (dN wd a xs))) (h : NVs wd K mg F α xs kvs) : ItOk wd K mg F α (ItiN wd a o xs) (pairsD kvs) where
  go := fun F' H' i s1 s2 hi => ⟨s2 _ _ (s1 _ _ hF), by unfold pairsD at hi; rw [List.length_map] at hi; rw [h.length]; exact hi⟩
  stop := fun F' H' s1 s2 => ⟨s2 _ _ (s1 _ _ hF), by unfold pairsD; rw [List.length_map, h.length]; exact Nat.le_refl _⟩
  yld := fun F' H' H2 i x d s1 s2 hd ⟨T, k, b, v, e1, e2, e3, e4⟩ => by
    unfold pairsD at hd
    rw [List.getElem?_map] at hd
    obtain ⟨p, hp, rfl⟩ := Option.map_eq_some_iff.mp hd
    obtain ⟨k', b', v', g1, g2, g3⟩ := h.at hp
    rw [e1] at g1
    cases g1
    refine .inr ⟨T, _, e3, e4, ?_⟩
    subst e2
    have hn : F' T = none := by
      cases q : F' T with
      | none => rfl
      | some u => rw [s2 _ _ q] at e3; cases e3
    have sb := s1.trans (Sub.new (o := .tup [.ref b, v]) hn)
    have g2' := g2.mono (β := []) sb
    have g3' := g3.mono (β := []) sb
    rw [List.append_nil] at g2' g3'
    exact .tux (SqT.of upd_same) (.cons g2' (.cons g3' .nil))
/-- a locked thing -/
theorem Rel.locked (hr : Rel wd K mg α F H S) {v : V} {d : D} {kvs : List (D × D)} (h : DV wd K mg F α v d) (e : lckOf S d = some kvs) :
    ∃ a o, v = .ref a ∧ ((∃ ws, F a = some (.frz o (.dK ws)) ∧ KVs wd K mg F α ws kvs) ∨ ∃ xs, F a = some (.frz o (dN wd a xs)) ∧ NVs wd K mg F α xs kvs) := by
  unfold lckOf at e
  split at e
  · rename_i k
    cases h with
    | @ptr _ a ea =>
      split at e
      · rename_i kvs' e1
        cases e
        obtain ⟨o, ws, h0, h1, h2, h3⟩ := (hr.own _ _ _ ea e1).1
        exact ⟨a, o, rfl, .inl ⟨ws, h0, .of h2 h3⟩⟩
      · rename_i kvs' e1
        cases e
        obtain ⟨o, ws, h0, h1, h2⟩ := (hr.own _ _ _ ea e1).1
        exact ⟨a, o, rfl, .inr ⟨ws, h0, h2⟩⟩
      · cases e
  · cases e
end
section
variable {X : Cx} {W : WX} {a b c e tg : Expr} {es rest : List Expr} {ra rb rc : RE} {ba bb : RB} {rs : RA} {pos p apos cpos : Pos} {wd : World} {K : Fg} {mg : Str → Option Value} {α β : List Addr} {F F1 H H1 : Hp} {S : Sto}
theorem pid_items {elts : List Expr} {kk : Nat} {tpos : Pos} (ha : PD X W e ra) (hbase : attributeBase e "items" X.env (eval e X.env) = eval e X.env := by rfl) (hline : (apos.endLine == cpos.line) = true := by rfl) :
    PId X W (.Tuple elts kk tpos) (.Call (.Attribute e "items" apos) [] [] cpos) (rItems ra) := by
  obtain ⟨t, p1, s1⟩ := ha.ex
  refine ⟨_, pi_itemsU p1 hbase hline, fun α F σ H δ S Q hr hs h => ?_⟩
  refine s1 α F σ H δ S _ hr hs (wp.bind h fun d S1 e1 x H1 β F1 r1 q1 v1 h1 => ?_)
  obtain ⟨ds, e2, h2⟩ := wp.lift h1
  obtain ⟨kvs, e3, rfl⟩ := Option.map_eq_some_iff.mp e2
  obtain ⟨l, o, rfl, q⟩ := r1.locked v1 e3
  refine ⟨l, o, rfl, ?_⟩
  rcases q with ⟨ws, g1, g2⟩ | ⟨xs, g1, g2⟩
  · exact .inl ⟨ws, r1.sub _ _ g1, h2.now r1 (it_items g1 g2)⟩
  · exact .inr ⟨xs, r1.sub _ _ g1, h2.now r1 (it_itemsN g1 g2)⟩
end
end DL
set_option Elab.async false
set_option linter.all false
set_option maxRecDepth 100000
set_option maxHeartbeats 4000000
set_option autoImplicit false
/-! Data layer: a statement done while a dict is locked; what is never reached. -/
namespace DL
open PySem PySem.Spec PyProof.Rows L2
def isSq : HO → Prop
  | .tup _ => True
  | .lst _ => True
  | .frz _ (.tup _) => True
  | .frz _ (.lst _) => True
  | .ext _ => True
  | .xd _ => True
  | _ => False
/-- lists and tuples stay -/
def SubS (F F' : Hp) : Prop := ∀ a u, F a = some u → isSq u → F' a = some u
theorem SubS.t {F F' : Hp} (s : SubS F F') {a : Addr} {xs : List V} (h : Rd F a (.tup xs)) : Rd F' a (.tup xs) := h.imp (fun e => s _ _ e trivial) fun ⟨o, e⟩ => ⟨o, s _ _ e trivial⟩
theorem SubS.l {F F' : Hp} (s : SubS F F') {a : Addr} {xs : List V} (h : Rd F a (.lst xs)) : Rd F' a (.lst xs) := h.imp (fun e => s _ _ e trivial) fun ⟨o, e⟩ => ⟨o, s _ _ e trivial⟩
section
variable {wd : World} {K : Fg} {mg : Str → Option Value} {α β : List Addr} {F F' H H1 : Hp} {S : Sto}
mutual
theorem DV.stay {v : V} {d : D} (s : SubS F F') : DV wd K mg F α v d → DV wd K mg F' α v d
  | .non => .non
  | .bl b => .bl b
  | .int i => .int i
  | .str x => .str x
  | .tup h t => .tup ⟨h.1.imp s.t id, h.2.imp (fun ⟨o, e, q⟩ => ⟨o, s _ _ e trivial, q⟩) id⟩ (DVs.stay s t)
  | .tux h t => .tux (h.imp s.t id) (DVs.stay s t)
  | .lst h t => .lst (h.imp s.l id) (DVs.stay s t)
  | .ptr h => .ptr h
  | .fn h => .fn h
  | .ty n => .ty n
  | .exc h1 h2 h3 h4 h5 => .exc h1 (s _ _ h2 trivial) (h3.imp id fun ⟨dd, e, q⟩ => ⟨dd, e, s _ _ q trivial⟩) h4 (DVs.stay s h5)
  | .dc0 h1 h2 => .dc0 (s _ _ h1 trivial) (DV.stay s h2)
theorem DVs.stay {vs : List V} {ds : List D} (s : SubS F F') : DVs wd K mg F α vs ds → DVs wd K mg F' α vs ds
  | .nil => .nil
  | .cons h t => .cons (DV.stay s h) (DVs.stay s t)
end
theorem NVs.stay {xs : List (NestedKey × Addr × V)} {kvs : List (D × D)} (s : SubS F F') (h : NVs wd K mg F α xs kvs) : NVs wd K mg F' α xs kvs := by
  induction h with
  | nil => exact .nil
  | cons h1 h2 h3 h4 h5 _ ih => exact .cons h1 h2 (h3.stay s) h4 (h5.stay s) ih
/-- what may be locked -/
def Lkd (wd : World) (a : Addr) (u : HO) : Prop := (∃ ws, u = .dK ws) ∨ ∃ xs, u = dN wd a xs
theorem Lkd.mut {a : Addr} {u : HO} (h : Lkd wd a u) : Mut (some u) := by
  rcases h with ⟨ws, rfl⟩ | ⟨xs, rfl⟩ <;> exact True.intro
/-- F without a -/
def erase (F : Hp) (a : Addr) : Hp := fun b => if b = a then none else F b
theorem erase_same {a : Addr} : erase F a a = none := by unfold erase; rw [if_pos rfl]
theorem erase_ne {a b : Addr} (h : b ≠ a) : erase F a b = F b := by unfold erase; rw [if_neg h]
theorem erase_stay {a : Addr} {o : Obj} {u : HO} (h : F a = some (.frz o u)) (hu : Lkd wd a u) : SubS F (erase F a) := by
  intro b v e q
  have z : b ≠ a := fun z => by
    subst z
    rw [h] at e
    cases e
    rcases hu with ⟨ws, rfl⟩ | ⟨ys, rfl⟩ <;> exact q
  rw [erase_ne z]; exact e
theorem Own.toLck {a : Addr} {d : D} {u : HO} (od : Obj) (h : Own wd K mg F α H a d) (hF : F a = none) (hu : H a = some u) (hl : Lkd wd a u) (hd : (∃ kvs, d = .dct kvs) ∨ ∃ kvs, d = .dcn kvs) :
    Own wd K mg (upd F a (.frz od u)) α (upd H a (.frz od u)) a (.lck d) := by
  have sb : Sub F (upd F a (.frz od u)) := Sub.new hF
  rcases hd with ⟨kvs, rfl⟩ | ⟨kvs, rfl⟩
  · obtain ⟨ws, h1, h2, h3⟩ := h
    rw [hu] at h1
    cases h1
    have h4 := h3.mono (β := []) sb
    rw [List.append_nil] at h4
    exact ⟨od, ws, upd_same, upd_same, h2, h4⟩
  · obtain ⟨xs, h1, h2⟩ := h
    rw [hu] at h1
    cases h1
    have h4 := h2.mono (β := []) sb
    rw [List.append_nil] at h4
    exact ⟨od, xs, upd_same, upd_same, h4⟩
/-- the thing at k is locked -/
theorem Rel.lock (r : Rel wd K mg α F H S) {k : Nat} {a : Addr} {u : HO} {d : D} (od : Obj) (h1 : α[k]? = some a) (h2 : S[k]? = some d) (hd : (∃ kvs, d = .dct kvs) ∨ ∃ kvs, d = .dcn kvs) (hu : H a = some u) (hl : Lkd wd a u) :
    Rel wd K mg α (upd F a (.frz od u)) (upd H a (.frz od u)) (S.set k (.lck d)) ∧ Sub F (upd F a (.frz od u)) ∧ F a = none := by
  obtain ⟨o1, o2⟩ := r.own k a d h1 h2
  have hF : F a = none := o2 (by rcases hd with ⟨_, rfl⟩ | ⟨_, rfl⟩ <;> rfl)
  have sb : Sub F (upd F a (.frz od u)) := Sub.new hF
  have hn := r.nd
  refine ⟨⟨fun b v e => ?_, by rw [List.length_set]; exact r.len, r.nd, fun b hb => ?_, fun j b e g1 g2 => ?_⟩, sb, hF⟩
  · by_cases z : b = a
    · subst z; rw [upd_same] at e ⊢; exact e
    · rw [upd_ne z] at e ⊢; exact r.sub _ _ e
  · by_cases z : b = a
    · subst z; exact ⟨_, upd_same⟩
    · obtain ⟨v, e⟩ := r.here b hb
      exact ⟨v, by rw [upd_ne z]; exact e⟩
  · by_cases z : j = k
    · subst z
      rw [h1] at g1; cases g1
      rw [List.getElem?_set_self (List.getElem?_eq_some_iff.mp h2).1] at g2
      cases g2
      exact ⟨Own.toLck od o1 hF hu hl hd, fun z => by cases z⟩
    · rw [List.getElem?_set_ne (Ne.symm z)] at g2
      obtain ⟨h3, h4⟩ := r.own j b e g1 g2
      have y : b ≠ a := fun y => by
        subst y
        exact z ((List.getElem_inj hn).mp ((List.getElem?_eq_some_iff.mp g1).2.trans (List.getElem?_eq_some_iff.mp h1).2.symm))
      have h5 := h3.mono (β := []) (H' := upd H a (.frz od u)) sb (upd_ne y)
      rw [List.append_nil] at h5
      exact ⟨h5, fun hd => by rw [upd_ne y]; exact h4 hd⟩
/-- and let go again -/
theorem Rel.unlock (r : Rel wd K mg α F H S) {k : Nat} {a : Addr} {u : HO} {od : Obj} {d : D} (h1 : α[k]? = some a) (h2 : S[k]? = some (.lck d)) (hF : F a = some (.frz od u)) (hl : Lkd wd a u) :
    Rel wd K mg α (erase F a) (upd H a u) (S.set k d) := by
  have st : SubS F (erase F a) := erase_stay hF hl
  have hH : H a = some (.frz od u) := r.sub _ _ hF
  have hn := r.nd
  refine ⟨fun b v e => ?_, by rw [List.length_set]; exact r.len, r.nd, fun b hb => ?_, fun j b e g1 g2 => ?_⟩
  · by_cases z : b = a
    · subst z; rw [erase_same] at e; cases e
    · rw [erase_ne z] at e; rw [upd_ne z]; exact r.sub _ _ e
  · by_cases z : b = a
    · subst z; exact ⟨_, upd_same⟩
    · obtain ⟨v, e⟩ := r.here b hb
      exact ⟨v, by rw [upd_ne z]; exact e⟩
  · by_cases z : j = k
    · subst z
      rw [h1] at g1; cases g1
      rw [List.getElem?_set_self (List.getElem?_eq_some_iff.mp h2).1] at g2
      cases g2
      obtain ⟨o1, _⟩ := r.own j a _ h1 h2
      refine ⟨?_, fun _ => erase_same⟩
      cases d with
      | dct kvs =>
        obtain ⟨o, ws, q0, q1, q2, q3⟩ := o1
        rw [hF] at q0
        cases q0
        exact ⟨ws, upd_same, q2, q3.stay st⟩
      | dcn kvs =>
        obtain ⟨o, xs, q0, q1, q2⟩ := o1
        rw [hF] at q0
        cases q0
        exact ⟨xs, upd_same, q2.stay st⟩
      | _ => exact o1.elim
    · rw [List.getElem?_set_ne (Ne.symm z)] at g2
      obtain ⟨h3, h4⟩ := r.own j b e g1 g2
      have y : b ≠ a := fun y => by
        subst y
        exact z ((List.getElem_inj hn).mp ((List.getElem?_eq_some_iff.mp g1).2.trans (List.getElem?_eq_some_iff.mp h1).2.symm))
      refine ⟨?_, fun hd => by rw [erase_ne y]; exact h4 hd⟩
      cases e with
      | lst ds => obtain ⟨xs, q1, q2⟩ := h3; exact ⟨xs, by rw [upd_ne y]; exact q1, q2.stay st⟩
      | dct kvs => obtain ⟨ws, q1, q2, q3⟩ := h3; exact ⟨ws, by rw [upd_ne y]; exact q1, q2, q3.stay st⟩
      | dcn kvs => obtain ⟨ws, q1, q2⟩ := h3; exact ⟨ws, by rw [upd_ne y]; exact q1, q2.stay st⟩
      | lck e =>
        cases e with
        | dct kvs => obtain ⟨o, ws, q0, q1, q2, q3⟩ := h3; exact ⟨o, ws, by rw [erase_ne y]; exact q0, by rw [upd_ne y]; exact q1, q2, q3.stay st⟩
        | dcn kvs => obtain ⟨o, ws, q0, q1, q2⟩ := h3; exact ⟨o, ws, by rw [erase_ne y]; exact q0, by rw [upd_ne y]; exact q1, q2.stay st⟩
        | _ => exact h3.elim
      | non => trivial
      | _ => exact h3.elim
theorem Stp.lock {a : Addr} {u : HO} {od : Obj} {F2 H2 : Hp} (s : Stp α (upd F a (.frz od u)) (upd H a (.frz od u)) β F2 H2) (hF : F a = none) (hu : H a = some u) (ha : a ∈ α) : Stp α F H β (erase F2 a) (upd H2 a u) := by
  refine ⟨fun b hb => upd_none (s.new b hb), fun b v e => ?_, fun b o hb e => ?_, fun b e => ?_, fun b h1 h2 h3 => ?_⟩
  · have z : b ≠ a := fun z => by subst z; rw [hF] at e; cases e
    rw [erase_ne z]
    exact s.sub _ _ (by rw [upd_ne z]; exact e)
  · have z : b ≠ a := fun z => hb (z ▸ ha)
    rw [upd_ne z]
    exact s.frame b o hb (by rw [upd_ne z]; exact e)
  · have z : b ≠ a := fun z => by subst z; rw [upd_same] at e; cases e
    rw [upd_ne z] at e
    have := s.live b e
    rw [upd_ne z] at this
    exact this
  · have z : b ≠ a := fun z => h1 (z ▸ ha)
    rw [erase_ne z]
    exact s.fnew b h1 (by rw [upd_ne z]; exact h2) (by rw [upd_ne z]; exact h3)
theorem Slots.stay {σ : L2.St} {δ : Sl} (s : SubS F F') (h : Slots wd K mg F α σ δ) : Slots wd K mg F' α σ δ := ⟨h.1, fun i d e => let ⟨v, h1, h2⟩ := h.2 i d e; ⟨v, h1, h2.stay s⟩⟩
end
/-- the dict that slot i holds, if it is open -/
def lockAt (δ : Sl) (S : Sto) (i : Nat) : Option (Nat × D) := match δ[i]? with
  | some (some (.ptr k)) => (match S[k]? with
    | some (.dct kvs) => some (k, .dct kvs)
    | some (.dcn kvs) => some (k, .dcn kvs)
    | _ => none)
  | _ => none
def unlk (k : Nat) (S : Sto) : Option Sto := match S[k]? with
  | some (.lck d) => some (S.set k d)
  | _ => none
def unlkO (k : Nat) : Out → Out
  | .nx δ S => (match unlk k S with | some S' => .nx δ S' | none => .stuck)
  | .rt d S => (match unlk k S with | some S' => .rt d S' | none => .stuck)
  | .bk δ S => (match unlk k S with | some S' => .bk δ S' | none => .stuck)
  | .ct δ S => (match unlk k S with | some S' => .ct δ S' | none => .stuck)
  | o => o
/-- the dict of slot i is locked meanwhile -/
def sLock (i : Nat) (r : RS) : RS := fun δ S => match lockAt δ S i with
  | some (k, d) => unlkO k (r δ (S.set k (.lck d)))
  | none => r δ S
section
variable {X : Cx} {W : WX} {st : Stmt} {e : Expr} {r : RS} {ra : RE} {wd : World} {K : Fg} {mg : Str → Option Value} {α β : List Addr} {F F' H H1 : Hp} {S : Sto}
/-- locked, or not -/
def tMay (t : TS) : TS := fun D σ H => t D σ H ∨ tLock t D σ H
theorem ps_may {t : TS} (h : PS X st t) : PS X st (tMay t) := ⟨fun pins s σ H D I q => q.elim (h.run pins s σ H D I) ((ps_lock h).run pins s σ H D I)⟩
theorem psd_lock (i : Nat) (h : PSd X W st r) : PSd X W st (sLock i r) := by
  obtain ⟨t, p1, s1⟩ := h.ex
  refine ⟨_, ps_may p1, fun α F σ H δ S E hr hs q => ?_⟩
  unfold sLock at q
  split at q
  · rename_i k d e1
    refine .inr ?_
    unfold lockAt at e1
    split at e1
    · rename_i k' e2
      obtain ⟨v, g1, g2⟩ := hs.2 i _ e2
      cases g2 with
      | @ptr _ a ea =>
        have key : ∃ d', S[k']? = some d' ∧ k = k' ∧ d = d' ∧ ((∃ kvs, d' = .dct kvs) ∨ ∃ kvs, d' = .dcn kvs) := by
          split at e1
          · rename_i kvs e3; cases e1; exact ⟨_, e3, rfl, rfl, .inl ⟨_, rfl⟩⟩
          · rename_i kvs e3; cases e1; exact ⟨_, e3, rfl, rfl, .inr ⟨_, rfl⟩⟩
          · cases e1
        obtain ⟨d', e3, rfl, rfl, hd⟩ := key
        clear e1
        obtain ⟨o1, o2⟩ := hr.own _ _ _ ea e3
        obtain ⟨u, hu, hl⟩ : ∃ u, H a = some u ∧ Lkd X.w a u := by
          rcases hd with ⟨kvs, rfl⟩ | ⟨kvs, rfl⟩
          · obtain ⟨ws, q1, _⟩ := o1; exact ⟨_, q1, .inl ⟨ws, rfl⟩⟩
          · obtain ⟨xs, q1, _⟩ := o1; exact ⟨_, q1, .inr ⟨xs, rfl⟩⟩
        refine ⟨a, u, hu, hl.mut, fun od => ?_⟩
        obtain ⟨r1, sb, hF⟩ := hr.lock od ea e3 hd hu hl
        have hs1 := hs.mono (β := []) sb
        rw [List.append_nil] at hs1
        have ha : a ∈ α := List.mem_of_getElem? ea
        refine s1 α _ σ _ δ _ _ r1 hs1 ?_
        have fin : ∀ {S' : Sto} {β : List Addr} {F' H' : Hp}, Rel X.w X.K X.mg (α ++ β) F' H' S' → Stp α (upd F a (.frz od u)) (upd H a (.frz od u)) β F' H' → ∀ S2, unlk k S' = some S2 →
            H' a = some (.frz od u) ∧ Rel X.w X.K X.mg (α ++ β) (erase F' a) (upd H' a u) S2 ∧ Stp α F H β (erase F' a) (upd H' a u) ∧ SubS F' (erase F' a) := by
          intro S' β F' H' r2 st2 S2 e4
          have f1 : F' a = some (.frz od u) := st2.sub _ _ upd_same
          unfold unlk at e4
          split at e4
          · rename_i d2 e5
            cases e4
            exact ⟨r2.sub _ _ f1, r2.unlock (at_app ea) e5 f1 hl, st2.lock hF hu ha, erase_stay f1 hl⟩
          · cases e4
        cases c : r δ (S.set k (.lck d)) with
        | nx δ' S' =>
          rw [c] at q
          intro σ' H' β F' r2 st2 sl2
          unfold unlkO at q
          dsimp only at q
          split at q
          · rename_i S2 e4
            obtain ⟨f1, f2, f3, f4⟩ := fin r2 st2 S2 e4
            exact ⟨f1, q _ _ _ _ f2 f3 (sl2.stay f4)⟩
          · exact q.elim
        | rt v S' =>
          rw [c] at q
          intro σ' H' β F' r2 st2 sl2
          unfold unlkO at q
          dsimp only at q
          split at q
          · rename_i S2 e4
            obtain ⟨f1, f2, f3, f4⟩ := fin r2 st2 S2 e4
            exact ⟨f1, q _ _ _ _ f2 f3 (sl2.stay f4)⟩
          · exact q.elim
        | bk δ' S' =>
          rw [c] at q
          intro σ' H' β F' r2 st2 sl2
          unfold unlkO at q
          dsimp only at q
          split at q
          · rename_i S2 e4
            obtain ⟨f1, f2, f3, f4⟩ := fin r2 st2 S2 e4
            exact ⟨f1, q _ _ _ _ f2 f3 (sl2.stay f4)⟩
          · exact q.elim
        | ct δ' S' =>
          rw [c] at q
          intro σ' H' β F' r2 st2 sl2
          unfold unlkO at q
          dsimp only at q
          split at q
          · rename_i S2 e4
            obtain ⟨f1, f2, f3, f4⟩ := fin r2 st2 S2 e4
            exact ⟨f1, q _ _ _ _ f2 f3 (sl2.stay f4)⟩
          · exact q.elim
        | err cl fs δ' S' =>
          rw [c] at q
          intro cls dd σ' H' β F' r2 st2 sl2 er
          refine q cls dd σ' H' β F' r2 ⟨fun b hb => upd_none (st2.new b hb), sb.trans st2.sub, fun b o hb e => ?_, fun b e => upd_none (st2.live b e), fun b h1 h2 h3 => ?_⟩ sl2 er
          · have z : b ≠ a := fun z => hb (z ▸ ha)
            exact st2.frame b o hb (by rw [upd_ne z]; exact e)
          · have z : b ≠ a := fun z => h1 (z ▸ ha)
            exact st2.fnew b h1 (by rw [upd_ne z]; exact h2) (by rw [upd_ne z]; exact h3)
        | stuck => rw [c] at q; exact q.elim
    · cases e1
  · exact .inl (s1 α F σ H δ S E hr hs q)
end
end DL
set_option Elab.async false
set_option linter.all false
set_option maxRecDepth 100000
set_option maxHeartbeats 4000000
set_option autoImplicit false
/-! Data layer: order of data, sorting, the greatest and the least. -/
namespace DL
open PySem PySem.Spec PyProof.Rows L2
def notNone : PyData → Bool
  | .none => false
  | _ => true
/-- two data that may be compared -/
def twoD (S : Sto) (d e : D) : Option (PyData × PyData) := match toPy S (deref S d), toPy S (deref S e) with
  | some x, some y => if PySem.W.alike x y && (notNone x && decide (x.depth ≤ 40)) then some (x, y) else none
  | _, _ => none
def gLtU : Sto → D → D → Option D := fun S d e => match d, e with
  | .int i, .int j => some (.bl (decide (i < j)))
  | _, _ => (twoD S d e).map fun p => .bl (PySem.W.dataLt p.1 p.2)
def gLeU : Sto → D → D → Option D := fun S d e => match d, e with
  | .int i, .int j => some (.bl (decide (i ≤ j)))
  | _, _ => (twoD S d e).map fun p => .bl (!PySem.W.dataLt p.2 p.1)
def gGtU : Sto → D → D → Option D := fun S d e => match d, e with
  | .int i, .int j => some (.bl (decide (j < i)))
  | _, _ => (twoD S d e).map fun p => .bl (PySem.W.dataLt p.2 p.1)
def gGeU : Sto → D → D → Option D := fun S d e => match d, e with
  | .int i, .int j => some (.bl (decide (j ≤ i)))
  | _, _ => (twoD S d e).map fun p => .bl (!PySem.W.dataLt p.1 p.2)
def rCmp (K : Fg) (f : PyData → PyData → Bool) : R2 := fun x y H Q => ∃ d e, Dp K H x d ∧ Dp K H y e ∧ PySem.W.alike d e = true ∧ d ≠ .none ∧ d.depth ≤ 40 ∧ Q (.bl (f d e)) H
section
variable {X : Cx}
theorem op_ltU (hu : X.A.units + 64 < cLine) : OpR X (compareOp .Lt) (rCmp X.K PySem.W.dataLt) := by
  intro pins s σ H x y v u Q I rx ry h
  obtain ⟨d, e, hd, he, al, nn, dp, q⟩ := h
  obtain ⟨as, r1⟩ := Dp.reads I d x v hd rx
  obtain ⟨bs, r2⟩ := Dp.reads I e y u he ry
  exact PySem.W.lt_data r1 r2 al nn (by omega) ⟨.bl _, H, I, rfl, q⟩
theorem op_leU (hu : X.A.units + 64 < cLine) : OpR X (compareOp .LtE) (rCmp X.K fun d e => !PySem.W.dataLt e d) := by
  intro pins s σ H x y v u Q I rx ry h
  obtain ⟨d, e, hd, he, al, nn, dp, q⟩ := h
  obtain ⟨as, r1⟩ := Dp.reads I d x v hd rx
  obtain ⟨bs, r2⟩ := Dp.reads I e y u he ry
  exact PySem.W.le_data r1 r2 al nn (by omega) ⟨.bl _, H, I, rfl, q⟩
theorem op_gtU (hu : X.A.units + 64 < cLine) : OpR X (compareOp .Gt) (rCmp X.K fun d e => PySem.W.dataLt e d) := by
  intro pins s σ H x y v u Q I rx ry h
  obtain ⟨d, e, hd, he, al, nn, dp, q⟩ := h
  obtain ⟨as, r1⟩ := Dp.reads I d x v hd rx
  obtain ⟨bs, r2⟩ := Dp.reads I e y u he ry
  exact PySem.W.gt_data r1 r2 al nn (by omega) ⟨.bl _, H, I, rfl, q⟩
theorem op_geU (hu : X.A.units + 64 < cLine) : OpR X (compareOp .GtE) (rCmp X.K fun d e => !PySem.W.dataLt d e) := by
  intro pins s σ H x y v u Q I rx ry h
  obtain ⟨d, e, hd, he, al, nn, dp, q⟩ := h
  obtain ⟨as, r1⟩ := Dp.reads I d x v hd rx
  obtain ⟨bs, r2⟩ := Dp.reads I e y u he ry
  exact PySem.W.ge_data r1 r2 al nn (by omega) ⟨.bl _, H, I, rfl, q⟩
theorem alike_int (i j : Int) : PySem.W.alike (.int i) (.int j) = true := by simp [PySem.W.alike]
theorem depth_int (i : Int) : (PyData.int i).depth ≤ 40 := by simp [PyData.depth]
theorem cmpU {f : PyData → PyData → Bool} {g : Sto → D → D → Option D} {op : CmpOp} {h : Int → Int → Bool} (ho : OpR X (compareOp op) (rCmp X.K f)) (hi : ∀ i j, f (.int i) (.int j) = h i j)
    (hg : ∀ S d e z, g S d e = some z → (∃ i j, d = .int i ∧ e = .int j ∧ z = .bl (h i j)) ∨ ∃ p, twoD S d e = some p ∧ z = .bl (f p.1 p.2)) : OpG X (compareOp op) g := by
  refine ⟨_, ho, fun α F H S x y d e z Q hr hx hy hz q => ?_⟩
  rcases hg S d e z hz with ⟨i, j, rfl, rfl, rfl⟩ | ⟨p, h1, rfl⟩
  · cases hx; cases hy
    refine ⟨.int i, .int j, .int i, .int j, alike_int i j, by simp, depth_int i, ?_⟩
    rw [hi]
    exact fin_now hr (.bl _) q
  · unfold twoD at h1
    split at h1
    · rename_i x' y' e1 e2
      split at h1
      · rename_i hc
        cases h1
        rw [Bool.and_eq_true, Bool.and_eq_true] at hc
        exact ⟨x', y', hr.dp hx e1, hr.dp hy e2, hc.1, (by intro z; subst z; exact absurd hc.2.1 (by decide)), of_decide_eq_true hc.2.2, fin_now hr (.bl _) q⟩
      · cases h1
    · cases h1
theorem g_ltU (hu : X.A.units + 64 < cLine) : OpG X (compareOp .Lt) gLtU := cmpU (op_ltU hu) (h := fun i j => decide (i < j)) (fun i j => PySem.W.dataLt_int i j) fun S d e z hz => by
  unfold gLtU at hz
  split at hz
  · cases hz; exact .inl ⟨_, _, rfl, rfl, rfl⟩
  · obtain ⟨p, h1, h2⟩ := Option.map_eq_some_iff.mp hz
    exact .inr ⟨p, h1, h2.symm⟩
theorem g_gtU (hu : X.A.units + 64 < cLine) : OpG X (compareOp .Gt) gGtU := cmpU (op_gtU hu) (h := fun i j => decide (j < i)) (fun i j => PySem.W.dataLt_int j i) fun S d e z hz => by
  unfold gGtU at hz
  split at hz
  · cases hz; exact .inl ⟨_, _, rfl, rfl, rfl⟩
  · obtain ⟨p, h1, h2⟩ := Option.map_eq_some_iff.mp hz
    exact .inr ⟨p, h1, h2.symm⟩
theorem not_lt_le (i j : Int) : (!decide (j < i)) = decide (i ≤ j) := by
  by_cases h : j < i
  · rw [decide_eq_true h, decide_eq_false (by omega)]; rfl
  · rw [decide_eq_false h, decide_eq_true (by omega)]; rfl
theorem g_leU (hu : X.A.units + 64 < cLine) : OpG X (compareOp .LtE) gLeU := cmpU (op_leU hu) (h := fun i j => decide (i ≤ j)) (fun i j => by rw [PySem.W.dataLt_int]; exact not_lt_le i j) fun S d e z hz => by
  unfold gLeU at hz
  split at hz
  · cases hz; exact .inl ⟨_, _, rfl, rfl, rfl⟩
  · obtain ⟨p, h1, h2⟩ := Option.map_eq_some_iff.mp hz
    exact .inr ⟨p, h1, h2.symm⟩
theorem g_geU (hu : X.A.units + 64 < cLine) : OpG X (compareOp .GtE) gGeU := cmpU (op_geU hu) (h := fun i j => decide (j ≤ i)) (fun i j => by rw [PySem.W.dataLt_int]; exact not_lt_le j i) fun S d e z hz => by
  unfold gGeU at hz
  split at hz
  · cases hz; exact .inl ⟨_, _, rfl, rfl, rfl⟩
  · obtain ⟨p, h1, h2⟩ := Option.map_eq_some_iff.mp hz
    exact .inr ⟨p, h1, h2.symm⟩
end
/-! ### sorting -/
def tupFull : PyData → Bool
  | .tuple (_ :: _) => true
  | _ => false
def noTup : PyData → Bool
  | .none => false
  | .tuple _ => false
  | _ => true
def sortable (ps : List PyData) : Bool := (ps.all tupFull || ps.all noTup) && ((ps.all fun x => ps.all fun y => PySem.W.alike x y) && ps.all fun x => decide (x.depth ≤ 40))
def sortBy {A : Type} (xs : List A) (ps : List PyData) : List A := ((xs.zip ps).mergeSort (PySem.W.dataLe false (·.2))).map (·.1)
def sortD (S : Sto) (xs : List D) : Option (List D) := match toPys S xs with
  | some ps => if sortable ps && decide (xs.length ≤ sizeLine) then some (sortBy xs ps) else none
  | none => none
def gSorted : Sto → List D → Option D := fun S ds => match ds with
  | [d] => (match deref S d with
    | .lst xs => (sortD S xs).map .lst
    | _ => none)
  | _ => none
theorem sortBy_length {A : Type} {xs : List A} {ps : List PyData} (h : xs.length = ps.length) : (sortBy xs ps).length = xs.length := by
  unfold sortBy
  rw [List.length_map, List.length_mergeSort, List.length_zip, h, Nat.min_self]
section
open PySem.W
variable {wd : World} {K : Fg} {mg : Str → Option Value} {α β : List Addr} {F F1 H H1 : Hp} {S : Sto}
theorem dpAll_length {xs : List V} {ps : List PyData} (h : DpAll K H xs ps) : xs.length = ps.length := by
  match h with
  | .nil => rfl
  | .cons _ t => rw [List.length_cons, List.length_cons, dpAll_length t]
theorem zip_each {A B : Type} {R : A → B → Prop} : ∀ {as : List A} {bs : List B} (ps : List PyData), EachIs R as bs → EachIs (fun (x : A × PyData) (y : B × PyData) => R x.1 y.1 ∧ x.2 = y.2) (as.zip ps) (bs.zip ps)
  | _, _, _, .nil => .nil
  | _, _, [], .cons _ _ => .nil
  | _, _, p :: ps, .cons h t => .cons ⟨h, rfl⟩ (zip_each ps t)
theorem each_map2 {A B A' B' : Type} {R : A → B → Prop} {R' : A' → B' → Prop} (f : A → A') (g : B → B') (h : ∀ a b, R a b → R' (f a) (g b)) : ∀ {as : List A} {bs : List B}, EachIs R as bs → EachIs R' (as.map f) (bs.map g)
  | _, _, .nil => .nil
  | _, _, .cons a t => .cons (h _ _ a) (each_map2 f g h t)
/-- things sorted by the same data -/
theorem sortBy_each {A B : Type} {R : A → B → Prop} {as : List A} {bs : List B} (ps : List PyData) (h : EachIs R as bs) : EachIs R (sortBy as ps) (sortBy bs ps) := by
  unfold sortBy
  have z := zip_each ps h
  refine each_map2 (·.1) (·.1) (fun a b q => q.1) (sort_each z ?_)
  intro p hp q hq
  have e1 := (EachIs.zip z p hp).2
  have e2 := (EachIs.zip z q hq).2
  unfold dataLe sortLe
  dsimp only
  rw [e1, e2]
theorem each_dvs : ∀ {us : List V} {ds : List D}, EachIs (fun v d => DV wd K mg F α v d) us ds → DVs wd K mg F α us ds
  | _, _, .nil => .nil
  | _, _, .cons h t => .cons h (each_dvs t)
theorem dvs_each : ∀ {us : List V} {ds : List D}, DVs wd K mg F α us ds → EachIs (fun v d => DV wd K mg F α v d) us ds
  | _, _, .nil => .nil
  | _, _, .cons h t => .cons h (dvs_each t)
theorem DVs.sort {us : List V} {ds : List D} (h : DVs wd K mg F α us ds) (ps : List PyData) : DVs wd K mg F α (sortBy us ps) (sortBy ds ps) := each_dvs (sortBy_each ps (dvs_each h))
end
def rSortU (X : Cx) : List V → Hp → VK → Prop := fun vs H Q => ∃ (a : Addr) (us : List V) (ps : List PyData), vs = [.ref a] ∧ SqL X.K H a us ∧ DpAll X.K H us ps ∧ sortable ps = true ∧ us.length ≤ sizeLine ∧ Lays H (sortBy us ps) Q
section
open PySem.W
variable {X : Cx} {W : WX} {a b c e tg : Expr} {es rest : List Expr} {ra rb rc : RE} {rs : RA} {pos p : Pos}
theorem vals_each {s : Shared} {σ : L2.St} {H : Hp} {pins : List (Addr × Obj)} (I : Inv X pins σ H s) : ∀ {us : List V} {ps : List PyData} {vs : List Value}, DpAll X.K H us ps → Vals us vs →
    EachIs (fun u (b : V × PyData) => RelV b.1 u) vs (us.zip ps) ∧ EachIs (fun u (b : V × PyData) => ∃ as, Reads s.heap u b.2 as) vs (us.zip ps)
  | _, _, _, .nil, r => by cases r; exact ⟨.nil, .nil⟩
  | _, _, _, .cons h t, r => by
    cases r with
    | cons r1 r2 =>
      obtain ⟨h1, h2⟩ := vals_each I t r2
      exact ⟨.cons r1 h1, .cons (Dp.reads I _ _ _ h r1) h2⟩
theorem each_vals : ∀ {us : List V} {vs : List Value}, EachIs (fun u v => RelV v u) vs us → Vals us vs
  | _, _, .nil => .nil
  | _, _, .cons h t => .cons h (each_vals t)
theorem cr_sortU (hu : X.A.units + 64 < cLine) : CallR X (.builtin "sorted") (rSortU X) := by
  intro pins s σ H vs us Q I r h
  obtain ⟨a, xs, ps, rfl, hs, hd, hk, hl, q⟩ := h
  obtain ⟨its, rv, pl, _⟩ := I.list hs
  rw [Vals.ref1 r]
  obtain ⟨e1, e2⟩ := vals_each I hd rv
  unfold sortable at hk
  rw [Bool.and_eq_true, Bool.and_eq_true, Bool.or_eq_true] at hk
  obtain ⟨k1, k2, k3⟩ := hk
  have ml : (xs.zip ps).map (·.2) = ps := List.map_snd_zip (by rw [(dpAll_length hd)]; exact Nat.le_refl _)
  have hal : AllAlike ((xs.zip ps).map (·.2)) := by
    rw [ml]
    intro d hd d' hd'
    exact List.all_eq_true.mp (List.all_eq_true.mp k2 d hd) d' hd'
  have hso : Sortable ((xs.zip ps).map (·.2)) := by
    rw [ml]
    rcases k1 with k1 | k1
    · refine .inl fun d hd => ?_
      have := List.all_eq_true.mp k1 d hd
      match d, this with
      | .tuple (x :: r), _ => exact ⟨x, r, rfl⟩
    · refine .inr fun d hd => ?_
      have := List.all_eq_true.mp k1 d hd
      refine ⟨fun z => ?_, fun xs z => ?_⟩ <;> subst z <;> exact absurd this (by simp [noTup])
  refine sorted_data (enc := fun b : V × PyData => b.2) pl.isList e1 e2 hal hso (by rw [List.length_zip, (dpAll_length hd), Nat.min_self, ← (dpAll_length hd)]; exact hl) (fun b hb => ?_) fun out h1 h2 => ?_
  · have := of_decide_eq_true (List.all_eq_true.mp k3 b.2 (by rw [← ml]; exact List.mem_map.mpr ⟨b, hb, rfl⟩))
    omega
  · obtain ⟨ep, he'⟩ := PyProof.Rows.sortedAll_at s.heap its (List.toArray out)
    have hv : Vals (sortBy xs ps) out := each_vals (by
      have := each_map2 (R' := fun u v => RelV v u) (fun x => x) (fun b : V × PyData => b.1) (fun _ _ q => q) h2
      rw [List.map_id'] at this
      exact this)
    have hlen : (sortBy xs ps).length ≤ sizeLine := by rw [sortBy_length (dpAll_length hd)]; exact hl
    exact ⟨.ref _, upd H (s.heap.objs.size + 1) (.lst (sortBy xs ps)), I.laid (t' := s.toks) (fun _ _ => PyProof.Rows.sortedAll_old) (Nat.le_succ _) ⟨hlen, out, ep, hv, he'⟩, rfl, q _ (I.hok.fresh (Nat.le_succ _))⟩
/-- by a call of a built-in -/
theorem pf_callB {x : Str} {T : String} {g : Sto → List D → Option D} {r : List V → Hp → VK → Prop} (hc : CallR X (.builtin T) r) (hgk : ∀ α F H S xs ds z Q, Rel X.w X.K X.mg α F H S → DVs X.w X.K X.mg F α xs ds → g S ds = some z → ∃ es us, z = .lst es ∧ DVs X.w X.K X.mg F α us es ∧ (Lays H us Q → r xs H Q))
    (hm : X.mg x = none) (ha : PDs X W (e :: es) rs) (hg : Gl X x := by rfl) (hv : bootBuiltins x = some (.builtin T) := by decide +kernel) (hn : x ≠ "__name__" := by decide) (hdb : (x == ("__debug__" : Str)) = false := by decide)
    (he : starEach (e :: es) X.env = (false, eval e X.env) :: starEach es X.env := by rfl) (hpl : (backTo pos (starEach es X.env)).any (·.1) = false := by rfl) : PF X W (.Call (.Name x p) (e :: es) [] pos) (rAs g rs) := by
  obtain ⟨t, pt, st⟩ := ha.ex
  refine ⟨_, pe_callB hc hg hm hv pt hn hdb he hpl, fun α F σ H δ S Q hr hs h => ?_⟩
  refine st α F σ H δ S _ hr hs (wpF.bind h fun ds S1 _ xs H1 β F1 r1 q1 v1 h1 => ?_)
  cases eg : g S1 ds with
  | none => rw [eg] at h1; exact h1.elim
  | some z =>
    rw [eg] at h1
    obtain ⟨es', us, rfl, e1, e2⟩ := hgk _ F1 H1 S1 xs ds z Q r1 v1 eg
    exact e2 fun p hp => wpF.lay h1 r1 hp ⟨us, upd_same, e1⟩ rfl
theorem pf_sorted (hu : X.A.units + 64 < cLine) (hm : X.mg "sorted" = none) (ha : PDs X W (e :: es) rs) (hg : Gl X "sorted" := by rfl) (he : starEach (e :: es) X.env = (false, eval e X.env) :: starEach es X.env := by rfl) (hpl : (backTo pos (starEach es X.env)).any (·.1) = false := by rfl) :
    PF X W (.Call (.Name "sorted" p) (e :: es) [] pos) (rAs gSorted rs) := pf_callB (cr_sortU hu) (fun α F H S xs ds z Q hr hv hz => by
  unfold gSorted at hz
  split at hz
  · cases hv with
    | cons h1 h2 =>
      cases h2
      split at hz
      · rename_i ys e1
        obtain ⟨zs, e2, rfl⟩ := Option.map_eq_some_iff.mp hz
        obtain ⟨l, us, rfl, a1, a2⟩ := hr.viewL h1 e1
        unfold sortD at e2
        split at e2
        · rename_i ps e3
          split at e2
          · rename_i hc
            cases e2
            rw [Bool.and_eq_true] at hc
            exact ⟨_, sortBy us ps, rfl, a2.sort ps, fun q => ⟨l, us, ps, rfl, a1, a2.dp e3 hr.sub, hc.1, by rw [a2.length]; exact of_decide_eq_true hc.2, q⟩⟩
          · cases e2
        · cases e2
      · cases hz
  · cases hz) hm ha hg (by decide +kernel) (by decide) (by decide) he hpl
end
/-! ### the greatest and the least of numbers -/
end DL
set_option Elab.async false
set_option linter.all false
set_option maxRecDepth 100000
set_option maxHeartbeats 4000000
set_option autoImplicit false
/-! Data layer: dict() of pairs. -/
namespace DL
open PySem PySem.Spec PyProof.Rows L2
/-! ### by values -/
/-- tuples of two -/
def PairsV (K : Fg) (H : Hp) : List V → List (V × V) → Prop := Paired fun u pr => ∃ p, u = .ref p ∧ SqT K H p [pr.1, pr.2]
def mergeV (xs more : List (NestedKey × Addr × V)) : List (NestedKey × Addr × V) := more.foldl (fun acc x => putV acc x.1 x.2.1 x.2.2) xs
theorem NV.merge : ∀ {ys : List (NestedKey × Addr × V)} {ws : List (NestedKey × Addr × Value)}, NV ys ws → ∀ {xs : List (NestedKey × Addr × V)} {vs : List (NestedKey × Addr × Value)}, NV xs vs → NV (mergeV xs ys) (storedAllH vs ws) := by
  intro ys ws h
  unfold NV at h
  induction h with
  | nil => exact fun g => g
  | @cons a b l₁ l₂ r t ih =>
    intro xs vs g
    show NV (mergeV (putV xs a.1 a.2.1 a.2.2) l₁) (storedAllH (storedH vs b.1 b.2.1 b.2.2) l₂)
    have := g.put a.1 a.2.1 r.2.2
    rw [← r.1, ← r.2.1]
    exact ih this
theorem mergeV_length (ys : List (NestedKey × Addr × V)) : ∀ xs : List (NestedKey × Addr × V), (mergeV xs ys).length ≤ xs.length + ys.length := by
  induction ys with
  | nil => intro xs; exact Nat.le_refl _
  | cons y ys ih =>
    intro xs
    have := ih (putV xs y.1 y.2.1 y.2.2)
    have := putV_length xs y.1 y.2.1 y.2.2
    rw [List.length_cons]
    show (mergeV (putV xs y.1 y.2.1 y.2.2) ys).length ≤ _
    omega
section
variable {X : Cx} {pins : List (Addr × Obj)} {σ : L2.St} {H : Hp} {s : Shared}
theorem pairs_vals (I : Inv X pins σ H s) : ∀ {us : List V} {prs : List (V × V)} {vs : List Value}, PairsV X.K H us prs → Vals us vs →
    ∃ (Ts : List Addr) (ps : List (Value × Value)), vs = Ts.map Value.ref ∧ Ts.length = ps.length ∧ Paired (fun a b => RelV a.1 b.1 ∧ RelV a.2 b.2) prs ps ∧ ∀ (j : Nat) (k v : Value), ps[j]? = some (k, v) → ∃ t, Ts[j]? = some t ∧ IsTup s.heap t #[k, v]
  | _, _, _, .nil, r => by cases r; exact ⟨[], [], rfl, rfl, .nil, fun j k v e => by simp at e⟩
  | _, _, _, .cons (a := u) (b := pr) h t, r => by
    cases r with
    | @cons _ w _ vs r1 r2 =>
      obtain ⟨p, rfl, hp⟩ := h
      obtain rfl : w = Value.ref p := r1
      obtain ⟨Ts, ps, e1, e2, e3, e4⟩ := pairs_vals I t r2
      obtain ⟨its, rv, ht, _⟩ := I.tuple hp
      obtain ⟨k, v, ei, rk, rv'⟩ := vals2 rv
      subst ei
      refine ⟨p :: Ts, (k, v) :: ps, by rw [e1]; rfl, by rw [List.length_cons, List.length_cons, e2], .cons ⟨rk, rv'⟩ e3, fun j k' v' e => ?_⟩
      cases j with
      | zero => simp at e; obtain ⟨rfl, rfl⟩ := e; exact ⟨p, rfl, ht⟩
      | succ j => simp at e; obtain ⟨t', h1, h2⟩ := e4 j k' v' e; exact ⟨t', by simpa using h1, h2⟩
/-- what may be handed to dict() -/
def DArg (K : Fg) (H : Hp) (a : Addr) (us : List V) : Prop := SqL K H a us ∨ PlT K H a us
theorem darg_at (I : Inv X pins σ H s) {a : Addr} {us : List V} (h : DArg X.K H a us) : ∃ (T : String) (its : List Value), (T = "list" ∨ T = "tuple") ∧ Vals us its ∧ us.length ≤ sizeLine ∧ PlainSeq T s.heap a its.toArray := by
  rcases h with h | ⟨h, q⟩
  · obtain ⟨its, rv, ⟨o, n, ho, hc, hd, hdat⟩, hz⟩ := I.list h
    exact ⟨"list", its, .inl rfl, rv, hz, o, n, ho, hc, hd, hdat⟩
  · obtain ⟨its, rv, ⟨o, ho, hc, n, hdat⟩, hz⟩ := I.tuple h
    refine ⟨"tuple", its, .inr rfl, rv, hz, o, n, ho, hc, ?_, hdat⟩
    rcases q with ⟨o', e, hd⟩ | ⟨o', e, hd⟩
    · obtain ⟨e', _⟩ := I.hok a _ e
      rw [ho] at e'; cases e'; exact hd
    · rw [I.kIn _ _ e] at ho; cases ho; exact hd
theorem pairItems_of {Ts : List Addr} {ps : List (Value × Value)} (hl : Ts.length = ps.length) (h : ∀ (j : Nat) (k v : Value), ps[j]? = some (k, v) → ∃ t, Ts[j]? = some t ∧ IsTup s.heap t #[k, v]) : PairItems s.heap (Ts.map Value.ref).toArray (fun j => Ts.getD j 0) ps := by
  refine ⟨by simp [hl], fun j k v e => ?_⟩
  obtain ⟨t, h1, h2⟩ := h j k v e
  have e2 : Ts.getD j 0 = t := by rw [List.getD_eq_getElem?_getD, h1]; rfl
  dsimp only
  rw [e2]
  exact ⟨by simp [h1], .inl h2⟩
theorem dict_arg {T : String} {a : Addr} {Ts : List Addr} {ps : List (Value × Value)} (hT : T = "list" ∨ T = "tuple") :
    PairArg X.prog X.w T a (a :: (List.range ps.length).map fun j => Ts.getD j 0) [] ps.length (PairRel ps) (fun h => PlainSeq T h a (Ts.map Value.ref).toArray ∧ PairItems h (Ts.map Value.ref).toArray (fun j => Ts.getD j 0) ps) := by
  rcases hT with rfl | rfl
  · exact PairArg.list a _ _ ps
  · exact PairArg.tuple a _ _ ps
end
section
variable {X : Cx}
/-- dict(pairs), keys ints and texts -/
theorem cr_dictK (hc : X.calm = true) : CallR X (.type "dict") (fun xs H Q => ∃ (a : Addr) (us : List V) (kvs : List (Key × V)), xs = [.ref a] ∧ DArg X.K H a us ∧ PairsV X.K H us (kvs.map fun p => (kV p.1, p.2)) ∧ ∀ p, H p = none → Q (.ref p) (upd H p (.dK (mergeK [] kvs)))) := by
  intro pins s σ H xs vs Q I r q
  obtain ⟨a, us, kvs, rfl, ha, hp, q⟩ := q
  rw [Vals.ref1 r]
  obtain ⟨T, its, hT, rv, hz, pl⟩ := darg_at I ha
  obtain ⟨Ts, ps, rfl, hl, rel, hat⟩ := pairs_vals I hp rv
  obtain ⟨kvs', rel', hk'⟩ : ∃ kvs' : List (Key × Value), KV kvs kvs' ∧ ∀ (i : Nat) (key v : Value), ps[i]? = some (key, v) → ∃ k, kvs'[i]? = some (k, v) ∧ (mixKind X.prog X.w).is k key = true := by
    clear hat hl pl hp q rv
    generalize e : kvs.map (fun p => (kV p.1, p.2)) = prs at rel
    induction rel generalizing kvs with
    | nil =>
      cases kvs with
      | nil => exact ⟨[], .nil, fun i k v e => by simp at e⟩
      | cons _ _ => cases e
    | @cons pr p l₁ l₂ h t ih =>
      cases kvs with
      | nil => cases e
      | cons kv kvs =>
        cases e
        obtain ⟨kvs', h1, h2⟩ := ih kvs rfl
        refine ⟨(kv.1, p.2) :: kvs', .cons ⟨rfl, h.2⟩ h1, fun i key v e => ?_⟩
        cases i with
        | zero => simp at e; subst e; exact ⟨kv.1, rfl, kV_is h.1⟩
        | succ i => simp at e; obtain ⟨k, e1, e2⟩ := h2 i key v e; exact ⟨k, by simpa using e1, e2⟩
  have hlen : kvs'.length = ps.length := by
    have h1 := Paired.length rel'
    have h2 := Paired.length rel
    rw [List.length_map] at h2
    omega
  have hzp : ps.length ≤ sizeLine := by
    have := rv.length
    rw [List.length_map] at this
    omega
  refine PySem.call_dict_pairs (knd := mixKind X.prog X.w) (kvs := kvs') (dict_arg (X := X) (a := a) (Ts := Ts) (ps := ps) hT) (I.ok.hd hc) ⟨pl, pairItems_of hl hat⟩ ⟨hlen, hk'⟩ hzp fun h' tk hd' k => ?_
  have hm : (s.heap.objs.size == sysModules) = false := beq_eq_false_iff_ne.mpr (Nat.ne_of_gt I.big)
  have hl2 : (mergeK [] kvs).length ≤ sizeLine := by
    refine Nat.le_trans (length_mergeK kvs []) ?_
    have := Paired.length rel'
    rw [List.length_nil, Nat.zero_add]
    omega
  exact ⟨.ref s.heap.objs.size, upd H s.heap.objs.size (.dK (mergeK [] kvs)), I.laid (t' := tk) (fun b o e => k b o (by simp) e) (Nat.le_refl _) (show ObjOk X.prog X.w _ _ _ (.dK (mergeK [] kvs)) from ⟨hl2, hm, merged [] kvs', KV.merge rel' .nil, hd'⟩), rfl, q _ (I.hok.fresh (Nat.le_refl _))⟩
/-- dict(pairs), keys tuples -/
theorem cr_dictN (hc : X.calm = true) (hu : X.A.units + 12 < cLine) : CallR X (.type "dict") (fun vs H Q => ∃ (a : Addr) (us : List V) (xs : List (NestedKey × Addr × V)), vs = [.ref a] ∧ DArg X.K H a us ∧ NKeys X.K H xs ∧ PairsV X.K H us (xs.map fun x => (.ref x.2.1, x.2.2)) ∧ ∀ p, H p = none → Q (.ref p) (upd H p (dN X.w p (mergeV [] xs)))) := by
  intro pins s σ H vs0 vs Q I r q
  obtain ⟨a, us, xs, rfl, ha, hk, hp, q⟩ := q
  rw [Vals.ref1 r]
  obtain ⟨T, its, hT, rv, hz, pl⟩ := darg_at I ha
  obtain ⟨Ts, ps, rfl, hl, rel, hat⟩ := pairs_vals I hp rv
  obtain ⟨ys, rel', hk'⟩ : ∃ ys : List (NestedKey × Addr × Value), NV xs ys ∧ ∀ (i : Nat) (key v : Value), ps[i]? = some (key, v) → ∃ k b, ys[i]? = some (k, b, v) ∧ key = .ref b := by
    clear hat hl pl hp q rv hk
    generalize e : xs.map (fun x => (V.ref x.2.1, x.2.2)) = prs at rel
    induction rel generalizing xs with
    | nil =>
      cases xs with
      | nil => exact ⟨[], .nil, fun i k v e => by simp at e⟩
      | cons _ _ => cases e
    | @cons pr p l₁ l₂ h t ih =>
      cases xs with
      | nil => cases e
      | cons x xs =>
        cases e
        obtain ⟨ys, h1, h2⟩ := ih xs rfl
        refine ⟨(x.1, x.2.1, p.2) :: ys, .cons ⟨rfl, rfl, h.2⟩ h1, fun i key v e => ?_⟩
        cases i with
        | zero => simp at e; subst e; exact ⟨x.1, x.2.1, rfl, h.1⟩
        | succ i => simp at e; obtain ⟨k, b, e1, e2⟩ := h2 i key v e; exact ⟨k, b, by simpa using e1, e2⟩
  have hlen : ys.length = ps.length := by
    have h1 := rel'.length
    have h2 := Paired.length rel
    rw [List.length_map] at h2
    omega
  have hzp : ps.length ≤ sizeLine := by
    have := rv.length
    rw [List.length_map] at this
    omega
  have hst : KeysStay (nestedKind X.prog X.w) s.heap s.heap.objs.size [] ys := by
    intro h' kp x hx
    obtain ⟨i, hi⟩ := List.mem_iff_getElem?.mp hx
    obtain ⟨y, hy⟩ : ∃ y, xs[i]? = some y := ⟨_, List.getElem?_eq_getElem (by rw [rel'.length]; exact (List.getElem?_eq_some_iff.mp hi).1)⟩
    obtain ⟨z, hz, q1, q2, _⟩ := paired_get rel' hy
    rw [hi] at hz
    cases hz
    obtain ⟨k1, k2⟩ := hk y (List.mem_of_getElem? hy)
    rw [← q1, ← q2]
    exact ⟨NestedIs.at (fun b o vs n hb _ => kp b o (Nat.ne_of_lt (Heap.lt_size hb)) (by simp) hb) _ _ (NK.is I k1 rfl), k2⟩
  refine PySem.call_dict_pairsH (knd := nestedKind X.prog X.w) (ps := ys) (dict_arg (X := X) (a := a) (Ts := Ts) (ps := ps) hT) (I.ok.hd hc) (show X.A.units + 1 + 1 + 8 < cLine by omega) ⟨pl, pairItems_of hl hat⟩ ⟨hlen, hk'⟩ hst hzp fun h' tk hd' k => ?_
  have hm : (s.heap.objs.size == sysModules) = false := beq_eq_false_iff_ne.mpr (Nat.ne_of_gt I.big)
  have hl2 : (mergeV [] xs).length ≤ sizeLine := by
    have h1 := mergeV_length xs []
    have h2 := rel'.length
    rw [List.length_nil] at h1
    omega
  have rm := NV.merge rel' (xs := []) (vs := []) .nil
  obtain ⟨o, es, ep, g1, g2, g3, g4, _, g5⟩ := hd'
  have new : ObjOk X.prog X.w (upd H s.heap.objs.size (dN X.w s.heap.objs.size (mergeV [] xs))) h' s.heap.objs.size (dN X.w s.heap.objs.size (mergeV [] xs)) :=
    ⟨⟨hm, hl2, by rw [rm.keys]; exact g5, _, rm, o, es, ep, g1, g2, g3, g4⟩, ⟨o, g1⟩, fun z1 z2 ⟨p1, p2, p3, vs', p4, o', es', ep', p5, p6⟩ st => ⟨p1, p2, p3, vs', p4, o', es', ep', st _ p5, p6⟩⟩
  exact ⟨.ref s.heap.objs.size, _, I.laid (t' := tk) (fun b o e => k b o (by simp) e) (Nat.le_refl _) new, rfl, q _ (I.hok.fresh (Nat.le_refl _))⟩
end
/-! ### by data -/
def pairOf : D → Option (D × D)
  | .tup [k, v] => some (k, v)
  | _ => none
def pairsOf : List D → Option (List (D × D))
  | [] => some []
  | d :: r => match pairOf d, pairsOf r with
    | some p, some ps => some (p :: ps)
    | _, _ => none
def dictOf (kvs : List (D × D)) : Option D := if kvs.all (fun p => isKey p.1) then some (.dct (mergeD [] kvs)) else if kvs.all (fun p => isKeyN p.1) then some (.dcn (mergeN [] kvs)) else none
def gDict : Sto → List D → Option D := fun S ds => match ds with
  | [d] => (match deref S d with
    | .lst xs => (pairsOf xs).bind dictOf
    | .tup xs => (pairsOf xs).bind dictOf
    | .dct kvs => some (.dct kvs)
    | _ => none)
  | _ => none
section
variable {wd : World} {K : Fg} {mg : Str → Option Value} {α β : List Addr} {F F1 H H1 : Hp} {S : Sto}
/-- the pairs, by values -/
theorem pairs_see (s : Sub F H) : ∀ {us : List V} {ds : List D} {kvs : List (D × D)}, DVs wd K mg F α us ds → pairsOf ds = some kvs → ∃ prs : List (V × V), PairsV K H us prs ∧ DVs wd K mg F α (prs.map (·.1)) (kvs.map (·.1)) ∧ DVs wd K mg F α (prs.map (·.2)) (kvs.map (·.2))
  | _, [], kvs, h, e => by
    unfold pairsOf at e
    cases e
    cases h
    exact ⟨[], .nil, .nil, .nil⟩
  | _, d :: ds, kvs, h, e => by
    unfold pairsOf at e
    split at e
    · rename_i p ps e1 e2
      cases e
      cases h with
      | cons h1 h2 =>
        obtain ⟨prs, g1, g2, g3⟩ := pairs_see s h2 e2
        unfold pairOf at e1
        split at e1
        · cases e1
          cases h1 with
          | tup q t =>
            cases t with
            | cons t1 t2 => cases t2 with
              | cons t2 t3 =>
                cases t3
                exact ⟨(_, _) :: prs, .cons ⟨_, rfl, s.sqT q.1⟩ g1, .cons t1 g2, .cons t2 g3⟩
        · cases e1
    · cases e
theorem nkeysOf (s : Sub F H) : ∀ {kvs : List (D × D)} {prs : List (V × V)}, kvs.all (fun p => isKeyN p.1) = true → DVs wd K mg F α (prs.map (·.1)) (kvs.map (·.1)) → DVs wd K mg F α (prs.map (·.2)) (kvs.map (·.2)) →
    ∃ xs : List (NestedKey × Addr × V), prs = xs.map (fun x => (.ref x.2.1, x.2.2)) ∧ NVs wd K mg F α xs kvs
  | [], [], _, _, _ => ⟨[], rfl, .nil⟩
  | [], _ :: _, _, h, _ => by have := h.length; simp at this
  | _ :: _, [], _, h, _ => by have := h.length; simp at this
  | (q, d) :: kvs, (x, y) :: ps, hk, h, g => by
    rw [List.all_cons, Bool.and_eq_true] at hk
    have h' : DVs wd K mg F α (x :: ps.map (·.1)) (q :: kvs.map (·.1)) := h
    have g' : DVs wd K mg F α (y :: ps.map (·.2)) (d :: kvs.map (·.2)) := g
    cases h' with
    | cons h1 h2 =>
      cases g' with
      | cons g1 g2 =>
        obtain ⟨xs, e1, e2⟩ := nkeysOf s hk.2 h2 g2
        obtain ⟨ds, nk, eq, k1, k2⟩ := isKeyN_ex hk.1
        have eq : q = .tup ds := eq
        subst eq
        obtain ⟨b, rfl⟩ := DV.isRef h1
        exact ⟨(nk, b, y) :: xs, by rw [e1]; rfl, .cons k1 k2 h1 ⟨_, rfl⟩ g1 e2⟩
theorem NVs.merge {more : List (NestedKey × Addr × V)} {mk : List (D × D)} (g : NVs wd K mg F α more mk) : ∀ {xs : List (NestedKey × Addr × V)} {kvs : List (D × D)}, NVs wd K mg F α xs kvs → NVs wd K mg F α (mergeV xs more) (mergeN kvs mk) := by
  induction g with
  | nil => exact fun h => h
  | cons h1 h2 h3 h4 h5 _ ih => exact fun h => ih (h.put h1 h2 h3 h4 h5)
end
section
variable {X : Cx} {W : WX} {a b c e tg : Expr} {es rest : List Expr} {ra rb rc : RE} {rs : RA} {pos p : Pos}
/-- a thing that a class makes -/
theorem pf_callTG {x : Str} {T : String} {g : Sto → List D → Option D} {r : List V → Hp → VK → Prop} (hc : CallR X (.type T) r) (hgk : ∀ α F H S xs ds z Q, Rel X.w X.K X.mg α F H S → DVs X.w X.K X.mg F α xs ds → g S ds = some z → z.open = true ∧ ((∀ p o, H p = none → Own X.w X.K X.mg F α (upd H p o) p z → Q (.ref p) (upd H p o)) → r xs H Q))
    (hm : X.mg x = none) (ha : PDs X W (e :: es) rs) (hg : Gl X x := by rfl) (hv : bootBuiltins x = some (.type T) := by decide +kernel) (hn : x ≠ "__name__" := by decide) (hdb : (x == ("__debug__" : Str)) = false := by decide)
    (he : starEach (e :: es) X.env = (false, eval e X.env) :: starEach es X.env := by rfl) (hpl : (backTo pos (starEach es X.env)).any (·.1) = false := by rfl) : PF X W (.Call (.Name x p) (e :: es) [] pos) (rAs g rs) := by
  obtain ⟨t, pt, st⟩ := ha.ex
  refine ⟨_, pe_callTy hc hg hm hv pt hn hdb he hpl, fun α F σ H δ S Q hr hs h => ?_⟩
  refine st α F σ H δ S _ hr hs (wpF.bind h fun ds S1 _ xs H1 β F1 r1 q1 v1 h1 => ?_)
  cases eg : g S1 ds with
  | none => rw [eg] at h1; exact h1.elim
  | some z =>
    rw [eg] at h1
    obtain ⟨e1, e2⟩ := hgk _ F1 H1 S1 xs ds z Q r1 v1 eg
    exact e2 fun p o hp ho => wpF.lay h1 r1 hp ho e1
theorem dictOf_see {α : List Addr} {F H : Hp} {S : Sto} {us : List V} {ds : List D} {z : D} {Q : VK} {a : Addr} (hr : Rel X.w X.K X.mg α F H S) (hv : DVs X.w X.K X.mg F α us ds) (e : (pairsOf ds).bind dictOf = some z) (ha : DArg X.K H a us) :
    z.open = true ∧ ((∀ p o, H p = none → Own X.w X.K X.mg F α (upd H p o) p z → Q (.ref p) (upd H p o)) →
      (∃ (a' : Addr) (us : List V) (kvs : List (Key × V)), [V.ref a] = [.ref a'] ∧ DArg X.K H a' us ∧ PairsV X.K H us (kvs.map fun p => (kV p.1, p.2)) ∧ ∀ p, H p = none → Q (.ref p) (upd H p (.dK (mergeK [] kvs)))) ∨
      ∃ (a' : Addr) (us : List V) (xs : List (NestedKey × Addr × V)), [V.ref a] = [.ref a'] ∧ DArg X.K H a' us ∧ NKeys X.K H xs ∧ PairsV X.K H us (xs.map fun x => (.ref x.2.1, x.2.2)) ∧ ∀ p, H p = none → Q (.ref p) (upd H p (dN X.w p (mergeV [] xs)))) := by
  obtain ⟨kvs, e1, e2⟩ := Option.bind_eq_some_iff.mp e
  obtain ⟨prs, g1, g2, g3⟩ := pairs_see hr.sub hv e1
  unfold dictOf at e2
  split at e2
  · rename_i hk
    cases e2
    obtain ⟨ws, k1, k2⟩ := keysOf hk g2 g3
    refine ⟨rfl, fun q => .inl ⟨a, us, ws, rfl, ha, by rw [k1] at g1; exact g1, fun p hp => q p _ hp (Own.dctK.mpr ⟨_, upd_same, KVs.merge k2 .nil⟩)⟩⟩
  · split at e2
    · rename_i hk
      cases e2
      obtain ⟨xs, k1, k2⟩ := nkeysOf hr.sub hk g2 g3
      exact ⟨rfl, fun q => .inr ⟨a, us, xs, rfl, ha, k2.keys hr.sub, by rw [k1] at g1; exact g1, fun p hp => q p _ hp ⟨_, upd_same, k2.merge .nil⟩⟩⟩
    · cases e2
theorem pf_dict (hc : X.calm = true) (hu : X.A.units + 12 < cLine) (hm : X.mg "dict" = none) (ha : PDs X W (e :: es) rs) (hg : Gl X "dict" := by rfl) (he : starEach (e :: es) X.env = (false, eval e X.env) :: starEach es X.env := by rfl) (hpl : (backTo pos (starEach es X.env)).any (·.1) = false := by rfl) :
    PF X W (.Call (.Name "dict" p) (e :: es) [] pos) (rAs gDict rs) := pf_callTG (((cr_dictK hc).or (cr_dictN hc hu)).or call_dictD) (fun α F H S xs ds z Q hr hv hz => by
  unfold gDict at hz
  split at hz
  · cases hv with
    | cons h1 h2 =>
      cases h2
      split at hz
      · rename_i ys e1
        obtain ⟨l, us, rfl, a1, a2⟩ := hr.viewL h1 e1
        obtain ⟨g1, g2⟩ := dictOf_see (Q := Q) hr a2 hz (.inl a1)
        exact ⟨g1, fun q => .inl (g2 q)⟩
      · rename_i ys e1
        have s := hr.see h1
        rw [e1] at s
        cases s with
        | «at» h _ =>
          cases h with
          | tup q t =>
            obtain ⟨g1, g2⟩ := dictOf_see (Q := Q) hr t hz (.inr (hr.sub.plT q))
            exact ⟨g1, fun q => .inl (g2 q)⟩
      · rename_i kvs e1
        cases hz
        obtain ⟨l, ws, rfl, a1, a2⟩ := hr.viewD h1 e1
        exact ⟨rfl, fun q => .inr ⟨l, ws, rfl, a1, fun p hp => q p _ hp (Own.dctK.mpr ⟨_, upd_same, a2⟩)⟩⟩
      · cases hz
  · cases hz) hm ha hg (by decide +kernel) (by decide) (by decide) he hpl
end
end DL
set_option Elab.async false
set_option linter.all false
set_option maxRecDepth 100000
set_option maxHeartbeats 4000000
set_option autoImplicit false
/-! Data layer: sorted(d.items()). -/
namespace DL
open PySem PySem.Spec PyProof.Rows L2
/-- tuples that are laid, one after the other, for good -/
inductive Grow : Hp → List Addr → List (V × V) → Hp → Prop
  | nil {H : Hp} : Grow H [] [] H
  | cons {H H2 : Hp} {T : Addr} {Ts : List Addr} {p : V × V} {ps : List (V × V)} {o : Obj} : H T = none → o.dict = none → Grow (upd H T (.frz o (.tup [p.1, p.2]))) Ts ps H2 → Grow H (T :: Ts) (p :: ps) H2
theorem Grow.keeps {H H2 : Hp} {Ts : List Addr} {ps : List (V × V)} (g : Grow H Ts ps H2) : ∀ {b : Addr} {o : HO}, H b = some o → H2 b = some o := by
  induction g with
  | nil => exact fun e => e
  | cons h _ _ ih => exact fun e => ih (upd_some h e)
section
open PySem.W
variable {X : Cx} {pins : List (Addr × Obj)} {σ : L2.St} {H H0 H1 : Hp} {s : Shared} {h' : Heap} {tk : Nat}
theorem takeG (I0 : Inv X pins σ H0 s) : ∀ (as : List Addr) (ps : List (V × V)) (H1 : Hp), Inv X pins σ H1 { s with heap := h', toks := tk } → as.Nodup →
    EachIs (fun a (p : V × V) => s.heap.objs.size ≤ a ∧ ∃ o : Obj, o.dict = none ∧ ∀ H2, ObjOk X.prog X.w H2 h' a (.frz o (.tup [p.1, p.2]))) as ps → (∀ a ∈ as, H1 a = none) →
    ∃ H2, Inv X pins σ H2 { s with heap := h', toks := tk } ∧ Grow H1 as ps H2 ∧ ∀ b, b ∉ as → H2 b = H1 b
  | _, _, H1, I1, _, .nil, _ => ⟨H1, I1, .nil, fun _ _ => rfl⟩
  | a :: as, p :: ps, H1, I1, hn, .cons h t, hf => by
    obtain ⟨hb, o, ho, ok⟩ := h
    have hnone := hf a List.mem_cons_self
    have I2 : Inv X pins σ (upd H1 a (.frz o (.tup [p.1, p.2]))) { s with heap := h', toks := tk } := I1.take (h' := h') (t' := tk) (fun b ob _ e => e) (I0.fpOk hb hnone) (ok _)
    rw [List.nodup_cons] at hn
    obtain ⟨H2, I3, g, q⟩ := takeG I0 as ps _ I2 hn.2 t fun c hc => by
      rw [upd_ne (fun z => hn.1 (by rw [← z]; exact hc))]
      exact hf c (List.mem_cons_of_mem _ hc)
    refine ⟨H2, I3, .cons hnone ho g, fun b hb => ?_⟩
    rw [List.mem_cons, not_or] at hb
    rw [q b hb.2, upd_ne hb.1]
end
/-- the pairs of the dict at a -/
def ItSrc (w : World) (H : Hp) (a : Addr) (prs : List (V × V)) : Prop :=
  (∃ ws : List (Key × V), Rd H a (.dK ws) ∧ prs = ws.map fun p => (kV p.1, p.2)) ∨ ∃ xs, Rd H a (dN w a xs) ∧ prs = xs.map fun x => (.ref x.2.1, x.2.2)
section
open PySem.W
variable {X : Cx} {pins : List (Addr × Obj)} {σ : L2.St} {H : Hp} {s : Shared} {a : Addr} {prs : List (V × V)}
theorem pairs_rel {P : Program} {w : World} : ∀ {es : List DictEntry} {vs : List (Key × Value)} {ws : List (Key × V)}, PySem.Pairs (mixKind P w) es vs → KV ws vs → EachIs (fun (e : DictEntry) (p : V × V) => RelV p.1 e.key ∧ RelV p.2 e.val) es (ws.map fun p => (kV p.1, p.2))
  | _, _, _, .nil, h => by cases h; exact .nil
  | _, _, _, .cons h1 h2 t, h => by
    cases h with
    | cons g gt => exact .cons ⟨by show RelV (kV _) _; rw [g.1]; exact relV_key h1, by rw [h2]; exact g.2⟩ (pairs_rel t gt)
theorem nv_rel {w : World} : ∀ {xs : List (NestedKey × Addr × V)} {vs : List (NestedKey × Addr × Value)}, NV xs vs → EachIs (fun (e : DictEntry) (p : V × V) => RelV p.1 e.key ∧ RelV p.2 e.val) (vs.map fun x => (⟨x.1.hash w, .ref x.2.1, x.2.2⟩ : DictEntry)) (xs.map fun x => (.ref x.2.1, x.2.2))
  | _, _, .nil => .nil
  | _, _, .cons h t => .cons ⟨by show Value.ref _ = Value.ref _; rw [h.2.1], h.2.2⟩ (nv_rel t)
theorem itsrc_at (I : Inv X pins σ H s) (h : ItSrc X.w H a prs) : (a == sysModules) = false ∧ prs.length ≤ sizeLine ∧ ∃ (es : Array DictEntry) (ep : Nat), DT.Raw s.heap a es ep ∧ EachIs (fun (e : DictEntry) (p : V × V) => RelV p.1 e.key ∧ RelV p.2 e.val) es.toList prs := by
  rcases h with ⟨ws, e, rfl⟩ | ⟨xs, e, rfl⟩
  · obtain ⟨z, hs, vs, kv, o, es, ep, ho, hx, hdt, r⟩ := (show ObjOk X.prog X.w H s.heap a (.dK ws) from e.ok I.hok)
    exact ⟨hs, by rw [List.length_map]; exact z, es, ep, ⟨o, ho, hx, hdt⟩, pairs_rel r.2.1 kv⟩
  · obtain ⟨⟨h1, h2, h3, vs, h4, o, es, ep, h5, h6, h7, h8⟩, _⟩ := (show ObjOk X.prog X.w H s.heap a (dN X.w a xs) from e.ok I.hok)
    exact ⟨h1, by rw [List.length_map]; exact h2, es, ep, ⟨o, h5, h6, h7⟩, by rw [h8]; exact nv_rel h4⟩
end
mutual
theorem reads_lt {h : Heap} : ∀ {v : Value} {d : PyData} {as : List Addr}, Reads h v d as → ∀ a ∈ as, a < h.objs.size
  | _, _, _, .none => fun _ z => nomatch z
  | _, _, _, .bool b => fun _ z => nomatch z
  | _, _, _, .int i t => fun _ z => nomatch z
  | _, _, _, .str x t => fun _ z => nomatch z
  | _, _, _, .list h1 h2 h3 h4 => fun a z => by
    rcases List.mem_cons.mp z with rfl | z
    · exact Heap.lt_size h1
    · exact readsAll_lt h4 a z
  | _, _, _, .tuple h1 h2 h3 h4 => fun a z => readsAll_lt h4 a z
  | _, _, _, .dict h1 h2 h3 h4 h5 => fun a z => by
    rcases List.mem_cons.mp z with rfl | z
    · exact Heap.lt_size h1
    · rcases List.mem_append.mp z with z | z
      · exact readsAll_lt h4 a z
      · exact readsAll_lt h5 a z
theorem readsAll_lt {h : Heap} : ∀ {vs : List Value} {ds : List PyData} {as : List Addr}, ReadsAll h vs ds as → ∀ a ∈ as, a < h.objs.size
  | _, _, _, .nil => fun _ z => nomatch z
  | _, _, _, .cons h1 h2 => fun a z => by
    rcases List.mem_append.mp z with z | z
    · exact reads_lt h1 a z
    · exact readsAll_lt h2 a z
end
/-- the pairs' data -/
inductive DpPs (K : Fg) (H : Hp) : List (V × V) → List PyData → Prop
  | nil : DpPs K H [] []
  | cons {p : V × V} {x y : PyData} {prs : List (V × V)} {ps : List PyData} : Dp K H p.1 x → Dp K H p.2 y → DpPs K H prs ps → DpPs K H (p :: prs) (.tuple [x, y] :: ps)
theorem DpPs.length {K : Fg} {H : Hp} {prs : List (V × V)} {ps : List PyData} (h : DpPs K H prs ps) : prs.length = ps.length := by
  induction h with
  | nil => rfl
  | cons _ _ _ ih => rw [List.length_cons, List.length_cons, ih]
def rSortIt (X : Cx) : List V → Hp → VK → Prop := fun vs H Q => ∃ (p a : Addr) (prs : List (V × V)) (ps : List PyData), vs = [.ref p] ∧ H p = some (L2.DX.itemsO p a) ∧ ItSrc X.w H a prs ∧ DpPs X.K H prs ps ∧ sortable ps = true ∧
  ∀ (Ts : List Addr) (H2 : Hp), Grow H Ts prs H2 → ∀ l, H2 l = none → H l = none → Q (.ref l) (upd H2 l (.lst (sortBy (Ts.map .ref) ps)))
def rItemsE (w : World) : V → List V → Hp → VK → Prop := fun x xs H Q => ∃ (a : Addr) (prs : List (V × V)), x = .ref a ∧ xs = [] ∧ ItSrc w H a prs ∧ ∀ p, H p = none → Q (.ref p) (upd H p (L2.DX.itemsO p a))
section
open PySem.W
variable {X : Cx} {W : WX} {o : Expr} {to : TE} {p : Pos} {apos cpos pos : Pos}
theorem each_get {A B : Type} {R : A → B → Prop} {as : List A} {bs : List B} (h : EachIs R as bs) : ∀ {i : Nat} {a : A}, as[i]? = some a → ∃ b, bs[i]? = some b ∧ R a b := by
  induction h with
  | nil => intro i a e; simp at e
  | cons r t ih =>
    intro i a' e
    cases i with
    | zero => simp at e; subst e; exact ⟨_, rfl, r⟩
    | succ j => simp at e; obtain ⟨b, h1, h2⟩ := ih e; exact ⟨b, by simpa using h1, h2⟩
theorem each_of {A B : Type} {R : A → B → Prop} : ∀ {as : List A} {bs : List B}, as.length = bs.length → (∀ (i : Nat) (a : A) (b : B), as[i]? = some a → bs[i]? = some b → R a b) → EachIs R as bs
  | [], [], _, _ => .nil
  | a :: as, b :: bs, hl, h => .cons (h 0 a b rfl rfl) (each_of (by simpa using hl) fun i x y e1 e2 => h (i + 1) x y (by simpa using e1) (by simpa using e2))
theorem each_len {A B : Type} {R : A → B → Prop} {as : List A} {bs : List B} (h : EachIs R as bs) : as.length = bs.length := by
  induction h with
  | nil => rfl
  | cons _ _ ih => rw [List.length_cons, List.length_cons, ih]
theorem dpps_get {K : Fg} {H : Hp} {prs : List (V × V)} {ps : List PyData} (h : DpPs K H prs ps) : ∀ {i : Nat} {q : V × V} {d : PyData}, prs[i]? = some q → ps[i]? = some d → ∃ x y, d = .tuple [x, y] ∧ Dp K H q.1 x ∧ Dp K H q.2 y := by
  induction h with
  | nil => intro i q d e; simp at e
  | cons h1 h2 _ ih =>
    intro i q d e1 e2
    cases i with
    | zero => simp at e1 e2; subst e1; subst e2; exact ⟨_, _, rfl, h1, h2⟩
    | succ j => simp at e1 e2; exact ih e1 e2
theorem reads2 {h : Heap} {a : Addr} {o : Obj} {u v : Value} {n : Nat} {x y : PyData} {as bs : List Addr} (ho : h.get? a = some o) (hc : o.cls = .type "tuple") (hd : o.data = .seq #[u, v] n) (h1 : Reads h u x as) (h2 : Reads h v y bs) : ∃ cs, Reads h (.ref a) (.tuple [x, y]) cs :=
  ⟨_, .tuple ho hc hd (.cons h1 (.cons h2 .nil))⟩
theorem sortable_ok {ps : List PyData} (h : sortable ps = true) : AllAlike ps ∧ Sortable ps ∧ ∀ d ∈ ps, d.depth ≤ 40 := by
  unfold sortable at h
  rw [Bool.and_eq_true, Bool.and_eq_true, Bool.or_eq_true] at h
  obtain ⟨k1, k2, k3⟩ := h
  refine ⟨fun d hd d' hd' => List.all_eq_true.mp (List.all_eq_true.mp k2 d hd) d' hd', ?_, fun d hd => of_decide_eq_true (List.all_eq_true.mp k3 d hd)⟩
  rcases k1 with k1 | k1
  · refine .inl fun d hd => ?_
    have := List.all_eq_true.mp k1 d hd
    match d, this with
    | .tuple (x :: r), _ => exact ⟨x, r, rfl⟩
  · refine .inr fun d hd => ?_
    have := List.all_eq_true.mp k1 d hd
    refine ⟨fun z => ?_, fun xs z => ?_⟩ <;> subst z <;> exact absurd this (by simp [noTup])
theorem cr_sortIt (hc : X.calm = true) (hu : X.A.units + 64 < cLine) : CallR X (.builtin "sorted") (rSortIt X) := by
  intro pins s σ H xs us Q I r h
  obtain ⟨p, a, prs, ps, rfl, hp, src, dp, so, q⟩ := h
  obtain rfl := Vals.ref1 r
  have view : s.heap.IsItemsView p a := (show ObjOk X.prog X.w H s.heap p (L2.DX.itemsO p a) from I.hok p _ hp).1
  obtain ⟨hd, hz, es, ep, raw, rel⟩ := itsrc_at I src
  have hes : es.size = prs.length := by rw [← Array.length_toList]; exact each_len rel
  refine DT.sortedI (es := es) (ep := ep) (I.ok.hd hc) view raw (by omega) fun h' tk as hk hlt hl hG => ?_
  have lak : as.length = prs.length := by omega
  have nd : as.Nodup := List.Pairwise.imp (fun h => Nat.ne_of_lt h) hG.rise
  have I1 : Inv X pins σ H { s with heap := h', toks := tk } := I.kept (t' := tk) hk
  have new : EachIs (fun a (p : V × V) => s.heap.objs.size ≤ a ∧ ∃ o : Obj, o.dict = none ∧ ∀ H2, ObjOk X.prog X.w H2 h' a (.frz o (.tup [p.1, p.2]))) as prs := each_of lak fun i b pr e1 e2 => by
    obtain ⟨e, h1, h2⟩ := hG.pairs i b e1
    refine ⟨Nat.le_of_lt (hG.above b (List.mem_of_getElem? e1)), _, rfl, fun H2 => ⟨h2, by show 2 ≤ sizeLine; decide, [e.key, e.val], ?_, _, h2, rfl, 0, rfl⟩⟩
    obtain ⟨pr', g1, g2, g3⟩ := each_get rel (i := i) (a := e) (by rw [Array.getElem?_toList]; exact h1)
    rw [e2] at g1
    cases g1
    exact .cons g2 (.cons g3 .nil)
  have fresh : ∀ b ∈ as, H b = none := fun b hb => I.hok.fresh (Nat.le_of_lt (hG.above b hb))
  obtain ⟨H2, I2, gr, oth⟩ := takeG I as prs H I1 nd new fresh
  have hob : (h'.push { cls := .type "list", data := .seq (as.map Value.ref).toArray }).get? h'.objs.size = some (seqObj "list" (as.map Value.ref).toArray 0) := Heap.get?_push_size _ rfl
  have ka : ∀ b o, h'.get? b = some o → (h'.push { cls := .type "list", data := .seq (as.map Value.ref).toArray }).get? b = some o := fun b o e => Heap.get?_push_of_some _ e
  generalize hh2 : h'.push { cls := .type "list", data := .seq (as.map Value.ref).toArray } = h2 at hob ka ⊢
  obtain ⟨hal, hso, hdp⟩ := sortable_ok so
  have lps : ps.length = as.length := by rw [lak, dp.length]
  have ml : ((as.map V.ref).zip ps).map (·.2) = ps := List.map_snd_zip (by rw [List.length_map, lps]; exact Nat.le_refl _)
  have e1 : EachIs (fun u (b : V × PyData) => RelV b.1 u) (as.map Value.ref) ((as.map V.ref).zip ps) := each_of (by rw [List.length_zip, List.length_map, List.length_map, lps, Nat.min_self]) fun i u b g1 g2 => by
    rw [List.getElem?_map] at g1
    obtain ⟨T, hT, rfl⟩ := Option.map_eq_some_iff.mp g1
    obtain ⟨g3, g4⟩ := List.getElem?_zip_eq_some.mp g2
    rw [List.getElem?_map, hT] at g3
    have g3' : V.ref T = b.1 := Option.some.inj g3
    show RelV b.1 (.ref T)
    rw [← g3']
    rfl
  have e2 : EachIs (fun u (b : V × PyData) => ∃ cs, Reads h2 u b.2 cs ∧ h'.objs.size ∉ cs) (as.map Value.ref) ((as.map V.ref).zip ps) := each_of (by rw [List.length_zip, List.length_map, List.length_map, lps, Nat.min_self]) fun i u b g1 g2 => by
    rw [List.getElem?_map] at g1
    obtain ⟨T, hT, rfl⟩ := Option.map_eq_some_iff.mp g1
    obtain ⟨g3, g4⟩ := List.getElem?_zip_eq_some.mp g2
    obtain ⟨e, h1, hTo⟩ := hG.pairs i T hT
    obtain ⟨pr', g5, g6, g7⟩ := each_get rel (i := i) (a := e) (by rw [Array.getElem?_toList]; exact h1)
    obtain ⟨x, y, g8, g9, g10⟩ := dpps_get dp g5 g4
    obtain ⟨as1, r1⟩ := Dp.reads I _ _ _ g9 g6
    obtain ⟨as2, r2⟩ := Dp.reads I _ _ _ g10 g7
    obtain ⟨cs, r3⟩ := reads2 hTo rfl rfl (PyProof.Rows.Reads.keeps hk r1) (PyProof.Rows.Reads.keeps hk r2)
    rw [g8]
    exact ⟨cs, PyProof.Rows.Reads.keeps ka r3, fun z => Nat.lt_irrefl _ (reads_lt r3 _ z)⟩
  have sl : ((as.map V.ref).zip ps).length = as.length := by rw [List.length_zip, List.length_map, lps, Nat.min_self]
  refine list_sort_data (s := { s with heap := h2, toks := tk }) (enc := fun b : V × PyData => b.2) hob e1 e2 (by rw [ml]; exact hal) (by rw [ml]; exact hso) (by rw [sl]; omega) (fun b hb => ?_) fun out o1 o2 => ?_
  · have := hdp b.2 (by rw [← ml]; exact List.mem_map.mpr ⟨b, hb, rfl⟩)
    show X.A.units + 1 + 1 + b.2.depth < cLine
    omega
  · show EP X pins σ Q (.ref h'.objs.size) { s with heap := sortedHeap h2 h'.objs.size (as.map Value.ref) (List.toArray out), toks := tk }
    have kF : ∀ b o, b ≠ h'.objs.size → h2.get? b = some o → (sortedHeap h2 h'.objs.size (as.map Value.ref) (List.toArray out)).get? b = some o := fun b o hb e => (PyProof.Rows.sortedHeap_old hb (Heap.lt_size e)).trans e
    have kS : ∀ b o, h'.get? b = some o → (sortedHeap h2 h'.objs.size (as.map Value.ref) (List.toArray out)).get? b = some o := fun b o e => kF b o (Nat.ne_of_lt (Heap.lt_size e)) (ka b o e)
    obtain ⟨eF, heF⟩ := PyProof.Rows.sortedHeap_at (vs := as.map Value.ref) (out := List.toArray out) hob
    have I3 : Inv X pins σ H2 { s with heap := sortedHeap h2 h'.objs.size (as.map Value.ref) (List.toArray out), toks := tk } := I2.kept (t' := tk) kS
    have hn0 : H h'.objs.size = none := I.hok.fresh (Nat.le_of_lt hlt)
    have hn : H2 h'.objs.size = none := by rw [oth _ (fun z => Nat.lt_irrefl _ (hG.there z))]; exact hn0
    have hv : Vals (sortBy (as.map V.ref) ps) out := each_vals (by
      have := each_map2 (R' := fun u v => RelV v u) (fun x => x) (fun b : V × PyData => b.1) (fun _ _ q => q) o2
      rw [List.map_id'] at this
      exact this)
    have hlen : (sortBy (as.map V.ref) ps).length ≤ sizeLine := by rw [sortBy_length (by rw [List.length_map, lps]), List.length_map]; omega
    exact ⟨.ref h'.objs.size, upd H2 h'.objs.size (.lst (sortBy (as.map V.ref) ps)), I3.take (h' := sortedHeap h2 h'.objs.size (as.map Value.ref) (List.toArray out)) (t' := tk) (fun b ob _ e => e) (I.fpOk (Nat.le_of_lt hlt) hn) ⟨hlen, out, eF, hv, heF⟩, rfl, q as H2 gr _ hn hn0⟩
theorem pe_itemsE (ho : PE X o to) (hbase : attributeBase o "items" X.env (eval o X.env) = eval o X.env := by rfl) (hline : (apos.endLine == cpos.line) = true := by rfl) :
    PE X (.Call (.Attribute o "items" apos) [] [] cpos) (fun σ H Q => to σ H fun x H1 => rItemsE X.w x [] H1 Q) := by
  refine ⟨fun pins s σ H Q I h => ?_⟩
  refine wpAny_Call_method (T := "dict") (id := "dict.items") hbase rfl hline PySem.F.plainAttrs_dict PySem.F.slot_dict_items PySem.F.type_dict_items (thn (ho.run pins s σ H _ I h) fun u s1 ⟨x, H1, I1, rx, a, prs, ex, _, src, q⟩ => ?_)
  subst ex
  obtain rfl : u = Value.ref a := rx
  obtain ⟨hd, _, es, ep, raw, _⟩ := itsrc_at I1 src
  refine ⟨raw.typeIs, fun b e => ?_, ?_⟩
  · cases e; obtain ⟨o, h1, h2, _⟩ := raw; exact ⟨o, h1, h2.2.1⟩
  · show wpAny _ _ (callWith cpos (.builtin "dict.items") [.ref a] [] []) _ X.xe s1
    refine Calls.callWith_builtin rfl (PySem.evalArgs_none (DT.callItems (es := es) (ep := ep) hd raw ?_))
    exact ⟨.ref s1.heap.objs.size, upd H1 s1.heap.objs.size (L2.DX.itemsO s1.heap.objs.size a), I1.laid (t' := s1.toks) (fun b u e => Heap.get?_push_of_some _ e) (Nat.le_refl _) (L2.DX.itemsO_ok (Heap.get?_push_size _ rfl)), rfl, q _ (I1.hok.fresh (Nat.le_refl _))⟩
end
/-! ### by data -/
/-- sorted(d.items()) -/
def itemsOf : D → Option (List D)
  | .dct kvs => some (kvs.map fun p => .tup [p.1, p.2])
  | .dcn kvs => some (kvs.map fun p => .tup [p.1, p.2])
  | _ => none
def rSortItems (a : RE) : RE := fun δ S => (a δ S).bind fun d S1 => .lift (((itemsOf (deref S1 d)).bind (sortD S1)).map .lst) S1
section
open PySem.W
variable {wd : World} {K : Fg} {mg : Str → Option Value} {α β : List Addr} {F F1 H H1 : Hp} {S : Sto}
theorem toPy_pair {x y : D} {r : PyData} (h : toPy S (.tup [x, y]) = some r) : ∃ p q, r = .tuple [p, q] ∧ toPy S x = some p ∧ toPy S y = some q := by
  unfold toPy toPys toPys toPys at h
  cases e1 : toPy S x with
  | none => rw [e1] at h; cases h
  | some p =>
    cases e2 : toPy S y with
    | none => rw [e1, e2] at h; cases h
    | some q => rw [e1, e2] at h; cases h; exact ⟨p, q, rfl, rfl, rfl⟩
theorem dp_pairs (s : Sub F H) : ∀ {prs : List (V × V)} {kvs : List (D × D)} {ps : List PyData}, EachIs (fun (p : V × V) (q : D × D) => DV wd K mg F α p.1 q.1 ∧ DV wd K mg F α p.2 q.2) prs kvs → toPys S (kvs.map fun p => .tup [p.1, p.2]) = some ps → DpPs K H prs ps
  | _, _, _, .nil, e => by cases e; exact .nil
  | _, _, _, .cons h t, e => by
    rw [List.map_cons] at e
    unfold toPys at e
    split at e
    · rename_i r rs e1 e2
      cases e
      obtain ⟨p, q, rfl, g1, g2⟩ := toPy_pair e1
      exact .cons (h.1.dp g1 s) (h.2.dp g2 s) (dp_pairs s t e2)
    · cases e
theorem Rel.items (hr : Rel wd K mg α F H S) {x : V} {d : D} {xs : List D} (hx : DV wd K mg F α x d) (e : itemsOf (deref S d) = some xs) :
    ∃ a prs kvs, x = .ref a ∧ ItSrc wd H a prs ∧ xs = kvs.map (fun p => .tup [p.1, p.2]) ∧ EachIs (fun (p : V × V) (q : D × D) => DV wd K mg F α p.1 q.1 ∧ DV wd K mg F α p.2 q.2) prs kvs := by
  have s := hr.see hx
  generalize hd : deref S d = dd at e s
  cases s with
  | «at» h _ => cases h <;> cases e
  | dead => cases e
  | lst _ _ => cases e
  | @dct a ws kvs rd k t =>
    cases e
    have kv := KVs.of k t
    refine ⟨a, _, kvs, rfl, .inl ⟨ws, rd, rfl⟩, rfl, each_of (by rw [List.length_map, kv.length]) fun i p q e1 e2 => ?_⟩
    obtain ⟨k, v, g1, g2, g3⟩ := kv.at e2
    rw [List.getElem?_map, g1] at e1
    cases e1
    exact ⟨by rw [g2]; exact DV.key k, g3⟩
  | @dcn a xs kvs rd t =>
    cases e
    refine ⟨a, _, kvs, rfl, .inr ⟨xs, rd, rfl⟩, rfl, each_of (by rw [List.length_map, t.length]) fun i p q e1 e2 => ?_⟩
    obtain ⟨k, b, v, g1, g2, g3⟩ := t.at e2
    rw [List.getElem?_map, g1] at e1
    cases e1
    exact ⟨g2, g3⟩
theorem Grow.rel : ∀ {Ts : List Addr} {prs : List (V × V)} {H H2 : Hp} {F : Hp}, Grow H Ts prs H2 → Rel wd K mg α F H S →
    ∃ F2, Rel wd K mg (α ++ []) F2 H2 S ∧ Stp α F H [] F2 H2 ∧ EachIs (fun T (p : V × V) => PlT K F2 T [p.1, p.2]) Ts prs
  | _, _, _, _, F, .nil, hr => ⟨F, by rw [List.append_nil]; exact hr, Stp.refl, .nil⟩
  | T :: Ts, p :: ps, H, H2, F, .cons (o := o) hn hd g, hr => by
    obtain ⟨r1, s1⟩ := hr.newF (o := .frz o (.tup [p.1, p.2])) hn
    rw [List.append_nil] at r1
    obtain ⟨F2, r2, s2, e2⟩ := Grow.rel g r1
    have s1' : Stp (α ++ []) (upd F T (.frz o (.tup [p.1, p.2]))) (upd H T (.frz o (.tup [p.1, p.2]))) [] F2 H2 := by rw [List.append_nil]; exact s2
    exact ⟨F2, r2, s1.trans s1', .cons (s2.sub.plT (PlT.new hd)) e2⟩
theorem pairs_dvs {F : Hp} : ∀ {Ts : List Addr} {prs : List (V × V)} {kvs : List (D × D)}, EachIs (fun T (p : V × V) => PlT K F T [p.1, p.2]) Ts prs → EachIs (fun (p : V × V) (q : D × D) => DV wd K mg F α p.1 q.1 ∧ DV wd K mg F α p.2 q.2) prs kvs → DVs wd K mg F α (Ts.map .ref) (kvs.map fun p => .tup [p.1, p.2])
  | _, _, _, .nil, .nil => .nil
  | _, _, _, .cons h t, .cons g u => .cons (.tup h (.cons g.1 (.cons g.2 .nil))) (pairs_dvs t u)
end
section
variable {X : Cx} {W : WX} {o : Expr} {ro : RE} {p apos cpos pos : Pos}
theorem pf_sortIt (hc : X.calm = true) (hu : X.A.units + 64 < cLine) (hm : X.mg "sorted" = none) (ho : PD X W o ro) (hg : Gl X "sorted" := by rfl)
    (hbase : attributeBase o "items" X.env (eval o X.env) = eval o X.env := by rfl) (hline : (apos.endLine == cpos.line) = true := by rfl)
    (he : starEach [.Call (.Attribute o "items" apos) [] [] cpos] X.env = (false, eval (.Call (.Attribute o "items" apos) [] [] cpos) X.env) :: starEach [] X.env := by rfl) (hpl : (backTo pos (starEach [] X.env)).any (·.1) = false := by rfl) :
    PF X W (.Call (.Name "sorted" p) [.Call (.Attribute o "items" apos) [] [] cpos] [] pos) (rSortItems ro) := by
  obtain ⟨to, po, so⟩ := ho.ex
  have inner := pe_itemsE (cpos := cpos) po hbase hline
  refine ⟨_, pe_callB (cr_sortIt hc hu) hg hm (by decide +kernel) (pa_cons inner pa_nil he) (by decide) (by decide) he hpl, fun α F σ H δ S Q hr hs h => ?_⟩
  refine so α F σ H δ S _ hr hs (wpF.bind h fun d S1 _ x H1 β F1 r1 q1 v1 h1 => ?_)
  cases e0 : itemsOf (deref S1 d) with
  | none => rw [e0] at h1; exact h1.elim
  | some ys =>
    rw [e0] at h1
    cases e3 : sortD S1 ys with
    | none => rw [Option.bind_some, e3] at h1; exact h1.elim
    | some zs =>
      rw [Option.bind_some, e3] at h1
      obtain ⟨a, prs, kvs, rfl, src, rfl, ev⟩ := r1.items v1 e0
      unfold sortD at e3
      split at e3
      · rename_i ps e4
        split at e3
        · rename_i hc4
          cases e3
          rw [Bool.and_eq_true] at hc4
          have dp := dp_pairs r1.sub ev e4
          refine ⟨a, prs, rfl, rfl, src, fun p hp => ?_⟩
          have n := r1.notin hp
          have f := r1.notF hp
          have r2 : Rel X.w X.K X.mg (α ++ β) F1 (upd H1 p (L2.DX.itemsO p a)) S1 := r1.other n f
          have sb2 : ∀ b u, H1 b = some u → upd H1 p (L2.DX.itemsO p a) b = some u := fun b u e => upd_some hp e
          refine ⟨p, a, prs, ps, rfl, upd_same, ?_, dp_pairs r2.sub ev e4, hc4.1, fun Ts H2 g l hl hl0 => ?_⟩
          · rcases src with ⟨ws, rd, e⟩ | ⟨xs, rd, e⟩
            · exact .inl ⟨ws, rd.imp (sb2 _ _) fun ⟨o, z⟩ => ⟨o, sb2 _ _ z⟩, e⟩
            · exact .inr ⟨xs, rd.imp (sb2 _ _) fun ⟨o, z⟩ => ⟨o, sb2 _ _ z⟩, e⟩
          · obtain ⟨F2, r3, s3, e5⟩ := g.rel r2
            have s2 : Stp (α ++ β) F1 H1 [] F1 (upd H1 p (L2.DX.itemsO p a)) := Stp.refl.other hp
            have s3' : Stp ((α ++ β) ++ []) F1 (upd H1 p (L2.DX.itemsO p a)) [] F2 H2 := by rw [List.append_nil]; exact s3
            have h3 := wpF.step (s2.trans s3') h1
            have dv := pairs_dvs (wd := X.w) (K := X.K) (mg := X.mg) (α := (α ++ β) ++ []) e5 (PySem.W.EachIs.mono (fun _ _ z => ⟨z.1.mono s3.sub, z.2.mono s3.sub⟩) ev)
            exact wpF.lay h3 r3 hl ⟨_, upd_same, dv.sort ps⟩ rfl
        · cases e3
      · cases e3
end
end DL
set_option Elab.async false
set_option linter.all false
set_option maxRecDepth 100000
set_option maxHeartbeats 4000000
set_option autoImplicit false
/-! Data layer: sorted(set(texts)). -/
namespace DL
open PySem PySem.Spec PyProof.Rows L2
def txV : Value → Str
  | .str x _ => x
  | _ => ⟨#[]⟩
def isTxV : Value → Bool
  | .str _ _ => true
  | _ => false
open PySem.Froz in
/-- the set of texts at a -/
def TxR (P : Program) (w : World) (h : Heap) (a : Addr) (l : List Str) : Prop :=
  ∃ D : SD, h.get? a = some (sObj "set" D) ∧ TxOk P w D l ∧ Ris D.2.2.place.toList ∧ (w.params.followText "set-order" = true ∨ D.2.2.led = true) ∧ (D.1.toList.map fun e => txV e.2).Perm l ∧ (∀ e ∈ D.1.toList, isTxV e.2 = true) ∧ l.Nodup
section
open PySem.Froz
variable {P : Program} {w : World} {A : Around} {E : Value → Shared → Prop} {s : Shared}
def addL (l : List Str) (k : Str) : List Str := if k ∈ l then l else k :: l
theorem TxR.keep {h h' : Heap} {a : Addr} {l : List Str} (R : TxR P w h a l) (k : ∀ o, h.get? a = some o → h'.get? a = some o) : TxR P w h' a l := by
  obtain ⟨D, ho, q⟩ := R
  exact ⟨D, k _ ho, q⟩
end
open PySem PyProof.Rows in
section
open PySem.Froz
variable {P : Program} {w : World} {A : Around} {E : Value → Shared → Prop} {s : Shared}
def gotL (xs : List Str) (i : Nat) : List Str := (xs.take i).foldl addL []
end
end DL
set_option Elab.async false
set_option linter.all false
set_option maxRecDepth 100000
set_option maxHeartbeats 4000000
set_option autoImplicit false
/-! Data layer: sorted(set(texts)), its end. -/
namespace DL
open PySem PySem.Spec PyProof.Rows L2
def leT (a b : Str) : Bool := decide (a.cps.toList ≤ b.cps.toList)
def sortT (l : List Str) : List Str := l.mergeSort leT
theorem leT_trans (a b c : Str) : leT a b = true → leT b c = true → leT a c = true := fun h g => decide_eq_true (List.le_trans (of_decide_eq_true h) (of_decide_eq_true g))
theorem leT_total (a b : Str) : (leT a b || leT b a) = true := by
  rw [Bool.or_eq_true]
  exact (List.le_total a.cps.toList b.cps.toList).imp decide_eq_true decide_eq_true
theorem strT_ext {a b : Str} (h : a.cps.toList = b.cps.toList) : a = b := by
  cases a; cases b
  exact congrArg Str.mk (Array.toList_inj.mp h)
theorem sortT_pairwise (l : List Str) : (sortT l).Pairwise (fun a b => leT a b = true) := List.pairwise_mergeSort (le := leT) leT_trans leT_total l
theorem sortT_perm (l : List Str) : (sortT l).Perm l := List.mergeSort_perm l leT
end DL
set_option Elab.async false
set_option linter.all false
set_option maxRecDepth 100000
set_option maxHeartbeats 4000000
set_option autoImplicit false
/-! Data layer: slices with steps. -/
namespace DL
open PySem PySem.Spec PyProof.Rows L2
def SlRs (X : Cx) (r : V → Option Int → Option Int → Int → Hp → VK → Prop) : Prop :=
  ∀ (pins : List (Addr × Obj)) (s : Shared) (σ : L2.St) (H : Hp) (x : V) (v vl vu vk : Value) (lo hi : Option Int) (k : Int) (sl : Addr) (Q : VK), Inv X pins σ H s → RelV x v → s.heap.IsSliceOf sl vl vu vk → IsPart vl lo → IsPart vu hi → IsPart vk (some k) → r x lo hi k H Q →
    ∃ T id, typeLookup (.type T) "__getitem__" = pure (some (.builtin id)) ∧ s.TypeIs v T ∧ wpAny (model X.prog X.w) X.A (getItem v (.ref sl)) (EP X pins σ Q) X.xe s
section
variable {X : Cx} {e st : Expr} {te : TE} {lo hi : Option Expr} {tl th tk : TO} {pos p2 : Pos}
theorem SlRs.or {r r' : V → Option Int → Option Int → Int → Hp → VK → Prop} (h : SlRs X r) (h' : SlRs X r') : SlRs X (fun x lo hi k H Q => r x lo hi k H Q ∨ r' x lo hi k H Q) := by
  intro pins s σ H x v vl vu vk lo hi k sl Q I rx hs pl pu pk q
  rcases q with q | q
  · exact h pins s σ H x v vl vu vk lo hi k sl Q I rx hs pl pu pk q
  · exact h' pins s σ H x v vl vu vk lo hi k sl Q I rx hs pl pu pk q
end
/-! ### by data -/
end DL
set_option Elab.async false
set_option linter.all false
set_option maxRecDepth 100000
set_option maxHeartbeats 4000000
set_option autoImplicit false
/-! Data layer: sorted(set(texts)), zip of tuples, calls of defs that a name holds. -/
namespace DL
open PySem PySem.Spec PyProof.Rows L2
/-! ### sorted(set(texts)) -/
def setT (ts : List Str) : List Str := sortT (gotL ts ts.length)
end DL
set_option Elab.async false
set_option linter.all false
set_option maxRecDepth 100000
set_option maxHeartbeats 4000000
set_option autoImplicit false
/-! Data layer: defs as values, small things. -/
namespace DL
open PySem PySem.Spec PyProof.Rows L2
section
variable {X : Cx} {W : WX} {pos p : Pos} {k n : Nat}
theorem Env1.u10 (h : Env1 X k) : X.A.units + 10 < cLine := by have := h.room.un; omega
theorem Env1.u12 (h : Env1 X k) : X.A.units + 12 < cLine := by have := h.room.un; omega
end
/-! ### a def that leaves what it made in the store -/
def mDefK (n : Nat) (b : RS) : Mir := fun ds S => match b (ds.map some ++ List.replicate (n - ds.length) none) S with
  | .rt d S1 => .ok d S1
  | .nx _ S1 => .ok .non S1
  | .err c fs _ S1 => .err c fs S1
  | _ => .stuck
theorem fn_okK {P : Program} {w : World} {K : Fg} {mg : Str → Option Value} {base : Heap} {x qual : Str} {st : Stmt} {f : Addr} {fd : FuncData} {N ps : List Str} {k : Nat} {r : RS} (Fu : Fun K x qual st f fd) (Sc : FnScope N ps (defScope st))
    (hbody : ∀ (cdv : Value) (A : Around) (outer : List Env) (s : Shared) (H : Hp) (E : XK), Room k (A.deeper (envOfC qual (defScope st) s.heap.objs.size f cdv)) → A.guards = some [] → PSds (cxOf (L2.CX P w) P w K mg base N qual (defScope st) f cdv A outer s H E) (fun cls d _ H => E cls d H) (defBody st) r) :
    FnG P w K mg base (k + 1) f fd ps (spD w K mg ps.length (mDefK N.length r)) := by
  refine fn_G Fu Sc (fun vs H Q E h => h.1) fun cdv A outer s H vs Q E hr hG h => ?_
  obtain ⟨hl, α, F, S, ds, h1, h2, h3⟩ := h
  obtain ⟨t, pt, st⟩ := (hbody cdv A outer s H E hr hG).ex
  refine ⟨t, pt, st α F _ H _ S _ h1 (slots_start h2) ?_⟩
  have h3 : wp w K mg α F H (relD w K mg) (mDefK N.length r ds S) Q E := h3
  unfold mDefK at h3
  cases q : r (ds.map some ++ List.replicate (N.length - ds.length) none) S with
  | nx δ S1 =>
    rw [q] at h3
    intro σ' H' β F' r1 s1 _
    exact h3 .non H' β F' r1 s1 .non
  | rt d S1 =>
    rw [q] at h3
    exact h3
  | err c fs δ S1 =>
    rw [q] at h3
    intro cls dd σ' H' β F' r1 s1 _ he
    exact h3 cls dd H' β F' r1 s1 he
  | bk δ S1 => rw [q] at h3; exact h3.elim
  | ct δ S1 => rw [q] at h3; exact h3.elim
  | stuck => rw [q] at h3; exact h3.elim
theorem fn_mkK {P : Program} {w : World} {K : Fg} {mg : Str → Option Value} {base : Heap} {x : Str} {st : Stmt} {N ps : List Str} {k : Nat} {r : RS} (Fu : Fd K mg x st ps) (Sc : FnScope N ps (defScope st))
    (hbody : ∀ (f : Addr) (cdv : Value) (A : Around) (outer : List Env) (s : Shared) (H : Hp) (E : XK), Env1 (cxOf (L2.CX P w) P w K mg base N x (defScope st) f cdv A outer s H E) k → Takes (cxOf (L2.CX P w) P w K mg base N x (defScope st) f cdv A outer s H E) (fun cls d _ H => E cls d H) →
      PSds (cxOf (L2.CX P w) P w K mg base N x (defScope st) f cdv A outer s H E) (fun cls d _ H => E cls d H) (defBody st) r) : Fn P w K mg base x ps.length (k + 1) (mDefK N.length r) := by
  obtain ⟨f, fd, h1, h2, h3⟩ := Fu.ex
  exact ⟨f, fd, ps, h2, h1.kp, h3, fn_okK h1 Sc fun cdv A outer s H E hr hG => hbody f cdv A outer s H E ⟨hr, hG, passes_of rfl⟩ (takes_of rfl rfl rfl rfl)⟩
section
variable {X : Cx} {pos : Pos} {k : Nat} {es : List Expr}
theorem plc_noT {vs : List Nat} {scope : Scope} {elt : Expr} {t : TGs} {u : List D → Sl → Sto → Res Sl} {re : RE} (hc : X.calm = true) (hg : ∀ (s : Shared) (H : Hp) (C : Addr) (cl : List (Str × Addr)) (fp : List Addr), PGxs (X.blk s H scope (compEnvC scope cl C X.env) fp) vs es t u)
    (he : ∀ (s : Shared) (H : Hp) (C : Addr) (cl : List (Str × Addr)) (fp : List Addr), PD (X.blk s H scope (compEnvC scope cl C X.env) fp) W0 elt re)
    (hn : ∀ (s : Shared) (H : Hp) (C : Addr) (cl : List (Str × Addr)) (fp : List Addr), (assignEach es (X.blk s H scope (compEnvC scope cl C X.env) fp).env).length = es.length := by intros; rfl)
    (hst : ∀ (s : Shared) (H : Hp) (C : Addr) (cl : List (Str × Addr)) (fp : List Addr), (assignEach es (X.blk s H scope (compEnvC scope cl C X.env) fp).env).findIdx? (·.1) = none := by intros; rfl) :
    PLc X vs scope (.Tuple es k pos) elt [] (L2.gTup X.K es.length t) tYes (gTup u) bYes re :=
  plc_no (fun s H C cl fp => pgx_tup (X := X.blk s H scope (compEnvC scope cl C X.env) fp) hc (hg s H C cl fp) (hn s H C cl fp) (hst s H C cl fp)) he
theorem plc_ifT {vs : List Nat} {scope : Scope} {elt c : Expr} {t : TGs} {u : List D → Sl → Sto → Res Sl} {bc : RB} {re : RE} (hca : X.calm = true) (hg : ∀ (s : Shared) (H : Hp) (C : Addr) (cl : List (Str × Addr)) (fp : List Addr), PGxs (X.blk s H scope (compEnvC scope cl C X.env) fp) vs es t u)
    (hc : ∀ (s : Shared) (H : Hp) (C : Addr) (cl : List (Str × Addr)) (fp : List Addr), PB (X.blk s H scope (compEnvC scope cl C X.env) fp) W0 c bc) (he : ∀ (s : Shared) (H : Hp) (C : Addr) (cl : List (Str × Addr)) (fp : List Addr), PD (X.blk s H scope (compEnvC scope cl C X.env) fp) W0 elt re)
    (hn : ∀ (s : Shared) (H : Hp) (C : Addr) (cl : List (Str × Addr)) (fp : List Addr), (assignEach es (X.blk s H scope (compEnvC scope cl C X.env) fp).env).length = es.length := by intros; rfl)
    (hst : ∀ (s : Shared) (H : Hp) (C : Addr) (cl : List (Str × Addr)) (fp : List Addr), (assignEach es (X.blk s H scope (compEnvC scope cl C X.env) fp).env).findIdx? (·.1) = none := by intros; rfl) :
    PLc X vs scope (.Tuple es k pos) elt [c] (L2.gTup X.K es.length t) (tCanB X.w X.K X.mg W0 bc) (gTup u) bc re :=
  plc_if (fun s H C cl fp => pgx_tup (X := X.blk s H scope (compEnvC scope cl C X.env) fp) hca (hg s H C cl fp) (hn s H C cl fp) (hst s H C cl fp)) hc he
end
/-! ### tests by cases, calls of nothing -/
def bIf (c a b : RB) : RB := fun δ S => (c δ S).bind fun k S1 => if k then a δ S1 else b δ S1
end DL
set_option Elab.async false
set_option linter.all false
set_option maxRecDepth 100000
set_option maxHeartbeats 4000000
set_option autoImplicit false
/-! Data layer: repr of data with numbers of up to 4300 figures. -/
namespace DL
open PySem PySem.Spec PyProof.Rows L2
mutual
def showW : PyData → Bool
  | .none => true
  | .bool _ => true
  | .str _ => true
  | .int i => decide (i.natAbs < 10 ^ 4300)
  | .list xs => showWs xs
  | .tuple xs => showWs xs
  | .dict _ => false
def showWs : List PyData → Bool
  | [] => true
  | x :: r => showW x && showWs r
end
section
variable {prog : Program} {w : World} {h₀ : Heap}
theorem call_int_reprW {A : Around} {E : Value → Shared → Prop} {s : Shared} {a : Int} {t : Tok} {Q : Value → Shared → Prop} (hn : s.heap.NoDigits) (ha : a.natAbs < 10 ^ 4300) (h : Q (.str (toString a) s.toks) { s with toks := s.toks + 1 }) : wpAny (model prog w) A (call (.builtin "int.__repr__") [.int a t]) Q E s := by
  refine wpAny_call_entry PySem.F.slot_int_repr (typeIs_int s a t) PySem.F.entry_int_repr ?_ (PySem.F.args_int_repr_1 _)
  unfold Builtin.«int.__repr__»
  show wpAny _ _ (do let r ← Builtin.overDigitLimit? a; _) _ _ s
  refine wpAny_bind (overDigitLimit_any hn (fun hlt => ?_) (fun hge => absurd ha (Nat.not_lt.mpr hge)))
  exact wpAny_bind (wpAny_mkStr (wpAny_pure ⟨_, rfl, h⟩) (int_text_fits10 hlt))
theorem reprK_int {as : List Addr} {d : Nat} {a : Int} {t : Tok} (hn : h₀.NoDigits) (ha : a.natAbs < 10 ^ 4300) : ReprK prog w as h₀ d (.int a t) (toString a) := by
  intro base hb A g E s Q hg hcl hu hk0 hQ
  rw [pyReprUnder_leaf (v := .int a t) (by omega) (fun _ e => nomatch e)]
  unfold pyRepr
  refine wpAny_bind (wpAny_pyReprObj_slot (by omega) (typeIs_int s a t) PySem.F.slot_int_repr.toG (call_int_reprW (hn.keeps hk0) ha ⟨_, _, rfl, wpAny_pure (hQ s.heap _ fun _ _ e => e)⟩))
mutual
theorem reprK_reads (hn : h₀.NoDigits) : ∀ {v : Value} {d : PyData} {as : List Addr}, Reads h₀ v d as → showW d = true → d.shown.length ≤ sizeLine → ∃ bs, ReadAtMost h₀ d.depth bs ∧ ReprK prog w bs h₀ d.depth v d.shown
  | _, _, _, .none, _, _ => ⟨[], (fun _ h => nomatch h), by simp only [PyData.shown]; exact .of_is ReprIs.none _ _ _⟩
  | _, _, _, .bool b, _, _ => ⟨[], (fun _ h => nomatch h), by simp only [PyData.shown]; exact .of_is (ReprIs.bool b) _ _ _⟩
  | _, _, _, .int i t, hs, _ => ⟨[], (fun _ h => nomatch h), by simp only [PyData.shown]; exact reprK_int hn (of_decide_eq_true (by unfold showW at hs; exact hs))⟩
  | _, _, _, .str x t, _, hz => ⟨[], (fun _ h => nomatch h), by simp only [PyData.shown]; exact .of_is (ReprIs.str x t (by simpa only [PyData.shown] using hz)) _ _ _⟩
  | _, _, _, .list (a := a) (vs := vs) (xs := xs) h1 h2 h3 h4, hs, hz => by
    have hz' : (listText (PyData.shownAll xs)).length ≤ sizeLine := by simpa only [PyData.shown] using hz
    unfold showW at hs
    obtain ⟨bs, hb, hk⟩ := reprAllK_reads hn h4 hs (fun t ht => Nat.le_trans (listText_mem_le ht) hz')
    have r : Reads h₀ (.ref a) (.list xs) _ := .list h1 h2 h3 h4
    have hna : a ∉ bs := not_mem_of_deeper r (by simp only [PyData.depth]; omega) hb
    refine ⟨a :: bs, ReadAtMost.cons r (by simp only [PyData.depth]; omega) hb, ?_⟩
    simp only [PyData.depth, PyData.shown]
    obtain ⟨l⟩ := vs
    cases l with
    | nil =>
      have h4' : ReadsAll h₀ [] xs _ := h4
      cases h4'
      simp only [PyData.shownAll, listText_nil]
      exact ReprK.listEmpty h1 h2 h3
    | cons x l => exact ReprK.list h1 h2 h3 hna (by simpa using hk.length_eq) (fun i y e => hk.item i y (by simpa using e))
  | _, _, _, .tuple (a := a) (xs := xs) h1 h2 h3 h4, hs, hz => by
    have hz' : (tupleText (PyData.shownAll xs)).length ≤ sizeLine := by simpa only [PyData.shown] using hz
    unfold showW at hs
    obtain ⟨bs, hb, hk⟩ := reprAllK_reads hn h4 hs (fun t ht => Nat.le_trans (tupleText_mem_le ht) hz')
    have r : Reads h₀ (.ref a) (.tuple xs) _ := .tuple h1 h2 h3 h4
    have hna : a ∉ bs := not_mem_of_deeper r (by simp only [PyData.depth]; omega) hb
    refine ⟨a :: bs, ReadAtMost.cons r (by simp only [PyData.depth]; omega) hb, ?_⟩
    simp only [PyData.depth, PyData.shown]
    exact ReprK.tuple h1 h2 h3 hna hk
  | _, _, _, .dict _ _ _ _ _, hs, _ => by unfold showW at hs; cases hs
theorem reprAllK_reads (hn : h₀.NoDigits) : ∀ {vs : List Value} {ds : List PyData} {as : List Addr}, ReadsAll h₀ vs ds as → showWs ds = true → (∀ t ∈ PyData.shownAll ds, t.length ≤ sizeLine) →
    ∃ bs, ReadAtMost h₀ (PyData.depthAll ds) bs ∧ ReprAllK prog w bs h₀ (PyData.depthAll ds) vs (PyData.shownAll ds)
  | _, _, _, .nil, _, _ => ⟨[], (fun _ h => nomatch h), by simp only [PyData.shownAll]; exact .nil⟩
  | _, _, _, .cons (d := d) (ds := ds) r rs, hs, hz => by
    unfold showWs at hs
    rw [Bool.and_eq_true] at hs
    obtain ⟨b1, hb1, k1⟩ := reprK_reads hn r hs.1 (hz _ (by simp only [PyData.shownAll]; exact List.mem_cons_self ..))
    obtain ⟨b2, hb2, k2⟩ := reprAllK_reads hn rs hs.2 (fun t ht => hz t (by simp only [PyData.shownAll]; exact List.mem_cons_of_mem _ ht))
    refine ⟨b1 ++ b2, ?_, ?_⟩
    · intro b hm
      simp only [PyData.depthAll]
      rcases List.mem_append.mp hm with hm | hm
      · obtain ⟨d', as', r', hd'⟩ := hb1 b hm
        exact ⟨d', as', r', Nat.le_trans hd' (Nat.le_max_left _ _)⟩
      · obtain ⟨d', as', r', hd'⟩ := hb2 b hm
        exact ⟨d', as', r', Nat.le_trans hd' (Nat.le_max_right _ _)⟩
    · simp only [PyData.depthAll, PyData.shownAll]
      exact .cons ((k1.more fun b hb => List.mem_append_left _ hb).level_le (Nat.le_max_left _ _)) (k2.more_le (fun b hb => List.mem_append_right _ hb) (Nat.le_max_right _ _))
end
theorem repr_of_readsW {a : Addr} {d : PyData} {as : List Addr} {A : Around} {E : Value → Shared → Prop} {s : Shared} {Q : Value → Shared → Prop} (hn : h₀.NoDigits) (r : Reads h₀ (.ref a) d as) (hs : showW d = true) (hg : A.guards = some []) (hu : A.units + (d.depth + 1) < cLine) (hk0 : ∀ b o, h₀.get? b = some o → s.heap.get? b = some o)
    (hQ : ∀ h' u tk, (∀ b o, s.heap.get? b = some o → h'.get? b = some o) → Q (.str d.shown u) { s with heap := h', toks := tk })
    (hsz : d.shown.length ≤ sizeLine) : wpAny (model prog w) A (call (.builtin "repr") [.ref a]) Q E s := by
  cases r with
  | list h1 h2 h3 h4 =>
    rename_i o vs n xs bs₀
    have hz' : (listText (PyData.shownAll xs)).length ≤ sizeLine := by simpa only [PyData.shown] using hsz
    unfold showW at hs
    obtain ⟨bs, hb, hk⟩ := reprAllK_reads (prog := prog) (w := w) hn h4 hs (fun t ht => Nat.le_trans (listText_mem_le ht) hz')
    have hna : a ∉ bs := not_mem_of_deeper (.list h1 h2 h3 h4) (by simp only [PyData.depth]; omega) hb
    refine call_repr_slot (by omega) ⟨o, hk0 _ _ h1, h2⟩ PySem.F.slot_list_repr.toG ?_
    simp only [PyData.depth] at hu
    simp only [PyData.shown] at hQ
    obtain ⟨l⟩ := vs
    cases l with
    | nil =>
      have h4' : ReadsAll h₀ [] xs _ := h4
      cases h4'
      simp only [PyData.shownAll, listText_nil] at hQ
      exact call_list_repr_empty ⟨o, hk0 _ _ h1, h2⟩ (hk0 _ _ h1) h3 ⟨_, _, rfl, hQ s.heap _ _ fun _ _ e => e⟩
    | cons x l =>
      exact call_list_reprK h1 h2 h3 hna (by simpa using hk.length_eq) (fun i y e => hk.item i y (by simpa using e)) (show A.in1.guards = some [] from hg) (fun b _ => Clear.nil b) (by show A.units + 1 + _ < cLine; omega) hk0 (fun h' u tk hk => ⟨_, _, rfl, hQ h' u tk hk⟩) hz'
  | tuple h1 h2 h3 h4 =>
    rename_i o vs n xs
    have hz' : (tupleText (PyData.shownAll xs)).length ≤ sizeLine := by simpa only [PyData.shown] using hsz
    unfold showW at hs
    obtain ⟨bs, hb, hk⟩ := reprAllK_reads (prog := prog) (w := w) hn h4 hs (fun t ht => Nat.le_trans (tupleText_mem_le ht) hz')
    have hna : a ∉ bs := not_mem_of_deeper (.tuple h1 h2 h3 h4) (by simp only [PyData.depth]; omega) hb
    refine call_repr_slot (by omega) ⟨o, hk0 _ _ h1, h2⟩ PySem.F.slot_tuple_repr ?_
    simp only [PyData.depth] at hu
    simp only [PyData.shown] at hQ
    exact call_tuple_reprK h1 h2 h3 hna hk (show A.in1.guards = some [] from hg) (fun b _ => Clear.nil b) (by show A.units + 1 + _ < cLine; omega) hk0 (fun h' u tk hk => ⟨_, _, rfl, hQ h' u tk hk⟩) hz'
  | dict _ _ _ _ _ => unfold showW at hs; cases hs
end
def NoDig (K : Fg) : Prop := PySem.W.nsIn K cStatics "sys.int_max_str_digits" = some none
section
variable {X : Cx} {pins : List (Addr × Obj)} {σ : L2.St} {H : Hp} {s : Shared}
theorem nodig (I : Inv X pins σ H s) (hd : NoDig X.K) : s.heap.NoDigits := by
  obtain ⟨mc, hns, _⟩ := I.nolimit
  refine ⟨mc, hns, ?_⟩
  obtain ⟨o, es, ep, ho, hda, _, hf⟩ := hns
  have e : PySem.W.nsIn X.K cStatics "sys.int_max_str_digits" = some none := hd
  unfold PySem.W.nsIn at e
  split at e
  · rename_i c d es' n' sl q
    have := I.kIn _ _ q
    rw [ho] at this
    cases this
    cases hda
    split at e
    · cases e
    · rename_i he
      rw [← hf]
      unfold nsFind findBy
      rw [← Array.find?_toList, he]
      rfl
  · cases e
theorem repr_okW (hG : X.A.guards = some []) (hu : X.A.units + 80 < cLine) (hd : NoDig X.K) : CallR X (.builtin "repr") (fun xs H Q => ∃ x d, xs = [x] ∧ Dp X.K H x d ∧ showW d = true ∧ d.depth ≤ 64 ∧ d.shown.length ≤ sizeLine ∧ Q (.str d.shown) H) := by
  intro pins s σ H xs us Q I rv h
  obtain ⟨x, d, rfl, hdp, h1, h2, h3, q⟩ := h
  obtain ⟨u, rfl, rx⟩ := vals1 rv
  have done : ∀ h' t tk, (∀ b o, s.heap.get? b = some o → h'.get? b = some o) → EP X pins σ Q (.str d.shown t) { s with heap := h', toks := tk } := fun h' t tk k => ⟨.str _, H, I.kept (t' := tk) k, ⟨_, rfl⟩, q⟩
  obtain ⟨as, r⟩ := Dp.reads I d x u hdp rx
  cases hdp with
  | non => cases rx; exact P.repr_of_none (done s.heap _ _ fun _ _ e => e)
  | bl b => cases rx; exact P.repr_of_bool (done s.heap _ _ fun _ _ e => e)
  | int i =>
    obtain ⟨t, rfl⟩ := rx
    exact call_repr_slot (by omega) (typeIs_int s i t) PySem.F.slot_int_repr.toG (call_int_reprW (nodig I hd) (of_decide_eq_true (by unfold showW at h1; exact h1)) ⟨_, _, rfl, by simpa only [PyData.shown] using done s.heap s.toks (s.toks + 1) fun _ _ e => e⟩)
  | str z => obtain ⟨t, rfl⟩ := rx; exact P.repr_of_str (by simpa [PyData.shown] using done s.heap s.toks (s.toks + 1) fun _ _ e => e) (by simpa [PyData.shown] using h3)
  | lst _ _ => cases rx; exact repr_of_readsW (nodig I hd) r h1 hG (by omega) (fun _ _ e => e) (fun h' u tk k => done h' u tk k) h3
  | tup _ _ => cases rx; exact repr_of_readsW (nodig I hd) r h1 hG (by omega) (fun _ _ e => e) (fun h' u tk k => done h' u tk k) h3
def gReprW : Sto → List D → Option D := fun S ds => match ds with
  | [d] => (match toPy S (deref S d) with
    | some x => if showW x && decide (x.depth ≤ 64) && decide (x.shown.length ≤ sizeLine) then some (.str x.shown) else none
    | none => gRepr S [d])
  | _ => none
theorem b_reprW (hG : X.A.guards = some []) (hu : X.A.units + 80 < cLine) (hd : NoDig X.K) : BiG X (.builtin "repr") gReprW := by
  obtain ⟨r, h1, h2⟩ := (b_repr hG hu).ex
  refine ⟨_, (repr_okW hG hu hd).or h1, fun α F H S xs ds z Q hr hv hz q => ?_⟩
  unfold gReprW at hz
  split at hz
  · rename_i d
    split at hz
    · rename_i x e
      split at hz
      · rename_i hc
        rw [Bool.and_eq_true, Bool.and_eq_true] at hc
        cases hz
        cases hv with
        | cons g1 g2 =>
          cases g2
          exact .inl ⟨_, x, rfl, hr.dp g1 e, hc.1.1, of_decide_eq_true hc.1.2, of_decide_eq_true hc.2, fin_now hr (.str _) q⟩
      · cases hz
    · exact .inr (h2 α F H S xs [d] z Q hr hv hz q)
  · cases hz
end
end DL
set_option Elab.async false
set_option linter.all false
set_option maxRecDepth 100000
set_option maxHeartbeats 4000000
set_option autoImplicit false
/-! The head's hook, with what the interpreter's own table lacks. -/
namespace DL
open PySem PySem.Spec PyProof.Rows L2
def digB (K : Fg) : Bool := decide (PySem.W.nsIn K cStatics "sys.int_max_str_digits" = some none)
end DL
set_option Elab.async false
set_option linter.all false
set_option maxRecDepth 100000
set_option maxHeartbeats 4000000
set_option autoImplicit false
/-! Plain part: the wider operations. -/
namespace DL
open PySem L2
section
variable {S : Sto} {i j : Int} {x y : Str} {Q : D → Sto → Prop} {QL : List D → Sto → Prop} {QB : Bool → Sto → Prop} {δ : Sl} {N B C : Sl → Sto → Prop} {T : D → Sto → Prop}
theorem o_ltU (h : Q (.bl (decide (i < j))) S) : (Res.lift (gLtU S (.int i) (.int j)) S).post Q := h
theorem o_leU (h : Q (.bl (decide (i ≤ j))) S) : (Res.lift (gLeU S (.int i) (.int j)) S).post Q := h
theorem o_gtU (h : Q (.bl (decide (j < i))) S) : (Res.lift (gGtU S (.int i) (.int j)) S).post Q := h
theorem o_geU (h : Q (.bl (decide (j ≤ i))) S) : (Res.lift (gGeU S (.int i) (.int j)) S).post Q := h
/-- texts, by their signs -/
def ltS (x y : Str) : Bool := decide (x.cps.toList < y.cps.toList)
theorem p_bif {c a b : RB} (h : (c δ S).post fun k S1 => (k = true → (a δ S1).post QB) ∧ (k = false → (b δ S1).post QB)) : (bIf c a b δ S).post QB := p_bind (h.mono fun k _ q => by
  cases k with
  | true => exact q.1 rfl
  | false => exact q.2 rfl)
theorem o_lenT {xs : List D} (q : Q (.int xs.length) S) : (Res.lift (gLen S [.tup xs]) S).post Q := q
theorem o_lenL {xs : List D} (q : Q (.int xs.length) S) : (Res.lift (gLen S [.lst xs]) S).post Q := q
theorem s_gtux {u : List D → Sl → Sto → Res Sl} {ds : List D} {QS : Sl → Sto → Prop} (h : (u ds δ S).post QS) : (gTup u (.tux ds) δ S).post QS := h
theorem atI_0 {a : D} {r : List D} : atI (a :: r) 0 = some a := by unfold atI ixN; simp
theorem atI_1 {a b : D} {r : List D} : atI (a :: b :: r) 1 = some b := by
  unfold atI ixN
  simp
  rw [if_pos (by omega)]
  rfl
theorem atI_2 {a b c : D} {r : List D} : atI (a :: b :: c :: r) 2 = some c := by
  unfold atI ixN
  simp
  rw [if_pos (by omega)]
  rfl
theorem asInts_map : ∀ ns : List Int, asInts (ns.map .int) = some ns
  | [] => rfl
  | b :: r => by unfold List.map asInts; rw [asInts_map r]; rfl
theorem o_sumI {ns : List Int} (h : Q (.int ns.sum) S) : (Res.lift (gSum S [.lst (ns.map .int)]) S).post Q := p_lift (by unfold gSum deref; dsimp only; rw [asInts_map]; rfl) h
end
end DL
set_option Elab.async false
set_option linter.all false
set_option maxRecDepth 100000
set_option maxHeartbeats 4000000
set_option autoImplicit false
/-! Module's names that hold tuples. -/
namespace DL
open PySem PySem.Spec PyProof.Rows L2
mutual
def litB (K : Fg) : Nat → Value → D → Bool
  | _, .none, .non => true
  | _, .bool b, .bl c => decide (b = c)
  | _, .int i _, .int j => decide (i = j)
  | _, .str x _, .str y => decide (x = y)
  | n + 1, .ref a, .tup ds => (match K.lookup a with
    | some ⟨.type c, none, .seq us _, _⟩ => decide (c = "tuple") && (decide (us.size ≤ sizeLine) && litAll K n us.toList ds)
    | _ => false)
  | _, _, _ => false
def litAll (K : Fg) : Nat → List Value → List D → Bool
  | _, [], [] => true
  | n, u :: us, d :: ds => litB K n u d && litAll K n us ds
  | _, _, _ => false
end
section
variable {K : Fg} {w : World} {mg : Str → Option Value}
def litF (K : Fg) (p : Str × D) : Bool := match PySem.W.nsIn K mainGlobals p.1 with
  | some (some u) => litB K 9 u p.2
  | _ => false
end
/-! the head's hook with these -/
def obsL (fa : List He.Fa) (fn : List He.DefD) (li : List (Str × D)) (K : Fg) : He.AlD := (digB K && (li.all (litF K) && (He.obsD fa fn K).1), (He.obsD fa fn K).2)
def SaysL (fa : List He.Fa) (fn : List He.DefD) (li : List (Str × D)) (K : Fg) : Prop := obsL fa fn li K = He.valD fn
theorem SaysL.all {fa : List He.Fa} {fn : List He.DefD} {li : List (Str × D)} {K : Fg} (h : SaysL fa fn li K) : He.SaysD fa fn K ∧ NoDig K ∧ ∀ (i : Nat) (p : Str × D), li[i]? = some p → litF K p = true := by
  have h0 : obsL fa fn li K = He.valD fn := h
  have h1 : (digB K && (li.all (litF K) && (He.obsD fa fn K).1)) = true := congrArg (fun z : He.AlD => z.1) h0
  have h2 : (obsL fa fn li K).2 = (He.valD fn).2 := congrArg (fun z : He.AlD => z.2) h0
  rw [Bool.and_eq_true, Bool.and_eq_true] at h1
  refine ⟨?_, ?_, fun i p hp => List.all_eq_true.mp h1.2.1 p (List.mem_of_getElem? hp)⟩
  · show He.obsD fa fn K = He.valD fn
    exact Prod.ext h1.2.2 h2
  · have h3 := h1.1
    unfold digB at h3
    unfold NoDig
    exact of_decide_eq_true h3
end DL
set_option Elab.async false
set_option linter.all false
set_option maxRecDepth 100000
set_option maxHeartbeats 4000000
set_option autoImplicit false
/-! list(range(n)): a new list of numbers. -/
namespace DL
open PySem PySem.Spec PyProof.Rows L2
end DL
set_option Elab.async false
set_option linter.all false
set_option maxRecDepth 100000
set_option maxHeartbeats 4000000
set_option autoImplicit false
/-! d.update(e), both dicts with keys ints and texts. -/
namespace L2
open PySem PySem.Spec PyProof.Rows
end L2
namespace DL
open PySem PySem.Spec PyProof.Rows L2
end DL
set_option Elab.async false
set_option linter.all false
set_option maxRecDepth 100000
set_option maxHeartbeats 4000000
set_option autoImplicit false
/-! sorted(d) of a dict with texts for keys, fewer than 64. -/
namespace DL
open PySem PySem.Spec PyProof.Rows L2
end DL
set_option Elab.async false
set_option linter.all false
set_option maxRecDepth 100000
set_option maxHeartbeats 4000000
set_option autoImplicit false
/-! a != b of two dicts whose values are numbers. -/
namespace DL
open PySem PySem.Spec PyProof.Rows L2
end DL
set_option Elab.async false
set_option linter.all false
set_option maxRecDepth 100000
set_option maxHeartbeats 4000000
set_option autoImplicit false
/-! d.clear() of a dict with keys ints and texts. -/
namespace DL
open PySem PySem.Spec PyProof.Rows L2
end DL
set_option Elab.async false
set_option linter.all false
set_option maxRecDepth 100000
set_option maxHeartbeats 4000000
set_option autoImplicit false
/-! a != b of two dicts whose values are data. -/
namespace DL
open PySem PySem.Spec PyProof.Rows L2
end DL
set_option Elab.async false
set_option linter.all false
set_option maxRecDepth 100000
set_option maxHeartbeats 4000000
set_option autoImplicit false
/-! sorted(d) of a dict with ints for keys, any number of them. -/
namespace L2
open PySem PySem.Spec PyProof.Rows
end L2
namespace DL
open PySem PySem.Spec PyProof.Rows L2
end DL
set_option Elab.async false
set_option linter.all false
set_option maxRecDepth 100000
set_option maxHeartbeats 4000000
set_option autoImplicit false
/-! enumerate(tuple). -/
namespace PySem
open Sem (wp)
open AutoSeq1 (wpAny_loadPart')
end PySem
namespace L2
open PySem PySem.Spec PyProof.Rows
end L2
namespace DL
open PySem PySem.Spec PyProof.Rows L2
end DL
set_option Elab.async false
set_option linter.all false
set_option maxRecDepth 100000
set_option maxHeartbeats 4000000
set_option autoImplicit false
/-! t[:0:-1] of a tuple that is not empty. -/
namespace DL
open PySem PySem.Spec PyProof.Rows L2
end DL
set_option Elab.async false
set_option linter.all false
set_option maxRecDepth 100000
set_option maxHeartbeats 4000000
set_option autoImplicit false
/-! xs.count(n) of ints. -/
namespace L2
open PySem PySem.Spec PyProof.Rows
end L2
namespace DL
open PySem PySem.Spec PyProof.Rows L2
end DL
set_option Elab.async false
set_option linter.all false
set_option maxRecDepth 100000
set_option maxHeartbeats 4000000
set_option autoImplicit false
/-! xs.extend(ys), ys a list of the store. -/
namespace DL
open PySem PySem.Spec PyProof.Rows L2
end DL
set_option Elab.async false
set_option linter.all false
set_option maxRecDepth 100000
set_option maxHeartbeats 4000000
set_option autoImplicit false
/-! == of a list whose items are lists of the store, with data. -/
namespace DL
open PySem PySem.Spec PyProof.Rows L2
end DL
set_option Elab.async false
set_option linter.all false
set_option maxRecDepth 100000
set_option maxHeartbeats 4000000
set_option autoImplicit false
/-! zip(tuple, list). -/
namespace L2
open PySem PySem.Spec PyProof.Rows
end L2
namespace DL
open PySem PySem.Spec PyProof.Rows L2
end DL
set_option Elab.async false
set_option linter.all false
set_option maxRecDepth 100000
set_option maxHeartbeats 4000000
set_option autoImplicit false
/-! range by a step of -1; zip of three lists. -/
namespace L2
open PySem PySem.Spec PyProof.Rows
end L2
namespace DL
open PySem PySem.Spec PyProof.Rows L2
end DL
set_option Elab.async false
set_option linter.all false
set_option maxRecDepth 100000
set_option maxHeartbeats 4000000
set_option autoImplicit false
/-! sorted of a tuple; len of a dict. -/
namespace PySem.W
open PySem PySem.Calls PyProof.Rows
end PySem.W
namespace DL
open PySem PySem.Spec PyProof.Rows L2
open PySem.W
end DL
set_option Elab.async false
set_option linter.all false
set_option maxRecDepth 100000
set_option maxHeartbeats 4000000
set_option autoImplicit false
/-! a, b, c = x, y, z. -/
namespace DL
open PySem PySem.Spec PyProof.Rows L2
end DL
set_option Elab.async false
set_option linter.all false
set_option maxRecDepth 100000
set_option maxHeartbeats 4000000
set_option autoImplicit false
/-! list(d.items()), list(d), displays with tuple keys, d.values(), isinstance of one of some classes, defs that call themselves. -/
namespace DL
open PySem PySem.Spec PyProof.Rows L2
/-! ### list(d.items()) -/
/-! ### list(d) -/
end DL
set_option Elab.async false
set_option linter.all false
set_option maxRecDepth 100000
set_option maxHeartbeats 4000000
set_option autoImplicit false
/-! Displays with tuple keys, d.values(), isinstance of one of some classes, defs that call themselves. -/
namespace DL
open PySem PySem.Spec PyProof.Rows L2
/-! ### {t: v, ..} with tuples for keys -/
/-! ### for v in d.values(), d locked -/
/-! ### isinstance(x, (T, U, ..)) -/
/-! ### in, by itself -/
/-! ### defs that call themselves -/
end DL
set_option Elab.async false
set_option linter.all false
set_option maxRecDepth 100000
set_option maxHeartbeats 4000000
set_option autoImplicit false
/-! t * n of tuples, d == e of dicts. -/
namespace DL
open PySem PySem.Spec PyProof.Rows L2
end DL
set_option Elab.async false
set_option linter.all false
set_option maxRecDepth 100000
set_option maxHeartbeats 1000000
set_option autoImplicit false
/-! x += e, x -= e of whole numbers. -/
namespace DL
open PySem PySem.Spec PyProof.Rows L2
def sAugI (i : Nat) (f : Int → Int → Int) (e : RE) : RS := fun δ S => match δ[i]? with
  | some (some (.int a)) => (e δ S).out δ fun y S1 => match y with
    | .int b => .nx (δ.set i (some (.int (f a b)))) S1
    | _ => .stuck
  | _ => .stuck
section
variable {X : Cx} {W : WX} {e : Expr} {ra : RE} {pos pos' : Pos}
theorem psd_augI {op : Operator} {f : Int → Int → Int} (ho : PIp X op (ipI f)) (i : Nat) {x : Str} (hN : X.N.Nodup) (he : PD X W e ra) (hi : X.N[i]? = some x := by rfl) (hx : Loc X.env.scope x := by first | exact Or.inl rfl | exact Or.inr rfl) (hf : X.fn x = true ∨ X.env.scope.names.lookup x = some .local := by first | exact .inl rfl | exact .inr rfl | assumption) : PSd X W (.AugAssign (.Name x pos') op e pos) (sAugI i f ra) := by
  obtain ⟨t, p1, s1⟩ := he.ex
  refine ⟨_, ps_aug hN hi hx p1 ho hf, fun α F σ H δ S E hr hs h => ?_⟩
  unfold sAugI at h
  split at h
  · rename_i a ea
    obtain ⟨v, g1, h2⟩ := hs.2 i (.int a) ea
    refine ⟨v, g1, s1 α F σ H δ S _ hr hs (wpS.out h hs fun d S1 _ y H1 β F1 r1 q1 v1 h1 => ?_)⟩
    split at h1
    · rename_i b _
      cases h2
      cases v1
      exact ⟨a, b, rfl, rfl, h1.nx r1 ((hs.mono q1.sub).set (.int _))⟩
    · exact h1.elim
  · exact h.elim
theorem psd_addI (i : Nat) {x : Str} (hN : X.N.Nodup) (he : PD X W e ra) (hi : X.N[i]? = some x := by rfl) (hx : Loc X.env.scope x := by first | exact Or.inl rfl | exact Or.inr rfl) (hf : X.fn x = true ∨ X.env.scope.names.lookup x = some .local := by first | exact .inl rfl | exact .inr rfl | assumption) : PSd X W (.AugAssign (.Name x pos') .Add e pos) (sAugI i (fun a b => a + b) ra) := psd_augI ip_add i hN he hi hx hf
end
theorem s_augI {i : Nat} {f : Int → Int → Int} {e : RE} {δ : Sl} {S : Sto} {a : Int} {N B C : Sl → Sto → Prop} {T : D → Sto → Prop} (h : δ[i]? = some (some (.int a))) (q : (e δ S).post fun y S1 => ∃ b, y = .int b ∧ N (δ.set i (some (.int (f a b)))) S1) : (sAugI i f e δ S).post N T B C := by
  unfold sAugI
  rw [h]
  refine p_out (q.mono fun y S1 ⟨b, e1, q⟩ => ?_)
  subst e1
  exact q
end DL
set_option Elab.async false
set_option linter.all false
set_option maxRecDepth 100000
set_option maxHeartbeats 1000000
set_option autoImplicit false
/-! t * n of tuples, empty or once. -/
namespace DL
open PySem PySem.Spec PyProof PyProof.Rows L2
end DL
set_option Elab.async false
set_option linter.all false
set_option maxRecDepth 100000
set_option maxHeartbeats 1000000
set_option autoImplicit false
/-! list.pop(i). -/
namespace DL
open PySem PySem.Spec PyProof.Rows L2
def mPopI : Sto → D → List D → Option (D × Sto) := fun S d ds => match d, ds with
  | .ptr k, [.int i] => (match S[k]? with
    | some (.lst xs) => if 0 ≤ i ∧ i < 2 ^ 62 then (match xs[i.toNat]? with
      | some y => some (y, S.set k (.lst (xs.eraseIdx i.toNat)))
      | none => none) else none
    | _ => none)
  | _, _ => none
section
variable {X : Cx}
theorem m_popI : MdG X "list.pop" mPopI := by
  refine ⟨L2.rPopAt, mt_popAt, fun α F H S x xs d ds z S' Q hr hx hv hz q => ?_⟩
  unfold mPopI at hz
  split at hz
  · rename_i k i
    split at hz
    · rename_i zs e
      split at hz
      · rename_i hc
        split at hz
        · rename_i y ey
          cases hz
          cases hx with
          | ptr ha =>
            obtain ⟨o, _⟩ := hr.own k _ _ ha e
            obtain ⟨us, o1, o2⟩ := o
            cases hv with
            | cons h1 h2 =>
              cases h1
              cases h2
              obtain ⟨v, e1, e2⟩ := o2.get ey
              have hlt := (List.getElem?_eq_some_iff.mp e1).1
              obtain ⟨a1, a2⟩ := hr.setO (o := .lst (us.eraseIdx i.toNat)) (d := .lst (zs.eraseIdx i.toNat)) ha e rfl ⟨_, upd_same, o2.eraseIdx _⟩
              refine ⟨_, us, i, i.toNat, v, rfl, rfl, o1, by omega, by omega, ?_, e1, q _ _ _ _ a1 a2 (e2.mono a2.sub)⟩
              unfold seqIndex?
              have h0 : ¬ i < 0 := by omega
              have h1 : i < us.length := by omega
              simp [h0, h1, hc.1]
        · cases hz
      · cases hz
    · cases hz
  · cases hz
end
end DL
set_option Elab.async false
set_option linter.all false
set_option maxRecDepth 100000
set_option maxHeartbeats 3000000
set_option autoImplicit false
/-! Exceptions: an object in the heap is tracked; except clauses whose exception is kept. -/
namespace L2
open PySem PySem.Spec PyProof.Rows DL
section
variable {X : Cx} {pins : List (Addr × Obj)} {σ : List (Option V)} {H : Hp} {s : Shared}
/-- an object that stands in the heap, of no one as yet, is tracked -/
theorem Inv.track {a : Addr} {o : HO} (I : Inv X pins σ H s) (n0 : X.s_0.heap.get? a = none) (na : H a = none) (np : ∀ p ∈ X.pn ++ pins, p.1 ≠ a) (nL : a ≠ X.env.locals) (nc : ∀ x c, X.env.cells.lookup x = some c → c ≠ a)
    (new : ObjOk X.prog X.w (upd H a o) s.heap a o) : Inv X pins σ (upd H a o) s := by
  refine ⟨I.ok, I.os, I.bare, ⟨I.base.keep, I.base.slot, fun b u e n hx => ?_, I.base.there, fun b xs e => ?_, fun b u v e => ?_, fun b ps e => ?_⟩, I.loc, I.cell, ?_, fun x c e => ?_, fun p hp => ?_, fun b u e => ?_, I.len⟩
  · have z : b ≠ a := fun z => by rw [z, n0] at e; cases e
    rw [upd_ne z]
    exact I.base.free b u e n hx
  · have tt := I.base.tups b xs e
    rw [upd_ne (ne_of_none tt na)]
    exact tt
  · have ff := I.base.frzs b u v e
    rw [upd_ne (ne_of_none ff na)]
    exact ff
  · exact (I.base.tbls b ps e).imp fun m tb => by rw [upd_ne (ne_of_none tb na)]; exact tb
  · rw [upd_ne (Ne.symm nL)]
    exact I.free
  · rw [upd_ne (nc x c e)]
    exact I.freeC x c e
  · obtain ⟨h1, h2, h3, h4, h5⟩ := I.pin p hp
    exact ⟨h1, by rw [upd_ne (np p hp)]; exact h2, h3, h4, h5⟩
  · by_cases hb : b = a
    · subst hb
      rw [upd_same] at e
      cases e
      exact new
    · rw [upd_ne hb] at e
      exact (I.hok b u e).stay (fun c v _ q => q) (fun c q => by rw [upd_ne (ne_of_none q na)]; exact q) fun c xs q => by rw [upd_ne (ne_of_none q na)]; exact q
end
end L2
set_option Elab.async false
set_option linter.all false
set_option maxRecDepth 100000
set_option maxHeartbeats 2000000
set_option autoImplicit false
/-! Exceptions: facts about the classes; raise, try. -/
namespace DL
open PySem PySem.Spec PyProof.Rows L2
/-- which class is under which -/
def subC (c x : Str) : Bool := decide (c = x) || decide (x = "LoopError")
/-- what the written part says of the exception classes -/
structure Xcl (K : Fg) (mg : Str → Option Value) (cl : List Str) : Prop where
  at_ : ∀ c ∈ cl, mg c = some (.ref (He.ga K c))
  ex : ∀ c ∈ cl, ∀ x ∈ cl, PySem.W.exmOne K (.ref (He.ga K c)) (.ref (He.ga K x)) = some (subC c x)
  is_ : ∀ c ∈ cl, ∀ x ∈ cl, PySem.W.kitOne K (.ref (He.ga K c)) (.ref (He.ga K x)) = some (subC c x)
  isV : ∀ c ∈ cl, PySem.W.kitOne K (.ref (He.ga K c)) (.type "ValueError") = some true
  ec : ∀ c ∈ cl, ExcC K (He.ga K c)
  xf : ∀ c ∈ cl, XfC K (He.ga K c)
  ty : ∀ c ∈ cl, PySem.W.typeIn K (.ref (He.ga K c)) = some (.type "type")
section
variable {X : Cx} {W : WX} {st : List Stmt} {r : RS}
theorem strs_map {A B : Type} : ∀ {xs : List (Str × A)} {fs : List (Str × B)}, xs.map (·.1) = fs.map (·.1) → fs.map (fun p => D.str p.1) = xs.map (fun p => D.str p.1)
  | [], [], _ => rfl
  | [], _ :: _, h => by cases h
  | _ :: _, [], h => by cases h
  | x :: xs, f :: fs, h => by
    have h1 : x.1 = f.1 := (List.cons.inj h).1
    have h2 := (List.cons.inj h).2
    show D.str f.1 :: _ = D.str x.1 :: _
    rw [h1, strs_map h2]
end
/-! ### raise -/
end DL
set_option Elab.async false
set_option linter.all false
set_option maxRecDepth 100000
set_option maxHeartbeats 2000000
set_option autoImplicit false
/-! Exceptions whose class has an own __init__. -/
namespace DL
open PySem PySem.Spec PyProof.Rows L2
/-- the base class, whose __init__ is ValueError's -/
structure LeC (K : Fg) (L : Addr) : Prop where
  ga : PySem.W.specialIn K (.ref L) "__getattribute__" = some (some (.builtin "type.__getattribute__"))
  rd : PySem.W.readsIn K L (.type "type") = true
  fi : PySem.W.findCls K (.ref L) (.type "type") "__init__" = some (.val (.builtin "ValueError.__init__"))
section
variable {X : Cx} {L : Addr} {e : Expr} {es : List Expr} {ta : TA} {p1 p2 pos : Pos}
theorem pe_leinit {pl : Sem Bool} (T : LeC X.K L) (hm : X.mg "LoopError" = some (.ref L)) (ha : PA X (e :: es) ta) (hg : Gl X "LoopError" := by rfl)
    (hc : eval (.Call (.Attribute (.Name "LoopError" p1) "__init__" p2) (e :: es) [] pos) X.env = (do let base ← eval (.Name "LoopError" p1) X.env; standAt p2.atName; let (g, ahead) ← holding [base] (getMethod base "__init__" pl); callWith pos g ahead (backTo pos (starEach (e :: es) X.env)) (backToKw pos (keywordEach [] X.env))) := by rfl)
    (h1 : starEach (e :: es) X.env = (false, eval e X.env) :: starEach es X.env := by rfl) (h2 : (backTo pos (starEach es X.env)).any (·.1) = false := by rfl) : PE X (.Call (.Attribute (.Name "LoopError" p1) "__init__" p2) (e :: es) [] pos) (tVeI X.K ta) := by
  constructor
  intro pins s σ H Q inv pre
  apply PySem.W.methodCall_KW (ld_glob inv hg hm ?_ (by decide)) hc
  apply PySem.W.method_cls inv.kIn T.ga
  apply PySem.W.cls_value inv.kIn T.rd T.fi (by decide +kernel)
  show wpAny (model X.prog X.w) X.A (callWith pos (.builtin "ValueError.__init__") [] (backTo pos (starEach (e :: es) X.env)) []) _ _ _
  apply PyProof.Rows.callWith_method1 _ h1 h2
  refine thn (ha.run pos pins _ σ H _ (inv.tok _) pre) fun us s1 got => ?_
  obtain ⟨vs, H1, I1, rel, a, C, ws, rfl, few, TC, at_, q⟩ := got
  cases rel with
  | cons ra rw =>
    cases ra
    exact oinit_ok TC I1 at_ (by rw [← Paired.length rw, sizeLine_eq]; omega) fun s' I2 => ⟨.non, H1, I2, rfl, q⟩
end
/-- what an __init__ that keeps its arguments leaves -/
def spI (K : Fg) (C : Addr) (ns : List Str) : Sp := fun vs H Q _ => vs.length = ns.length + 1 ∧ ∃ (a : Addr) (ws : List V), vs = .ref a :: ws ∧ OexC K C ∧ H a = some (exo a C none) ∧
  ∀ (d : Addr) (H2 : Hp), H d = none → d ≠ a → H2 a = some (exo a C (some d)) → H2 d = some (exd d (ns.zip ws).reverse) → (∀ b, b ≠ a → b ≠ d → H2 b = H b) → Q .non H2
section
variable {P : Program} {w : World} {K : Fg} {mg : Str → Option Value} {base : Heap} {C L : Addr}
theorem init1 {x qual f1 m : Str} {st : Stmt} {f : Addr} {fd : FuncData} (F : Fun K x qual st f fd) (S : FnScope ["self", f1] ["self", f1] (defScope st)) (hno : PySem.W.findIn K (.ref C) f1 = some none)
    (hps : ∀ cdv A outer s H E, PSs (cxOf (L2.CX P w) P w K mg base ["self", f1] qual (defScope st) f cdv A outer s H E) (defBody st) (tSeq (tDrop (tVeI K (tCons (tVar 0) (tCons (tC (.str m)) tNil)))) (tOst K f1 (tVar 0) (tVar 1)))) : FnOk P w K mg base (L2.CX P w) 1 f fd ["self", f1] (spI K C [f1]) := by
  refine Fun.okX F S (fun vs H Q E h => h.1) fun cdv A outer s H vs Q E hr hsp => ⟨_, hps cdv A outer s H E, ?_⟩
  obtain ⟨hl, a, ws, rfl, T, ha, fin⟩ := hsp
  match ws, hl with
  | [y], _ =>
    refine ⟨.ref a, rfl, a, C, [.str m], rfl, (by show 1 ≤ 1000; decide), T, ha, y, rfl, .ref a, rfl, a, C, rfl, T, hno, .inl ⟨ha, fun dx hn hne => ?_⟩⟩
    exact fin dx _ hn hne upd_same (by rw [upd_ne hne, upd_same]; rfl) fun b b1 b2 => by rw [upd_ne b1, upd_ne b2]
theorem init2 {x qual f1 f2 m : Str} {st : Stmt} {f : Addr} {fd : FuncData} (F : Fun K x qual st f fd) (S : FnScope ["self", f1, f2] ["self", f1, f2] (defScope st)) (hno1 : PySem.W.findIn K (.ref C) f1 = some none) (hno2 : PySem.W.findIn K (.ref C) f2 = some none)
    (hps : ∀ cdv A outer s H E, PSs (cxOf (L2.CX P w) P w K mg base ["self", f1, f2] qual (defScope st) f cdv A outer s H E) (defBody st) (tSeq (tDrop (tVeI K (tCons (tVar 0) (tCons (tC (.str m)) tNil)))) (tSeq (tOst K f1 (tVar 0) (tVar 1)) (tOst K f2 (tVar 0) (tVar 2))))) : FnOk P w K mg base (L2.CX P w) 1 f fd ["self", f1, f2] (spI K C [f1, f2]) := by
  refine Fun.okX F S (fun vs H Q E h => h.1) fun cdv A outer s H vs Q E hr hsp => ⟨_, hps cdv A outer s H E, ?_⟩
  obtain ⟨hl, a, ws, rfl, T, ha, fin⟩ := hsp
  match ws, hl with
  | [y, z], _ =>
    refine ⟨.ref a, rfl, a, C, [.str m], rfl, (by show 1 ≤ 1000; decide), T, ha, y, rfl, .ref a, rfl, a, C, rfl, T, hno1, .inl ⟨ha, fun dx hn hne => ?_⟩⟩
    refine ⟨z, rfl, .ref a, rfl, a, C, rfl, T, hno2, .inr ⟨dx, [(f1, y)], upd_same, by rw [upd_ne hne, upd_same], (by show 1 ≤ 900; decide), ?_⟩⟩
    refine fin dx _ hn hne (by rw [upd_ne (Ne.symm hne), upd_same]) (by rw [upd_same]; rfl) fun b b1 b2 => by rw [upd_ne b2, upd_ne b1, upd_ne b2]
/-- a class and its __init__ -/
structure XIn (P : Program) (w : World) (K : Fg) (mg : Str → Option Value) (base : Heap) (c : Str) (ns : List Str) : Prop where
  at_ : mg c = some (.ref (He.ga K c))
  oex : OexC K (He.ga K c)
  ex : ∃ (fI : Addr) (fd : FuncData) (ps : List Str), PySem.W.findIn K (.ref (He.ga K c)) "__init__" = some (some (.ref fI)) ∧ PySem.W.typeIn K (.ref fI) = some (.type "function") ∧ Binds K fd ps [] ∧ FnOk P w K mg base (L2.CX P w) 1 fI fd ps (spI K (He.ga K c) ns)
end
theorem zip_fst {A : Type} : ∀ {ns : List Str} {xs : List A}, xs.length = ns.length → (ns.zip xs).map (·.1) = ns
  | [], [], _ => rfl
  | [], _ :: _, h => by cases h
  | _ :: _, [], h => by cases h
  | n :: ns, x :: xs, h => by
    rw [List.zip_cons_cons, List.map_cons, zip_fst (by simpa using h)]
theorem zip_snd {A : Type} : ∀ {ns : List Str} {xs : List A}, xs.length = ns.length → (ns.zip xs).map (·.2) = xs
  | [], [], _ => rfl
  | [], _ :: _, h => by cases h
  | _ :: _, [], h => by cases h
  | n :: ns, x :: xs, h => by
    rw [List.zip_cons_cons, List.map_cons, zip_snd (by simpa using h)]
end DL
set_option Elab.async false
set_option linter.all false
set_option maxRecDepth 100000
set_option maxHeartbeats 2000000
set_option autoImplicit false
/-! isinstance of what was caught, its fields; count and index of flat things; upper. -/
namespace L2
open PySem PySem.Spec PyProof.Rows DL
/-- isinstance(e, c), e tracked -/
def rIsX (K : Fg) : List V → Hp → VK → Prop := fun xs H Q => ∃ (a D : Addr) (d : Option Addr) (c : V) (cv : Value) (b : Bool), xs = [.ref a, c] ∧ H a = some (exh a (.ref D) d) ∧ (d = none ∨ ∃ dd ws, d = some dd ∧ H dd = some (.xd ws)) ∧ ExcC K D ∧ (∀ u, RelV c u → u = cv) ∧
  PySem.W.kitOne K (.ref D) cv = some b ∧ Q (.bl b) H
theorem inst_of {X : Cx} {pins : List (Addr × Obj)} {σ : List (Option V)} {H : Hp} {s : Shared} {a D : Addr} {d : Option Addr} (I : Inv X pins σ H s) (ha : H a = some (exh a (.ref D) d)) (hd : d = none ∨ ∃ dd ws, d = some dd ∧ H dd = some (.xd ws)) :
    ∃ ox od, PySem.W.InstAt s.heap a ox D od ∧ ∀ dd ws, d = some dd → H dd = some (.xd ws) → ∃ (o : Obj) (m : Str → Option Value), od = some o ∧ (∀ name, PySem.W.lookIn name o = some (m name)) ∧ ∀ f, RelO (ws.lookup f) (m f) := by
  have ok : ObjOk X.prog X.w H s.heap a (exh a (.ref D) d) := I.hok a _ ha
  obtain ⟨⟨ox, vs, at_, ⟨kind, dict⟩, flds⟩, _, _⟩ := ok
  have plain : PySem.W.notCls ox = true := by unfold PySem.W.notCls; rw [flds] <;> rfl
  rcases hd with rfl | ⟨dd, ws, rfl, hw⟩
  · exact ⟨ox, none, ⟨at_, kind, plain, by rw [dict]; trivial⟩, fun _ _ z => nomatch z⟩
  · have okd : ObjOk X.prog X.w H s.heap dd (.xd ws) := I.hok dd _ hw
    obtain ⟨m, ns, rel⟩ := okd
    obtain ⟨o, there, look⟩ := lookIn_ns ns
    refine ⟨ox, some o, ⟨at_, kind, plain, by rw [dict]; exact there⟩, fun d2 ws2 e2 hw2 => ?_⟩
    cases e2
    rw [hw] at hw2
    cases hw2
    exact ⟨o, m, rfl, look, rel⟩
theorem call_isX {X : Cx} : CallR X (.builtin "isinstance") (rIsX X.K) := by
  intro pins s σ H xs us Q I r h
  obtain ⟨a, D, d, c, cv, b, rfl, ha, hd, C, only, e, q⟩ := h
  cases r with
  | cons rx rr =>
    cases rr with
    | cons rt rr =>
      cases rr
      cases rx
      obtain rfl := only _ rt
      obtain ⟨ox, od, J, _⟩ := inst_of I ha hd
      have some_ : (PySem.W.clsIn X.K D).isSome = true := by
        obtain ⟨cd, hc, _⟩ := PySem.W.any_some C.hd
        rw [hc]
        rfl
      exact PySem.W.kia_one (PySem.W.kitx_exc some_ C.hg C.hk C.hs C.ha C.hn C.ht C.hm) I.kIn J e (fun z => nomatch z) fun tk => ⟨.bl b, H, I.kept (t' := tk) fun _ _ z => z, rfl, q⟩
/-- e.f, e tracked -/
def tXg (K : Fg) (f : Str) (te : TE) : TE := fun σ H Q => te σ H fun x H1 => ∃ (a C dd : Addr) (ws : List (Str × V)) (v : V), x = .ref a ∧ H1 a = some (exh a (.ref C) (some dd)) ∧ H1 dd = some (.xd ws) ∧ XfC K C ∧ PySem.W.findIn K (.ref C) f = some none ∧ ws.lookup f = some v ∧ Q v H1
theorem pe_xg {X : Cx} {e : Expr} {te : TE} {pos : Pos} {n : Str} (he : PE X e te) (hb : attributeBase e n X.env (eval e X.env) = eval e X.env := by rfl) : PE X (.Attribute e n pos) (tXg X.K n te) := by
  constructor
  intro pins s σ H Q inv pre
  apply attr_of hb
  refine thn (he.run pins s σ H _ inv pre) fun u s1 got => ?_
  obtain ⟨x, H1, I1, rx, a, C, dd, ws, v, rfl, ha, hw, T, no, look, q⟩ := got
  cases rx
  obtain ⟨ox, od, J, more⟩ := inst_of I1 ha (.inr ⟨dd, ws, rfl, hw⟩)
  obtain ⟨o, m, rfl, lk, rel⟩ := more dd ws rfl hw
  have r0 := rel n
  rw [look] at r0
  obtain ⟨w, hu, ru⟩ := RelO.some_of (v := v) (o := m n) r0
  exact HandSPX.exc_get I1.kIn J T.ga T.gg T.exC (PySem.W.findObj_own T.hdC no rfl (by rw [lk, hu])) (handed_of ru) ⟨v, H1, I1.tok _, ru, q⟩
end L2
namespace DL
open PySem PySem.Spec PyProof.Rows L2
def gIsiE (cl : List Str) : Sto → List D → Option D := fun _ ds => match ds with
  | [.exc c _, .fn x] => if decide (c ∈ cl) && decide (x ∈ cl) then some (.bl (subC c x)) else none
  | [.exc c _, .ty n] => if decide (c ∈ cl) && decide (n = "ValueError") then some (.bl true) else none
  | _ => none
def lookS : List (D × D) → Str → Option D
  | [], _ => none
  | (.str k, v) :: r, n => if n = k then some v else lookS r n
  | _ :: _, _ => none
def gFld (cl : List Str) (n : Str) : Sto → D → Option D := fun _ d => match d with
  | .exc c fs => if decide (c ∈ cl) then lookS fs n else none
  | _ => none
section
variable {X : Cx} {W : WX} {wd : World} {K : Fg} {mg : Str → Option Value} {α : List Addr} {F H : Hp} {S : Sto} {cl : List Str}
theorem exc_at (T : Xcl K mg cl) (r : Rel wd K mg α F H S) {v : V} {c : Str} {fs : List (D × D)} (hc : c ∈ cl) (h : DV wd K mg F α v (.exc c fs)) :
    ∃ a d ws, v = .ref a ∧ H a = some (exh a (.ref (He.ga K c)) d) ∧ (d = none ∨ ∃ dd ws, d = some dd ∧ H dd = some (.xd ws)) ∧ (d = none → fs = []) ∧ (∀ dd, d = some dd → H dd = some (.xd ws)) ∧ fs.map (·.1) = ws.map (fun p => .str p.1) ∧ DVs wd K mg F α (ws.map (·.2)) (fs.map (·.2)) := by
  cases h with
  | exc h1 h2 h3 h4 h5 =>
    rename_i C a d ws
    have e := T.at_ c hc
    rw [h1] at e
    have e2 : C = He.ga K c := Value.ref.inj (Option.some.inj e)
    subst e2
    refine ⟨a, d, ws, rfl, r.sub _ _ h2, ?_, ?_, ?_, h4, h5⟩
    · rcases h3 with ⟨e, _⟩ | ⟨dd, e, q⟩
      · exact .inl e
      · exact .inr ⟨dd, ws, e, r.sub _ _ q⟩
    · intro e
      rcases h3 with ⟨_, ew⟩ | ⟨dd, e2, _⟩
      · rw [ew] at h4
        exact List.map_eq_nil_iff.mp h4
      · rw [e] at e2; cases e2
    · intro dd e
      rcases h3 with ⟨e2, _⟩ | ⟨d2, e2, q⟩
      · rw [e] at e2; cases e2
      · rw [e] at e2; cases e2; exact r.sub _ _ q
theorem b_isiE (T : Xcl X.K X.mg cl) : BiG X (.builtin "isinstance") (gIsiE cl) := by
  refine ⟨_, call_isX, fun α F H S xs ds z Q hr hv hz q => ?_⟩
  unfold gIsiE at hz
  split at hz
  · rename_i c fs x
    split at hz
    · rename_i hm
      rw [Bool.and_eq_true, decide_eq_true_eq, decide_eq_true_eq] at hm
      cases hz
      cases hv with
      | cons h1 h2 =>
        cases h2 with
        | cons h3 h4 =>
          cases h4
          obtain ⟨a, d, ws, rfl, ha, hd, _⟩ := exc_at T hr hm.1 h1
          cases h3 with
          | fn hx =>
            have e := T.at_ x hm.2
            rw [hx] at e
            have e2 := Value.ref.inj (Option.some.inj e)
            subst e2
            exact ⟨a, _, d, _, .ref (He.ga X.K x), _, rfl, ha, hd, T.ec c hm.1, fun u r => r, T.is_ c hm.1 x hm.2, fin_now hr (.bl _) q⟩
    · cases hz
  · rename_i c fs n
    split at hz
    · rename_i hm
      rw [Bool.and_eq_true, decide_eq_true_eq, decide_eq_true_eq] at hm
      cases hz
      obtain ⟨hc, rfl⟩ := hm
      cases hv with
      | cons h1 h2 =>
        cases h2 with
        | cons h3 h4 =>
          cases h4
          obtain ⟨a, d, ws, rfl, ha, hd, _⟩ := exc_at T hr hc h1
          cases h3
          exact ⟨a, _, d, _, .type "ValueError", _, rfl, ha, hd, T.ec c hc, fun u r => r, T.isV c hc, fin_now hr (.bl _) q⟩
    · cases hz
  · cases hz
theorem pd_cls {x : Str} {a : Addr} {pos : Pos} (hm : X.mg x = some (.ref a)) (hg : Gl X x := by rfl) (hd : (x == ("__debug__" : Str)) = false := by decide) : PD X W (.Name x pos) (rC (.fn x)) := pd_c (v := .ref a) (pe_glob hg hm rfl hd) fun _ _ => .fn hm
theorem look_dv {n : Str} : ∀ {fs : List (D × D)} {ws : List (Str × V)} {z : D}, fs.map (·.1) = ws.map (fun p => D.str p.1) → DVs wd K mg F α (ws.map (·.2)) (fs.map (·.2)) → lookS fs n = some z → ∃ v, ws.lookup n = some v ∧ DV wd K mg F α v z
  | [], _, _, _, _, h => by cases h
  | (k, v) :: fs, [], _, e, _, _ => by cases e
  | (k, v) :: fs, (m, w) :: ws, z, e, hv, h => by
    have e1 : k = .str m := (List.cons.inj e).1
    subst e1
    cases hv with
    | cons h1 h2 =>
      have h : (if n = m then some v else lookS fs n) = some z := h
      rw [List.lookup_cons]
      by_cases q : n = m
      · rw [if_pos q] at h
        cases h
        rw [show (n == m) = true by simpa using q]
        exact ⟨w, rfl, h1⟩
      · rw [if_neg q] at h
        rw [show (n == m) = false by simpa using q]
        exact look_dv (List.cons.inj e).2 h2 h
theorem pd_fld {e : Expr} {ra : RE} {n : Str} {pos : Pos} (T : Xcl X.K X.mg cl) (hn : ∀ c ∈ cl, PySem.W.findIn X.K (.ref (He.ga X.K c)) n = some none) (ha : PD X W e ra) (hb : attributeBase e n X.env (eval e X.env) = eval e X.env := by rfl) : PD X W (.Attribute e n pos) (rUn (gFld cl n) ra) := by
  obtain ⟨ta, pa, sa⟩ := ha.ex
  refine ⟨_, pe_xg pa hb, fun α F σ H δ S Q hr hs h => ?_⟩
  refine sa α F σ H δ S _ hr hs (wp.bind h fun d S1 _ x H1 β F1 r1 q1 v1 h1 => ?_)
  obtain ⟨z, e1, h2⟩ := wp.lift h1
  unfold gFld at e1
  split at e1
  · rename_i c fs _
    split at e1
    · rename_i hc
      have hc := of_decide_eq_true hc
      obtain ⟨a, d, ws, rfl, ha, hd, hno, hds, en, ev⟩ := exc_at T r1 hc v1
      obtain ⟨v, lk, dv⟩ := look_dv en ev e1
      cases d with
      | none =>
        have : fs = [] := hno rfl
        subst this
        cases e1
      | some dd => exact ⟨a, _, dd, ws, v, rfl, ha, hds dd rfl, T.xf c hc, hn c hc, lk, h2.now r1 dv⟩
    · cases e1
  · cases e1
end
end DL
set_option Elab.async false
set_option linter.all false
set_option maxRecDepth 100000
set_option maxHeartbeats 2000000
set_option autoImplicit false
/-! What the head shows of the exception classes; except clauses without a name. -/
namespace DL
open PySem PySem.Spec PyProof.Rows L2
theorem bv_ValueError : bootBuiltins "ValueError" = some (.type "ValueError") := by decide +kernel
/-! ### except C: suite -/
/-! ### checks -/
def flds : List Str := ["row", "word", "boxes", "what", "place"]
def ecB (K : Fg) (D : Addr) : Bool := decide (PySem.W.findIn K (.ref D) "__getattribute__" = some (some (.builtin "BaseException.__getattribute__"))) && (decide (PySem.W.findIn K (.ref D) "__getattr__" = some none) && (decide (PySem.W.subIn K (.ref D) (.type "BaseException") = some true) &&
  (PySem.W.hasDictIn K D && (decide (PySem.W.findIn K (.ref D) "__class__" = some (some (.builtin "object.__class__"))) && (decide (PySem.W.specialIn K (.builtin "object.__class__") "__get__" = some (some (.builtin "getset_descriptor.__get__"))) &&
  (decide (PySem.W.takesIn K (.builtin "object.__class__") = some true) && decide (PySem.W.mroIn K D (.type "object") = some true)))))))
theorem both {a b : Bool} (h : (a && b) = true) : a = true ∧ b = true := Bool.and_eq_true_iff.mp h
theorem ecB_ok {K : Fg} {D : Addr} (h : ecB K D = true) : ExcC K D := by
  obtain ⟨h1, h⟩ := both h
  obtain ⟨h2, h⟩ := both h
  obtain ⟨h3, h⟩ := both h
  obtain ⟨h4, h⟩ := both h
  obtain ⟨h5, h⟩ := both h
  obtain ⟨h6, h⟩ := both h
  obtain ⟨h7, h8⟩ := both h
  exact ⟨of_decide_eq_true h1, of_decide_eq_true h2, of_decide_eq_true h3, h4, of_decide_eq_true h5, of_decide_eq_true h6, of_decide_eq_true h7, of_decide_eq_true h8⟩
def pairB (K : Fg) (c x : Str) : Bool := decide (PySem.W.exmOne K (.ref (He.ga K c)) (.ref (He.ga K x)) = some (subC c x)) && decide (PySem.W.kitOne K (.ref (He.ga K c)) (.ref (He.ga K x)) = some (subC c x))
def oneB (K : Fg) (c : Str) : Bool := decide (PySem.W.nsIn K mainGlobals c = some (some (.ref (He.ga K c)))) && (decide (PySem.W.kitOne K (.ref (He.ga K c)) (.type "ValueError") = some true) && (ecB K (He.ga K c) && (xfB K (He.ga K c) && (decide (PySem.W.typeIn K (.ref (He.ga K c)) = some (.type "type")) &&
  flds.all fun f => decide (PySem.W.findIn K (.ref (He.ga K c)) f = some none)))))
def clsB (K : Fg) (cl : List Str) : Bool := (cl.all (oneB K)) && cl.all fun c => cl.all fun x => pairB K c x
theorem clsB_ok {K : Fg} {h : Heap} {mg : Str → Option Value} {cl : List Str} (X : K.In h) (G : h.Ns mainGlobals mg) (c : clsB K cl = true) : Xcl K mg cl ∧ ∀ f ∈ flds, ∀ c ∈ cl, PySem.W.findIn K (.ref (He.ga K c)) f = some none := by
  obtain ⟨a1, a2⟩ := both c
  have one : ∀ c ∈ cl, oneB K c = true := List.all_eq_true.mp a1
  have pair : ∀ c ∈ cl, ∀ x ∈ cl, pairB K c x = true := fun c hc => List.all_eq_true.mp (List.all_eq_true.mp a2 c hc)
  refine ⟨⟨fun c hc => ?_, fun c hc x hx => ?_, fun c hc x hx => ?_, fun c hc => ?_, fun c hc => ?_, fun c hc => ?_, fun c hc => ?_⟩, fun f hf c hc => ?_⟩
  · exact PySem.W.mg_of X G (of_decide_eq_true (both (one c hc)).1)
  · exact of_decide_eq_true (both (pair c hc x hx)).1
  · exact of_decide_eq_true (both (pair c hc x hx)).2
  · exact of_decide_eq_true (both (both (one c hc)).2).1
  · exact ecB_ok (both (both (both (one c hc)).2).2).1
  · exact xfB_ok (both (both (both (both (one c hc)).2).2).2).1
  · exact of_decide_eq_true (both (both (both (both (both (one c hc)).2).2).2).2).1
  · exact of_decide_eq_true (List.all_eq_true.mp (both (both (both (both (both (one c hc)).2).2).2).2).2 f hf)
def oexB (K : Fg) (C : Addr) : Bool := (match K.lookup C with
  | some ⟨.type "type", _, .cls cd, sl⟩ => (match cd.mro, sl.toList with
    | .ref D :: bm, [_, _, _, _, some (.builtin n), _] => decide (D = C) && (decide (n = "ValueError.__new__") && (!cd.hasDel && (cd.hasDict && PySem.HandSPX.refsVE bm)))
    | _, _ => false)
  | _ => false) && (decide (PySem.W.findIn K (.ref C) "__setattr__" = some (some (.builtin "object.__setattr__"))) && (decide (PySem.W.subIn K (.ref C) (.type "BaseException") = some true) && (decide (PySem.W.typeIn K (.ref C) = some (.type "type")) && PySem.W.keepIn K (.ref C))))
theorem oexB_ok {K : Fg} {C : Addr} (h : oexB K C = true) : OexC K C := by
  obtain ⟨h0, h⟩ := both h
  obtain ⟨h1, h⟩ := both h
  obtain ⟨h2, h⟩ := both h
  obtain ⟨h3, h4⟩ := both h
  refine ⟨?_, of_decide_eq_true h1, of_decide_eq_true h2, of_decide_eq_true h3, h4⟩
  split at h0
  · rename_i dd cd sl ho
    split at h0
    · rename_i D bm k0 k1 k2 k3 n k5 hm hs
      obtain ⟨g1, h0⟩ := both h0
      obtain ⟨g2, h0⟩ := both h0
      obtain ⟨g3, h0⟩ := both h0
      obtain ⟨g4, g5⟩ := both h0
      obtain rfl := of_decide_eq_true g1
      obtain rfl := of_decide_eq_true g2
      have g6 : cd.hasDel = false := by simpa using g3
      clear g3
      rcases cd with ⟨nm, bs, mro, ns, qn, hd, sn, sub, ab, col, del⟩
      dsimp only at hm g6 g4
      subst hm g6 g4
      rcases sl with ⟨l⟩
      dsimp only at hs
      subst hs
      exact ⟨nm, qn, ns, bs, bm, sn, sub, ab, col, dd, k0, k1, k2, k3, k5, ho, g5⟩
    · cases h0
  · cases h0
def leB (K : Fg) : Bool := decide (PySem.W.nsIn K mainGlobals "LoopError" = some (some (.ref (He.ga K "LoopError")))) && (decide (PySem.W.specialIn K (.ref (He.ga K "LoopError")) "__getattribute__" = some (some (.builtin "type.__getattribute__"))) &&
  (PySem.W.readsIn K (He.ga K "LoopError") (.type "type") && (match PySem.W.findCls K (.ref (He.ga K "LoopError")) (.type "type") "__init__" with
  | some (.val v) => decide (v = .builtin "ValueError.__init__")
  | _ => false)))
theorem leB_ok {K : Fg} {h : Heap} {mg : Str → Option Value} (X : K.In h) (G : h.Ns mainGlobals mg) (c : leB K = true) : LeC K (He.ga K "LoopError") ∧ mg "LoopError" = some (.ref (He.ga K "LoopError")) := by
  obtain ⟨h0, c⟩ := both c
  obtain ⟨h1, c⟩ := both c
  obtain ⟨h2, h3⟩ := both c
  refine ⟨⟨of_decide_eq_true h1, h2, ?_⟩, PySem.W.mg_of X G (of_decide_eq_true h0)⟩
  split at h3
  · rename_i v e
    rw [e, of_decide_eq_true h3]
  · cases h3
/-- a raised class without an __init__ of its own -/
structure R0 (K : Fg) (mg : Str → Option Value) (c : Str) : Prop where
  at_ : mg c = some (.ref (He.ga K c))
  ex : PySem.W.excIn K (He.ga K c) He.veBase "ValueError.__new__" = true
  kp : PySem.W.keepIn K (.ref (He.ga K c)) = true
  sub : PySem.W.subIn K (.ref (He.ga K c)) (.type "BaseException") = some true
  ty : PySem.W.typeIn K (.ref (He.ga K c)) = some (.type "type")
/-- a class with an __init__ of its own, as the text gives it -/
structure Xd (K : Fg) (mg : Str → Option Value) (c qual : Str) (st : Stmt) (ps : List Str) : Prop where
  at_ : mg c = some (.ref (He.ga K c))
  oex : OexC K (He.ga K c)
  fi : PySem.W.findIn K (.ref (He.ga K c)) "__init__" = some (some (.ref (He.ma K (He.ga K c) "__init__")))
  ty : PySem.W.typeIn K (.ref (He.ma K (He.ga K c) "__init__")) = some (.type "function")
  ex : ∃ fd, Fun K "__init__" qual st (He.ma K (He.ga K c) "__init__") fd ∧ Binds K fd ps []
  no : ∀ f ∈ flds, PySem.W.findIn K (.ref (He.ga K c)) f = some none
section
variable {P : Program} {w : World} {K : Fg} {mg : Str → Option Value} {base : Heap} {c qual f1 f2 m : Str} {st : Stmt}
theorem xin1 (T : Xd K mg c qual st ["self", f1]) (S : FnScope ["self", f1] ["self", f1] (defScope st)) (hf : f1 ∈ flds)
    (hps : ∀ f cdv A outer s H E, PSs (cxOf (L2.CX P w) P w K mg base ["self", f1] qual (defScope st) f cdv A outer s H E) (defBody st) (tSeq (tDrop (tVeI K (tCons (tVar 0) (tCons (tC (.str m)) tNil)))) (tOst K f1 (tVar 0) (tVar 1)))) : XIn P w K mg base c [f1] := by
  obtain ⟨fd, F, B⟩ := T.ex
  exact ⟨T.at_, T.oex, _, fd, _, T.fi, T.ty, B, init1 F S (T.no f1 hf) fun cdv A outer s H E => hps _ cdv A outer s H E⟩
theorem xin2 (T : Xd K mg c qual st ["self", f1, f2]) (S : FnScope ["self", f1, f2] ["self", f1, f2] (defScope st)) (h1 : f1 ∈ flds) (h2 : f2 ∈ flds)
    (hps : ∀ f cdv A outer s H E, PSs (cxOf (L2.CX P w) P w K mg base ["self", f1, f2] qual (defScope st) f cdv A outer s H E) (defBody st) (tSeq (tDrop (tVeI K (tCons (tVar 0) (tCons (tC (.str m)) tNil)))) (tSeq (tOst K f1 (tVar 0) (tVar 1)) (tOst K f2 (tVar 0) (tVar 2))))) : XIn P w K mg base c [f1, f2] := by
  obtain ⟨fd, F, B⟩ := T.ex
  exact ⟨T.at_, T.oex, _, fd, _, T.fi, T.ty, B, init2 F S (T.no f1 h1) (T.no f2 h2) fun cdv A outer s H E => hps _ cdv A outer s H E⟩
end
/-! ### the head's hook -/
def raB (K : Fg) (c : Str) : Bool := (He.Fa.exc c).ok K && decide (PySem.W.nsIn K mainGlobals c = some (some (.ref (He.ga K c))))
theorem raB_ok {K : Fg} {h : Heap} {mg : Str → Option Value} {c : Str} (X : K.In h) (G : h.Ns mainGlobals mg) (e : raB K c = true) : R0 K mg c := by
  obtain ⟨h1, h2⟩ := both e
  obtain ⟨g1, g2, g3, g4⟩ := He.exc_ok h1
  exact ⟨PySem.W.mg_of X G (of_decide_eq_true h2), g1, g2, g3, g4⟩
def inB (K : Fg) (c : Str) : Bool := oexB K (He.ga K c) && ((He.Fa.meth c "__init__").ok K && (decide (PySem.W.typeIn K (.ref (He.ma K (He.ga K c) "__init__")) = some (.type "function")) && oneB K c))
theorem inB_ok {K : Fg} {h : Heap} {mg : Str → Option Value} {c qual : Str} {st : Stmt} {ps : List Str} (X : K.In h) (G : h.Ns mainGlobals mg) (e : inB K c = true) (F : ∃ fd, Fun K "__init__" qual st (He.ma K (He.ga K c) "__init__") fd ∧ Binds K fd ps []) : Xd K mg c qual st ps := by
  obtain ⟨h1, e⟩ := both e
  obtain ⟨h2, e⟩ := both e
  obtain ⟨h3, h4⟩ := both e
  have M := He.meth_ok h2
  exact ⟨PySem.W.mg_of X G (of_decide_eq_true (both h4).1), oexB_ok h1, M.at_, of_decide_eq_true h3, F, fun f hf => of_decide_eq_true (List.all_eq_true.mp (both (both (both (both (both h4).2).2).2).2).2 f hf)⟩
structure Xh where
  cl : List Str
  r0 : List Str
  rn : List Str
def xhB (xh : Xh) (K : Fg) : Bool := clsB K xh.cl && (leB K && (xh.r0.all (raB K) && xh.rn.all (inB K)))
def obsX (fa : List He.Fa) (fn : List He.DefD) (li : List (Str × D)) (xh : Xh) (K : Fg) : He.AlD := (digB K && (xhB xh K && (li.all (litF K) && (He.obsD fa fn K).1)), (He.obsD fa fn K).2)
def SaysX (fa : List He.Fa) (fn : List He.DefD) (li : List (Str × D)) (xh : Xh) (K : Fg) : Prop := obsX fa fn li xh K = He.valD fn
def obsXG (n : Nat) (fa : List He.Fa) (fn : List He.DefD) (li : List (Str × D)) (xh : Xh) (g : Addr → Option Obj) : He.AlD := obsX fa fn li xh (He.frG g (He.asD g n ++ [cStatics]))
def hookX (n : Nat) (fa : List He.Fa) (fn : List He.DefD) (li : List (Str × D)) (xh : Xh) : PySem.W.Hook where
  α := He.AlD
  obs := fun s => obsXG n fa fn li xh s.heap.get?
  val := fun _ => He.valD fn
  says := fun _ h => ∃ K : Fg, K.In h ∧ SaysX fa fn li xh K
  of := fun _ _ e => ⟨_, He.frG_in, e⟩
  keeps := fun _ _ _ ⟨K, hK, c⟩ k => ⟨K, PySem.W.Frag.In.keeps hK k, c⟩
theorem obsXG_eq {n : Nat} {fa : List He.Fa} {fn : List He.DefD} {li : List (Str × D)} {xh : Xh} {g : Addr → Option Obj} {s : Shared} (h : ∀ a, g a = s.heap.get? a) : obsXG n fa fn li xh g = (hookX n fa fn li xh).obs s := by
  have e : g = s.heap.get? := funext h
  rw [e] <;> rfl
theorem SaysX.all {fa : List He.Fa} {fn : List He.DefD} {li : List (Str × D)} {xh : Xh} {K : Fg} (h : SaysX fa fn li xh K) : He.SaysD fa fn K ∧ NoDig K ∧ (∀ (i : Nat) (p : Str × D), li[i]? = some p → litF K p = true) ∧ xhB xh K = true := by
  have h0 : obsX fa fn li xh K = He.valD fn := h
  have h1 : (digB K && (xhB xh K && (li.all (litF K) && (He.obsD fa fn K).1))) = true := congrArg (fun z : He.AlD => z.1) h0
  have h2 : (obsX fa fn li xh K).2 = (He.valD fn).2 := congrArg (fun z : He.AlD => z.2) h0
  obtain ⟨g1, h1⟩ := both h1
  obtain ⟨g2, h1⟩ := both h1
  obtain ⟨g3, g4⟩ := both h1
  refine ⟨?_, ?_, fun i p hp => List.all_eq_true.mp g3 p (List.mem_of_getElem? hp), g2⟩
  · show He.obsD fa fn K = He.valD fn
    exact Prod.ext g4 h2
  · unfold digB at g1
    unfold NoDig
    exact of_decide_eq_true g1
end DL
set_option Elab.async false
set_option linter.all false
set_option maxRecDepth 100000
set_option maxHeartbeats 1000000
set_option autoImplicit false
/-! A made list that is told once stands for good. -/
namespace DL
open PySem PySem.Spec PyProof.Rows L2
end DL
set_option Elab.async false
set_option linter.all false
set_option maxRecDepth 100000
set_option maxHeartbeats 2000000
set_option autoImplicit false
/-! isinstance of what was caught with a tuple of the program's classes. -/
namespace L2
open PySem PySem.Spec PyProof.Rows DL
end L2
namespace DL
open PySem PySem.Spec PyProof.Rows L2
end DL
set_option Elab.async false
set_option linter.all false
set_option maxRecDepth 100000
set_option maxHeartbeats 1000000
set_option autoImplicit false
/-! Calls during which everything stands; {None: v}; isinstance with dict of any dict; items of these. -/
namespace DL
open PySem PySem.Spec PyProof.Rows L2
/-! ### a call during which all stands -/
end DL
set_option Elab.async false
set_option linter.all false
set_option maxRecDepth 100000
set_option maxHeartbeats 1000000
set_option autoImplicit false
/-! {None: v}; isinstance with dict of any dict; the items of these. -/
namespace DL
open PySem PySem.Spec PyProof.Rows L2
/-! ### isinstance(x, dict) -/
/-! ### d.items() -/
end DL
set_option Elab.async false
set_option linter.all false
set_option maxRecDepth 100000
set_option maxHeartbeats 4000000
set_option autoImplicit false
/-! Data layer: repr of things that hold dicts. -/
namespace DL
open PySem PySem.Spec PyProof.Rows L2
mutual
inductive RdZ (h : Heap) : Value → PyData → List Addr → Prop
  | none : RdZ h .none .none []
  | bool (b) : RdZ h (.bool b) (.bool b) []
  | int (i t) : RdZ h (.int i t) (.int i) []
  | str (x t) : RdZ h (.str x t) (.str x) []
  | list {a o vs n xs as} : h.get? a = some o → o.cls = .type "list" → o.data = .seq vs n → RdZs h vs.toList xs as → RdZ h (.ref a) (.list xs) (a :: as)
  | tuple {a o vs n xs as} : h.get? a = some o → o.cls = .type "tuple" → o.data = .seq vs n → RdZs h vs.toList xs as → RdZ h (.ref a) (.tuple xs) as
  | dict {a o es n kvs as bs} : h.get? a = some o → o.cls = .type "dict" → o.data = .dict es n → (a == sysModules) = false → RdZs h (es.toList.map (·.key)) (kvs.map (·.1)) as →
      RdZs h (es.toList.map (·.val)) (kvs.map (·.2)) bs → RdZ h (.ref a) (.dict kvs) (a :: as ++ bs)
inductive RdZs (h : Heap) : List Value → List PyData → List Addr → Prop
  | nil : RdZs h [] [] []
  | cons {v vs d ds as bs} : RdZ h v d as → RdZs h vs ds bs → RdZs h (v :: vs) (d :: ds) (as ++ bs)
end
mutual
theorem RdZ.reads {h : Heap} : ∀ {v : Value} {d : PyData} {as : List Addr}, RdZ h v d as → Reads h v d as
  | _, _, _, .none => .none
  | _, _, _, .bool b => .bool b
  | _, _, _, .int i t => .int i t
  | _, _, _, .str x t => .str x t
  | _, _, _, .list h1 h2 h3 h4 => .list h1 h2 h3 h4.reads
  | _, _, _, .tuple h1 h2 h3 h4 => .tuple h1 h2 h3 h4.reads
  | _, _, _, .dict h1 h2 h3 _ h4 h5 => .dict h1 h2 h3 h4.reads h5.reads
theorem RdZs.reads {h : Heap} : ∀ {v : List Value} {d : List PyData} {as : List Addr}, RdZs h v d as → ReadsAll h v d as
  | _, _, _, .nil => .nil
  | _, _, _, .cons a b => .cons a.reads b.reads
end
/-! ### None in a list of Nones and lists -/
end DL
set_option Elab.async false
set_option linter.all false
set_option maxRecDepth 100000
set_option maxHeartbeats 3000000
set_option autoImplicit false
/-! A refusal that leaves a list comprehension. -/
namespace PySem
end PySem
namespace L2
open PySem PySem.Spec PyProof.Rows
end L2
set_option Elab.async false
set_option linter.all false
set_option maxRecDepth 100000
set_option maxHeartbeats 4000000
set_option autoImplicit false
/-! Data layer: a list comprehension whose item may refuse. -/
namespace DL
open PySem PySem.Spec PyProof.Rows L2
end DL
set_option Elab.async false
set_option linter.all false
set_option maxRecDepth 100000
set_option maxHeartbeats 4000000
set_option autoImplicit false
/-! Data layer: walks over lists as they stand at each turn, the store's own too. -/
namespace DL
open PySem PySem.Spec PyProof.Rows L2
/-- the next item by the store: stuck, none left, or an item -/
abbrev Nx := Sto → Nat → Option (Option D)
section
variable {X : Cx} {W : WX} {wd : World} {K : Fg} {mg : Str → Option Value} {α β : List Addr} {F F1 H H1 : Hp} {S S1 : Sto} {pos : Pos}
structure ItV (wd : World) (K : Fg) (mg : Str → Option Value) (F : Hp) (α : List Addr) (J : It) (nx : Nx) : Prop where
  go : ∀ (γ : List Addr) (F' H' : Hp) (S' : Sto) (i : Nat) (d : D), Sub F F' → Rel wd K mg (α ++ γ) F' H' S' → nx S' i = some (some d) → J.go i H'
  stop : ∀ (γ : List Addr) (F' H' : Hp) (S' : Sto) (i : Nat), Sub F F' → Rel wd K mg (α ++ γ) F' H' S' → nx S' i = some none → J.stop i H'
  yld : ∀ (γ : List Addr) (F' H' : Hp) (S' : Sto) (H2 : Hp) (i : Nat) (x : V) (d : D), Sub F F' → Rel wd K mg (α ++ γ) F' H' S' → nx S' i = some (some d) → J.yld i H' x H2 → (H2 = H' ∧ DV wd K mg F' (α ++ γ) x d) ∨ ∃ T o, H' T = none ∧ H2 = upd H' T o ∧ DV wd K mg (upd F' T o) (α ++ γ) x d
theorem ItV.mono {J : It} {nx : Nx} (h : ItV wd K mg F α J nx) (s : Sub F F1) : ItV wd K mg F1 (α ++ β) J nx where
  go := fun γ F' H' S' i d a r e => h.go (β ++ γ) F' H' S' i d (s.trans a) (by rw [← List.append_assoc]; exact r) e
  stop := fun γ F' H' S' i a r e => h.stop (β ++ γ) F' H' S' i (s.trans a) (by rw [← List.append_assoc]; exact r) e
  yld := fun γ F' H' S' H2 i x d a r e q => by
    have := h.yld (β ++ γ) F' H' S' H2 i x d (s.trans a) (by rw [← List.append_assoc]; exact r) e q
    rw [← List.append_assoc] at this
    exact this
theorem ItV.came {J : It} {nx : Nx} {H2 : Hp} {i : Nat} {x : V} {d : D} (h : ItV wd K mg F α J nx) {γ : List Addr} {F' H' : Hp} {S' : Sto} (s : Sub F F') (hr : Rel wd K mg (α ++ γ) F' H' S') (hd : nx S' i = some (some d)) (q : J.yld i H' x H2) :
    ∃ F2, Rel wd K mg (α ++ γ ++ []) F2 H2 S' ∧ Stp (α ++ γ) F' H' [] F2 H2 ∧ DV wd K mg F2 (α ++ γ ++ []) x d := by
  rcases h.yld γ F' H' S' H2 i x d s hr hd q with ⟨e, v⟩ | ⟨T, o, e1, e2, v⟩
  · subst e
    refine ⟨F', ?_, Stp.refl, v.mono (Sub.refl F')⟩
    rw [List.append_nil]; exact hr
  · subst e2
    obtain ⟨a1, a2⟩ := hr.newF (o := o) e1
    exact ⟨_, a1, a2, v.mono (Sub.refl _)⟩
/-! ### what is walked -/
end
end DL
set_option Elab.async false
set_option linter.all false
set_option maxRecDepth 100000
set_option maxHeartbeats 4000000
set_option autoImplicit false
/-! Data layer: a call of what stands at a place of a list. -/
namespace DL
open PySem PySem.Spec PyProof.Rows L2
section
variable {X : Cx} {W : WX} {a b e : Expr} {es : List Expr} {rf : RE} {rs : RA} {p pos : Pos}
def tCallS (X : Cx) (W : WX) (tf : TE) (t : TA) : TE := fun σ H Q => tf σ H fun v H1 => ∃ (f : Addr) (fd : FuncData) (ps : List Str) (k : Nat) (sp : Sp), v = .ref f ∧ FnG X.prog X.w X.K X.mg X.base k f fd ps sp ∧ Room k X.A ∧ PySem.W.keepIn X.K (.ref f) = true ∧ Binds X.K fd ps [] ∧ t σ H1 fun vs H2 => sp vs H2 Q (WE W σ)
end
end DL
set_option Elab.async false
set_option linter.all false
set_option maxRecDepth 100000
set_option maxHeartbeats 4000000
set_option autoImplicit false
/-! Data layer: list.pop(i), str.partition. -/
namespace DL
open PySem PySem.Spec PyProof.Rows L2
end DL
set_option Elab.async false
set_option linter.all false
set_option maxRecDepth 100000
set_option maxHeartbeats 4000000
set_option autoImplicit false
/-! Exceptions that are made and not raised. -/
namespace L2
open PySem PySem.Spec PyProof.Rows DL
theorem pe_of_pmk {X : Cx} {e : Expr} {t : St → Hp → XK → Prop} (hex : X.ex = []) (he : PMk X e t) : PE X e (fun σ H Q => t σ H fun cls d H' => ∀ a, H' a = none → Q (.ref a) (upd H' a (exh a cls d))) := by
  refine ⟨fun pins s σ H Q I h => thn (he pins s σ H _ I h) fun u s1 hu => ?_⟩
  obtain ⟨a, oe, vs, sI, H', cls, d, rfl, J, k, hne, ha, hz, hd, h1, na, os, ag, r, q⟩ := hu
  have J1 : Inv X pins σ H' s1 := J.landed (B := sI.heap) (fun b o h _ => h) (fun b o h => k b o h) (fun b o h _ => ⟨o.slots, k b o h⟩) os ag
  have J2 : Inv X pins σ (upd H' a (exh a cls d)) s1 := by
    refine J1.track ?_ na ?_ ?_ ?_ (exh_ok ha hz hd)
    · cases there : X.s_0.heap.get? a with
      | none => rfl
      | some o0 =>
        have still := J.base.there a o0 there (by rw [hex]; simp)
        rw [hne] at still
        exact still.elim fun _ w => nomatch w
    · intro p hp e
      have pinned := (J.pin p hp).1
      rw [e, hne] at pinned
      cases pinned
    · intro e
      obtain ⟨m, ⟨o, es, ep, ho, _⟩, _⟩ := J.loc
      rw [← e, hne] at ho
      cases ho
    · intro y c hc e
      obtain ⟨v, oc, atc, isCell⟩ := J.cell y c hc
      rw [e, hne] at atc
      cases atc
  exact ⟨.ref a, _, J2, rfl, q a na⟩
end L2
namespace DL
open PySem PySem.Spec PyProof.Rows L2
def rExc0 (c : Str) : RE := fun _ S => .ok (.exc c []) S
def rExcN (c : Str) (ns : List Str) (a : RA) : RE := fun δ S => (a δ S).bind fun ds S1 => if ds.length = ns.length ∧ ds.length ≤ 1000 then .ok (.exc c ((ns.zip ds).reverse.map fun p => (.str p.1, p.2))) S1 else .stuck
section
variable {X : Cx} {W : WX}
theorem pd_exc0 {x m : Str} {j : Nat} {p p2 pos : Pos} (hm : X.mg x = some (.ref (He.ga X.K x))) (q : PySem.W.excIn X.K (He.ga X.K x) He.veBase "ValueError.__new__" = true) (kC : PySem.W.keepIn X.K (.ref (He.ga X.K x)) = true)
    (h1 : PySem.W.subIn X.K (.ref (He.ga X.K x)) (.type "BaseException") = some true) (h2 : PySem.W.typeIn X.K (.ref (He.ga X.K x)) = some (.type "type")) (hex : X.ex = [] := by rfl) (hg : Gl X x := by rfl) (hdb : (x == ("__debug__" : Str)) = false := by decide) :
    PD X W (.Call (.Name x p) [.Constant (.str m) j p2] [] pos) (rExc0 x) := by
  refine ⟨_, pe_of_pmk hex (pmk_own PySem.F.excBase_ValueError q hm kC (raises_own h1 h2) hg hdb), fun α F σ H δ S E hr hs h => ?_⟩
  intro a na
  obtain ⟨r2, s2⟩ := hr.newF (o := exh a (.ref (He.ga X.K x)) none) na
  exact wp.now (wp.step s2 h) r2 (.exc (ws := []) hm upd_same (.inl ⟨rfl, rfl⟩) rfl .nil)
theorem pd_excN {c : Str} {ns : List Str} {k : Nat} {e : Expr} {es : List Expr} {rs : RA} {p pos : Pos} (I : XIn X.prog X.w X.K X.mg X.base c ns) (hr : Room k X.A) (hk : 2 ≤ k) (ha : PDs X W (e :: es) rs) (hex : X.ex = [] := by rfl) (hg : Gl X c := by rfl)
    (hdb : (c == ("__debug__" : Str)) = false := by decide) (he : starEach (e :: es) X.env = (false, eval e X.env) :: starEach es X.env := by rfl) (hpl : (backTo pos (starEach es X.env)).any (·.1) = false := by rfl) :
    PD X W (.Call (.Name c p) (e :: es) [] pos) (rExcN c ns rs) := by
  obtain ⟨fI, fd, ps, h1, h2, h3, h4⟩ := I.ex
  obtain ⟨ta, pa, sa⟩ := ha.ex
  refine ⟨_, pe_of_pmk hex (pmk_oex I.oex h1 h2 h4 (hr.mono hk) h3 .nil passL hg I.at_ pa hdb he hpl), fun α F σ H δ S E hr hs h => ?_⟩
  refine sa α F σ H δ S _ hr hs (wp.bind h fun ds S1 _ xs H1 β F1 r1 q1 v1 hh => ?_)
  split at hh
  · rename_i hl
    have xl : xs.length = ns.length := by rw [v1.length]; exact hl.1
    refine ⟨by rw [v1.length]; exact hl.2, fun a na => ⟨by simp [xl], a, xs, by simp, I.oex, upd_same, fun d H2 hd hda ea ed hoth => ⟨rfl, d, _, ea, ed, ?_, fun a' na' => ?_⟩⟩⟩
    · rw [upd_ne hda] at hd
      exact hd
    · rw [upd_ne hda] at hd
      have eH : upd (L2.del H2 a) d (.xd (ns.zip xs).reverse) = upd H1 d (.xd (ns.zip xs).reverse) := by
        funext b
        by_cases b1 : b = d
        · subst b1
          rw [upd_same, upd_same]
        · rw [upd_ne b1, upd_ne b1]
          by_cases b2 : b = a
          · subst b2
            rw [del_same, na]
          · rw [del_ne b2, hoth b b2 b1, upd_ne b2]
      rw [eH] at na' ⊢
      obtain ⟨r2, s2⟩ := r1.newF (o := .xd (ns.zip xs).reverse) hd
      obtain ⟨r3, s3⟩ := r2.newF (o := exh a' (.ref (He.ga X.K c)) (some d)) na'
      have da : d ≠ a' := fun z => by rw [← z, upd_same] at na'; cases na'
      refine wp.now (wp.step s3 (wp.step s2 hh)) r3 (.exc (ws := (ns.zip xs).reverse) I.at_ upd_same (.inr ⟨d, rfl, by rw [upd_ne da]; exact upd_same⟩) ?_ ?_)
      · rw [List.map_map]
        refine strs_map ?_
        rw [List.map_reverse, List.map_reverse, zip_fst xl, zip_fst hl.1]
      · rw [List.map_map]
        have e1 : (ns.zip xs).reverse.map (·.2) = xs.reverse := by rw [List.map_reverse, zip_snd xl]
        have e2 : (ns.zip ds).reverse.map ((fun x : D × D => x.2) ∘ fun p : Str × D => (D.str p.1, p.2)) = ds.reverse := by
          rw [show ((fun x : D × D => x.2) ∘ fun p : Str × D => (D.str p.1, p.2)) = (fun p : Str × D => p.2) from rfl, List.map_reverse, zip_snd hl.1]
        rw [e1, e2]
        exact (((v1.mono s2.sub).mono s3.sub)).reverse
  · exact hh.elim
theorem pd_excC {x m : Str} {j : Nat} {p p2 pos : Pos} (R : R0 X.K X.mg x) (hex : X.ex = [] := by rfl) (hg : Gl X x := by rfl) (hdb : (x == ("__debug__" : Str)) = false := by decide) :
    PD X W (.Call (.Name x p) [.Constant (.str m) j p2] [] pos) (rExc0 x) := pd_exc0 R.at_ R.ex R.kp R.sub R.ty hex hg hdb
end
end DL
set_option Elab.async false
set_option linter.all false
set_option maxRecDepth 100000
set_option maxHeartbeats 0
set_option autoImplicit false
namespace DL
open PySem L2
abbrev clX : List Str := ["LoopError", "BadRow", "BadLoop", "Hindered", "BadPaper", "TooGreat", "BadQuestion", "OutOfPlace"]
def b_poly_of : RS := (sSeq (sLock 0 (sAsg (rAs gTuple (rCons (rKeep (rAs gSorted (rCons (rKeep (rLc (rItems (rVar 0)) (gTup (gCons (gName 2) (gCons (gName 3) gNil))) [2, 3] (bVal (rBin gNe (rVar 3) (rC (.int 0)))) (rTup (rCons (rVar 2) (rCons (rVar 3) rNil))))) rNil))) rNil)) (gName 1)))
    (sSeq (sIf (bVal (rBin gGtU (rAs gLen (rCons (rVar 1) rNil)) (rC (.int 300)))) sNever sNext)
    (sSeq (sIf (bTru (rAs gAny (rCons (rKeep (rLc (rSeq (rVar 1)) (gTup (gCons (gName 2) (gCons (gName 3) gNil))) [2, 3] bYes (rBin gGtU (rAs gAbs (rCons (rVar 3) rNil)) (rC (.int 10000000000000000000000000000000000000000000000000000000000000000000000000000000000000000000000000000000000000000000000000000000000000000000000000000000000000000000000000000000000000000000000000000000000000000000000000000000000000000000000000000000000000000000000000000000000000000000000000000000000000000000000000000000000000000000000000000000000000000000000000000000000000000000000000000000000000000000000000000000000000000000000000000000000000000000000000000000000000000000000000000000000000000000000000000000000000000000000000000000000000000000000000000000000000000000000000000000000000000000000000000000000000000000000000000000000000000000000000000000000000000000000000000000000000000000000000000000000000000000000000000000000000000000000000000000000000000000000000000000000000000000000000000000000000000000000000000000000000000000000000000000000000000000000000000000000000000000000000000000000000000000000000000000000000000000000000000000000000000000000000000000000000000000000000000000000000000))))) rNil))) sNever sNext)
    (sRet (rVar 1)))))
def m_poly_of : Mir := mDef 4 b_poly_of
def b_is_name : RS := (sSeq (sIf (bOr (bNot (bTru (rAs gIsi (rCons (rVar 0) (rCons (rC (.ty "str")) rNil))))) (bNot (bVal (rChain gLeU gLeU (rC (.int 1)) (rAs gLen (rCons (rVar 0) rNil)) (rC (.int 8)))))) (sRet (rC (.bl false))) sNext)
    (sRet (rAs gAll (rCons (rKeep (rLc (rSeq (rVar 0)) (gName 1) [1] bYes (rBin gIn1 (rVar 1) (rC (.str "abcdefghijklmnopqrstuvwxyz"))))) rNil))))
def m_is_name : Mir := mDef 2 b_is_name
def b_number_of : RS := (sSeq (sIf (bNot (bTru (rAs gIsi (rCons (rVar 0) (rCons (rC (.ty "str")) rNil))))) (sRet (rC .non)) sNext)
    (sSeq (sAsg (rIf (bTru (rMeth "str" (pureM gStarts) (rVar 0) (rCons (rC (.str "-")) rNil))) (rCut (rVar 0) (oSome (rC (.int 1))) oNone) (rVar 0)) (gName 1))
    (sSeq (sIf (bOr (bNot (bVal (rChain gLeU gLeU (rC (.int 1)) (rAs gLen (rCons (rVar 1) rNil)) (rC (.int 40))))) (bNot (bTru (rAs gAll (rCons (rKeep (rLc (rSeq (rVar 1)) (gName 2) [2] bYes (rBin gIn1 (rVar 2) (rC (.str "0123456789"))))) rNil))))) (sRet (rC .non)) sNext)
    (sSeq (sIf (bAnd (bVal (rBin gEq (rBin gIx (rVar 1) (rC (.int 0))) (rC (.str "0")))) (bVal (rBin gNe (rVar 0) (rC (.str "0"))))) (sRet (rC .non)) sNext)
    (sRet (rAs gInt (rCons (rVar 0) rNil)))))))
def m_number_of : Mir := mDef 3 b_number_of
def b_mono_product : RS := (sSeq (sAsg (rOwn (rAs gDict (rCons (rVar 0) rNil))) (gName 2))
    (sSeq (sFor (rSeq (rVar 1)) (gTup (gCons (gName 3) (gCons (gName 4) gNil))) (sPutU (rVar 2) (rVar 3) (rBin gAdd (rGet2 (rVar 2) (rVar 3) (rC (.int 0))) (rVar 4))))
    (sRet (rAs gTuple (rCons (rKeep (rSortItems (rVar 2))) rNil)))))
def m_mono_product : Mir := mDef 5 b_mono_product
def b_term_in : RS := (sSeq (sAsg (rKeep (rSplit (rVar 0) (rC (.str "*")))) (gName 1))
    (sSeq (sAsg (rCall m_number_of (rCons (rBin gIx (rVar 1) (rC (.int 0))) rNil)) (gName 2))
    (sSeq (sIf (bOr (bVal (rBin gIs (rVar 2) (rC .non))) (bOr (bVal (rBin gGtU (rAs gLen (rCons (rVar 1) rNil)) (rBin gAdd (rC (.int 12)) (rC (.int 1))))) (bNot (bTru (rAs gAll (rCons (rKeep (rLc (rSeq (rCut (rVar 1) (oSome (rC (.int 1))) oNone)) (gName 4) [4] bYes (rCall m_is_name (rCons (rVar 4) rNil)))) rNil)))))) (sRet (rC .non)) sNext)
    (sSeq (sAsg (rTup rNil) (gName 3))
    (sSeq (sFor (rSeq (rCut (rVar 1) (oSome (rC (.int 1))) oNone)) (gName 4) (sAsg (rCall m_mono_product (rCons (rVar 3) (rCons (rTup (rCons (rTup (rCons (rVar 4) (rCons (rC (.int 1)) rNil))) rNil)) rNil))) (gName 3)))
    (sRet (rTup (rCons (rVar 3) (rCons (rVar 2) rNil)))))))))
def m_term_in : Mir := mDef 5 b_term_in
def fuel_poly_in_0 : Sl → Sto → Nat := fun _ _ => 1000
def b_poly_in : RS := (sSeq (sAsg (rOwn (rC (.dct []))) (gName 3))
    (sSeq (sAsg (rC (.int 0)) (gName 4))
    (sSeq (sWhile fuel_poly_in_0 (bOr (bVal (rBin gEq (rVar 4) (rC (.int 0)))) (bVal (rBin gLtU (rVar 2) (rAs gLen (rCons (rVar 0) rNil))))) (sSeq (sIf (bVal (rBin gGtU (rVar 4) (rC (.int 0)))) (sSeq (sIf (bOr (bVal (rBin gNe (rBin gIx (rVar 0) (rVar 2)) (rC (.str "+")))) (bVal (rBin gEq (rVar 4) (rC (.int 300))))) sNever sNext)
    (sAugI 2 (fun a b => a + b) (rC (.int 1)))) sNext)
    (sSeq (sAsg (rIf (bVal (rBin gLtU (rVar 2) (rAs gLen (rCons (rVar 0) rNil)))) (rCall m_term_in (rCons (rBin gIx (rVar 0) (rVar 2)) rNil)) (rC .non)) (gName 5))
    (sSeq (sIf (bVal (rBin gIs (rVar 5) (rC .non))) sNever sNext)
    (sSeq (sPutU (rVar 3) (rBin gIx (rVar 5) (rC (.int 0))) (rBin gAdd (rGet2 (rVar 3) (rBin gIx (rVar 5) (rC (.int 0))) (rC (.int 0))) (rBin gIx (rVar 5) (rC (.int 1)))))
    (sSeq (sAugI 4 (fun a b => a + b) (rC (.int 1)))
    (sAugI 2 (fun a b => a + b) (rC (.int 1)))))))))
    (sRet (rCall m_poly_of (rCons (rVar 3) rNil))))))
def m_poly_in : Mir := mDef 6 b_poly_in
def b_words_of : RS := (sSeq (sIf (bNot (bTru (rAs gIsi (rCons (rVar 0) (rCons (rC (.ty "str")) rNil))))) (sRet (rC .non)) sNext)
    (sSeq (sAsg (rKeep (rSplit (rVar 0) (rC (.str " ")))) (gName 1))
    (sSeq (sIf (bVal (rBin gInQ (rC (.str "")) (rVar 1))) (sRet (rC .non)) sNext)
    (sRet (rVar 1)))))
def m_words_of : Mir := mDef 2 b_words_of
def b_read_poly : RS := (sSeq (sAsg (rCall m_words_of (rCons (rVar 0) rNil)) (gName 1))
    (sSeq (sIf (bVal (rBin gIs (rVar 1) (rC .non))) sNever sNext)
    (sRet (rCall m_poly_in (rCons (rVar 1) (rCons (rC (.int 1)) (rCons (rC (.int 0)) rNil)))))))
def m_read_poly : Mir := mDef 2 b_read_poly
def b_term_text : RS := (sSeq (sAsg (rKeep (rLst (rCons (rAs gStr (rCons (rVar 1) rNil)) rNil))) (gName 2))
    (sSeq (sFor (rSeq (rVar 0)) (gTup (gCons (gName 3) (gCons (gName 4) gNil))) (sAsg (rKeep (rBin gCat (rVar 2) (rKeep (rBin gRepF (rLst (rCons (rVar 3) rNil)) (rVar 4))))) (gName 2)))
    (sRet (rMeth "str" (pureM gJoin) (rC (.str "*")) (rCons (rVar 2) rNil)))))
def m_term_text : Mir := mDef 5 b_term_text
def b_poly_text : RS := (sSeq (sIf (bVal (rBin gEq (rVar 0) (rTup rNil))) (sRet (rC (.str "0"))) sNext)
    (sRet (rMeth "str" (pureM gJoin) (rC (.str " + ")) (rCons (rKeep (rLc (rSeq (rVar 0)) (gTup (gCons (gName 1) (gCons (gName 2) gNil))) [1, 2] bYes (rCall m_term_text (rCons (rVar 1) (rCons (rVar 2) rNil))))) rNil))))
def m_poly_text : Mir := mDef 3 b_poly_text
def b__law_mixed : RS := (sSeq (sAsg (rBin gAdd (rBin gAdd (rBin gMod (rVar 0) (rC (.int 1000000007))) (rBin gMul (rC (.int 7919)) (rVar 1))) (rC (.int 13))) (gName 0))
    (sRet (rBin gMod (rBin gMul (rBin gMod (rBin gMul (rVar 0) (rVar 0)) (rC (.int 1000000007))) (rC (.int 48271))) (rC (.int 2147483647)))))
def m__law_mixed : Mir := mDef 2 b__law_mixed
def b__law_draw : RS := (sRet (rOwn (rDisp [((rC (.str "left")), (rIf (bVal (rBin gGeU (rVar 0) (rBin gPow (rC (.int 10)) (rC (.int 18))))) (rVar 0) (rC (.int 0)))), ((rC (.str "seed")), (rCall m__law_mixed (rCons (rVar 0) (rCons (rVar 1) rNil)))), ((rC (.str "turns")), (rVar 1))])))
def m__law_draw : Mir := mDefK 2 b__law_draw
def b__law_digit : RS := (sSeq (sIf (bVal (rBin gEq (rBin gGetU (rVar 0) (rC (.str "left"))) (rC (.int 0)))) (sSeq (sPutU (rVar 0) (rC (.str "turns")) (rBin gAdd (rBin gGetU (rVar 0) (rC (.str "turns"))) (rC (.int 1))))
    (sFor (rRange (rCons (rC (.int 4)) rNil)) (gName 2) (sPutU (rVar 0) (rC (.str "left")) (rBin gAdd (rBin gMul (rBin gGetU (rVar 0) (rC (.str "left"))) (rC (.int 2147483647))) (rCall m__law_mixed (rCons (rBin gGetU (rVar 0) (rC (.str "seed"))) (rCons (rBin gAdd (rBin gMul (rC (.int 4)) (rBin gGetU (rVar 0) (rC (.str "turns")))) (rVar 2)) rNil))))))) sNext)
    (sSeq (sAsg (rBin gMod (rBin gGetU (rVar 0) (rC (.str "left"))) (rVar 1)) (gName 3))
    (sSeq (sPutU (rVar 0) (rC (.str "left")) (rBin gDiv (rBin gGetU (rVar 0) (rC (.str "left"))) (rVar 1)))
    (sRet (rVar 3)))))
def m__law_digit : Mir := mDef 4 b__law_digit
def b__law_mono : RS := (sSeq (sAsg (rOwn (rC (.dct []))) (gName 3))
    (sSeq (sFor (rRange (rCons (rCall m__law_digit (rCons (rVar 0) (rCons (rBin gAdd (rVar 2) (rC (.int 1))) rNil))) rNil)) (gName 4) (sSeq (sAsg (rBin gIx (rVar 1) (rCall m__law_digit (rCons (rVar 0) (rCons (rAs gLen (rCons (rVar 1) rNil)) rNil)))) (gName 5))
    (sPutU (rVar 3) (rVar 5) (rBin gAdd (rGet2 (rVar 3) (rVar 5) (rC (.int 0))) (rC (.int 1))))))
    (sRet (rAs gTuple (rCons (rKeep (rSortItems (rVar 3))) rNil)))))
def m__law_mono : Mir := mDef 6 b__law_mono
def b__law_number : RS := (sSeq (sAsg (rBin gIx (rKeep (rLst (rCons (rC (.int 3)) (rCons (rC (.int 9)) (rCons (rC (.int 9)) (rCons (rBin gPow (rC (.int 10)) (rC (.int 20))) rNil)))))) (rCall m__law_digit (rCons (rVar 0) (rCons (rC (.int 4)) rNil)))) (gName 1))
    (sSeq (sAsg (rBin gSub (rCall m__law_digit (rCons (rVar 0) (rCons (rBin gMul (rC (.int 2)) (rVar 1)) rNil))) (rVar 1)) (gName 2))
    (sRet (rIf (bVal (rBin gLtU (rVar 2) (rC (.int 0)))) (rVar 2) (rBin gAdd (rVar 2) (rC (.int 1)))))))
def m__law_number : Mir := mDef 3 b__law_number
def b__law_poly : RS := (sSeq (sAsg (rOwn (rC (.dct []))) (gName 4))
    (sSeq (sFor (rRange (rCons (rCall m__law_digit (rCons (rVar 0) (rCons (rBin gAdd (rVar 2) (rC (.int 1))) rNil))) rNil)) (gName 5) (sPutU (rVar 4) (rCall m__law_mono (rCons (rVar 0) (rCons (rVar 1) (rCons (rVar 3) rNil)))) (rCall m__law_number (rCons (rVar 0) rNil))))
    (sRet (rAs gTuple (rCons (rKeep (rSortItems (rVar 4))) rNil)))))
def m__law_poly : Mir := mDef 6 b__law_poly
def b__law_term : RS := (sSeq (sAsg (rOwn (rLst rNil)) (gName 3))
    (sSeq (sFor (rSeq (rVar 0)) (gTup (gCons (gName 4) (gCons (gName 5) gNil))) (sAsg (rOwn (rBin gCat (rVar 3) (rKeep (rBin gRepF (rLst (rCons (rVar 4) rNil)) (rVar 5))))) (gName 3)))
    (sSeq (sIf (bVal (rBin gIsN (rVar 2) (rC .non))) (sFor (rRange (rCons (rAs gLen (rCons (rVar 3) rNil)) rNil)) (gName 6) (sExpr (rMeth "list" mAppend (rVar 3) (rCons (rMeth "list" mPopI (rVar 3) (rCons (rCall m__law_digit (rCons (rVar 2) (rCons (rAs gLen (rCons (rVar 3) rNil)) rNil))) rNil)) rNil)))) sNext)
    (sRet (rMeth "str" (pureM gJoin) (rC (.str "*")) (rCons (rKeep (rBin gCat (rKeep (rLst (rCons (rAs gStr (rCons (rVar 1) rNil)) rNil))) (rVar 3))) rNil))))))
def m__law_term : Mir := mDef 7 b__law_term
def b__law_text : RS := (sSeq (sIf (bVal (rBin gEq (rVar 0) (rTup rNil))) (sRet (rC (.str "0"))) sNext)
    (sRet (rMeth "str" (pureM gJoin) (rC (.str " + ")) (rCons (rKeep (rLc (rSeq (rVar 0)) (gTup (gCons (gName 1) (gCons (gName 2) gNil))) [1, 2] bYes (rCall m__law_term (rCons (rVar 1) (rCons (rVar 2) (rCons (rC .non) rNil)))))) rNil))))
def m__law_text : Mir := mDef 3 b__law_text
def b__law_otherwise : RS := (sSeq (sAsg (rOwn (rLst rNil)) (gName 2))
    (sSeq (sFor (rSeq (rVar 1)) (gTup (gCons (gName 3) (gCons (gName 4) gNil))) (sSeq (sAsg (rBin gSub (rCall m__law_digit (rCons (rVar 0) (rCons (rC (.int 9)) rNil))) (rC (.int 4))) (gName 5))
    (sSeq (sExpr (rMeth "list" mAppend (rVar 2) (rCons (rCall m__law_term (rCons (rVar 3) (rCons (rBin gSub (rVar 4) (rVar 5)) (rCons (rVar 0) rNil)))) rNil)))
    (sExpr (rMeth "list" mAppend (rVar 2) (rCons (rCall m__law_term (rCons (rVar 3) (rCons (rVar 5) (rCons (rVar 0) rNil)))) rNil))))))
    (sSeq (sAsg (rOwn (rBin gCat (rVar 2) (rKeep (rLst (rCons (rC (.str "0*zz")) (rCons (rC (.str "0")) rNil)))))) (gName 2))
    (sSeq (sFor (rRange (rCons (rAs gLen (rCons (rVar 2) rNil)) rNil)) (gName 6) (sExpr (rMeth "list" mAppend (rVar 2) (rCons (rMeth "list" mPopI (rVar 2) (rCons (rCall m__law_digit (rCons (rVar 0) (rCons (rAs gLen (rCons (rVar 2) rNil)) rNil))) rNil)) rNil))))
    (sRet (rMeth "str" (pureM gJoin) (rC (.str " + ")) (rCons (rVar 2) rNil)))))))
def m__law_otherwise : Mir := mDef 7 b__law_otherwise
def b__law_kinds : RS := (sSeq (sAsg (rOwn (rLst (rCons (rTup (rCons (rC (.str "row")) (rCons (rAs (gIsiE clX) (rCons (rVar 0) (rCons (rC (.fn "BadRow")) rNil))) rNil))) (rCons (rTup (rCons (rC (.str "loop")) (rCons (rAs (gIsiE clX) (rCons (rVar 0) (rCons (rC (.fn "BadLoop")) rNil))) rNil))) rNil)))) (gName 1))
    (sSeq (sAsg (rOwn (rBin gCat (rVar 1) (rKeep (rLst (rCons (rTup (rCons (rC (.str "hindered")) (rCons (rAs (gIsiE clX) (rCons (rVar 0) (rCons (rC (.fn "Hindered")) rNil))) rNil))) (rCons (rTup (rCons (rC (.str "paper")) (rCons (rAs (gIsiE clX) (rCons (rVar 0) (rCons (rC (.fn "BadPaper")) rNil))) rNil))) rNil)))))) (gName 1))
    (sSeq (sAsg (rOwn (rBin gCat (rVar 1) (rKeep (rLst (rCons (rTup (rCons (rC (.str "great")) (rCons (rAs (gIsiE clX) (rCons (rVar 0) (rCons (rC (.fn "TooGreat")) rNil))) rNil))) (rCons (rTup (rCons (rC (.str "question")) (rCons (rAs (gIsiE clX) (rCons (rVar 0) (rCons (rC (.fn "BadQuestion")) rNil))) rNil))) rNil)))))) (gName 1))
    (sSeq (sExpr (rMeth "list" mAppend (rVar 1) (rCons (rTup (rCons (rC (.str "place")) (rCons (rAs (gIsiE clX) (rCons (rVar 0) (rCons (rC (.fn "OutOfPlace")) rNil))) rNil))) rNil)))
    (sSeq (sExpr (rMeth "list" mAppend (rVar 1) (rCons (rTup (rCons (rC (.str "other")) (rCons (rOr (rNot (rAs (gIsiE clX) (rCons (rVar 0) (rCons (rC (.ty "ValueError")) rNil)))) (rNot (rAs (gIsiE clX) (rCons (rVar 0) (rCons (rC (.fn "LoopError")) rNil))))) rNil))) rNil)))
    (sSeq (sFreeze 1)
    (sRet (rKeep (rLc (rSeq (rVar 1)) (gTup (gCons (gName 2) (gCons (gName 3) gNil))) [2, 3] (bTru (rVar 3)) (rVar 2))))))))))
def m__law_kinds : Mir := mDef 4 b__law_kinds
def b__law_by_hand : RS := (sSeq (sAsg (rKeep (rLst (rCons (rExcN "BadRow" ["row", "word"] (rCons (rVar 0) (rCons (rC (.int 3)) rNil))) (rCons (rExcN "BadLoop" ["row"] (rCons (rVar 0) rNil)) (rCons (rExcN "Hindered" ["boxes", "what"] (rCons (rKeep (rLst (rCons (rC (.str "a")) rNil))) (rCons (rVar 0) rNil))) (rCons (rExcN "BadPaper" ["place"] (rCons (rVar 0) rNil)) rNil)))))) (gName 1))
    (sSeq (sAsg (rKeep (rLst (rCons (rUn (gFld clX "row") (rBin gIx (rVar 1) (rC (.int 0)))) (rCons (rUn (gFld clX "word") (rBin gIx (rVar 1) (rC (.int 0)))) (rCons (rUn (gFld clX "row") (rBin gIx (rVar 1) (rC (.int 1)))) (rCons (rUn (gFld clX "boxes") (rBin gIx (rVar 1) (rC (.int 2)))) (rCons (rUn (gFld clX "what") (rBin gIx (rVar 1) (rC (.int 2)))) (rCons (rUn (gFld clX "place") (rBin gIx (rVar 1) (rC (.int 3)))) rNil)))))))) (gName 2))
    (sSeq (sIf (bVal (rBin gNe (rVar 2) (rKeep (rLst (rCons (rVar 0) (rCons (rC (.int 3)) (rCons (rVar 0) (rCons (rKeep (rLst (rCons (rC (.str "a")) rNil))) (rCons (rVar 0) (rCons (rVar 0) rNil)))))))))) (sRet (rC (.bl false))) sNext)
    (sSeq (sAsg (rKeep (rBin gCat (rVar 1) (rKeep (rLst (rCons (rExc0 "TooGreat") (rCons (rExc0 "BadQuestion") (rCons (rExc0 "OutOfPlace") rNil))))))) (gName 1))
    (sSeq (sAsg (rKeep (rLst (rCons (rC (.str "row")) (rCons (rC (.str "loop")) (rCons (rC (.str "hindered")) (rCons (rC (.str "paper")) (rCons (rC (.str "great")) (rCons (rC (.str "question")) (rCons (rC (.str "place")) rNil))))))))) (gName 3))
    (sRet (rBin gEq (rKeep (rLc (rSeq (rVar 1)) (gName 4) [4] bYes (rCall m__law_kinds (rCons (rVar 4) rNil)))) (rKeep (rLc (rSeq (rVar 3)) (gName 5) [5] bYes (rKeep (rLst (rCons (rVar 5) rNil))))))))))))
def m__law_by_hand : Mir := mDef 6 b__law_by_hand
def b_law : RS := (sSeq (sFor (rEnum (rCons (rKeep (rBin gCat (rCut (rVar 0) oNone (oSome (rC (.int 12)))) (rKeep (rLst (rCons (rAs gSum (rCons (rVar 0) rNil)) rNil))))) rNil)) (gTup (gCons (gName 1) (gCons (gName 2) gNil))) (sSeq (sAsg (rCall m__law_draw (rCons (rVar 2) (rCons (rVar 1) rNil))) (gName 3))
    (sSeq (sAsg (rCut (rKeep (rLst (rCons (rC (.str "owl")) (rCons (rC (.str "b")) (rCons (rC (.str "zebra")) (rCons (rC (.str "ant")) (rCons (rC (.str "yak")) (rCons (rC (.str "c")) (rCons (rC (.str "hedgehog")) (rCons (rC (.str "x")) rNil)))))))))) (oSome (rCall m__law_digit (rCons (rVar 3) (rCons (rC (.int 5)) rNil)))) oNone) (gName 4))
    (sSeq (sAsg (rCall m__law_poly (rCons (rVar 3) (rCons (rVar 4) (rCons (rC (.int 6)) (rCons (rBin gIx (rKeep (rLst (rCons (rC (.int 2)) (rCons (rC (.int 4)) (rCons (rC (.int 12)) rNil))))) (rCall m__law_digit (rCons (rVar 3) (rCons (rC (.int 3)) rNil)))) rNil))))) (gName 5))
    (sSeq (sAsg (rCall m__law_text (rCons (rVar 5) rNil)) (gName 6))
    (sSeq (sAsg (rCall m__law_otherwise (rCons (rVar 3) (rCons (rVar 5) rNil))) (gName 7))
    (sSeq (sIf (bVal (rBin gNe (rCall m_poly_text (rCons (rVar 5) rNil)) (rVar 6))) (sRet (rC (.bl false))) sNext)
    (sFor (rSeq (rTup (rCons (rVar 6) (rCons (rVar 7) (rCons (rVar 6) rNil))))) (gName 8) (sSeq (sAsg (rCut (rKeep (rLst (rCons (rC (.str "x")) (rCons (rC (.str "=")) rNil)))) oNone (oSome (rCall m__law_digit (rCons (rVar 3) (rCons (rC (.int 3)) rNil))))) (gName 9))
    (sSeq (sAsg (rKeep (rBin gCat (rVar 9) (rKeep (rSplit (rVar 8) (rC (.str " ")))))) (gName 10))
    (sSeq (sFor (rSeq (rTup (rCons (rCall m_read_poly (rCons (rVar 8) rNil)) (rCons (rCall m_poly_in (rCons (rVar 10) (rCons (rC (.int 7)) (rCons (rAs gLen (rCons (rVar 9) rNil)) rNil)))) rNil)))) (gName 11) (sIf (bOr (bNot (bTru (rAs gIsi (rCons (rVar 11) (rCons (rC (.ty "tuple")) rNil))))) (bVal (rBin gNe (rAs gReprW (rCons (rVar 11) rNil)) (rAs gReprW (rCons (rVar 5) rNil))))) (sRet (rC (.bl false))) sNext))
    (sIf (bVal (rBin gNe (rVar 10) (rKeep (rBin gCat (rVar 9) (rKeep (rSplit (rVar 8) (rC (.str " ")))))))) (sRet (rC (.bl false))) sNext))))))))))))
    (sRet (rAnd (rCall m__law_by_hand (rCons (rBin gAdd (rC (.int 4)) (rAs gLen (rCons (rVar 0) rNil))) rNil)) (rAnd (rBin gEq (rCall m_poly_text (rCons (rTup rNil) rNil)) (rC (.str "0"))) (rBin gEq (rCall m_read_poly (rCons (rC (.str "0*b*b + 0")) rNil)) (rTup rNil))))))
def m_law : Mir := mDef 12 b_law
end DL
set_option Elab.async false
set_option linter.all false
set_option maxRecDepth 100000
set_option maxHeartbeats 0
set_option autoImplicit false
namespace DL
open PySem PySem.Spec PyProof.Rows L2
def top (i : Nat) : Stmt := PySem.Challenge.pw_roundless_k05_polys_as_texts.main.body.getD i (.Pass ⟨0, 0, 0, 0⟩)
abbrev st_poly_of : Stmt := top 21
abbrev st_is_name : Stmt := top 14
abbrev st_number_of : Stmt := top 15
abbrev st_mono_product : Stmt := top 22
abbrev st_term_in : Stmt := top 24
abbrev st_poly_in : Stmt := top 25
abbrev st_words_of : Stmt := top 16
abbrev st_read_poly : Stmt := top 26
abbrev st_term_text : Stmt := top 28
abbrev st_poly_text : Stmt := top 29
abbrev st__law_mixed : Stmt := top 31
abbrev st__law_draw : Stmt := top 33
abbrev st__law_digit : Stmt := top 34
abbrev st__law_mono : Stmt := top 35
abbrev st__law_number : Stmt := top 36
abbrev st__law_poly : Stmt := top 37
abbrev st__law_term : Stmt := top 38
abbrev st__law_text : Stmt := top 39
abbrev st__law_otherwise : Stmt := top 40
abbrev st__law_kinds : Stmt := top 32
abbrev st__law_by_hand : Stmt := top 41
abbrev st_law : Stmt := top 42
def clsSt (s : Stmt) (j : Nat) : Stmt := match s with
  | .ClassDef _ _ _ body _ _ _ _ _ _ _ => body.getD j (.Pass ⟨0, 0, 0, 0⟩)
  | _ => .Pass ⟨0, 0, 0, 0⟩
/-- what the text gives -/
structure Txt (K : Fg) (mg : Str → Option Value) : Prop where
  d_poly_of : Fd K mg "poly_of" st_poly_of ["found"]
  d_is_name : Fd K mg "is_name" st_is_name ["thing"]
  d_number_of : Fd K mg "number_of" st_number_of ["word"]
  d_mono_product : Fd K mg "mono_product" st_mono_product ["one", "other"]
  d_term_in : Fd K mg "term_in" st_term_in ["word"]
  d_poly_in : Fd K mg "poly_in" st_poly_in ["words", "row", "at"]
  d_words_of : Fd K mg "words_of" st_words_of ["row"]
  d_read_poly : Fd K mg "read_poly" st_read_poly ["text"]
  d_term_text : Fd K mg "term_text" st_term_text ["mono", "number"]
  d_poly_text : Fd K mg "poly_text" st_poly_text ["poly"]
  d__law_mixed : Fd K mg "_law_mixed" st__law_mixed ["_law_cell", "_law_k"]
  d__law_draw : Fd K mg "_law_draw" st__law_draw ["_law_cell", "_law_k"]
  d__law_digit : Fd K mg "_law_digit" st__law_digit ["_law_state", "_law_many"]
  d__law_mono : Fd K mg "_law_mono" st__law_mono ["_law_state", "_law_names", "_law_most"]
  d__law_number : Fd K mg "_law_number" st__law_number ["_law_state"]
  d__law_poly : Fd K mg "_law_poly" st__law_poly ["_law_state", "_law_names", "_law_many", "_law_most"]
  d__law_term : Fd K mg "_law_term" st__law_term ["_law_mono_here", "_law_number_here", "_law_state"]
  d__law_text : Fd K mg "_law_text" st__law_text ["_law_poly_here"]
  d__law_otherwise : Fd K mg "_law_otherwise" st__law_otherwise ["_law_state", "_law_poly_here"]
  d__law_kinds : Fd K mg "_law_kinds" st__law_kinds ["_law_error"]
  d__law_by_hand : Fd K mg "_law_by_hand" st__law_by_hand ["_law_number_here"]
  d_law : Fd K mg "law" st_law ["_law_script"]
  n_ValueError : mg "ValueError" = none
  n_abs : mg "abs" = none
  n_all : mg "all" = none
  n_any : mg "any" = none
  n_dict : mg "dict" = none
  n_enumerate : mg "enumerate" = none
  n_int : mg "int" = none
  n_isinstance : mg "isinstance" = none
  n_len : mg "len" = none
  n_range : mg "range" = none
  n_repr : mg "repr" = none
  n_sorted : mg "sorted" = none
  n_str : mg "str" = none
  n_sum : mg "sum" = none
  n_tuple : mg "tuple" = none
  g_FIGURES : ∃ t, mg "FIGURES" = some (.str "0123456789" t)
  g_LETTERS : ∃ t, mg "LETTERS" = some (.str "abcdefghijklmnopqrstuvwxyz" t)
  g_MOST_DEGREE : ∃ t, mg "MOST_DEGREE" = some (.int 12 t)
  g_MOST_FIGURES : ∃ t, mg "MOST_FIGURES" = some (.int 40 t)
  g_MOST_LETTERS : ∃ t, mg "MOST_LETTERS" = some (.int 8 t)
  g_MOST_NUMBER : ∃ t, mg "MOST_NUMBER" = some (.int 10000000000000000000000000000000000000000000000000000000000000000000000000000000000000000000000000000000000000000000000000000000000000000000000000000000000000000000000000000000000000000000000000000000000000000000000000000000000000000000000000000000000000000000000000000000000000000000000000000000000000000000000000000000000000000000000000000000000000000000000000000000000000000000000000000000000000000000000000000000000000000000000000000000000000000000000000000000000000000000000000000000000000000000000000000000000000000000000000000000000000000000000000000000000000000000000000000000000000000000000000000000000000000000000000000000000000000000000000000000000000000000000000000000000000000000000000000000000000000000000000000000000000000000000000000000000000000000000000000000000000000000000000000000000000000000000000000000000000000000000000000000000000000000000000000000000000000000000000000000000000000000000000000000000000000000000000000000000000000000000000000000000000000000000000000000000000000 t)
  g_MOST_TERMS : ∃ t, mg "MOST_TERMS" = some (.int 300 t)
  dig : NoDig K
  xc : Xcl K mg clX
  xn : ∀ f ∈ flds, ∀ c ∈ clX, PySem.W.findIn K (.ref (He.ga K c)) f = some none
  xl : LeC K (He.ga K "LoopError")
  xa : mg "LoopError" = some (.ref (He.ga K "LoopError"))
  r_BadQuestion : R0 K mg "BadQuestion"
  r_OutOfPlace : R0 K mg "OutOfPlace"
  r_TooGreat : R0 K mg "TooGreat"
  x_BadLoop : Xd K mg "BadLoop" "BadLoop.__init__" (clsSt (top 3) 0) ["self", "row"]
  x_BadPaper : Xd K mg "BadPaper" "BadPaper.__init__" (clsSt (top 5) 0) ["self", "place"]
  x_BadRow : Xd K mg "BadRow" "BadRow.__init__" (clsSt (top 2) 0) ["self", "row", "word"]
  x_Hindered : Xd K mg "Hindered" "Hindered.__init__" (clsSt (top 4) 0) ["self", "boxes", "what"]
section
variable {P : Program} {w : World} {K : Fg} {mg : Str → Option Value} {base : Heap}
theorem scx_BadLoop : FnScope ["self", "row"] ["self", "row"] (defScope (clsSt (top 3) 0)) := ⟨rfl, rfl, rfl, by decide +kernel, rfl, by decide +kernel, by decide +kernel⟩
theorem okx_BadLoop (T : Txt K mg) : XIn P w K mg base "BadLoop" ["row"] := xin1 T.x_BadLoop scx_BadLoop (by decide) (fun f cdv A outer s H E => (pss_cons (ps_expr (pe_leinit T.xl T.xa (pa_cons (pe_var (i := 0) rfl (.inl rfl)) (pa_cons pe_str pa_nil)))) (pss_one (ps_ost (pe_var (i := 0) rfl (.inl rfl)) (pe_var (i := 1) rfl (.inl rfl))))))
theorem scx_BadPaper : FnScope ["self", "place"] ["self", "place"] (defScope (clsSt (top 5) 0)) := ⟨rfl, rfl, rfl, by decide +kernel, rfl, by decide +kernel, by decide +kernel⟩
theorem okx_BadPaper (T : Txt K mg) : XIn P w K mg base "BadPaper" ["place"] := xin1 T.x_BadPaper scx_BadPaper (by decide) (fun f cdv A outer s H E => (pss_cons (ps_expr (pe_leinit T.xl T.xa (pa_cons (pe_var (i := 0) rfl (.inl rfl)) (pa_cons pe_str pa_nil)))) (pss_one (ps_ost (pe_var (i := 0) rfl (.inl rfl)) (pe_var (i := 1) rfl (.inl rfl))))))
theorem scx_BadRow : FnScope ["self", "row", "word"] ["self", "row", "word"] (defScope (clsSt (top 2) 0)) := ⟨rfl, rfl, rfl, by decide +kernel, rfl, by decide +kernel, by decide +kernel⟩
theorem okx_BadRow (T : Txt K mg) : XIn P w K mg base "BadRow" ["row", "word"] := xin2 T.x_BadRow scx_BadRow (by decide) (by decide) (fun f cdv A outer s H E => (pss_cons (ps_expr (pe_leinit T.xl T.xa (pa_cons (pe_var (i := 0) rfl (.inl rfl)) (pa_cons pe_str pa_nil)))) (pss_cons (ps_ost (pe_var (i := 0) rfl (.inl rfl)) (pe_var (i := 1) rfl (.inl rfl))) (pss_one (ps_ost (pe_var (i := 0) rfl (.inl rfl)) (pe_var (i := 2) rfl (.inl rfl)))))))
theorem scx_Hindered : FnScope ["self", "boxes", "what"] ["self", "boxes", "what"] (defScope (clsSt (top 4) 0)) := ⟨rfl, rfl, rfl, by decide +kernel, rfl, by decide +kernel, by decide +kernel⟩
theorem okx_Hindered (T : Txt K mg) : XIn P w K mg base "Hindered" ["boxes", "what"] := xin2 T.x_Hindered scx_Hindered (by decide) (by decide) (fun f cdv A outer s H E => (pss_cons (ps_expr (pe_leinit T.xl T.xa (pa_cons (pe_var (i := 0) rfl (.inl rfl)) (pa_cons pe_str pa_nil)))) (pss_cons (ps_ost (pe_var (i := 0) rfl (.inl rfl)) (pe_var (i := 1) rfl (.inl rfl))) (pss_one (ps_ost (pe_var (i := 0) rfl (.inl rfl)) (pe_var (i := 2) rfl (.inl rfl)))))))
theorem sc_poly_of : FnScope ["found", "poly", "mono", "number"] ["found"] (defScope st_poly_of) := ⟨rfl, rfl, rfl, by decide +kernel, rfl, by decide +kernel, by decide +kernel⟩
theorem ok_poly_of (T : Txt K mg) : Fn P w K mg base "poly_of" 1 1 m_poly_of := fn_mk (N := ["found", "poly", "mono", "number"]) (ps := ["found"]) (r := b_poly_of) T.d_poly_of sc_poly_of fun f cdv A outer s H E en tk =>
  have nd := sc_poly_of.nd
  (psds_cons (psd_lock 0 (psd_asg (pd_callT (hv := bv_tuple) b_tuple T.n_tuple (pds_cons (pd_keep (pf_sorted en.u64 T.n_sorted (pds_cons (pd_keep (pf_lc rfl nd (pid_items (pd_var 0)) (own := [("mono", 2), ("number", 3)]) (blkOk_by (by kernel_rfl)) (plc_ifT rfl (fun _ _ _ _ _ => (pgxs_cons (pgx_name 2 nd) (pgxs_cons (pgx_name 3 nd) pgxs_nil))) (fun _ _ _ _ _ => (pb_cmp (g_ne en.u64) (pd_var 3) pd_int (by rfl))) (fun _ _ _ _ _ => (pd_tup (pds_cons (pd_var 2) (pds_cons (pd_var 3) pds_nil))))))) pds_nil))) pds_nil)) (pgd_name 1 nd).pg))
    (psds_cons (psd_if (pb_cmp (g_gtU en.u64) (pd_callB (hv := bv_len) b_len T.n_len (pds_cons (pd_var 1) pds_nil)) (pd_giE T.g_MOST_TERMS) (by rfl)) (psds_one psd_never) psds_nil)
    (psds_cons (psd_if (pb_tru (pd_callB (hv := bv_any) (b_any rfl) T.n_any (pds_cons (pd_keep (pf_lc rfl nd (pid_seq (pd_var 1)) (own := [("mono", 2), ("number", 3)]) (blkOk_by (by kernel_rfl)) (plc_noT rfl (fun _ _ _ _ _ => (pgxs_cons (pgx_name 2 nd) (pgxs_cons (pgx_name 3 nd) pgxs_nil))) (fun _ _ _ _ _ => (pd_cmp (g_gtU en.u64) (pd_callB (hv := bv_abs) b_abs T.n_abs (pds_cons (pd_var 3) pds_nil)) (pd_giE T.g_MOST_NUMBER) (by rfl)))))) pds_nil))) (psds_one psd_never) psds_nil)
    (psds_one (psd_ret (pd_var 1))))))
theorem sc_is_name : FnScope ["thing", "sign"] ["thing"] (defScope st_is_name) := ⟨rfl, rfl, rfl, by decide +kernel, rfl, by decide +kernel, by decide +kernel⟩
theorem ok_is_name (T : Txt K mg) : Fn P w K mg base "is_name" 1 1 m_is_name := fn_mk (N := ["thing", "sign"]) (ps := ["thing"]) (r := b_is_name) T.d_is_name sc_is_name fun f cdv A outer s H E en tk =>
  have nd := sc_is_name.nd
  (psds_cons (psd_if (pb_w (pw_orD (pb_not (pb_tru (pd_callB (hv := bv_isinstance) b_isi T.n_isinstance (pds_cons (pd_var 0) (pds_cons (pd_ty (hv := bv_str) T.n_str) pds_nil))))) (pw_or1D (pb_not (pd_chain2 (g_leU en.u64) (g_leU en.u64) pd_int (pd_callB (hv := bv_len) b_len T.n_len (pds_cons (pd_var 0) pds_nil)) (pd_giE T.g_MOST_LETTERS)).2)))) (psds_one (psd_ret pd_bl)) psds_nil)
    (psds_one (psd_ret (pd_callB (hv := bv_all) (b_all rfl) T.n_all (pds_cons (pd_keep (pf_lc rfl nd (pid_seq (pd_var 0)) (own := [("sign", 1)]) (blkOk_by (by kernel_rfl)) (plc_no (fun _ _ _ _ _ => (pgx_name 1 nd)) (fun _ _ _ _ _ => (pd_cmp g_in1 (pd_var 1) (pd_gsE T.g_LETTERS) (by rfl)))))) pds_nil)))))
theorem sc_number_of : FnScope ["word", "plain", "sign"] ["word"] (defScope st_number_of) := ⟨rfl, rfl, rfl, by decide +kernel, rfl, by decide +kernel, by decide +kernel⟩
theorem ok_number_of (T : Txt K mg) : Fn P w K mg base "number_of" 1 1 m_number_of := fn_mk (N := ["word", "plain", "sign"]) (ps := ["word"]) (r := b_number_of) T.d_number_of sc_number_of fun f cdv A outer s H E en tk =>
  have nd := sc_number_of.nd
  (psds_cons (psd_if (pb_not (pb_tru (pd_callB (hv := bv_isinstance) b_isi T.n_isinstance (pds_cons (pd_var 0) (pds_cons (pd_ty (hv := bv_str) T.n_str) pds_nil))))) (psds_one (psd_ret pd_non)) psds_nil)
    (psds_cons (psd_asg (pd_if (pb_tru (pd_meth m_starts PySem.F.plainAttrs_str PySem.F.slot_str_startswith PySem.F.type_str_startswith (pd_var 0) (pds_cons pd_str pds_nil))) (pd_cut (pd_var 0) (pod_some pd_int) pod_none) (pd_var 0)) (pgd_name 1 nd).pg)
    (psds_cons (psd_if (pb_w (pw_orD (pb_not (pd_chain2 (g_leU en.u64) (g_leU en.u64) pd_int (pd_callB (hv := bv_len) b_len T.n_len (pds_cons (pd_var 1) pds_nil)) (pd_giE T.g_MOST_FIGURES)).2) (pw_or1D (pb_not (pb_tru (pd_callB (hv := bv_all) (b_all rfl) T.n_all (pds_cons (pd_keep (pf_lc rfl nd (pid_seq (pd_var 1)) (own := [("sign", 2)]) (blkOk_by (by kernel_rfl)) (plc_no (fun _ _ _ _ _ => (pgx_name 2 nd)) (fun _ _ _ _ _ => (pd_cmp g_in1 (pd_var 2) (pd_gsE T.g_FIGURES) (by rfl)))))) pds_nil))))))) (psds_one (psd_ret pd_non)) psds_nil)
    (psds_cons (psd_if (pb_w (pw_andD (pb_cmp (g_eq en.u64) (pd_ix (pd_var 1) pd_int) pd_str (by rfl)) (pw_and1D (pb_cmp (g_ne en.u64) (pd_var 0) pd_str (by rfl))))) (psds_one (psd_ret pd_non)) psds_nil)
    (psds_one (psd_ret (pd_callT (hv := bv_int) b_int T.n_int (pds_cons (pd_var 0) pds_nil))))))))
theorem sc_mono_product : FnScope ["one", "other", "found", "box", "power"] ["one", "other"] (defScope st_mono_product) := ⟨rfl, rfl, rfl, by decide +kernel, rfl, by decide +kernel, by decide +kernel⟩
theorem ok_mono_product (T : Txt K mg) : Fn P w K mg base "mono_product" 2 1 m_mono_product := fn_mk (N := ["one", "other", "found", "box", "power"]) (ps := ["one", "other"]) (r := b_mono_product) T.d_mono_product sc_mono_product fun f cdv A outer s H E en tk =>
  have nd := sc_mono_product.nd
  (psds_cons (psd_asg (pd_own (pf_dict rfl en.u12 T.n_dict (pds_cons (pd_var 0) pds_nil))) (pgd_name 2 nd).pg)
    (psds_cons (psd_for en.hp rfl (pid_seq (pd_var 1)) (pgn_tup rfl (pgds_cons (pgd_name 3 nd) (pgds_cons (pgd_name 4 nd) pgds_nil))).pg (psds_one (psd_putU en.u10 (pd_var 2) (pd_var 3) (pd_bin g_add (pd_get2 en.u10 (pd_var 2) (pd_var 3) pd_int) (pd_var 4)))))
    (psds_one (psd_ret (pd_callT (hv := bv_tuple) b_tuple T.n_tuple (pds_cons (pd_keep (pf_sortIt rfl en.u64 T.n_sorted (pd_var 2))) pds_nil))))))
theorem sc_term_in : FnScope ["word", "parts", "number", "mono", "part"] ["word"] (defScope st_term_in) := ⟨rfl, rfl, rfl, by decide +kernel, rfl, by decide +kernel, by decide +kernel⟩
theorem ok_term_in (T : Txt K mg) : Fn P w K mg base "term_in" 1 2 m_term_in := fn_mk (N := ["word", "parts", "number", "mono", "part"]) (ps := ["word"]) (r := b_term_in) T.d_term_in sc_term_in fun f cdv A outer s H E en tk =>
  have nd := sc_term_in.nd
  (psds_cons (psd_asg (pd_keep (pf_split (pd_var 0) pd_str)) (pgd_name 1 nd).pg)
    (psds_cons (psd_asg (pd_fn (ok_number_of T) (en.room.mono (by decide)) en.gu tk (pds_cons (pd_ix (pd_var 1) pd_int) pds_nil)) (pgd_name 2 nd).pg)
    (psds_cons (psd_if (pb_w (pw_orD (pb_cmp g_is (pd_var 2) pd_non (by rfl)) (pw_orD (pb_cmp (g_gtU en.u64) (pd_callB (hv := bv_len) b_len T.n_len (pds_cons (pd_var 1) pds_nil)) (pd_bin g_add (pd_giE T.g_MOST_DEGREE) pd_int) (by rfl)) (pw_or1D (pb_not (pb_tru (pd_callB (hv := bv_all) (b_all rfl) T.n_all (pds_cons (pd_keep (pf_lc rfl nd (pid_seq (pd_cut (pd_var 1) (pod_some pd_int) pod_none)) (own := [("part", 4)]) (blkOk_by (by kernel_rfl)) (plc_no (fun _ _ _ _ _ => (pgx_name 4 nd)) (fun _ _ _ _ _ => (pd_fn (ok_is_name T) (en.room.mono (by decide)) en.gu takes0 (pds_cons (pd_var 4) pds_nil)))))) pds_nil)))))))) (psds_one (psd_ret pd_non)) psds_nil)
    (psds_cons (psd_asg (pd_tup pds_nil) (pgd_name 3 nd).pg)
    (psds_cons (psd_for en.hp rfl (pid_seq (pd_cut (pd_var 1) (pod_some pd_int) pod_none)) (pgd_name 4 nd).pg (psds_one (psd_asg (pd_fn (ok_mono_product T) (en.room.mono (by decide)) en.gu tk (pds_cons (pd_var 3) (pds_cons (pd_tup (pds_cons (pd_tup (pds_cons (pd_var 4) (pds_cons pd_int pds_nil))) pds_nil)) pds_nil))) (pgd_name 3 nd).pg)))
    (psds_one (psd_ret (pd_tup (pds_cons (pd_var 3) (pds_cons (pd_var 2) pds_nil))))))))))
theorem sc_poly_in : FnScope ["words", "row", "at", "found", "many", "told"] ["words", "row", "at"] (defScope st_poly_in) := ⟨rfl, rfl, rfl, by decide +kernel, rfl, by decide +kernel, by decide +kernel⟩
theorem ok_poly_in (T : Txt K mg) : Fn P w K mg base "poly_in" 3 3 m_poly_in := fn_mk (N := ["words", "row", "at", "found", "many", "told"]) (ps := ["words", "row", "at"]) (r := b_poly_in) T.d_poly_in sc_poly_in fun f cdv A outer s H E en tk =>
  have nd := sc_poly_in.nd
  (psds_cons (psd_asg (pd_own pf_dnew) (pgd_name 3 nd).pg)
    (psds_cons (psd_asg pd_int (pgd_name 4 nd).pg)
    (psds_cons (psd_while fuel_poly_in_0 en.hp (pb_w (pw_orD (pb_cmp (g_eq en.u64) (pd_var 4) pd_int (by rfl)) (pw_or1D (pb_cmp (g_ltU en.u64) (pd_var 2) (pd_callB (hv := bv_len) b_len T.n_len (pds_cons (pd_var 0) pds_nil)) (by rfl))))) (psds_cons (psd_if (pb_cmp (g_gtU en.u64) (pd_var 4) pd_int (by rfl)) (psds_cons (psd_if (pb_w (pw_orD (pb_cmp (g_ne en.u64) (pd_ix (pd_var 0) (pd_var 2)) pd_str (by rfl)) (pw_or1D (pb_cmp (g_eq en.u64) (pd_var 4) (pd_giE T.g_MOST_TERMS) (by rfl))))) (psds_one psd_never) psds_nil)
    (psds_one (psd_addI 2 nd pd_int))) psds_nil)
    (psds_cons (psd_asg (pd_if (pb_cmp (g_ltU en.u64) (pd_var 2) (pd_callB (hv := bv_len) b_len T.n_len (pds_cons (pd_var 0) pds_nil)) (by rfl)) (pd_fn (ok_term_in T) (en.room.mono (by decide)) en.gu tk (pds_cons (pd_ix (pd_var 0) (pd_var 2)) pds_nil)) pd_non) (pgd_name 5 nd).pg)
    (psds_cons (psd_if (pb_cmp g_is (pd_var 5) pd_non (by rfl)) (psds_one psd_never) psds_nil)
    (psds_cons (psd_putU en.u10 (pd_var 3) (pd_ix (pd_var 5) pd_int) (pd_bin g_add (pd_get2 en.u10 (pd_var 3) (pd_ix (pd_var 5) pd_int) pd_int) (pd_ix (pd_var 5) pd_int)))
    (psds_cons (psd_addI 4 nd pd_int)
    (psds_one (psd_addI 2 nd pd_int))))))))
    (psds_one (psd_ret (pd_fn (ok_poly_of T) (en.room.mono (by decide)) en.gu tk (pds_cons (pd_var 3) pds_nil)))))))
theorem sc_words_of : FnScope ["row", "found"] ["row"] (defScope st_words_of) := ⟨rfl, rfl, rfl, by decide +kernel, rfl, by decide +kernel, by decide +kernel⟩
theorem ok_words_of (T : Txt K mg) : Fn P w K mg base "words_of" 1 1 m_words_of := fn_mk (N := ["row", "found"]) (ps := ["row"]) (r := b_words_of) T.d_words_of sc_words_of fun f cdv A outer s H E en tk =>
  have nd := sc_words_of.nd
  (psds_cons (psd_if (pb_not (pb_tru (pd_callB (hv := bv_isinstance) b_isi T.n_isinstance (pds_cons (pd_var 0) (pds_cons (pd_ty (hv := bv_str) T.n_str) pds_nil))))) (psds_one (psd_ret pd_non)) psds_nil)
    (psds_cons (psd_asg (pd_keep (pf_split (pd_var 0) pd_str)) (pgd_name 1 nd).pg)
    (psds_cons (psd_if (pb_cmp g_inQ pd_str (pd_var 1) (by rfl)) (psds_one (psd_ret pd_non)) psds_nil)
    (psds_one (psd_ret (pd_var 1))))))
theorem sc_read_poly : FnScope ["text", "words"] ["text"] (defScope st_read_poly) := ⟨rfl, rfl, rfl, by decide +kernel, rfl, by decide +kernel, by decide +kernel⟩
theorem ok_read_poly (T : Txt K mg) : Fn P w K mg base "read_poly" 1 4 m_read_poly := fn_mk (N := ["text", "words"]) (ps := ["text"]) (r := b_read_poly) T.d_read_poly sc_read_poly fun f cdv A outer s H E en tk =>
  have nd := sc_read_poly.nd
  (psds_cons (psd_asg (pd_fn (ok_words_of T) (en.room.mono (by decide)) en.gu tk (pds_cons (pd_var 0) pds_nil)) (pgd_name 1 nd).pg)
    (psds_cons (psd_if (pb_cmp g_is (pd_var 1) pd_non (by rfl)) (psds_one psd_never) psds_nil)
    (psds_one (psd_ret (pd_fn (ok_poly_in T) (en.room.mono (by decide)) en.gu tk (pds_cons (pd_var 1) (pds_cons pd_int (pds_cons pd_int pds_nil))))))))
theorem sc_term_text : FnScope ["mono", "number", "words", "box", "power"] ["mono", "number"] (defScope st_term_text) := ⟨rfl, rfl, rfl, by decide +kernel, rfl, by decide +kernel, by decide +kernel⟩
theorem ok_term_text (T : Txt K mg) : Fn P w K mg base "term_text" 2 1 m_term_text := fn_mk (N := ["mono", "number", "words", "box", "power"]) (ps := ["mono", "number"]) (r := b_term_text) T.d_term_text sc_term_text fun f cdv A outer s H E en tk =>
  have nd := sc_term_text.nd
  (psds_cons (psd_asg (pd_keep (pf_lst (pds_cons (pd_callT (hv := bv_str) b_str T.n_str (pds_cons (pd_var 1) pds_nil)) pds_nil))) (pgd_name 2 nd).pg)
    (psds_cons (psd_for en.hp rfl (pid_seq (pd_var 0)) (pgn_tup rfl (pgds_cons (pgd_name 3 nd) (pgds_cons (pgd_name 4 nd) pgds_nil))).pg (psds_one (psd_asg (pd_keep (pf_cat (pd_var 2) (pd_keep (pf_rep (pf_lst (pds_cons (pd_var 3) pds_nil)) (pd_var 4))))) (pgd_name 2 nd).pg)))
    (psds_one (psd_ret (pd_meth m_join PySem.F.plainAttrs_str PySem.F.slot_str_join PySem.F.type_str_join pd_str (pds_cons (pd_var 2) pds_nil))))))
theorem sc_poly_text : FnScope ["poly", "mono", "number"] ["poly"] (defScope st_poly_text) := ⟨rfl, rfl, rfl, by decide +kernel, rfl, by decide +kernel, by decide +kernel⟩
theorem ok_poly_text (T : Txt K mg) : Fn P w K mg base "poly_text" 1 2 m_poly_text := fn_mk (N := ["poly", "mono", "number"]) (ps := ["poly"]) (r := b_poly_text) T.d_poly_text sc_poly_text fun f cdv A outer s H E en tk =>
  have nd := sc_poly_text.nd
  (psds_cons (psd_if (pb_cmp (g_eq en.u64) (pd_var 0) (pd_tup pds_nil) (by rfl)) (psds_one (psd_ret pd_str)) psds_nil)
    (psds_one (psd_ret (pd_meth m_join PySem.F.plainAttrs_str PySem.F.slot_str_join PySem.F.type_str_join pd_str (pds_cons (pd_keep (pf_lc rfl nd (pid_seq (pd_var 0)) (own := [("mono", 1), ("number", 2)]) (blkOk_by (by kernel_rfl)) (plc_noT rfl (fun _ _ _ _ _ => (pgxs_cons (pgx_name 1 nd) (pgxs_cons (pgx_name 2 nd) pgxs_nil))) (fun _ _ _ _ _ => (pd_fn (ok_term_text T) (en.room.mono (by decide)) en.gu takes0 (pds_cons (pd_var 1) (pds_cons (pd_var 2) pds_nil))))))) pds_nil)))))
theorem sc__law_mixed : FnScope ["_law_cell", "_law_k"] ["_law_cell", "_law_k"] (defScope st__law_mixed) := ⟨rfl, rfl, rfl, by decide +kernel, rfl, by decide +kernel, by decide +kernel⟩
theorem ok__law_mixed (T : Txt K mg) : Fn P w K mg base "_law_mixed" 2 1 m__law_mixed := fn_mk (N := ["_law_cell", "_law_k"]) (ps := ["_law_cell", "_law_k"]) (r := b__law_mixed) T.d__law_mixed sc__law_mixed fun f cdv A outer s H E en tk =>
  have nd := sc__law_mixed.nd
  (psds_cons (psd_asg (pd_bin g_add (pd_bin g_add (pd_bin g_mod (pd_var 0) pd_int) (pd_bin g_mul pd_int (pd_var 1))) pd_int) (pgd_name 0 nd).pg)
    (psds_one (psd_ret (pd_bin g_mod (pd_bin g_mul (pd_bin g_mod (pd_bin g_mul (pd_var 0) (pd_var 0)) pd_int) pd_int) pd_int))))
theorem sc__law_draw : FnScope ["_law_cell", "_law_k"] ["_law_cell", "_law_k"] (defScope st__law_draw) := ⟨rfl, rfl, rfl, by decide +kernel, rfl, by decide +kernel, by decide +kernel⟩
theorem ok__law_draw (T : Txt K mg) : Fn P w K mg base "_law_draw" 2 2 m__law_draw := fn_mkK (N := ["_law_cell", "_law_k"]) (ps := ["_law_cell", "_law_k"]) (r := b__law_draw) T.d__law_draw sc__law_draw fun f cdv A outer s H E en tk =>
  have nd := sc__law_draw.nd
  (psds_one (psd_ret (pd_own (pf_disp (ppd_cons pd_str (pd_if (pb_cmp (g_geU en.u64) (pd_var 0) (pd_bin g_pow pd_int pd_int) (by rfl)) (pd_var 0) pd_int) (ppd_cons pd_str (pd_fn (ok__law_mixed T) (en.room.mono (by decide)) en.gu tk (pds_cons (pd_var 0) (pds_cons (pd_var 1) pds_nil))) (ppd_cons pd_str (pd_var 1) ppd_nil)))))))
theorem sc__law_digit : FnScope ["_law_state", "_law_many", "_law_j", "_law_found"] ["_law_state", "_law_many"] (defScope st__law_digit) := ⟨rfl, rfl, rfl, by decide +kernel, rfl, by decide +kernel, by decide +kernel⟩
theorem ok__law_digit (T : Txt K mg) : Fn P w K mg base "_law_digit" 2 2 m__law_digit := fn_mk (N := ["_law_state", "_law_many", "_law_j", "_law_found"]) (ps := ["_law_state", "_law_many"]) (r := b__law_digit) T.d__law_digit sc__law_digit fun f cdv A outer s H E en tk =>
  have nd := sc__law_digit.nd
  (psds_cons (psd_if (pb_cmp (g_eq en.u64) (pd_uget en.u10 (pd_var 0) pd_str) pd_int (by rfl)) (psds_cons (psd_putU en.u10 (pd_var 0) pd_str (pd_bin g_add (pd_uget en.u10 (pd_var 0) pd_str) pd_int))
    (psds_one (psd_for en.hp rfl (pid_range1 T.n_range (pds_cons pd_int pds_nil)) (pgd_name 2 nd).pg (psds_one (psd_putU en.u10 (pd_var 0) pd_str (pd_bin g_add (pd_bin g_mul (pd_uget en.u10 (pd_var 0) pd_str) pd_int) (pd_fn (ok__law_mixed T) (en.room.mono (by decide)) en.gu tk (pds_cons (pd_uget en.u10 (pd_var 0) pd_str) (pds_cons (pd_bin g_add (pd_bin g_mul pd_int (pd_uget en.u10 (pd_var 0) pd_str)) (pd_var 2)) pds_nil))))))))) psds_nil)
    (psds_cons (psd_asg (pd_bin g_mod (pd_uget en.u10 (pd_var 0) pd_str) (pd_var 1)) (pgd_name 3 nd).pg)
    (psds_cons (psd_putU en.u10 (pd_var 0) pd_str (pd_bin g_div (pd_uget en.u10 (pd_var 0) pd_str) (pd_var 1)))
    (psds_one (psd_ret (pd_var 3))))))
theorem sc__law_mono : FnScope ["_law_state", "_law_names", "_law_most", "_law_found", "_law_k", "_law_box"] ["_law_state", "_law_names", "_law_most"] (defScope st__law_mono) := ⟨rfl, rfl, rfl, by decide +kernel, rfl, by decide +kernel, by decide +kernel⟩
theorem ok__law_mono (T : Txt K mg) : Fn P w K mg base "_law_mono" 3 3 m__law_mono := fn_mk (N := ["_law_state", "_law_names", "_law_most", "_law_found", "_law_k", "_law_box"]) (ps := ["_law_state", "_law_names", "_law_most"]) (r := b__law_mono) T.d__law_mono sc__law_mono fun f cdv A outer s H E en tk =>
  have nd := sc__law_mono.nd
  (psds_cons (psd_asg (pd_own pf_dnew) (pgd_name 3 nd).pg)
    (psds_cons (psd_for en.hp rfl (pid_range1 T.n_range (pds_cons (pd_fn (ok__law_digit T) (en.room.mono (by decide)) en.gu tk (pds_cons (pd_var 0) (pds_cons (pd_bin g_add (pd_var 2) pd_int) pds_nil))) pds_nil)) (pgd_name 4 nd).pg (psds_cons (psd_asg (pd_ix (pd_var 1) (pd_fn (ok__law_digit T) (en.room.mono (by decide)) en.gu tk (pds_cons (pd_var 0) (pds_cons (pd_callB (hv := bv_len) b_len T.n_len (pds_cons (pd_var 1) pds_nil)) pds_nil)))) (pgd_name 5 nd).pg)
    (psds_one (psd_putU en.u10 (pd_var 3) (pd_var 5) (pd_bin g_add (pd_get2 en.u10 (pd_var 3) (pd_var 5) pd_int) pd_int)))))
    (psds_one (psd_ret (pd_callT (hv := bv_tuple) b_tuple T.n_tuple (pds_cons (pd_keep (pf_sortIt rfl en.u64 T.n_sorted (pd_var 3))) pds_nil))))))
theorem sc__law_number : FnScope ["_law_state", "_law_great", "_law_number_here"] ["_law_state"] (defScope st__law_number) := ⟨rfl, rfl, rfl, by decide +kernel, rfl, by decide +kernel, by decide +kernel⟩
theorem ok__law_number (T : Txt K mg) : Fn P w K mg base "_law_number" 1 3 m__law_number := fn_mk (N := ["_law_state", "_law_great", "_law_number_here"]) (ps := ["_law_state"]) (r := b__law_number) T.d__law_number sc__law_number fun f cdv A outer s H E en tk =>
  have nd := sc__law_number.nd
  (psds_cons (psd_asg (pd_ix (pd_keep (pf_lst (pds_cons pd_int (pds_cons pd_int (pds_cons pd_int (pds_cons (pd_bin g_pow pd_int pd_int) pds_nil)))))) (pd_fn (ok__law_digit T) (en.room.mono (by decide)) en.gu tk (pds_cons (pd_var 0) (pds_cons pd_int pds_nil)))) (pgd_name 1 nd).pg)
    (psds_cons (psd_asg (pd_bin g_sub (pd_fn (ok__law_digit T) (en.room.mono (by decide)) en.gu tk (pds_cons (pd_var 0) (pds_cons (pd_bin g_mul pd_int (pd_var 1)) pds_nil))) (pd_var 1)) (pgd_name 2 nd).pg)
    (psds_one (psd_ret (pd_if (pb_cmp (g_ltU en.u64) (pd_var 2) pd_int (by rfl)) (pd_var 2) (pd_bin g_add (pd_var 2) pd_int))))))
theorem sc__law_poly : FnScope ["_law_state", "_law_names", "_law_many", "_law_most", "_law_found", "_law_k"] ["_law_state", "_law_names", "_law_many", "_law_most"] (defScope st__law_poly) := ⟨rfl, rfl, rfl, by decide +kernel, rfl, by decide +kernel, by decide +kernel⟩
theorem ok__law_poly (T : Txt K mg) : Fn P w K mg base "_law_poly" 4 4 m__law_poly := fn_mk (N := ["_law_state", "_law_names", "_law_many", "_law_most", "_law_found", "_law_k"]) (ps := ["_law_state", "_law_names", "_law_many", "_law_most"]) (r := b__law_poly) T.d__law_poly sc__law_poly fun f cdv A outer s H E en tk =>
  have nd := sc__law_poly.nd
  (psds_cons (psd_asg (pd_own pf_dnew) (pgd_name 4 nd).pg)
    (psds_cons (psd_for en.hp rfl (pid_range1 T.n_range (pds_cons (pd_fn (ok__law_digit T) (en.room.mono (by decide)) en.gu tk (pds_cons (pd_var 0) (pds_cons (pd_bin g_add (pd_var 2) pd_int) pds_nil))) pds_nil)) (pgd_name 5 nd).pg (psds_one (psd_putU en.u10 (pd_var 4) (pd_fn (ok__law_mono T) (en.room.mono (by decide)) en.gu tk (pds_cons (pd_var 0) (pds_cons (pd_var 1) (pds_cons (pd_var 3) pds_nil)))) (pd_fn (ok__law_number T) (en.room.mono (by decide)) en.gu tk (pds_cons (pd_var 0) pds_nil)))))
    (psds_one (psd_ret (pd_callT (hv := bv_tuple) b_tuple T.n_tuple (pds_cons (pd_keep (pf_sortIt rfl en.u64 T.n_sorted (pd_var 4))) pds_nil))))))
theorem sc__law_term : FnScope ["_law_mono_here", "_law_number_here", "_law_state", "_law_names", "_law_box", "_law_power", "_law_k"] ["_law_mono_here", "_law_number_here", "_law_state"] (defScope st__law_term) := ⟨rfl, rfl, rfl, by decide +kernel, rfl, by decide +kernel, by decide +kernel⟩
theorem ok__law_term (T : Txt K mg) : Fn P w K mg base "_law_term" 3 3 m__law_term := fn_mk (N := ["_law_mono_here", "_law_number_here", "_law_state", "_law_names", "_law_box", "_law_power", "_law_k"]) (ps := ["_law_mono_here", "_law_number_here", "_law_state"]) (r := b__law_term) T.d__law_term sc__law_term fun f cdv A outer s H E en tk =>
  have nd := sc__law_term.nd
  (psds_cons (psd_asg (pd_own (pf_lst pds_nil)) (pgd_name 3 nd).pg)
    (psds_cons (psd_for en.hp rfl (pid_seq (pd_var 0)) (pgn_tup rfl (pgds_cons (pgd_name 4 nd) (pgds_cons (pgd_name 5 nd) pgds_nil))).pg (psds_one (psd_asg (pd_own (pf_cat (pd_var 3) (pd_keep (pf_rep (pf_lst (pds_cons (pd_var 4) pds_nil)) (pd_var 5))))) (pgd_name 3 nd).pg)))
    (psds_cons (psd_if (pb_cmp g_isN (pd_var 2) pd_non (by rfl)) (psds_one (psd_for en.hp rfl (pid_range1 T.n_range (pds_cons (pd_callB (hv := bv_len) b_len T.n_len (pds_cons (pd_var 3) pds_nil)) pds_nil)) (pgd_name 6 nd).pg (psds_one (psd_expr (pd_meth m_append PySem.F.plainAttrs_list PySem.F.slot_list_append PySem.F.type_list_append (pd_var 3) (pds_cons (pd_meth m_popI PySem.F.plainAttrs_list PySem.F.slot_list_pop PySem.F.type_list_pop (pd_var 3) (pds_cons (pd_fn (ok__law_digit T) (en.room.mono (by decide)) en.gu tk (pds_cons (pd_var 2) (pds_cons (pd_callB (hv := bv_len) b_len T.n_len (pds_cons (pd_var 3) pds_nil)) pds_nil))) pds_nil)) pds_nil)))))) psds_nil)
    (psds_one (psd_ret (pd_meth m_join PySem.F.plainAttrs_str PySem.F.slot_str_join PySem.F.type_str_join pd_str (pds_cons (pd_keep (pf_cat (pd_keep (pf_lst (pds_cons (pd_callT (hv := bv_str) b_str T.n_str (pds_cons (pd_var 1) pds_nil)) pds_nil))) (pd_var 3))) pds_nil)))))))
theorem sc__law_text : FnScope ["_law_poly_here", "_law_mono_here", "_law_number_here"] ["_law_poly_here"] (defScope st__law_text) := ⟨rfl, rfl, rfl, by decide +kernel, rfl, by decide +kernel, by decide +kernel⟩
theorem ok__law_text (T : Txt K mg) : Fn P w K mg base "_law_text" 1 4 m__law_text := fn_mk (N := ["_law_poly_here", "_law_mono_here", "_law_number_here"]) (ps := ["_law_poly_here"]) (r := b__law_text) T.d__law_text sc__law_text fun f cdv A outer s H E en tk =>
  have nd := sc__law_text.nd
  (psds_cons (psd_if (pb_cmp (g_eq en.u64) (pd_var 0) (pd_tup pds_nil) (by rfl)) (psds_one (psd_ret pd_str)) psds_nil)
    (psds_one (psd_ret (pd_meth m_join PySem.F.plainAttrs_str PySem.F.slot_str_join PySem.F.type_str_join pd_str (pds_cons (pd_keep (pf_lc rfl nd (pid_seq (pd_var 0)) (own := [("_law_mono_here", 1), ("_law_number_here", 2)]) (blkOk_by (by kernel_rfl)) (plc_noT rfl (fun _ _ _ _ _ => (pgxs_cons (pgx_name 1 nd) (pgxs_cons (pgx_name 2 nd) pgxs_nil))) (fun _ _ _ _ _ => (pd_fn (ok__law_term T) (en.room.mono (by decide)) en.gu takes0 (pds_cons (pd_var 1) (pds_cons (pd_var 2) (pds_cons pd_non pds_nil)))))))) pds_nil)))))
theorem sc__law_otherwise : FnScope ["_law_state", "_law_poly_here", "_law_found", "_law_mono_here", "_law_number_here", "_law_part", "_law_k"] ["_law_state", "_law_poly_here"] (defScope st__law_otherwise) := ⟨rfl, rfl, rfl, by decide +kernel, rfl, by decide +kernel, by decide +kernel⟩
theorem ok__law_otherwise (T : Txt K mg) : Fn P w K mg base "_law_otherwise" 2 4 m__law_otherwise := fn_mk (N := ["_law_state", "_law_poly_here", "_law_found", "_law_mono_here", "_law_number_here", "_law_part", "_law_k"]) (ps := ["_law_state", "_law_poly_here"]) (r := b__law_otherwise) T.d__law_otherwise sc__law_otherwise fun f cdv A outer s H E en tk =>
  have nd := sc__law_otherwise.nd
  (psds_cons (psd_asg (pd_own (pf_lst pds_nil)) (pgd_name 2 nd).pg)
    (psds_cons (psd_for en.hp rfl (pid_seq (pd_var 1)) (pgn_tup rfl (pgds_cons (pgd_name 3 nd) (pgds_cons (pgd_name 4 nd) pgds_nil))).pg (psds_cons (psd_asg (pd_bin g_sub (pd_fn (ok__law_digit T) (en.room.mono (by decide)) en.gu tk (pds_cons (pd_var 0) (pds_cons pd_int pds_nil))) pd_int) (pgd_name 5 nd).pg)
    (psds_cons (psd_expr (pd_meth m_append PySem.F.plainAttrs_list PySem.F.slot_list_append PySem.F.type_list_append (pd_var 2) (pds_cons (pd_fn (ok__law_term T) (en.room.mono (by decide)) en.gu tk (pds_cons (pd_var 3) (pds_cons (pd_bin g_sub (pd_var 4) (pd_var 5)) (pds_cons (pd_var 0) pds_nil)))) pds_nil)))
    (psds_one (psd_expr (pd_meth m_append PySem.F.plainAttrs_list PySem.F.slot_list_append PySem.F.type_list_append (pd_var 2) (pds_cons (pd_fn (ok__law_term T) (en.room.mono (by decide)) en.gu tk (pds_cons (pd_var 3) (pds_cons (pd_var 5) (pds_cons (pd_var 0) pds_nil)))) pds_nil)))))))
    (psds_cons (psd_asg (pd_own (pf_cat (pd_var 2) (pd_keep (pf_lst (pds_cons pd_str (pds_cons pd_str pds_nil)))))) (pgd_name 2 nd).pg)
    (psds_cons (psd_for en.hp rfl (pid_range1 T.n_range (pds_cons (pd_callB (hv := bv_len) b_len T.n_len (pds_cons (pd_var 2) pds_nil)) pds_nil)) (pgd_name 6 nd).pg (psds_one (psd_expr (pd_meth m_append PySem.F.plainAttrs_list PySem.F.slot_list_append PySem.F.type_list_append (pd_var 2) (pds_cons (pd_meth m_popI PySem.F.plainAttrs_list PySem.F.slot_list_pop PySem.F.type_list_pop (pd_var 2) (pds_cons (pd_fn (ok__law_digit T) (en.room.mono (by decide)) en.gu tk (pds_cons (pd_var 0) (pds_cons (pd_callB (hv := bv_len) b_len T.n_len (pds_cons (pd_var 2) pds_nil)) pds_nil))) pds_nil)) pds_nil)))))
    (psds_one (psd_ret (pd_meth m_join PySem.F.plainAttrs_str PySem.F.slot_str_join PySem.F.type_str_join pd_str (pds_cons (pd_var 2) pds_nil))))))))
theorem sc__law_kinds : FnScope ["_law_error", "_law_kinds_here", "_law_name", "_law_fits"] ["_law_error"] (defScope st__law_kinds) := ⟨rfl, rfl, rfl, by decide +kernel, rfl, by decide +kernel, by decide +kernel⟩
theorem ok__law_kinds (T : Txt K mg) : Fn P w K mg base "_law_kinds" 1 1 m__law_kinds := fn_mk (N := ["_law_error", "_law_kinds_here", "_law_name", "_law_fits"]) (ps := ["_law_error"]) (r := b__law_kinds) T.d__law_kinds sc__law_kinds fun f cdv A outer s H E en tk =>
  have nd := sc__law_kinds.nd
  (psds_cons (psd_asg (pd_own (pf_lst (pds_cons (pd_tup (pds_cons pd_str (pds_cons (pd_callB (hv := bv_isinstance) (b_isiE T.xc) T.n_isinstance (pds_cons (pd_var 0) (pds_cons (pd_cls (T.xc.at_ _ (by decide))) pds_nil))) pds_nil))) (pds_cons (pd_tup (pds_cons pd_str (pds_cons (pd_callB (hv := bv_isinstance) (b_isiE T.xc) T.n_isinstance (pds_cons (pd_var 0) (pds_cons (pd_cls (T.xc.at_ _ (by decide))) pds_nil))) pds_nil))) pds_nil)))) (pgd_name 1 nd).pg)
    (psds_cons (psd_asg (pd_own (pf_cat (pd_var 1) (pd_keep (pf_lst (pds_cons (pd_tup (pds_cons pd_str (pds_cons (pd_callB (hv := bv_isinstance) (b_isiE T.xc) T.n_isinstance (pds_cons (pd_var 0) (pds_cons (pd_cls (T.xc.at_ _ (by decide))) pds_nil))) pds_nil))) (pds_cons (pd_tup (pds_cons pd_str (pds_cons (pd_callB (hv := bv_isinstance) (b_isiE T.xc) T.n_isinstance (pds_cons (pd_var 0) (pds_cons (pd_cls (T.xc.at_ _ (by decide))) pds_nil))) pds_nil))) pds_nil)))))) (pgd_name 1 nd).pg)
    (psds_cons (psd_asg (pd_own (pf_cat (pd_var 1) (pd_keep (pf_lst (pds_cons (pd_tup (pds_cons pd_str (pds_cons (pd_callB (hv := bv_isinstance) (b_isiE T.xc) T.n_isinstance (pds_cons (pd_var 0) (pds_cons (pd_cls (T.xc.at_ _ (by decide))) pds_nil))) pds_nil))) (pds_cons (pd_tup (pds_cons pd_str (pds_cons (pd_callB (hv := bv_isinstance) (b_isiE T.xc) T.n_isinstance (pds_cons (pd_var 0) (pds_cons (pd_cls (T.xc.at_ _ (by decide))) pds_nil))) pds_nil))) pds_nil)))))) (pgd_name 1 nd).pg)
    (psds_cons (psd_expr (pd_meth m_append PySem.F.plainAttrs_list PySem.F.slot_list_append PySem.F.type_list_append (pd_var 1) (pds_cons (pd_tup (pds_cons pd_str (pds_cons (pd_callB (hv := bv_isinstance) (b_isiE T.xc) T.n_isinstance (pds_cons (pd_var 0) (pds_cons (pd_cls (T.xc.at_ _ (by decide))) pds_nil))) pds_nil))) pds_nil)))
    (psds_cons (psd_expr (pd_meth m_append PySem.F.plainAttrs_list PySem.F.slot_list_append PySem.F.type_list_append (pd_var 1) (pds_cons (pd_tup (pds_cons pd_str (pds_cons (pd_or (pd_not (pd_callB (hv := bv_isinstance) (b_isiE T.xc) T.n_isinstance (pds_cons (pd_var 0) (pds_cons (pd_ty (hv := bv_ValueError) T.n_ValueError) pds_nil)))) (pd_one (pd_not (pd_callB (hv := bv_isinstance) (b_isiE T.xc) T.n_isinstance (pds_cons (pd_var 0) (pds_cons (pd_cls (T.xc.at_ _ (by decide))) pds_nil)))))) pds_nil))) pds_nil)))
    (psds_freeze (i := 1) (psds_one (psd_ret (pd_keep (pf_lc rfl nd (pid_seq (pd_var 1)) (own := [("_law_name", 2), ("_law_fits", 3)]) (blkOk_by (by kernel_rfl)) (plc_ifT rfl (fun _ _ _ _ _ => (pgxs_cons (pgx_name 2 nd) (pgxs_cons (pgx_name 3 nd) pgxs_nil))) (fun _ _ _ _ _ => (pb_tru (pd_var 3))) (fun _ _ _ _ _ => (pd_var 2)))))))))))))
theorem sc__law_by_hand : FnScope ["_law_number_here", "_law_made", "_law_told", "_law_names", "_law_error", "_law_name"] ["_law_number_here"] (defScope st__law_by_hand) := ⟨rfl, rfl, rfl, by decide +kernel, rfl, by decide +kernel, by decide +kernel⟩
theorem ok__law_by_hand (T : Txt K mg) : Fn P w K mg base "_law_by_hand" 1 3 m__law_by_hand := fn_mk (N := ["_law_number_here", "_law_made", "_law_told", "_law_names", "_law_error", "_law_name"]) (ps := ["_law_number_here"]) (r := b__law_by_hand) T.d__law_by_hand sc__law_by_hand fun f cdv A outer s H E en tk =>
  have nd := sc__law_by_hand.nd
  (psds_cons (psd_asg (pd_keep (pf_lst (pds_cons (pd_excN (okx_BadRow T) en.room (by decide) (pds_cons (pd_var 0) (pds_cons pd_int pds_nil))) (pds_cons (pd_excN (okx_BadLoop T) en.room (by decide) (pds_cons (pd_var 0) pds_nil)) (pds_cons (pd_excN (okx_Hindered T) en.room (by decide) (pds_cons (pd_keep (pf_lst (pds_cons pd_str pds_nil))) (pds_cons (pd_var 0) pds_nil))) (pds_cons (pd_excN (okx_BadPaper T) en.room (by decide) (pds_cons (pd_var 0) pds_nil)) pds_nil)))))) (pgd_name 1 nd).pg)
    (psds_cons (psd_asg (pd_keep (pf_lst (pds_cons (pd_fld T.xc (T.xn "row" (by decide)) (pd_ix (pd_var 1) pd_int)) (pds_cons (pd_fld T.xc (T.xn "word" (by decide)) (pd_ix (pd_var 1) pd_int)) (pds_cons (pd_fld T.xc (T.xn "row" (by decide)) (pd_ix (pd_var 1) pd_int)) (pds_cons (pd_fld T.xc (T.xn "boxes" (by decide)) (pd_ix (pd_var 1) pd_int)) (pds_cons (pd_fld T.xc (T.xn "what" (by decide)) (pd_ix (pd_var 1) pd_int)) (pds_cons (pd_fld T.xc (T.xn "place" (by decide)) (pd_ix (pd_var 1) pd_int)) pds_nil)))))))) (pgd_name 2 nd).pg)
    (psds_cons (psd_if (pb_cmp (g_ne en.u64) (pd_var 2) (pd_keep (pf_lst (pds_cons (pd_var 0) (pds_cons pd_int (pds_cons (pd_var 0) (pds_cons (pd_keep (pf_lst (pds_cons pd_str pds_nil))) (pds_cons (pd_var 0) (pds_cons (pd_var 0) pds_nil)))))))) (by rfl)) (psds_one (psd_ret pd_bl)) psds_nil)
    (psds_cons (psd_asg (pd_keep (pf_cat (pd_var 1) (pd_keep (pf_lst (pds_cons (pd_excC T.r_TooGreat) (pds_cons (pd_excC T.r_BadQuestion) (pds_cons (pd_excC T.r_OutOfPlace) pds_nil))))))) (pgd_name 1 nd).pg)
    (psds_cons (psd_asg (pd_keep (pf_lst (pds_cons pd_str (pds_cons pd_str (pds_cons pd_str (pds_cons pd_str (pds_cons pd_str (pds_cons pd_str (pds_cons pd_str pds_nil))))))))) (pgd_name 3 nd).pg)
    (psds_one (psd_ret (pd_cmp (g_eq en.u64) (pd_keep (pf_lc rfl nd (pid_seq (pd_var 1)) (own := [("_law_error", 4)]) (blkOk_by (by kernel_rfl)) (plc_no (fun _ _ _ _ _ => (pgx_name 4 nd)) (fun _ _ _ _ _ => (pd_fn (ok__law_kinds T) (en.room.mono (by decide)) en.gu takes0 (pds_cons (pd_var 4) pds_nil)))))) (pd_keep (pf_lc rfl nd (pid_seq (pd_var 3)) (own := [("_law_name", 5)]) (blkOk_by (by kernel_rfl)) (plc_no (fun _ _ _ _ _ => (pgx_name 5 nd)) (fun _ _ _ _ _ => (pd_keep (pf_lst (pds_cons (pd_var 5) pds_nil))))))) (by rfl)))))))))
theorem sc_law : FnScope ["_law_script", "_law_k", "_law_cell", "_law_state", "_law_names", "_law_poly_here", "_law_text_here", "_law_other", "_law_one", "_law_words", "_law_handed", "_law_told"] ["_law_script"] (defScope st_law) := ⟨rfl, rfl, rfl, by decide +kernel, rfl, by decide +kernel, by decide +kernel⟩
theorem ok_law (T : Txt K mg) : Fn P w K mg base "law" 1 5 m_law := fn_mk (N := ["_law_script", "_law_k", "_law_cell", "_law_state", "_law_names", "_law_poly_here", "_law_text_here", "_law_other", "_law_one", "_law_words", "_law_handed", "_law_told"]) (ps := ["_law_script"]) (r := b_law) T.d_law sc_law fun f cdv A outer s H E en tk =>
  have nd := sc_law.nd
  (psds_cons (psd_for en.hp rfl (pid_enum T.n_enumerate (pds_cons (pd_keep (pf_cat (pd_cut (pd_var 0) pod_none (pod_some pd_int)) (pd_keep (pf_lst (pds_cons (pd_callB (hv := bv_sum) (b_sum rfl) T.n_sum (pds_cons (pd_var 0) pds_nil)) pds_nil))))) pds_nil)) (pgn_tup rfl (pgds_cons (pgd_name 1 nd) (pgds_cons (pgd_name 2 nd) pgds_nil))).pg (psds_cons (psd_asg (pd_fn (ok__law_draw T) (en.room.mono (by decide)) en.gu tk (pds_cons (pd_var 2) (pds_cons (pd_var 1) pds_nil))) (pgd_name 3 nd).pg)
    (psds_cons (psd_asg (pd_cut (pd_keep (pf_lst (pds_cons pd_str (pds_cons pd_str (pds_cons pd_str (pds_cons pd_str (pds_cons pd_str (pds_cons pd_str (pds_cons pd_str (pds_cons pd_str pds_nil)))))))))) (pod_some (pd_fn (ok__law_digit T) (en.room.mono (by decide)) en.gu tk (pds_cons (pd_var 3) (pds_cons pd_int pds_nil)))) pod_none) (pgd_name 4 nd).pg)
    (psds_cons (psd_asg (pd_fn (ok__law_poly T) (en.room.mono (by decide)) en.gu tk (pds_cons (pd_var 3) (pds_cons (pd_var 4) (pds_cons pd_int (pds_cons (pd_ix (pd_keep (pf_lst (pds_cons pd_int (pds_cons pd_int (pds_cons pd_int pds_nil))))) (pd_fn (ok__law_digit T) (en.room.mono (by decide)) en.gu tk (pds_cons (pd_var 3) (pds_cons pd_int pds_nil)))) pds_nil))))) (pgd_name 5 nd).pg)
    (psds_cons (psd_asg (pd_fn (ok__law_text T) (en.room.mono (by decide)) en.gu tk (pds_cons (pd_var 5) pds_nil)) (pgd_name 6 nd).pg)
    (psds_cons (psd_asg (pd_fn (ok__law_otherwise T) (en.room.mono (by decide)) en.gu tk (pds_cons (pd_var 3) (pds_cons (pd_var 5) pds_nil))) (pgd_name 7 nd).pg)
    (psds_cons (psd_if (pb_cmp (g_ne en.u64) (pd_fn (ok_poly_text T) (en.room.mono (by decide)) en.gu tk (pds_cons (pd_var 5) pds_nil)) (pd_var 6) (by rfl)) (psds_one (psd_ret pd_bl)) psds_nil)
    (psds_one (psd_for en.hp rfl (pid_seq (pd_tup (pds_cons (pd_var 6) (pds_cons (pd_var 7) (pds_cons (pd_var 6) pds_nil))))) (pgd_name 8 nd).pg (psds_cons (psd_asg (pd_cut (pd_keep (pf_lst (pds_cons pd_str (pds_cons pd_str pds_nil)))) pod_none (pod_some (pd_fn (ok__law_digit T) (en.room.mono (by decide)) en.gu tk (pds_cons (pd_var 3) (pds_cons pd_int pds_nil))))) (pgd_name 9 nd).pg)
    (psds_cons (psd_asg (pd_keep (pf_cat (pd_var 9) (pd_keep (pf_split (pd_var 8) pd_str)))) (pgd_name 10 nd).pg)
    (psds_cons (psd_for en.hp rfl (pid_seq (pd_tup (pds_cons (pd_fn (ok_read_poly T) (en.room.mono (by decide)) en.gu tk (pds_cons (pd_var 8) pds_nil)) (pds_cons (pd_fn (ok_poly_in T) (en.room.mono (by decide)) en.gu tk (pds_cons (pd_var 10) (pds_cons pd_int (pds_cons (pd_callB (hv := bv_len) b_len T.n_len (pds_cons (pd_var 9) pds_nil)) pds_nil)))) pds_nil)))) (pgd_name 11 nd).pg (psds_one (psd_if (pb_w (pw_orD (pb_not (pb_tru (pd_callB (hv := bv_isinstance) b_isi T.n_isinstance (pds_cons (pd_var 11) (pds_cons (pd_ty (hv := bv_tuple) T.n_tuple) pds_nil))))) (pw_or1D (pb_cmp (g_ne en.u64) (pd_callB (hv := bv_repr) (b_reprW en.gu en.u80 T.dig) T.n_repr (pds_cons (pd_var 11) pds_nil)) (pd_callB (hv := bv_repr) (b_reprW en.gu en.u80 T.dig) T.n_repr (pds_cons (pd_var 5) pds_nil)) (by rfl))))) (psds_one (psd_ret pd_bl)) psds_nil)))
    (psds_one (psd_if (pb_cmp (g_ne en.u64) (pd_var 10) (pd_keep (pf_cat (pd_var 9) (pd_keep (pf_split (pd_var 8) pd_str)))) (by rfl)) (psds_one (psd_ret pd_bl)) psds_nil))))))))))))))
    (psds_one (psd_ret (pd_and (pd_fn (ok__law_by_hand T) (en.room.mono (by decide)) en.gu tk (pds_cons (pd_bin g_add pd_int (pd_callB (hv := bv_len) b_len T.n_len (pds_cons (pd_var 0) pds_nil))) pds_nil)) (pd_and (pd_cmp (g_eq en.u64) (pd_fn (ok_poly_text T) (en.room.mono (by decide)) en.gu tk (pds_cons (pd_tup pds_nil) pds_nil)) pd_str (by rfl)) (pd_one (pd_cmp (g_eq en.u64) (pd_fn (ok_read_poly T) (en.room.mono (by decide)) en.gu tk (pds_cons pd_str pds_nil)) (pd_tup pds_nil) (by rfl))))))))
end
/-! the head -/
def dd_poly_of : He.DefD := ⟨("poly_of", none), "poly_of", "poly_of", defArgs st_poly_of, defBody st_poly_of, defScope st_poly_of, [], []⟩
def dd_is_name : He.DefD := ⟨("is_name", none), "is_name", "is_name", defArgs st_is_name, defBody st_is_name, defScope st_is_name, [], []⟩
def dd_number_of : He.DefD := ⟨("number_of", none), "number_of", "number_of", defArgs st_number_of, defBody st_number_of, defScope st_number_of, [], []⟩
def dd_mono_product : He.DefD := ⟨("mono_product", none), "mono_product", "mono_product", defArgs st_mono_product, defBody st_mono_product, defScope st_mono_product, [], []⟩
def dd_term_in : He.DefD := ⟨("term_in", none), "term_in", "term_in", defArgs st_term_in, defBody st_term_in, defScope st_term_in, [], []⟩
def dd_poly_in : He.DefD := ⟨("poly_in", none), "poly_in", "poly_in", defArgs st_poly_in, defBody st_poly_in, defScope st_poly_in, [], []⟩
def dd_words_of : He.DefD := ⟨("words_of", none), "words_of", "words_of", defArgs st_words_of, defBody st_words_of, defScope st_words_of, [], []⟩
def dd_read_poly : He.DefD := ⟨("read_poly", none), "read_poly", "read_poly", defArgs st_read_poly, defBody st_read_poly, defScope st_read_poly, [], []⟩
def dd_term_text : He.DefD := ⟨("term_text", none), "term_text", "term_text", defArgs st_term_text, defBody st_term_text, defScope st_term_text, [], []⟩
def dd_poly_text : He.DefD := ⟨("poly_text", none), "poly_text", "poly_text", defArgs st_poly_text, defBody st_poly_text, defScope st_poly_text, [], []⟩
def dd__law_mixed : He.DefD := ⟨("_law_mixed", none), "_law_mixed", "_law_mixed", defArgs st__law_mixed, defBody st__law_mixed, defScope st__law_mixed, [], []⟩
def dd__law_draw : He.DefD := ⟨("_law_draw", none), "_law_draw", "_law_draw", defArgs st__law_draw, defBody st__law_draw, defScope st__law_draw, [], []⟩
def dd__law_digit : He.DefD := ⟨("_law_digit", none), "_law_digit", "_law_digit", defArgs st__law_digit, defBody st__law_digit, defScope st__law_digit, [], []⟩
def dd__law_mono : He.DefD := ⟨("_law_mono", none), "_law_mono", "_law_mono", defArgs st__law_mono, defBody st__law_mono, defScope st__law_mono, [], []⟩
def dd__law_number : He.DefD := ⟨("_law_number", none), "_law_number", "_law_number", defArgs st__law_number, defBody st__law_number, defScope st__law_number, [], []⟩
def dd__law_poly : He.DefD := ⟨("_law_poly", none), "_law_poly", "_law_poly", defArgs st__law_poly, defBody st__law_poly, defScope st__law_poly, [], []⟩
def dd__law_term : He.DefD := ⟨("_law_term", none), "_law_term", "_law_term", defArgs st__law_term, defBody st__law_term, defScope st__law_term, [], []⟩
def dd__law_text : He.DefD := ⟨("_law_text", none), "_law_text", "_law_text", defArgs st__law_text, defBody st__law_text, defScope st__law_text, [], []⟩
def dd__law_otherwise : He.DefD := ⟨("_law_otherwise", none), "_law_otherwise", "_law_otherwise", defArgs st__law_otherwise, defBody st__law_otherwise, defScope st__law_otherwise, [], []⟩
def dd__law_kinds : He.DefD := ⟨("_law_kinds", none), "_law_kinds", "_law_kinds", defArgs st__law_kinds, defBody st__law_kinds, defScope st__law_kinds, [], []⟩
def dd__law_by_hand : He.DefD := ⟨("_law_by_hand", none), "_law_by_hand", "_law_by_hand", defArgs st__law_by_hand, defBody st__law_by_hand, defScope st__law_by_hand, [], []⟩
def dd_law : He.DefD := ⟨("law", none), "law", "law", defArgs st_law, defBody st_law, defScope st_law, [], []⟩
def ddx_BadLoop : He.DefD := ⟨("BadLoop", some "__init__"), "__init__", "BadLoop.__init__", defArgs (clsSt (top 3) 0), defBody (clsSt (top 3) 0), defScope (clsSt (top 3) 0), [], []⟩
def ddx_BadPaper : He.DefD := ⟨("BadPaper", some "__init__"), "__init__", "BadPaper.__init__", defArgs (clsSt (top 5) 0), defBody (clsSt (top 5) 0), defScope (clsSt (top 5) 0), [], []⟩
def ddx_BadRow : He.DefD := ⟨("BadRow", some "__init__"), "__init__", "BadRow.__init__", defArgs (clsSt (top 2) 0), defBody (clsSt (top 2) 0), defScope (clsSt (top 2) 0), [], []⟩
def ddx_Hindered : He.DefD := ⟨("Hindered", some "__init__"), "__init__", "Hindered.__init__", defArgs (clsSt (top 4) 0), defBody (clsSt (top 4) 0), defScope (clsSt (top 4) 0), [], []⟩
def fn : List He.DefD := [dd_poly_of, dd_is_name, dd_number_of, dd_mono_product, dd_term_in, dd_poly_in, dd_words_of, dd_read_poly, dd_term_text, dd_poly_text, dd__law_mixed, dd__law_draw, dd__law_digit, dd__law_mono, dd__law_number, dd__law_poly, dd__law_term, dd__law_text, dd__law_otherwise, dd__law_kinds, dd__law_by_hand, dd_law, ddx_BadLoop, ddx_BadPaper, ddx_BadRow, ddx_Hindered]
def xh : Xh := ⟨clX, ["BadQuestion", "OutOfPlace", "TooGreat"], ["BadLoop", "BadPaper", "BadRow", "Hindered"]⟩
def li : List (Str × D) := []
def fa : List He.Fa := [.glo "poly_of", .glo "is_name", .glo "number_of", .glo "mono_product", .glo "term_in", .glo "poly_in", .glo "words_of", .glo "read_poly", .glo "term_text", .glo "poly_text", .glo "_law_mixed", .glo "_law_draw", .glo "_law_digit", .glo "_law_mono", .glo "_law_number", .glo "_law_poly", .glo "_law_term", .glo "_law_text", .glo "_law_otherwise", .glo "_law_kinds", .glo "_law_by_hand", .glo "law", .free "ValueError", .free "abs", .free "all", .free "any", .free "dict", .free "enumerate", .free "int", .free "isinstance", .free "len", .free "range", .free "repr", .free "sorted", .free "str", .free "sum", .free "tuple", .str "FIGURES" "0123456789", .str "LETTERS" "abcdefghijklmnopqrstuvwxyz", .int "MOST_DEGREE" 12, .int "MOST_FIGURES" 40, .int "MOST_LETTERS" 8, .int "MOST_NUMBER" 10000000000000000000000000000000000000000000000000000000000000000000000000000000000000000000000000000000000000000000000000000000000000000000000000000000000000000000000000000000000000000000000000000000000000000000000000000000000000000000000000000000000000000000000000000000000000000000000000000000000000000000000000000000000000000000000000000000000000000000000000000000000000000000000000000000000000000000000000000000000000000000000000000000000000000000000000000000000000000000000000000000000000000000000000000000000000000000000000000000000000000000000000000000000000000000000000000000000000000000000000000000000000000000000000000000000000000000000000000000000000000000000000000000000000000000000000000000000000000000000000000000000000000000000000000000000000000000000000000000000000000000000000000000000000000000000000000000000000000000000000000000000000000000000000000000000000000000000000000000000000000000000000000000000000000000000000000000000000000000000000000000000000000000000000000000000000000, .int "MOST_TERMS" 300]
theorem txt {K : Fg} {h : Heap} {mg : Str → Option Value} (X : K.In h) (G : h.Ns mainGlobals mg) (c : He.SaysD fa fn K) (hd : NoDig K) (hl : ∀ (i : Nat) (p : Str × D), li[i]? = some p → litF K p = true) (hx : xhB xh K = true) : Txt K mg where
  d_poly_of := (c.def_ 0 (d := dd_poly_of) rfl).elim fun fd F => ⟨_, fd, fun_of F, He.glo_ok X G (c.fact 0 (f := .glo "poly_of") rfl), F.bindsN fun _ _ _ _ _ _ us hl => match us, hl with | [_], _ => rfl⟩
  d_is_name := (c.def_ 1 (d := dd_is_name) rfl).elim fun fd F => ⟨_, fd, fun_of F, He.glo_ok X G (c.fact 1 (f := .glo "is_name") rfl), F.bindsN fun _ _ _ _ _ _ us hl => match us, hl with | [_], _ => rfl⟩
  d_number_of := (c.def_ 2 (d := dd_number_of) rfl).elim fun fd F => ⟨_, fd, fun_of F, He.glo_ok X G (c.fact 2 (f := .glo "number_of") rfl), F.bindsN fun _ _ _ _ _ _ us hl => match us, hl with | [_], _ => rfl⟩
  d_mono_product := (c.def_ 3 (d := dd_mono_product) rfl).elim fun fd F => ⟨_, fd, fun_of F, He.glo_ok X G (c.fact 3 (f := .glo "mono_product") rfl), F.bindsN fun _ _ _ _ _ _ us hl => match us, hl with | [_, _], _ => rfl⟩
  d_term_in := (c.def_ 4 (d := dd_term_in) rfl).elim fun fd F => ⟨_, fd, fun_of F, He.glo_ok X G (c.fact 4 (f := .glo "term_in") rfl), F.bindsN fun _ _ _ _ _ _ us hl => match us, hl with | [_], _ => rfl⟩
  d_poly_in := (c.def_ 5 (d := dd_poly_in) rfl).elim fun fd F => ⟨_, fd, fun_of F, He.glo_ok X G (c.fact 5 (f := .glo "poly_in") rfl), F.bindsN fun _ _ _ _ _ _ us hl => match us, hl with | [_, _, _], _ => rfl⟩
  d_words_of := (c.def_ 6 (d := dd_words_of) rfl).elim fun fd F => ⟨_, fd, fun_of F, He.glo_ok X G (c.fact 6 (f := .glo "words_of") rfl), F.bindsN fun _ _ _ _ _ _ us hl => match us, hl with | [_], _ => rfl⟩
  d_read_poly := (c.def_ 7 (d := dd_read_poly) rfl).elim fun fd F => ⟨_, fd, fun_of F, He.glo_ok X G (c.fact 7 (f := .glo "read_poly") rfl), F.bindsN fun _ _ _ _ _ _ us hl => match us, hl with | [_], _ => rfl⟩
  d_term_text := (c.def_ 8 (d := dd_term_text) rfl).elim fun fd F => ⟨_, fd, fun_of F, He.glo_ok X G (c.fact 8 (f := .glo "term_text") rfl), F.bindsN fun _ _ _ _ _ _ us hl => match us, hl with | [_, _], _ => rfl⟩
  d_poly_text := (c.def_ 9 (d := dd_poly_text) rfl).elim fun fd F => ⟨_, fd, fun_of F, He.glo_ok X G (c.fact 9 (f := .glo "poly_text") rfl), F.bindsN fun _ _ _ _ _ _ us hl => match us, hl with | [_], _ => rfl⟩
  d__law_mixed := (c.def_ 10 (d := dd__law_mixed) rfl).elim fun fd F => ⟨_, fd, fun_of F, He.glo_ok X G (c.fact 10 (f := .glo "_law_mixed") rfl), F.bindsN fun _ _ _ _ _ _ us hl => match us, hl with | [_, _], _ => rfl⟩
  d__law_draw := (c.def_ 11 (d := dd__law_draw) rfl).elim fun fd F => ⟨_, fd, fun_of F, He.glo_ok X G (c.fact 11 (f := .glo "_law_draw") rfl), F.bindsN fun _ _ _ _ _ _ us hl => match us, hl with | [_, _], _ => rfl⟩
  d__law_digit := (c.def_ 12 (d := dd__law_digit) rfl).elim fun fd F => ⟨_, fd, fun_of F, He.glo_ok X G (c.fact 12 (f := .glo "_law_digit") rfl), F.bindsN fun _ _ _ _ _ _ us hl => match us, hl with | [_, _], _ => rfl⟩
  d__law_mono := (c.def_ 13 (d := dd__law_mono) rfl).elim fun fd F => ⟨_, fd, fun_of F, He.glo_ok X G (c.fact 13 (f := .glo "_law_mono") rfl), F.bindsN fun _ _ _ _ _ _ us hl => match us, hl with | [_, _, _], _ => rfl⟩
  d__law_number := (c.def_ 14 (d := dd__law_number) rfl).elim fun fd F => ⟨_, fd, fun_of F, He.glo_ok X G (c.fact 14 (f := .glo "_law_number") rfl), F.bindsN fun _ _ _ _ _ _ us hl => match us, hl with | [_], _ => rfl⟩
  d__law_poly := (c.def_ 15 (d := dd__law_poly) rfl).elim fun fd F => ⟨_, fd, fun_of F, He.glo_ok X G (c.fact 15 (f := .glo "_law_poly") rfl), F.bindsN fun _ _ _ _ _ _ us hl => match us, hl with | [_, _, _, _], _ => rfl⟩
  d__law_term := (c.def_ 16 (d := dd__law_term) rfl).elim fun fd F => ⟨_, fd, fun_of F, He.glo_ok X G (c.fact 16 (f := .glo "_law_term") rfl), F.bindsN fun _ _ _ _ _ _ us hl => match us, hl with | [_, _, _], _ => rfl⟩
  d__law_text := (c.def_ 17 (d := dd__law_text) rfl).elim fun fd F => ⟨_, fd, fun_of F, He.glo_ok X G (c.fact 17 (f := .glo "_law_text") rfl), F.bindsN fun _ _ _ _ _ _ us hl => match us, hl with | [_], _ => rfl⟩
  d__law_otherwise := (c.def_ 18 (d := dd__law_otherwise) rfl).elim fun fd F => ⟨_, fd, fun_of F, He.glo_ok X G (c.fact 18 (f := .glo "_law_otherwise") rfl), F.bindsN fun _ _ _ _ _ _ us hl => match us, hl with | [_, _], _ => rfl⟩
  d__law_kinds := (c.def_ 19 (d := dd__law_kinds) rfl).elim fun fd F => ⟨_, fd, fun_of F, He.glo_ok X G (c.fact 19 (f := .glo "_law_kinds") rfl), F.bindsN fun _ _ _ _ _ _ us hl => match us, hl with | [_], _ => rfl⟩
  d__law_by_hand := (c.def_ 20 (d := dd__law_by_hand) rfl).elim fun fd F => ⟨_, fd, fun_of F, He.glo_ok X G (c.fact 20 (f := .glo "_law_by_hand") rfl), F.bindsN fun _ _ _ _ _ _ us hl => match us, hl with | [_], _ => rfl⟩
  d_law := (c.def_ 21 (d := dd_law) rfl).elim fun fd F => ⟨_, fd, fun_of F, He.glo_ok X G (c.fact 21 (f := .glo "law") rfl), F.bindsN fun _ _ _ _ _ _ us hl => match us, hl with | [_], _ => rfl⟩
  n_ValueError := He.free_ok X G (c.fact 22 (f := .free "ValueError") rfl)
  n_abs := He.free_ok X G (c.fact 23 (f := .free "abs") rfl)
  n_all := He.free_ok X G (c.fact 24 (f := .free "all") rfl)
  n_any := He.free_ok X G (c.fact 25 (f := .free "any") rfl)
  n_dict := He.free_ok X G (c.fact 26 (f := .free "dict") rfl)
  n_enumerate := He.free_ok X G (c.fact 27 (f := .free "enumerate") rfl)
  n_int := He.free_ok X G (c.fact 28 (f := .free "int") rfl)
  n_isinstance := He.free_ok X G (c.fact 29 (f := .free "isinstance") rfl)
  n_len := He.free_ok X G (c.fact 30 (f := .free "len") rfl)
  n_range := He.free_ok X G (c.fact 31 (f := .free "range") rfl)
  n_repr := He.free_ok X G (c.fact 32 (f := .free "repr") rfl)
  n_sorted := He.free_ok X G (c.fact 33 (f := .free "sorted") rfl)
  n_str := He.free_ok X G (c.fact 34 (f := .free "str") rfl)
  n_sum := He.free_ok X G (c.fact 35 (f := .free "sum") rfl)
  n_tuple := He.free_ok X G (c.fact 36 (f := .free "tuple") rfl)
  g_FIGURES := He.str_ok X G (c.fact 37 (f := .str "FIGURES" "0123456789") rfl)
  g_LETTERS := He.str_ok X G (c.fact 38 (f := .str "LETTERS" "abcdefghijklmnopqrstuvwxyz") rfl)
  g_MOST_DEGREE := He.int_ok X G (c.fact 39 (f := .int "MOST_DEGREE" 12) rfl)
  g_MOST_FIGURES := He.int_ok X G (c.fact 40 (f := .int "MOST_FIGURES" 40) rfl)
  g_MOST_LETTERS := He.int_ok X G (c.fact 41 (f := .int "MOST_LETTERS" 8) rfl)
  g_MOST_NUMBER := He.int_ok X G (c.fact 42 (f := .int "MOST_NUMBER" 10000000000000000000000000000000000000000000000000000000000000000000000000000000000000000000000000000000000000000000000000000000000000000000000000000000000000000000000000000000000000000000000000000000000000000000000000000000000000000000000000000000000000000000000000000000000000000000000000000000000000000000000000000000000000000000000000000000000000000000000000000000000000000000000000000000000000000000000000000000000000000000000000000000000000000000000000000000000000000000000000000000000000000000000000000000000000000000000000000000000000000000000000000000000000000000000000000000000000000000000000000000000000000000000000000000000000000000000000000000000000000000000000000000000000000000000000000000000000000000000000000000000000000000000000000000000000000000000000000000000000000000000000000000000000000000000000000000000000000000000000000000000000000000000000000000000000000000000000000000000000000000000000000000000000000000000000000000000000000000000000000000000000000000000000000000000000000) rfl)
  g_MOST_TERMS := He.int_ok X G (c.fact 43 (f := .int "MOST_TERMS" 300) rfl)
  dig := hd
  xc := (clsB_ok X G (both hx).1).1
  xn := (clsB_ok X G (both hx).1).2
  xl := (leB_ok X G (both (both hx).2).1).1
  xa := (leB_ok X G (both (both hx).2).1).2
  r_BadQuestion := raB_ok X G (List.all_eq_true.mp (both (both (both hx).2).2).1 "BadQuestion" (by decide))
  r_OutOfPlace := raB_ok X G (List.all_eq_true.mp (both (both (both hx).2).2).1 "OutOfPlace" (by decide))
  r_TooGreat := raB_ok X G (List.all_eq_true.mp (both (both (both hx).2).2).1 "TooGreat" (by decide))
  x_BadLoop := inB_ok X G (List.all_eq_true.mp (both (both (both hx).2).2).2 "BadLoop" (by decide)) ((c.def_ 22 (d := ddx_BadLoop) rfl).elim fun fd F => ⟨fd, fun_of F, F.bindsN fun _ _ _ _ _ _ us hl => match us, hl with | [_, _], _ => rfl⟩)
  x_BadPaper := inB_ok X G (List.all_eq_true.mp (both (both (both hx).2).2).2 "BadPaper" (by decide)) ((c.def_ 23 (d := ddx_BadPaper) rfl).elim fun fd F => ⟨fd, fun_of F, F.bindsN fun _ _ _ _ _ _ us hl => match us, hl with | [_, _], _ => rfl⟩)
  x_BadRow := inB_ok X G (List.all_eq_true.mp (both (both (both hx).2).2).2 "BadRow" (by decide)) ((c.def_ 24 (d := ddx_BadRow) rfl).elim fun fd F => ⟨fd, fun_of F, F.bindsN fun _ _ _ _ _ _ us hl => match us, hl with | [_, _, _], _ => rfl⟩)
  x_Hindered := inB_ok X G (List.all_eq_true.mp (both (both (both hx).2).2).2 "Hindered" (by decide)) ((c.def_ 25 (d := ddx_Hindered) rfl).elim fun fd F => ⟨fd, fun_of F, F.bindsN fun _ _ _ _ _ _ us hl => match us, hl with | [_, _, _], _ => rfl⟩)
end DL
set_option Elab.async false
set_option linter.all false
set_option maxRecDepth 100000
set_option maxHeartbeats 0
set_option autoImplicit false
namespace DL
open PySem PySem.Spec PyProof.Rows L2
abbrev R : PySem.W.OpenRow := PySem.W.OpenLaw.row PySem.Challenge.rw_roundless_k05_polys_as_texts
abbrev hk : PySem.W.Hook := hookX 4 fa fn li xh
def ob (s : PySem.W.SharedT) : He.AlD := obsXG 4 fa fn li xh (HandSHeadRun.getT s)
theorem ob_eq (s : PySem.W.SharedT) : ob s = hk.obs s.abs   := obsXG_eq (HandSHeadRun.getT_eq s)
def loose : List Str := "LETTERS" :: "FIGURES" :: "MOST_LETTERS" :: "MOST_FIGURES" :: "MOST_DEGREE" :: "MOST_TERMS" :: "MOST_NUMBER" :: "LoopError" :: "BadRow" :: "BadLoop" :: "Hindered" :: "BadPaper" :: "TooGreat" :: "BadQuestion" :: "OutOfPlace" :: "is_name" :: "number_of" :: "words_of" :: "poly_of" :: "mono_product" :: "term_in" :: "poly_in" :: "read_poly" :: "term_text" :: "poly_text" :: "_law_mixed" :: "_law_kinds" :: "_law_draw" :: "_law_digit" :: "_law_mono" :: "_law_number" :: "_law_poly" :: "_law_term" :: "_law_text" :: "_law_otherwise" :: "_law_by_hand" :: []
theorem run (w : World) : HandSHeadRun.RunEq R (PySem.W.view R.prog [42]) hk ob 4000 loose w := by
  intro os
  kernel_rfl
end DL
section
open PySem PySem.W PySem.Calls PyProof.Rows
theorem DL.holds_of (hm : ∀ ns : List Int, ns.length ≤ 63 → ∃ S, DL.m_law [.lst (ns.map .int)] [] = .ok (.bl true) S) : PySem.Challenge.rw_roundless_k05_polys_as_texts.Holds := by
  w_on; o_law
  refine HandSHeadRun.head_any (r := OpenLaw.row PySem.Challenge.rw_roundless_k05_polys_as_texts) (q := view (OpenLaw.row PySem.Challenge.rw_roundless_k05_polys_as_texts).prog [42]) (H := DL.hk) (ob := DL.ob) (M := 4000) (loose := DL.loose) (d := HandSHeadRun.topDef (OpenLaw.row PySem.Challenge.rw_roundless_k05_polys_as_texts).prog 42) (kwd := []) DL.ob_eq
    (by kernel_rfl) (fun s => by kernel_rfl) DL.run (by kernel_rfl) (by kernel_rfl) (by kernel_rfl) (by rfl) (by first | assumption | decide +kernel) (by decide +kernel) ⟨rfl, rfl, rfl, rfl, rfl, by decide +kernel⟩ ?hw ?hc
  case hw => w_witness2
  case hc =>
    refine DL.walkG (l := PySem.Challenge.rw_roundless_k05_polys_as_texts) (n := 63) (k := 5) (m := DL.m_law) rfl (by decide) (by kernel_rfl) ⟨rfl, by decide, by decide⟩ ?F hm
    intro w mg h Y G
    obtain ⟨K, KX, c⟩ := Y
    have e : (HandSHeadRun.topDef (OpenLaw.row PySem.Challenge.rw_roundless_k05_polys_as_texts).prog 42).name = ("law" : PySem.Str) := by kernel_rfl
    refine ⟨K, KX, fun base _ _ => ?_⟩
    rw [e]
    exact DL.ok_law (DL.txt KX G (DL.SaysX.all c).1 (DL.SaysX.all c).2.1 (DL.SaysX.all c).2.2.1 (DL.SaysX.all c).2.2.2)
end
set_option Elab.async false
set_option linter.all false
set_option maxRecDepth 100000
set_option maxHeartbeats 4000000
set_option autoImplicit false
/-! law k18, plain part: names, numbers. -/
namespace DL
open PySem L2
local macro_rules | `(tactic| walk_at "1") => `(tactic| with_reducible first
  | refine s_seq ?_ | refine s_asg ?_ | refine s_ret ?_ | refine s_if ?_ | refine s_expr ?_ | refine s_next ?_ | refine s_brk ?_ | refine s_cont ?_ | refine s_for ?_ | refine s_while ?_
  | refine p_c ?_ | refine p_bin ?_ | refine p_as ?_ | refine p_cons ?_ | refine p_nil ?_ | refine p_un ?_ | refine p_call ?_ | refine p_if ?_ | refine p_own ?_
  | refine p_keep ?_ | refine p_tru ?_ | refine p_and ?_ | refine p_or ?_ | refine p_not ?_ | refine p_val ?_ | refine p_rand ?_ | refine p_ror ?_ | refine p_rnot ?_ | refine p_chain ?_ | refine p_bif ?_
  | refine o_add ?_ | refine o_sub ?_ | refine o_ltU ?_ | refine o_leU ?_ | refine o_gtU ?_ | refine o_geU ?_ | refine o_neg ?_ | refine o_eqI ?_ | refine o_neI ?_ | refine o_abs ?_ | refine o_tru ?_ | refine p_true ?_ | refine p_false ?_
  | refine o_lenT ?_ | refine o_lenL ?_
  | refine s_par ?_ | refine p_yes ?_ | refine p_lc ?_ | refine p_seq ?_ | refine s_gnil ?_ | refine s_gcons ?_ | refine s_gtux ?_ | refine p_onone ?_ | refine p_osome ?_)
local macro_rules | `(tactic| walk_at "2") => `(tactic| first
  | walk_at "1"
  | (with_reducible refine p_var2 ?_)
  | ((with_reducible refine s_name ?_ ?_); (· exact Nat.le_of_ble_eq_true rfl); dsimp only [List.set_cons_zero, List.set_cons_succ])
  | (with_reducible refine p_tup ?_) | ((with_reducible refine ⟨?_, ?_⟩); (· exact Nat.le_of_ble_eq_true rfl))
  | ((with_reducible refine p_ex2 (x := ?_) (y := ?_) ?_ ?_); rotate_left; rotate_left; (· rfl); refine ⟨?_, ?_, ?_⟩; (· exact Nat.le_of_ble_eq_true rfl); (· exact Nat.le_of_ble_eq_true rfl); dsimp only [List.set_cons_zero, List.set_cons_succ])
  | ((with_reducible refine p_isT ?_ ?_); (· rfl)) | ((with_reducible refine p_isF ?_ ?_); (· rfl))
  | ((with_reducible refine p_ex (x := ?_) ?_ ?_); rotate_left; (· rfl)))
/-! ### what the data are -/
def big : Nat := 10 ^ 1000 + 1
def good : Nat → D → Bool
  | 0, d => (match d with
    | .non => true
    | .bl _ => true
    | .int i => decide (i.natAbs ≤ big)
    | .str x => decide (x.length ≤ 100) && x.cps.toList.all fun c => decide (c < 128)
    | _ => false)
  | n + 1, d => (match d with
    | .non => true
    | .bl _ => true
    | .int i => decide (i.natAbs ≤ big)
    | .str x => decide (x.length ≤ 100) && x.cps.toList.all fun c => decide (c < 128)
    | .tup xs => decide (xs.length ≤ 2000) && xs.all (good n)
    | .lst xs => decide (xs.length ≤ 2000) && xs.all (good n)
    | _ => false)
def nameB : D → Bool
  | .str x => decide (1 ≤ x.length) && (decide (x.length ≤ 8) && x.cps.toList.all fun c => decide (c ∈ ("abcdefghijklmnopqrstuvwxyz" : Str).cps.toList))
  | _ => false
theorem good_str {n : Nat} {x : Str} (h : good n (.str x) = true) : x.length ≤ 100 ∧ x.cps.toList.all (fun c => decide (c < 128)) = true := by
  cases n <;>
  · unfold good at h
    dsimp only at h
    rw [Bool.and_eq_true, decide_eq_true_eq] at h
    exact h
theorem isi_str {n : Nat} {d : D} (hd : good n d = true) (S : Sto) : gIsi S [d, .ty "str"] = some (.bl (match d with | .str _ => true | _ => false)) := by
  cases d with
  | non => rfl
  | bl b => rfl
  | int i => rfl
  | str x => rfl
  | tup xs => rfl
  | lst xs => rfl
  | _ => cases n <;> cases hd
theorem is_name_spec {n : Nat} (d : D) (hd : good n d = true) (S : Sto) (hS : Sane S) : m_is_name [d] S = .ok (.bl (nameB d)) S := by
  refine m_defS hS rfl ?_
  show (b_is_name [some d, none] S).post _ _ _ _
  unfold b_is_name
  repeat walk_at "2"
  refine p_lift (isi_str hd S) ?_
  repeat walk_at "2"
  cases d with
  | str x =>
    obtain ⟨h1, h2⟩ := good_str hd
    have sl : 100 ≤ sizeLine := by decide
    repeat walk_at "2"
    refine o_len (by omega) ?_
    refine ⟨decide ((1 : Int) ≤ x.length), rfl, fun e1 => ?_, fun e1 => ?_⟩
    · repeat walk_at "2"
      refine ⟨fun e2 => ?_, fun e2 => ?_⟩
      · repeat walk_at "2"
        refine ⟨?_, rfl⟩
        have e2 : ¬ ((x.length : Int) ≤ 8) := by simpa using e2
        unfold nameB
        dsimp only
        rw [decide_eq_false (by omega : ¬ x.length ≤ 8), Bool.false_and, Bool.and_false]
      · repeat walk_at "2"
        refine .inr (.inr ⟨x, rfl, ?_⟩)
        dsimp only [wipeD, List.set_cons_zero, List.set_cons_succ]
        refine Res.post.of_eq (lcL_map (f := fun d => match d with | .str z => .bl (decide (z.cps.getD 0 0 ∈ ("abcdefghijklmnopqrstuvwxyz" : Str).cps.toList)) | _ => .non) (Nat.le_of_ble_eq_true rfl) fun z hz => ?_) ⟨?_, ?_⟩
        · obtain ⟨c, hc, rfl⟩ := List.mem_map.mp hz
          refine exact_of ?_
          repeat walk_at "2"
          refine o_in1 ?_
          exact ⟨rfl, rfl⟩
        · rw [List.length_map, List.length_map]
          show x.cps.toList.length ≤ _
          have : x.cps.toList.length = x.length := by simp [Str.length]
          omega
        · rw [List.map_map]
          repeat walk_at "2"
          rw [show ((fun d : D => match d with | .str z => D.bl (decide (z.cps.getD 0 0 ∈ ("abcdefghijklmnopqrstuvwxyz" : Str).cps.toList)) | _ => .non) ∘ fun c => D.str ⟨#[c]⟩) = D.bl ∘ fun c => decide (c ∈ ("abcdefghijklmnopqrstuvwxyz" : Str).cps.toList) from funext fun c => rfl, ← List.map_map]
          refine o_all ?_
          refine ⟨?_, rfl⟩
          have e1 : (1 : Int) ≤ x.length := by simpa using e1
          have e2 : (x.length : Int) ≤ 8 := by simpa using e2
          unfold nameB
          dsimp only
          rw [decide_eq_true (by omega : 1 ≤ x.length), decide_eq_true (by omega : x.length ≤ 8), Bool.true_and, Bool.true_and, List.all_map]
          rfl
    · repeat walk_at "2"
      refine ⟨?_, rfl⟩
      have e1 : ¬ ((1 : Int) ≤ x.length) := by simpa using e1
      unfold nameB
      dsimp only
      rw [decide_eq_false (by omega : ¬ 1 ≤ x.length), Bool.false_and]
  | _ =>
    repeat walk_at "2"
    exact ⟨rfl, rfl⟩
end DL
set_option Elab.async false
set_option linter.all false
set_option maxRecDepth 100000
set_option maxHeartbeats 4000000
set_option autoImplicit false
/-! law k18, plain part: fractions. -/
namespace DL
open PySem L2
local macro_rules | `(tactic| walk_at "1") => `(tactic| with_reducible first
  | refine s_seq ?_ | refine s_asg ?_ | refine s_ret ?_ | refine s_if ?_ | refine s_expr ?_ | refine s_next ?_ | refine s_brk ?_ | refine s_cont ?_ | refine s_for ?_ | refine s_while ?_
  | refine p_c ?_ | refine p_bin ?_ | refine p_as ?_ | refine p_cons ?_ | refine p_nil ?_ | refine p_un ?_ | refine p_call ?_ | refine p_if ?_ | refine p_own ?_
  | refine p_keep ?_ | refine p_tru ?_ | refine p_and ?_ | refine p_or ?_ | refine p_not ?_ | refine p_val ?_ | refine p_rand ?_ | refine p_ror ?_ | refine p_rnot ?_ | refine p_chain ?_ | refine p_bif ?_
  | refine o_add ?_ | refine o_sub ?_ | refine o_ltU ?_ | refine o_leU ?_ | refine o_gtU ?_ | refine o_geU ?_ | refine o_neg ?_ | refine o_eqI ?_ | refine o_neI ?_ | refine o_abs ?_ | refine o_tru ?_ | refine p_true ?_ | refine p_false ?_
  | refine o_lenT ?_ | refine o_lenL ?_
  | refine s_par ?_ | refine p_yes ?_ | refine p_lc ?_ | refine p_seq ?_ | refine s_gnil ?_ | refine s_gcons ?_ | refine s_gtux ?_ | refine p_onone ?_ | refine p_osome ?_)
local macro_rules | `(tactic| walk_at "2") => `(tactic| first
  | walk_at "1"
  | (with_reducible refine p_var2 ?_)
  | ((with_reducible refine s_name ?_ ?_); (· exact Nat.le_of_ble_eq_true rfl); dsimp only [List.set_cons_zero, List.set_cons_succ])
  | (with_reducible refine p_tup ?_) | ((with_reducible refine ⟨?_, ?_⟩); (· exact Nat.le_of_ble_eq_true rfl))
  | ((with_reducible refine p_ex2 (x := ?_) (y := ?_) ?_ ?_); rotate_left; rotate_left; (· rfl); refine ⟨?_, ?_, ?_⟩; (· exact Nat.le_of_ble_eq_true rfl); (· exact Nat.le_of_ble_eq_true rfl); dsimp only [List.set_cons_zero, List.set_cons_succ])
  | ((with_reducible refine p_isT ?_ ?_); (· rfl)) | ((with_reducible refine p_isF ?_ ?_); (· rfl))
  | ((with_reducible refine p_ex (x := ?_) ?_ ?_); rotate_left; (· rfl)))
end DL
set_option Elab.async false
set_option linter.all false
set_option maxRecDepth 100000
set_option maxHeartbeats 4000000
set_option autoImplicit false
/-! law k18, plain part: products of boxes. -/
namespace DL
open PySem L2
local macro_rules | `(tactic| walk_at "1") => `(tactic| with_reducible first
  | refine s_seq ?_ | refine s_asg ?_ | refine s_ret ?_ | refine s_if ?_ | refine s_expr ?_ | refine s_next ?_ | refine s_brk ?_ | refine s_cont ?_ | refine s_for ?_ | refine s_while ?_
  | refine p_c ?_ | refine p_bin ?_ | refine p_as ?_ | refine p_cons ?_ | refine p_nil ?_ | refine p_un ?_ | refine p_call ?_ | refine p_if ?_ | refine p_own ?_
  | refine p_keep ?_ | refine p_tru ?_ | refine p_and ?_ | refine p_or ?_ | refine p_not ?_ | refine p_val ?_ | refine p_rand ?_ | refine p_ror ?_ | refine p_rnot ?_ | refine p_chain ?_ | refine p_bif ?_
  | refine o_add ?_ | refine o_sub ?_ | refine o_ltU ?_ | refine o_leU ?_ | refine o_gtU ?_ | refine o_geU ?_ | refine o_neg ?_ | refine o_eqI ?_ | refine o_neI ?_ | refine o_abs ?_ | refine o_tru ?_ | refine p_true ?_ | refine p_false ?_
  | refine o_lenT ?_ | refine o_lenL ?_
  | refine s_par ?_ | refine p_yes ?_ | refine p_lc ?_ | refine p_seq ?_ | refine s_gnil ?_ | refine s_gcons ?_ | refine s_gtux ?_ | refine p_onone ?_ | refine p_osome ?_)
local macro_rules | `(tactic| walk_at "2") => `(tactic| first
  | walk_at "1"
  | (with_reducible refine p_var2 ?_)
  | ((with_reducible refine s_name ?_ ?_); (· exact Nat.le_of_ble_eq_true rfl); dsimp only [List.set_cons_zero, List.set_cons_succ])
  | (with_reducible refine p_tup ?_) | ((with_reducible refine ⟨?_, ?_⟩); (· exact Nat.le_of_ble_eq_true rfl))
  | ((with_reducible refine p_ex2 (x := ?_) (y := ?_) ?_ ?_); rotate_left; rotate_left; (· rfl); refine ⟨?_, ?_, ?_⟩; (· exact Nat.le_of_ble_eq_true rfl); (· exact Nat.le_of_ble_eq_true rfl); dsimp only [List.set_cons_zero, List.set_cons_succ])
  | ((with_reducible refine p_isT ?_ ?_); (· rfl)) | ((with_reducible refine p_isF ?_ ?_); (· rfl))
  | ((with_reducible refine p_ex (x := ?_) ?_ ?_); rotate_left; (· rfl)))
/-! ### products of boxes -/
end DL
set_option Elab.async false
set_option linter.all false
set_option maxRecDepth 100000
set_option maxHeartbeats 4000000
set_option autoImplicit false
/-! Polys that are looked at. -/
namespace DL
open PySem L2
local macro_rules | `(tactic| walk_at "1") => `(tactic| with_reducible first
  | refine s_seq ?_ | refine s_asg ?_ | refine s_ret ?_ | refine s_if ?_ | refine s_expr ?_ | refine s_next ?_ | refine s_brk ?_ | refine s_cont ?_ | refine s_for ?_ | refine s_while ?_
  | refine p_c ?_ | refine p_bin ?_ | refine p_as ?_ | refine p_cons ?_ | refine p_nil ?_ | refine p_un ?_ | refine p_call ?_ | refine p_if ?_ | refine p_own ?_
  | refine p_keep ?_ | refine p_tru ?_ | refine p_and ?_ | refine p_or ?_ | refine p_not ?_ | refine p_val ?_ | refine p_rand ?_ | refine p_ror ?_ | refine p_rnot ?_ | refine p_chain ?_ | refine p_bif ?_
  | refine o_add ?_ | refine o_sub ?_ | refine o_ltU ?_ | refine o_leU ?_ | refine o_gtU ?_ | refine o_geU ?_ | refine o_neg ?_ | refine o_eqI ?_ | refine o_neI ?_ | refine o_abs ?_ | refine o_tru ?_ | refine p_true ?_ | refine p_false ?_
  | refine o_lenT ?_ | refine o_lenL ?_
  | refine s_par ?_ | refine p_yes ?_ | refine p_lc ?_ | refine p_seq ?_ | refine s_gnil ?_ | refine s_gcons ?_ | refine s_gtux ?_ | refine p_onone ?_ | refine p_osome ?_)
local macro_rules | `(tactic| walk_at "2") => `(tactic| first
  | walk_at "1"
  | (with_reducible refine p_var2 ?_)
  | ((with_reducible refine s_name ?_ ?_); (· exact Nat.le_of_ble_eq_true rfl); dsimp only [List.set_cons_zero, List.set_cons_succ])
  | (with_reducible refine p_tup ?_) | ((with_reducible refine ⟨?_, ?_⟩); (· exact Nat.le_of_ble_eq_true rfl))
  | ((with_reducible refine p_ex2 (x := ?_) (y := ?_) ?_ ?_); rotate_left; rotate_left; (· rfl); refine ⟨?_, ?_, ?_⟩; (· exact Nat.le_of_ble_eq_true rfl); (· exact Nat.le_of_ble_eq_true rfl); dsimp only [List.set_cons_zero, List.set_cons_succ])
  | ((with_reducible refine p_isT ?_ ?_); (· rfl)) | ((with_reducible refine p_isF ?_ ?_); (· rfl))
  | ((with_reducible refine p_ex (x := ?_) ?_ ?_); rotate_left; (· rfl)))
def GZ : Int := 10000000000000000000000000000000000000000000000000000000000000000000000000000000000000000000000000000000000000000000000000000000000000000000000000000000000000000000000000000000000000000000000000000000000000000000000000000000000000000000000000000000000000000000000000000000000000000000000000000000000000000000000000000000000000000000000000000000000000000000000000000000000000000000000000000000000000000000000000000000000000000000000000000000000000000000000000000000000000000000000000000000000000000000000000000000000000000000000000000000000000000000000000000000000000000000000000000000000000000000000000000000000000000000000000000000000000000000000000000000000000000000000000000000000000000000000000000000000000000000000000000000000000000000000000000000000000000000000000000000000000000000000000000000000000000000000000000000000000000000000000000000000000000000000000000000000000000000000000000000000000000000000000000000000000000000000000000000000000000000000000000000000000000000000000000000000000000
theorem gz_nat : (10 : Nat) ^ 1000 = GZ.toNat := by decide +kernel
theorem gz_pos : 0 < GZ := by decide +kernel
/-! data that can be held against one another -/
end DL
set_option Elab.async false
set_option linter.all false
set_option maxRecDepth 100000
set_option maxHeartbeats 4000000
set_option autoImplicit false
/-! Plain part: how long a repr is, and of which signs. -/
namespace DL
open PySem L2
def OkS (x : Str) : Prop := ∀ c ∈ x.cps.toList, c < 0x110000
theorem okS_ok {x : Str} (h : OkS x) : PyData.strOk x = true := by
  unfold PyData.strOk
  rw [Array.all_eq_true']
  intro c hc
  exact decide_eq_true (h c (by simpa using hc))
theorem ok_okS {x : Str} (h : PyData.strOk x = true) : OkS x := fun c hc => by
  unfold PyData.strOk at h
  rw [Array.all_eq_true'] at h
  exact of_decide_eq_true (h c (by simpa using hc))
theorem okS_app {x y : Str} (h : OkS x) (g : OkS y) : OkS (x ++ y) := fun c hc => by
  have e : (x ++ y).cps.toList = x.cps.toList ++ y.cps.toList := by
    show (x.cps ++ y.cps).toList = _
    simp
  rw [e] at hc
  exact (List.mem_append.mp hc).elim (h c) (g c)
theorem char_lt (c : Char) : c.toNat < 0x110000 := by
  have := c.valid
  rcases this with h | ⟨_, h⟩
  · have h' : c.toNat < 0xd800 := h
    omega
  · exact h
theorem okS_of (s : String) : OkS (Str.ofString s) := fun c hc => by
  rw [Str.ofString_eq_toList] at hc
  have hc' : c ∈ s.toList.map Char.toNat := by simpa using hc
  obtain ⟨k, _, rfl⟩ := List.mem_map.mp hc'
  exact char_lt k
theorem okS_join {sep : Str} (hs : OkS sep) : ∀ {ts : List Str}, (∀ t ∈ ts, OkS t) → OkS (Str.join sep ts)
  | [], _ => fun c hc => by cases hc
  | [x], h => h x List.mem_cons_self
  | x :: y :: r, h => okS_app (okS_app (h x List.mem_cons_self) hs) (okS_join hs (ts := y :: r) fun t ht => h t (List.mem_cons_of_mem _ ht))
theorem fold_app (f : Nat → List Nat) : ∀ (l : List Nat) (acc : Array Nat), (l.foldl (fun out c => out ++ (f c).toArray) acc).toList = acc.toList ++ l.flatMap f
  | [], acc => by simp
  | c :: r, acc => by
    rw [List.foldl_cons, fold_app f r]
    simp
theorem reprChar_lt {q c : Nat} (hc : c < 0x110000) : ∀ z ∈ Builtin.Str.reprChar q c, z < 0x110000 := by
  intro z hz
  unfold Builtin.Str.reprChar at hz
  dsimp only at hz
  have dg : ∀ n : Nat, z ∈ List.replicate n 48 ++ (Nat.toDigits 16 c).map Char.toNat → z < 0x110000 := fun n h => by
    rcases List.mem_append.mp h with h | h
    · rw [(List.mem_replicate.mp h).2]; decide
    · obtain ⟨k, _, rfl⟩ := List.mem_map.mp h
      exact char_lt k
  have two : ∀ a b : Nat, a < 0x110000 → b < 0x110000 → z ∈ [a, b] → z < 0x110000 := fun a b ha hb h => by
    rcases List.mem_cons.mp h with rfl | h
    · exact ha
    · rw [List.mem_singleton.mp h]; exact hb
  split at hz
  · exact two _ _ (by decide) hc hz
  · split at hz
    · exact two _ _ (by decide) (by decide) hz
    · split at hz
      · exact two _ _ (by decide) (by decide) hz
      · split at hz
        · exact two _ _ (by decide) (by decide) hz
        · split at hz
          · rw [List.mem_singleton.mp hz]; exact hc
          · split at hz
            · rcases List.mem_append.mp hz with h | h
              · exact two _ _ (by decide) (by decide) h
              · exact dg _ h
            · split at hz
              · rcases List.mem_append.mp hz with h | h
                · exact two _ _ (by decide) (by decide) h
                · exact dg _ h
              · rcases List.mem_append.mp hz with h | h
                · exact two _ _ (by decide) (by decide) h
                · exact dg _ h
theorem okS_repr {x : Str} (h : OkS x) : OkS (reprText x) := by
  intro c hc
  have q : reprQuote x < 0x110000 := by
    unfold reprQuote
    split <;> decide
  unfold reprText at hc
  have hc' : c ∈ (x.cps.foldl (fun out c => out ++ (Builtin.Str.reprChar (reprQuote x) c).toArray) #[reprQuote x]).toList ++ [reprQuote x] := by simpa using hc
  rw [← Array.foldl_toList, fold_app] at hc'
  rcases List.mem_append.mp hc' with h1 | h1
  · rcases List.mem_append.mp h1 with h2 | h2
    · have : c = reprQuote x := by simpa using h2
      rw [this]; exact q
    · obtain ⟨z, hz, hz2⟩ := List.mem_flatMap.mp h2
      exact reprChar_lt (h z hz) c hz2
  · rw [List.mem_singleton.mp h1]; exact q
/-! ### data of bounded size -/
mutual
def fitP : PyData → Bool
  | .none => true
  | .bool _ => true
  | .int i => decide (i.natAbs < 10 ^ 1005)
  | .str x => PyData.strOk x
  | .list xs => fitPs xs
  | .tuple xs => fitPs xs
  | .dict _ => false
def fitPs : List PyData → Bool
  | [] => true
  | x :: r => fitP x && fitPs r
end
mutual
def wtP : PyData → Nat
  | .none => 4
  | .bool _ => 5
  | .int _ => 1006
  | .str x => 10 * x.length + 2
  | .list xs => 3 + wtPs xs
  | .tuple xs => 3 + wtPs xs
  | .dict _ => 0
def wtPs : List PyData → Nat
  | [] => 0
  | x :: r => wtP x + 2 + wtPs r
end
theorem join_len : ∀ ts : List Str, (Str.join (Str.ofString ", ") ts).length ≤ (ts.map fun t => t.length + 2).sum
  | [] => by show 0 ≤ _; exact Nat.zero_le _
  | [x] => by show x.length ≤ x.length + 2 + 0; omega
  | x :: y :: r => by
    have ih := join_len (y :: r)
    show (x ++ Str.ofString ", " ++ Str.join (Str.ofString ", ") (y :: r)).length ≤ x.length + 2 + ((y :: r).map fun t => t.length + 2).sum
    rw [strLen_append, strLen_append]
    have : (Str.ofString ", ").length = 2 := by decide +kernel
    omega
mutual
theorem shown_fit : ∀ {d : PyData}, fitP d = true → OkS d.shown ∧ d.shown.length ≤ wtP d ∧ showW d = true
  | .none, _ => by
    simp only [PyData.shown]
    exact ⟨okS_of _, by decide +kernel, by unfold showW; rfl⟩
  | .bool b, _ => by
    simp only [PyData.shown]
    refine ⟨by cases b <;> exact okS_of _, ?_, by unfold showW; rfl⟩
    cases b <;> decide +kernel
  | .int i, h => by
    unfold fitP at h
    have h := of_decide_eq_true h
    simp only [PyData.shown]
    refine ⟨okS_of _, ?_, ?_⟩
    · have := int_text_length_le10 (k := 1005) (by decide) h
      rw [ofString_length]
      unfold wtP
      omega
    · unfold showW
      exact decide_eq_true (Nat.lt_of_lt_of_le h (Nat.pow_le_pow_right (by decide) (by decide)))
  | .str x, h => by
    unfold fitP at h
    have hx := ok_okS h
    simp only [PyData.shown]
    refine ⟨okS_repr hx, ?_, by unfold showW; rfl⟩
    unfold wtP
    exact PySem.StrLaws.reprText_len x fun c hc => Nat.lt_of_lt_of_le (hx c hc) (by decide)
  | .list xs, h => by
    unfold fitP at h
    obtain ⟨h1, h2, h3⟩ := shown_fits h
    simp only [PyData.shown]
    rw [listText_eq_join]
    refine ⟨okS_app (okS_app (okS_of _) (okS_join (okS_of _) h1)) (okS_of _), ?_, by unfold showW; exact h3⟩
    rw [strLen_append, strLen_append]
    have e1 : (Str.ofString "[").length = 1 := by decide +kernel
    have e2 : (Str.ofString "]").length = 1 := by decide +kernel
    have e3 := join_len (PyData.shownAll xs)
    unfold wtP
    omega
  | .tuple xs, h => by
    unfold fitP at h
    obtain ⟨h1, h2, h3⟩ := shown_fits h
    simp only [PyData.shown]
    unfold tupleText
    refine ⟨okS_app (okS_app (okS_of _) (okS_join (okS_of _) h1)) (okS_of _), ?_, by unfold showW; exact h3⟩
    rw [strLen_append, strLen_append]
    have e1 : (Str.ofString "(").length = 1 := by decide +kernel
    have e2 : (Str.ofString (if (PyData.shownAll xs).length == 1 then ",)" else ")")).length ≤ 2 := by split <;> decide +kernel
    have e3 := join_len (PyData.shownAll xs)
    unfold wtP
    omega
  | .dict _, h => by unfold fitP at h; cases h
theorem shown_fits : ∀ {ds : List PyData}, fitPs ds = true → (∀ t ∈ PyData.shownAll ds, OkS t) ∧ ((PyData.shownAll ds).map fun t => t.length + 2).sum ≤ wtPs ds ∧ showWs ds = true
  | [], _ => by
    simp only [PyData.shownAll]
    exact ⟨(fun _ z => nomatch z), Nat.le_refl _, by unfold showWs; rfl⟩
  | d :: ds, h => by
    unfold fitPs at h
    rw [Bool.and_eq_true] at h
    obtain ⟨a1, a2, a3⟩ := shown_fit h.1
    obtain ⟨b1, b2, b3⟩ := shown_fits h.2
    simp only [PyData.shownAll]
    refine ⟨fun t ht => ?_, ?_, by unfold showWs; rw [a3, b3]; rfl⟩
    · rcases List.mem_cons.mp ht with rfl | ht
      · exact a1
      · exact b1 t ht
    · rw [List.map_cons, List.sum_cons]
      unfold wtPs
      omega
end
end DL
set_option Elab.async false
set_option linter.all false
set_option maxRecDepth 100000
set_option maxHeartbeats 4000000
set_option autoImplicit false
/-! Typed things as data: their order, sorting. -/
namespace DL
open PySem L2
class Emb (κ : Type) where
  toD : κ → D
  py : κ → PyData
  deg : Nat
  pyOk : ∀ (S : Sto) (a : κ), toPy S (toD a) = some (py a)
  np : ∀ (a : κ) (k : Nat), toD a ≠ .ptr k
  al : ∀ a b : κ, PySem.W.alike (py a) (py b) = true
  dep : ∀ a : κ, (py a).depth ≤ deg
  inj : ∀ a b : κ, PyData.eqv (py a) (py b) = true → a = b
  cl : ∀ (n : Nat) (a : κ), D.closed n (toD a) = true
open Emb
section
variable {κ ν : Type} [Emb κ] [Emb ν]
theorem emb_pys (S : Sto) : ∀ xs : List κ, toPys S (xs.map toD) = some (xs.map py)
  | [] => rfl
  | x :: r => by unfold List.map toPys; rw [pyOk S x, emb_pys S r]
theorem emb_closed (n : Nat) : ∀ xs : List κ, closedL n (xs.map toD) = true
  | [] => rfl
  | x :: r => by unfold List.map closedL; rw [cl n x, emb_closed n r]; rfl
theorem emb_al : ∀ xs ys : List κ, PySem.W.alikeAll (xs.map py) (ys.map py) = true
  | [], _ => by unfold List.map PySem.W.alikeAll; rfl
  | _ :: _, [] => by unfold List.map PySem.W.alikeAll; rfl
  | x :: r, y :: q => by unfold List.map PySem.W.alikeAll; rw [al x y, emb_al r q]; rfl
theorem emb_dep : ∀ xs : List κ, PyData.depthAll (xs.map py) ≤ deg κ
  | [] => by simp [PyData.depthAll]
  | x :: r => by
    have h1 := dep x
    have h2 := emb_dep r
    simp only [List.map_cons, PyData.depthAll]
    omega
theorem emb_injs : ∀ xs ys : List κ, PyData.eqvAll (xs.map py) (ys.map py) = true → xs = ys
  | [], [], _ => rfl
  | [], _ :: _, h => by simp [PyData.eqvAll] at h
  | _ :: _, [], h => by simp [PyData.eqvAll] at h
  | x :: r, y :: q, h => by
    simp only [List.map_cons, PyData.eqvAll, Bool.and_eq_true] at h
    rw [inj x y h.1, emb_injs r q h.2]
theorem deref_emb (S : Sto) (a : κ) : deref S (toD a) = toD a := by
  have h := np a
  cases q : (toD a : D) with
  | ptr k => exact absurd q (h k)
  | _ => rfl
end
instance : Emb Int where
  toD := .int
  py := .int
  deg := 0
  pyOk := fun _ _ => rfl
  np := fun _ _ h => nomatch h
  al := fun a b => by simp [PySem.W.alike]
  dep := fun a => by simp [PyData.depth]
  inj := fun a b h => by simpa [PyData.eqv] using h
  cl := fun _ _ => rfl
instance : Emb Str where
  toD := .str
  py := .str
  deg := 0
  pyOk := fun _ _ => rfl
  np := fun _ _ h => nomatch h
  al := fun a b => by simp [PySem.W.alike]
  dep := fun a => by simp [PyData.depth]
  inj := fun a b h => by simpa [PyData.eqv] using h
  cl := fun _ _ => rfl
instance {α β : Type} [Emb α] [Emb β] : Emb (α × β) where
  toD := fun p => .tup [toD p.1, toD p.2]
  py := fun p => .tuple [py p.1, py p.2]
  deg := max (deg α) (deg β) + 1
  pyOk := fun S p => by unfold toPy toPys toPys toPys; rw [pyOk, pyOk]; rfl
  np := fun _ _ h => nomatch h
  al := fun a b => by simp [PySem.W.alike, PySem.W.alikeAll, al]
  dep := fun a => by
    have h1 := dep a.1
    have h2 := dep a.2
    simp only [PyData.depth, PyData.depthAll]
    omega
  inj := fun a b h => by
    simp only [PyData.eqv, PyData.eqvAll, Bool.and_eq_true] at h
    exact Prod.ext (inj _ _ h.1) (inj _ _ h.2.1)
  cl := fun n p => by unfold D.closed closedL closedL closedL; rw [cl, cl]; rfl
instance {α : Type} [Emb α] : Emb (List α) where
  toD := fun xs => .tup (xs.map toD)
  py := fun xs => .tuple (xs.map py)
  deg := deg α + 1
  pyOk := fun S xs => by unfold toPy; rw [emb_pys]; rfl
  np := fun _ _ h => nomatch h
  al := fun a b => by unfold PySem.W.alike; exact emb_al a b
  dep := fun a => by
    have := emb_dep a
    simp only [PyData.depth]
    omega
  inj := fun a b h => by
    simp only [PyData.eqv] at h
    exact emb_injs a b h
  cl := fun n xs => by unfold D.closed; exact emb_closed n xs
theorem toD_int (i : Int) : (toD i : D) = .int i := rfl
/-! ### order -/
section
variable {κ ν : Type} [Emb κ] [Emb ν]
def ltE (a b : κ) : Bool := PySem.W.dataLt (py a) (py b)
def leE (a b : κ) : Bool := !ltE b a
theorem leE_sort : (leE : κ → κ → Bool) = PySem.W.sortLe (PyProof.Rows.listOrd PyProof.Rows.itemOrd) false (fun a : κ => PySem.W.keyToks (py a)) := rfl
theorem leE_total : PySem.W.TotalLe (leE : κ → κ → Bool) := by rw [leE_sort]; exact PySem.W.sortLe_total _ _ _
theorem toks_inj {a b : κ} (h : PySem.W.keyToks (py a) = PySem.W.keyToks (py b)) : a = b := by
  obtain ⟨_, h2⟩ := PySem.W.toks_eqv (py a) (py b) (al a b)
  cases q : PyData.eqv (py a) (py b) with
  | true => exact inj a b q
  | false =>
    have e1 := h2 q [] [.inl 0]
    have e2 := h2 q [] []
    rw [h] at e1 e2
    rw [PySem.W.lex_pre] at e1 e2
    rw [← e2] at e1
    cases e1
theorem leE_anti {a b : κ} (h1 : leE a b = true) (h2 : leE b a = true) : a = b := by
  unfold leE ltE at h1 h2
  rw [Bool.not_eq_true'] at h1 h2
  exact toks_inj ((PyProof.Rows.listOrd PyProof.Rows.itemOrd).total _ _ h2 h1)
theorem ltE_irr (a : κ) : ltE a a = false := (PyProof.Rows.listOrd PyProof.Rows.itemOrd).irrefl _
theorem ltE_ne {a b : κ} (h : ltE a b = true) : a ≠ b := fun e => by subst e; rw [ltE_irr] at h; cases h
theorem ltE_trans {a b c : κ} (h : ltE a b = true) (g : ltE b c = true) : ltE a c = true := (PyProof.Rows.listOrd PyProof.Rows.itemOrd).trans _ _ _ h g
theorem leE_of_lt {a b : κ} (h : ltE a b = true) : leE a b = true := by
  unfold leE
  cases q : ltE b a with
  | false => rfl
  | true => exact absurd (ltE_trans h q) (by rw [ltE_irr]; decide)
theorem ltE_of_le {a b : κ} (h : leE a b = true) (hn : a ≠ b) : ltE a b = true := by
  cases q : ltE a b with
  | true => rfl
  | false => exact absurd (leE_anti h (by unfold leE; rw [q]; rfl)) hn
/-- pairs of unlike firsts -/
theorem ltE_fst {p q : κ × ν} (h : p.1 ≠ q.1) : ltE p q = ltE p.1 q.1 := by
  unfold ltE
  show PySem.W.dataLt (.tuple [py p.1, py p.2]) (.tuple [py q.1, py q.2]) = _
  rw [PySem.W.dataLt_pair (al _ _) (al _ _)]
  have : PyData.eqv (py p.1) (py q.1) = false := by
    cases e : PyData.eqv (py p.1) (py q.1) with
    | false => rfl
    | true => exact absurd (inj _ _ e) h
  rw [this]
  rfl
def srt (xs : List κ) : List κ := xs.mergeSort leE
theorem srt_perm (xs : List κ) : (srt xs).Perm xs := List.mergeSort_perm _ _
theorem srt_pair (xs : List κ) : (srt xs).Pairwise fun a b => leE a b = true := PySem.W.sort_pairwise leE_total xs
theorem sorted_one {xs ys : List κ} (h1 : xs.Pairwise fun a b => leE a b = true) (h2 : ys.Pairwise fun a b => leE a b = true) (p : xs.Perm ys) : xs = ys := p.eq_of_pairwise (fun _ _ _ _ a b => leE_anti a b) h1 h2
theorem srt_len (xs : List κ) : (srt xs).length = xs.length := (srt_perm xs).length_eq
theorem srt_mem {xs : List κ} {a : κ} : a ∈ srt xs ↔ a ∈ xs := (srt_perm xs).mem_iff
class Sok (κ : Type) [Emb κ] : Prop where
  sok : (∀ a : κ, tupFull (py a) = true) ∨ ∀ a : κ, noTup (py a) = true
  low : deg κ ≤ 40
theorem sortD_emb [Sok κ] (S : Sto) (xs : List κ) (hl : xs.length ≤ sizeLine) : sortD S (xs.map toD) = some ((srt xs).map toD) := by
  unfold sortD
  rw [emb_pys]
  dsimp only
  have so : sortable (xs.map py) = true := by
    unfold sortable
    rw [Bool.and_eq_true, Bool.and_eq_true, Bool.or_eq_true]
    refine ⟨(Sok.sok (κ := κ)).imp (fun h => List.all_eq_true.mpr fun x hx => ?_) (fun h => List.all_eq_true.mpr fun x hx => ?_), List.all_eq_true.mpr fun x hx => List.all_eq_true.mpr fun y hy => ?_, List.all_eq_true.mpr fun x hx => decide_eq_true ?_⟩
    · obtain ⟨a, _, rfl⟩ := List.mem_map.mp hx; exact h a
    · obtain ⟨a, _, rfl⟩ := List.mem_map.mp hx; exact h a
    · obtain ⟨a, _, rfl⟩ := List.mem_map.mp hx
      obtain ⟨b, _, rfl⟩ := List.mem_map.mp hy
      exact al a b
    · obtain ⟨a, _, rfl⟩ := List.mem_map.mp hx
      exact Nat.le_trans (dep a) (Sok.low (κ := κ))
  rw [so, List.length_map, decide_eq_true hl]
  show some _ = some _
  congr 1
  unfold sortBy srt
  rw [show (xs.map toD).zip (xs.map py) = xs.map fun a : κ => ((toD a : D), py a) from by rw [List.zip_map']]
  rw [← PySem.W.sort_maps (r := leE) (s := PySem.W.dataLe false fun p : D × PyData => p.2) (fun a : κ => ((toD a : D), py a)) (fun a _ b _ => rfl), List.map_map]
  rfl
instance : Sok Int := ⟨.inr fun _ => rfl, by decide⟩
instance : Sok Str := ⟨.inr fun _ => rfl, by decide⟩
end
/-! ### rows of pairs: dicts -/
section
variable {κ ν : Type} [DecidableEq κ]
def getT : List (κ × ν) → κ → Option ν
  | [], _ => none
  | (k, v) :: r, q => if k = q then some v else getT r q
def replT : List (κ × ν) → κ → ν → List (κ × ν)
  | [], _, _ => []
  | (k, v) :: r, q, y => if k = q then (k, y) :: replT r q y else (k, v) :: replT r q y
def putT (kvs : List (κ × ν)) (q : κ) (y : ν) : List (κ × ν) := if (getT kvs q).isSome then replT kvs q y else kvs ++ [(q, y)]
def mergeT (kvs more : List (κ × ν)) : List (κ × ν) := more.foldl (fun acc p => putT acc p.1 p.2) kvs
def ND (kvs : List (κ × ν)) : Prop := (kvs.map (·.1)).Nodup
theorem getT_nil (q : κ) : getT ([] : List (κ × ν)) q = none := rfl
theorem getT_cons (k : κ) (v : ν) (r : List (κ × ν)) (q : κ) : getT ((k, v) :: r) q = if k = q then some v else getT r q := rfl
theorem getT_app (a b : List (κ × ν)) (q : κ) : getT (a ++ b) q = (getT a q).or (getT b q) := by
  induction a with
  | nil => rfl
  | cons p r ih =>
    show getT ((p.1, p.2) :: (r ++ b)) q = (getT ((p.1, p.2) :: r) q).or _
    rw [getT_cons, getT_cons]
    split
    · rfl
    · exact ih
theorem getT_repl (kvs : List (κ × ν)) (k q : κ) (v : ν) : getT (replT kvs k v) q = if q = k then (getT kvs k).map (fun _ => v) else getT kvs q := by
  induction kvs with
  | nil => show none = _; rw [getT_nil, getT_nil]; split <;> rfl
  | cons p r ih =>
    obtain ⟨k', v'⟩ := p
    show getT (if k' = k then (k', v) :: replT r k v else (k', v') :: replT r k v) q = _
    rw [getT_cons, getT_cons]
    by_cases h : k' = k
    · subst h
      rw [if_pos rfl, if_pos rfl, getT_cons]
      by_cases z : k' = q
      · subst z; rw [if_pos rfl, if_pos rfl]; rfl
      · rw [if_neg z, ih, if_neg (Ne.symm z), if_neg (Ne.symm z), if_neg z]
    · rw [if_neg h, if_neg h, getT_cons]
      by_cases z : k' = q
      · subst z; rw [if_pos rfl, if_neg h, if_pos rfl]
      · rw [if_neg z, ih]
        by_cases y : q = k
        · rw [if_pos y, if_pos y]
        · rw [if_neg y, if_neg y, if_neg z]
theorem getT_put (kvs : List (κ × ν)) (k q : κ) (v : ν) : getT (putT kvs k v) q = if q = k then some v else getT kvs q := by
  unfold putT
  split
  · rename_i h
    rw [getT_repl]
    split
    · cases e : getT kvs k with
      | none => rw [e] at h; cases h
      | some _ => rfl
    · rfl
  · rename_i h
    have h : getT kvs k = none := by simpa using h
    rw [getT_app, getT_cons, getT_nil]
    by_cases z : q = k
    · subst z
      rw [h]
      simp
    · rw [if_neg z, if_neg (Ne.symm z)]
      cases getT kvs q <;> rfl
theorem repl_keys (kvs : List (κ × ν)) (k : κ) (v : ν) : (replT kvs k v).map (·.1) = kvs.map (·.1) := by
  induction kvs with
  | nil => rfl
  | cons p r ih =>
    unfold replT
    split <;> rw [List.map_cons, ih] <;> rfl
theorem getT_none {kvs : List (κ × ν)} {q : κ} : getT kvs q = none ↔ q ∉ kvs.map (·.1) := by
  induction kvs with
  | nil => exact ⟨fun _ h => (nomatch h), fun _ => rfl⟩
  | cons p r ih =>
    obtain ⟨k', v'⟩ := p
    rw [getT_cons]
    by_cases h : k' = q
    · subst h; rw [if_pos rfl]; exact ⟨fun z => (nomatch z), fun z => absurd (List.mem_cons_self ..) z⟩
    · rw [if_neg h, ih]
      exact ⟨fun z y => by
        rcases List.mem_cons.mp y with y | y
        · exact h y.symm
        · exact z y, fun z y => z (List.mem_cons_of_mem _ y)⟩
theorem nd_put {kvs : List (κ × ν)} (h : ND kvs) (k : κ) (v : ν) : ND (putT kvs k v) := by
  unfold putT
  split
  · unfold ND; rw [repl_keys]; exact h
  · rename_i z
    have z : getT kvs k = none := by simpa using z
    unfold ND
    rw [List.map_append]
    refine List.nodup_append.mpr ⟨h, by simp, fun a ha b hb e => ?_⟩
    have : b = k := by simpa using hb
    subst this; subst e
    exact getT_none.mp z ha
theorem getT_mem {kvs : List (κ × ν)} {k : κ} {v : ν} (h : getT kvs k = some v) : (k, v) ∈ kvs := by
  induction kvs with
  | nil => cases h
  | cons p r ih =>
    obtain ⟨k', v'⟩ := p
    rw [getT_cons] at h
    split at h
    · rename_i e; subst e; cases h; exact List.mem_cons_self
    · exact List.mem_cons_of_mem _ (ih h)
theorem mem_getT {kvs : List (κ × ν)} (hn : ND kvs) {k : κ} {v : ν} (h : (k, v) ∈ kvs) : getT kvs k = some v := by
  induction kvs with
  | nil => cases h
  | cons p r ih =>
    obtain ⟨k', v'⟩ := p
    unfold ND at hn
    rw [List.map_cons, List.nodup_cons] at hn
    rw [getT_cons]
    rcases List.mem_cons.mp h with e | h
    · cases e; rw [if_pos rfl]
    · have : k' ≠ k := fun z => by subst z; exact hn.1 (List.mem_map.mpr ⟨_, h, rfl⟩)
      rw [if_neg this]
      exact ih hn.2 h
theorem nd_pairs {kvs : List (κ × ν)} (h : ND kvs) : kvs.Nodup := by
  unfold ND at h
  exact (List.pairwise_map.mp h).imp fun a b => a (congrArg (·.1) b)
theorem perm_of_get {a b : List (κ × ν)} (ha : ND a) (hb : ND b) (h : ∀ q, getT a q = getT b q) : a.Perm b :=
  (List.perm_ext_iff_of_nodup (nd_pairs ha) (nd_pairs hb)).mpr fun p => ⟨fun hp => getT_mem (by rw [← h]; exact mem_getT ha hp), fun hp => getT_mem (by rw [h]; exact mem_getT hb hp)⟩
theorem nd_perm {a b : List (κ × ν)} (h : a.Perm b) (ha : ND a) : ND b := (h.map _).nodup_iff.mp ha
theorem get_perm {a b : List (κ × ν)} (h : a.Perm b) (ha : ND a) (q : κ) : getT a q = getT b q := by
  have hb := nd_perm h ha
  cases e : getT a q with
  | some v => exact (mem_getT hb (h.mem_iff.mp (getT_mem e))).symm
  | none =>
    rw [getT_none] at e
    exact (getT_none.mpr fun z => e ((h.map _).mem_iff.mpr z)).symm
theorem nd_filter {a : List (κ × ν)} (f : κ × ν → Bool) (ha : ND a) : ND (a.filter f) := by
  unfold ND at *
  exact (List.filter_sublist.map _).nodup ha
theorem get_filter {a : List (κ × ν)} (f : κ × ν → Bool) (ha : ND a) (q : κ) : getT (a.filter f) q = (getT a q).filter fun v => f (q, v) := by
  cases e : getT a q with
  | none =>
    rw [getT_none] at e
    exact getT_none.mpr fun z => e ((List.filter_sublist.map _).subset z)
  | some v =>
    have hm := getT_mem e
    cases hf : f (q, v) with
    | true =>
      rw [mem_getT (nd_filter f ha) (List.mem_filter.mpr ⟨hm, hf⟩)]
      simp [Option.filter, hf]
    | false =>
      rw [show (some v).filter (fun v => f (q, v)) = none by simp [Option.filter, hf]]
      refine getT_none.mpr fun z => ?_
      obtain ⟨p, hp, e2⟩ := List.mem_map.mp z
      obtain ⟨hp1, hp2⟩ := List.mem_filter.mp hp
      have : p.2 = v := by
        have := mem_getT ha (show (q, p.2) ∈ a by rw [← e2]; exact hp1)
        rw [e] at this; cases this; rfl
      rw [show p = (q, v) from Prod.ext e2 this, hf] at hp2
      cases hp2
theorem merge_new : ∀ {b a : List (κ × ν)}, ND (a ++ b) → mergeT a b = a ++ b
  | [], a, _ => by rw [List.append_nil]; rfl
  | p :: r, a, h => by
    have e : putT a p.1 p.2 = a ++ [p] := by
      unfold putT
      have : getT a p.1 = none := getT_none.mpr fun z => by
        unfold ND at h
        rw [List.map_append] at h
        exact (List.nodup_append.mp h).2.2 p.1 z p.1 (by simp) rfl
      rw [this]
      rfl
    show mergeT (putT a p.1 p.2) r = _
    rw [e, merge_new (by rw [List.append_assoc]; exact h), List.append_assoc]
    rfl
theorem merge_id {b : List (κ × ν)} (h : ND b) : mergeT [] b = b := merge_new h
theorem put_len (kvs : List (κ × ν)) (k : κ) (v : ν) : (putT kvs k v).length ≤ kvs.length + 1 := by
  unfold putT
  split
  · have := congrArg List.length (repl_keys kvs k v)
    rw [List.length_map, List.length_map] at this
    omega
  · rw [List.length_append]; exact Nat.le_refl _
theorem put_all {P : κ × ν → Prop} {kvs : List (κ × ν)} (h : ∀ p ∈ kvs, P p) {k : κ} {v : ν} (hv : P (k, v)) : ∀ p ∈ putT kvs k v, P p := by
  have rp : ∀ {kvs : List (κ × ν)}, (∀ p ∈ kvs, P p) → ∀ p ∈ replT kvs k v, P p := by
    intro kvs
    induction kvs with
    | nil => exact fun _ _ z => nomatch z
    | cons p r ih =>
      obtain ⟨k', v'⟩ := p
      intro h p hp
      unfold replT at hp
      split at hp
      · rename_i e
        subst e
        rcases List.mem_cons.mp hp with rfl | hp
        · exact hv
        · exact ih (fun q hq => h q (List.mem_cons_of_mem _ hq)) p hp
      · rcases List.mem_cons.mp hp with rfl | hp
        · exact h _ List.mem_cons_self
        · exact ih (fun q hq => h q (List.mem_cons_of_mem _ hq)) p hp
  unfold putT
  split
  · exact rp h
  · intro p hp
    rcases List.mem_append.mp hp with hp | hp
    · exact h p hp
    · rw [List.mem_singleton.mp hp]; exact hv
end
/-! ### rows in order -/
section
variable {κ ν : Type} [Emb κ] [Emb ν] [DecidableEq κ]
def Inc (xs : List (κ × ν)) : Prop := xs.Pairwise fun p q => ltE p.1 q.1 = true
theorem inc_nd {xs : List (κ × ν)} (h : Inc xs) : ND xs := by
  unfold ND
  exact List.pairwise_map.mpr (h.imp fun a => ltE_ne a)
theorem inc_sorted {xs : List (κ × ν)} (h : Inc xs) : xs.Pairwise fun a b => leE a b = true := h.imp fun {a b} q => leE_of_lt (by rw [ltE_fst (ltE_ne q)]; exact q)
theorem inc_srt {xs : List (κ × ν)} (h : ND xs) : Inc (srt xs) := by
  have h1 := srt_pair xs
  have h2 := nd_perm (srt_perm xs).symm h
  unfold ND at h2
  exact (h1.and (List.pairwise_map.mp h2)).imp fun {a b} ⟨q1, q2⟩ => by
    have := ltE_of_le q1 fun e => q2 (congrArg (·.1) e)
    rwa [ltE_fst q2] at this
theorem inc_one {a b : List (κ × ν)} (ha : Inc a) (hb : Inc b) (h : ∀ q, getT a q = getT b q) : a = b := sorted_one (inc_sorted ha) (inc_sorted hb) (perm_of_get (inc_nd ha) (inc_nd hb) h)
theorem get_srt {xs : List (κ × ν)} (h : ND xs) (q : κ) : getT (srt xs) q = getT xs q := (get_perm (srt_perm xs).symm h q).symm
end
end DL
set_option Elab.async false
set_option linter.all false
set_option maxRecDepth 100000
set_option maxHeartbeats 4000000
set_option autoImplicit false
/-! Typed dicts in the store. -/
namespace DL
open PySem L2
open Emb
/-- what may be a key: texts, numbers (pk), tuples -/
class KeyE (κ : Type) [Emb κ] [DecidableEq κ] where
  pk : Bool
  plain : pk = true → ∀ a : κ, isKey (toD a) = true ∧ ∀ b : κ, keyEq (toD a) (toD b) = decide (a = b)
  nest : pk = false → ∀ a : κ, isKey (toD a) = false ∧ isKeyN (toD a) = true ∧ ∀ b : κ, eqN (toD a) (toD b) = decide (a = b)
/-- things that can be tuple keys, and stand in such -/
class NkE (κ : Type) [Emb κ] where
  nk : κ → NestedKey
  nkOk : ∀ a : κ, keyN (toD a) = some (nk a)
  nkInj : ∀ a b : κ, nk a = nk b → a = b
  kdeg : Nat
  nkDep : ∀ a : κ, (nk a).depth ≤ kdeg
open NkE
instance : NkE Int where
  nk := .num
  nkOk := fun _ => by unfold keyN; rfl
  nkInj := fun a b h => by cases h; rfl
  kdeg := 0
  nkDep := fun a => by simp [NestedKey.depth]
instance : NkE Str where
  nk := .text
  nkOk := fun _ => by unfold keyN; rfl
  nkInj := fun a b h => by cases h; rfl
  kdeg := 0
  nkDep := fun a => by simp [NestedKey.depth]
section
variable {α β : Type} [Emb α] [Emb β] [NkE α] [NkE β]
theorem nks_ok : ∀ xs : List α, keyNs (xs.map toD) = some (xs.map nk)
  | [] => by unfold List.map keyNs; rfl
  | x :: r => by unfold List.map keyNs; rw [nkOk x, nks_ok r]
theorem nks_inj : ∀ xs ys : List α, xs.map nk = ys.map nk → xs = ys
  | [], [], _ => rfl
  | [], _ :: _, h => nomatch h
  | _ :: _, [], h => nomatch h
  | x :: r, y :: q, h => by
    simp only [List.map_cons, List.cons.injEq] at h
    rw [nkInj x y h.1, nks_inj r q h.2]
theorem nks_dep : ∀ xs : List α, NestedKey.depthAll (xs.map nk) ≤ kdeg α
  | [] => by simp [NestedKey.depthAll]
  | x :: r => by
    have h1 := nkDep x
    have h2 := nks_dep r
    simp only [List.map_cons, NestedKey.depthAll]
    omega
instance : NkE (α × β) where
  nk := fun p => .tup [nk p.1, nk p.2]
  nkOk := fun p => by
    show keyN (.tup [toD p.1, toD p.2]) = _
    unfold keyN keyNs keyNs keyNs
    rw [nkOk, nkOk]; rfl
  nkInj := fun a b h => by
    simp only [NestedKey.tup.injEq, List.cons.injEq] at h
    exact Prod.ext (nkInj _ _ h.1) (nkInj _ _ h.2.1)
  kdeg := max (kdeg α) (kdeg β) + 1
  nkDep := fun a => by
    have h1 := nkDep a.1
    have h2 := nkDep a.2
    simp only [NestedKey.depth, NestedKey.depthAll]
    omega
instance : NkE (List α) where
  nk := fun xs => .tup (xs.map nk)
  nkOk := fun xs => by
    show keyN (.tup (xs.map toD)) = _
    unfold keyN
    rw [nks_ok]; rfl
  nkInj := fun a b h => by
    simp only [NestedKey.tup.injEq] at h
    exact nks_inj _ _ h
  kdeg := kdeg α + 1
  nkDep := fun a => by
    have := nks_dep a
    simp only [NestedKey.depth]
    omega
end
theorem nest_of {κ : Type} [Emb κ] [DecidableEq κ] [NkE κ] (ht : ∀ a : κ, ∃ ds, (toD a : D) = .tup ds) (hd : kdeg κ ≤ 8) (a : κ) : isKey (toD a) = false ∧ isKeyN (toD a) = true ∧ ∀ b : κ, eqN (toD a) (toD b) = decide (a = b) := by
  obtain ⟨ds, e⟩ := ht a
  refine ⟨by rw [e]; rfl, ?_, fun b => ?_⟩
  · have h := nkOk a
    rw [e] at h ⊢
    unfold isKeyN
    dsimp only
    rw [h]
    exact decide_eq_true (Nat.le_trans (nkDep a) hd)
  · rw [eqN_dec (nkOk a) (nkOk b)]
    by_cases h : a = b
    · subst h; rw [decide_eq_true rfl, decide_eq_true rfl]
    · rw [decide_eq_false h, decide_eq_false fun z => h (nkInj _ _ z)]
instance : KeyE Str where
  pk := true
  plain := fun _ a => ⟨rfl, fun b => by
    show keyEq (kD (.inr a)) (kD (.inr b)) = _
    rw [keyEq_kD]
    by_cases h : a = b
    · subst h; rw [decide_eq_true rfl, decide_eq_true rfl]
    · rw [decide_eq_false h, decide_eq_false fun z => h (by cases z; rfl)]⟩
  nest := fun h => nomatch h
instance : KeyE Int where
  pk := true
  plain := fun _ a => ⟨rfl, fun b => by
    show keyEq (kD (.inl a)) (kD (.inl b)) = _
    rw [keyEq_kD]
    by_cases h : a = b
    · subst h; rw [decide_eq_true rfl, decide_eq_true rfl]
    · rw [decide_eq_false h, decide_eq_false fun z => h (by cases z; rfl)]⟩
  nest := fun h => nomatch h
section
variable {κ ν : Type} [Emb κ] [Emb ν] [DecidableEq κ] [KeyE κ]
def kvD (kvs : List (κ × ν)) : List (D × D) := kvs.map fun p => (toD p.1, toD p.2)
theorem kvD_len (kvs : List (κ × ν)) : (kvD kvs).length = kvs.length := List.length_map _
theorem lookD_kv (hp : KeyE.pk κ = true) (kvs : List (κ × ν)) (k : κ) : lookD (kvD kvs) (toD k) = (getT kvs k).map toD := by
  induction kvs with
  | nil => rfl
  | cons p r ih =>
    show (if keyEq (toD p.1) (toD k) = true then some (toD p.2) else lookD (kvD r) (toD k)) = Option.map toD (if p.1 = k then some p.2 else getT r k)
    rw [((KeyE.plain hp p.1).2 k), ih]
    by_cases h : p.1 = k
    · rw [decide_eq_true h, if_pos h, if_pos rfl]; rfl
    · rw [decide_eq_false h, if_neg h, if_neg Bool.false_ne_true]
theorem lookN_kv (hp : KeyE.pk κ = false) (kvs : List (κ × ν)) (k : κ) : lookN (kvD kvs) (toD k) = (getT kvs k).map toD := by
  induction kvs with
  | nil => rfl
  | cons p r ih =>
    show (if eqN (toD p.1) (toD k) = true then some (toD p.2) else lookN (kvD r) (toD k)) = Option.map toD (if p.1 = k then some p.2 else getT r k)
    rw [((KeyE.nest hp p.1).2.2 k), ih]
    by_cases h : p.1 = k
    · rw [decide_eq_true h, if_pos h, if_pos rfl]; rfl
    · rw [decide_eq_false h, if_neg h, if_neg Bool.false_ne_true]
theorem replD_kv (hp : KeyE.pk κ = true) (kvs : List (κ × ν)) (k : κ) (v : ν) : replD (kvD kvs) (toD k) (toD v) = kvD (replT kvs k v) := by
  induction kvs with
  | nil => rfl
  | cons p r ih =>
    show (if keyEq (toD p.1) (toD k) = true then (toD p.1, toD v) :: replD (kvD r) (toD k) (toD v) else (toD p.1, toD p.2) :: replD (kvD r) (toD k) (toD v)) = kvD (if p.1 = k then (p.1, v) :: replT r k v else (p.1, p.2) :: replT r k v)
    rw [((KeyE.plain hp p.1).2 k), ih]
    by_cases h : p.1 = k
    · rw [decide_eq_true h, if_pos h, if_pos rfl]; rfl
    · rw [decide_eq_false h, if_neg h, if_neg Bool.false_ne_true]; rfl
theorem replN_kv (hp : KeyE.pk κ = false) (kvs : List (κ × ν)) (k : κ) (v : ν) : replN (kvD kvs) (toD k) (toD v) = kvD (replT kvs k v) := by
  induction kvs with
  | nil => rfl
  | cons p r ih =>
    show (if eqN (toD p.1) (toD k) = true then (toD p.1, toD v) :: replN (kvD r) (toD k) (toD v) else (toD p.1, toD p.2) :: replN (kvD r) (toD k) (toD v)) = kvD (if p.1 = k then (p.1, v) :: replT r k v else (p.1, p.2) :: replT r k v)
    rw [((KeyE.nest hp p.1).2.2 k), ih]
    by_cases h : p.1 = k
    · rw [decide_eq_true h, if_pos h, if_pos rfl]; rfl
    · rw [decide_eq_false h, if_neg h, if_neg Bool.false_ne_true]; rfl
theorem putD_kv (hp : KeyE.pk κ = true) (kvs : List (κ × ν)) (k : κ) (v : ν) : putD (kvD kvs) (toD k) (toD v) = kvD (putT kvs k v) := by
  unfold putD putT
  rw [lookD_kv hp, replD_kv hp, Option.isSome_map]
  cases (getT kvs k).isSome with
  | true => rfl
  | false => show kvD kvs ++ _ = kvD (kvs ++ _); unfold kvD; rw [List.map_append]; rfl
theorem putN_kv (hp : KeyE.pk κ = false) (kvs : List (κ × ν)) (k : κ) (v : ν) : putN (kvD kvs) (toD k) (toD v) = kvD (putT kvs k v) := by
  unfold putN putT
  rw [lookN_kv hp, replN_kv hp, Option.isSome_map]
  cases (getT kvs k).isSome with
  | true => rfl
  | false => show kvD kvs ++ _ = kvD (kvs ++ _); unfold kvD; rw [List.map_append]; rfl
theorem mergeD_kv (hp : KeyE.pk κ = true) : ∀ (more kvs : List (κ × ν)), mergeD (kvD kvs) (kvD more) = kvD (mergeT kvs more)
  | [], _ => rfl
  | p :: r, kvs => by
    show mergeD (putD (kvD kvs) (toD p.1) (toD p.2)) (kvD r) = kvD (mergeT (putT kvs p.1 p.2) r)
    rw [putD_kv hp, mergeD_kv hp r]
theorem mergeN_kv (hp : KeyE.pk κ = false) : ∀ (more kvs : List (κ × ν)), mergeN (kvD kvs) (kvD more) = kvD (mergeT kvs more)
  | [], _ => rfl
  | p :: r, kvs => by
    show mergeN (putN (kvD kvs) (toD p.1) (toD p.2)) (kvD r) = kvD (mergeT (putT kvs p.1 p.2) r)
    rw [putN_kv hp, mergeN_kv hp r]
/-- u is the dict of these -/
def IsDic (u : D) (kvs : List (κ × ν)) : Prop := (kvs = [] ∧ u = .dct []) ∨ (KeyE.pk κ = true ∧ u = .dct (kvD kvs)) ∨ (KeyE.pk κ = false ∧ u = .dcn (kvD kvs))
theorem isDic_nil : IsDic (.dct []) ([] : List (κ × ν)) := .inl ⟨rfl, rfl⟩
theorem isDic_closed {u : D} {kvs : List (κ × ν)} (h : IsDic u kvs) (n : Nat) : D.closed n u = true := by
  have key : ∀ kvs : List (κ × ν), closedK n (kvD kvs) = true := fun kvs => by
    induction kvs with
    | nil => rfl
    | cons p r ih => show closedK n ((toD p.1, toD p.2) :: kvD r) = true; unfold closedK; rw [cl, cl, ih]; rfl
  rcases h with ⟨_, rfl⟩ | ⟨_, rfl⟩ | ⟨_, rfl⟩
  · rfl
  · unfold D.closed; exact key kvs
  · unfold D.closed; exact key kvs
theorem dic_deref {S : Sto} {j : Nat} {u : D} {kvs : List (κ × ν)} (h : IsDic u kvs) (hj : S[j]? = some u) : deref S (.ptr j) = u := by
  unfold deref
  dsimp only
  rw [show S.getD j .non = u by rw [List.getD_eq_getElem?_getD, hj]; rfl]
  rcases h with ⟨_, rfl⟩ | ⟨_, rfl⟩ | ⟨_, rfl⟩ <;> rfl
theorem dic_isDct {S : Sto} {j : Nat} {u : D} {kvs : List (κ × ν)} (h : IsDic u kvs) (hj : S[j]? = some u) : isDct S (.ptr j) = true := by
  unfold isDct
  rw [dic_deref h hj]
  rcases h with ⟨_, rfl⟩ | ⟨_, rfl⟩ | ⟨_, rfl⟩ <;> rfl
theorem dic_lookU {S : Sto} {j : Nat} {u : D} {kvs : List (κ × ν)} (h : IsDic u kvs) (hj : S[j]? = some u) (k : κ) : lookU S (.ptr j) (toD k) = some ((getT kvs k).map toD) := by
  unfold lookU
  rw [dic_deref h hj]
  rcases h with ⟨rfl, rfl⟩ | ⟨hp, rfl⟩ | ⟨hp, rfl⟩
  · dsimp only
    cases hp : KeyE.pk κ with
    | true => rw [if_pos (KeyE.plain hp k).1]; rfl
    | false =>
      rw [if_neg (by rw [(KeyE.nest hp k).1]; decide)]
      first
        | (rw [if_pos (by simp [(KeyE.nest hp k).2.1])]; rfl)
        | rfl
  · dsimp only
    rw [if_pos (KeyE.plain hp k).1, lookD_kv hp]
  · dsimp only
    rw [if_pos (KeyE.nest hp k).2.1, lookN_kv hp]
theorem dic_putU {u : D} {kvs : List (κ × ν)} (h : IsDic u kvs) (hl : kvs.length < sizeLine) (k : κ) (v : ν) : ∃ u', putU u (toD k) (toD v) = some u' ∧ IsDic u' (putT kvs k v) := by
  rcases h with ⟨rfl, rfl⟩ | ⟨hp, rfl⟩ | ⟨hp, rfl⟩
  · cases hp : KeyE.pk κ with
    | true =>
      refine ⟨.dct (kvD (putT ([] : List (κ × ν)) k v)), ?_, .inr (.inl ⟨hp, rfl⟩)⟩
      unfold putU
      dsimp only
      rw [if_pos (KeyE.plain hp k).1]
      rfl
    | false =>
      refine ⟨.dcn (kvD (putT ([] : List (κ × ν)) k v)), ?_, .inr (.inr ⟨hp, rfl⟩)⟩
      unfold putU
      dsimp only
      rw [if_neg (by rw [(KeyE.nest hp k).1]; decide), (KeyE.nest hp k).2.1]
      rfl
  · refine ⟨.dct (kvD (putT kvs k v)), ?_, .inr (.inl ⟨hp, rfl⟩)⟩
    unfold putU
    dsimp only
    rw [if_pos (KeyE.plain hp k).1, kvD_len, if_pos hl, putD_kv hp]
  · refine ⟨.dcn (kvD (putT kvs k v)), ?_, .inr (.inr ⟨hp, rfl⟩)⟩
    unfold putU
    dsimp only
    rw [(KeyE.nest hp k).2.1, kvD_len, decide_eq_true hl, putN_kv hp]
    rfl
theorem pairsOf_kv : ∀ kvs : List (κ × ν), pairsOf (kvs.map toD) = some (kvD kvs)
  | [] => rfl
  | p :: r => by
    show pairsOf (.tup [toD p.1, toD p.2] :: r.map toD) = some ((toD p.1, toD p.2) :: kvD r)
    unfold pairsOf
    rw [pairsOf_kv r]
    rfl
theorem dictOf_kv (kvs : List (κ × ν)) : ∃ u, dictOf (kvD kvs) = some u ∧ IsDic u (mergeT [] kvs) := by
  unfold dictOf
  cases kvs with
  | nil => exact ⟨.dct [], rfl, .inl ⟨rfl, rfl⟩⟩
  | cons p r =>
    cases hp : KeyE.pk κ with
    | true =>
      have e : (kvD (p :: r)).all (fun p => isKey p.1) = true := List.all_eq_true.mpr fun q hq => by
        obtain ⟨a, _, rfl⟩ := List.mem_map.mp hq
        exact (KeyE.plain hp a.1).1
      rw [e]
      exact ⟨_, rfl, .inr (.inl ⟨hp, congrArg D.dct (mergeD_kv hp (p :: r) [])⟩)⟩
    | false =>
      have e : (kvD (p :: r)).all (fun p => isKey p.1) = false := by
        show (isKey (toD p.1) && _) = false
        rw [(KeyE.nest hp p.1).1]; rfl
      have e2 : (kvD (p :: r)).all (fun p => isKeyN p.1) = true := List.all_eq_true.mpr fun q hq => by
        obtain ⟨a, _, rfl⟩ := List.mem_map.mp hq
        exact (KeyE.nest hp a.1).2.1
      rw [e, e2]
      exact ⟨_, rfl, .inr (.inr ⟨hp, congrArg D.dcn (mergeN_kv hp (p :: r) [])⟩)⟩
theorem dict_of (S : Sto) (kvs : List (κ × ν)) : ∃ u, gDict S [.lst (kvs.map toD)] = some u ∧ gDict S [.tup (kvs.map toD)] = some u ∧ IsDic u (mergeT [] kvs) := by
  obtain ⟨u, h1, h2⟩ := dictOf_kv kvs
  refine ⟨u, ?_, ?_, h2⟩
  · show (pairsOf (kvs.map toD)).bind dictOf = some u
    rw [pairsOf_kv]; exact h1
  · show (pairsOf (kvs.map toD)).bind dictOf = some u
    rw [pairsOf_kv]; exact h1
/-- the pairs of a dict that is walked -/
theorem dic_items {S : Sto} {j : Nat} {u : D} {kvs : List (κ × ν)} (h : IsDic u kvs) (hj : S[j]? = some u) : lckOf (S.set j (.lck u)) (.ptr j) = some (kvD kvs) := by
  have hlt := (List.getElem?_eq_some_iff.mp hj).1
  unfold lckOf
  dsimp only
  rw [List.getElem?_set_self hlt]
  rcases h with ⟨rfl, rfl⟩ | ⟨_, rfl⟩ | ⟨_, rfl⟩ <;> rfl
theorem dic_itemsOf {S : Sto} {j : Nat} {u : D} {kvs : List (κ × ν)} (h : IsDic u kvs) (hj : S[j]? = some u) : itemsOf (deref S (.ptr j)) = some (kvs.map toD) := by
  rw [dic_deref h hj]
  have e : (kvD kvs).map (fun p => D.tup [p.1, p.2]) = kvs.map toD := by unfold kvD; rw [List.map_map]; rfl
  rcases h with ⟨rfl, rfl⟩ | ⟨_, rfl⟩ | ⟨_, rfl⟩
  · rfl
  · show some _ = some _; rw [e]
  · show some _ = some _; rw [e]
end
end DL
set_option Elab.async false
set_option linter.all false
set_option maxRecDepth 100000
set_option maxHeartbeats 4000000
set_option autoImplicit false
/-! Plain tools, for every law. -/
namespace DL
open PySem L2
open Emb
theorem take_app {S : Sto} {a : D} : (S ++ [a]).take S.length = S := List.take_left' rfl
theorem set_app {S : Sto} {a b : D} : (S ++ [a]).set S.length b = S ++ [b] := by
  rw [List.set_append_right _ _ (Nat.le_refl _), Nat.sub_self]
  rfl
theorem get_app {S : Sto} {a : D} : (S ++ [a])[S.length]? = some a := by
  rw [List.getElem?_append_right (Nat.le_refl _), Nat.sub_self]
  rfl
/-- a def that drops what it made -/
theorem m_defJ {n : Nat} {b : RS} {ds : List D} {S : Sto} {d : D} (hS : Sane S) (hd : D.closed S.length d = true) (h : (b (ds.map some ++ List.replicate (n - ds.length) none) S).post NoS (fun z S1 => z = d ∧ S1.take S.length = S) NoS NoS) : mDef n b ds S = .ok d S :=
  same_of (m_def (h.mono (fun _ _ z => z.elim) (fun z S1 ⟨e1, e2⟩ => by
    rw [e1, hd, e2, show closedL S.length S = true from hS]
    exact ⟨rfl, rfl, rfl⟩) (fun _ _ z => z) (fun _ _ z => z)))
theorem s_putU {δ : Sl} {S : Sto} {d k v : RE} {N B C : Sl → Sto → Prop} {T : D → Sto → Prop} (h : (v δ S).post fun z S1 => (d δ S1).post fun x S2 => (k δ S2).post fun y S3 => ∃ n u u', x = .ptr n ∧ S3[n]? = some u ∧ putU u y z = some u' ∧ N δ (S3.set n u')) : (sPutU d k v δ S).post N T B C :=
  p_out (h.mono fun z S1 q => p_out (q.mono fun x S2 q => p_out (q.mono fun y S3 ⟨n, u, u', e1, e2, e3, q'⟩ => by
    subst e1
    dsimp only
    rw [e2]
    dsimp only
    rw [e3]
    exact q')))
theorem deref_at {S : Sto} {k : Nat} {xs : List D} (h : S[k]? = some (.lst xs)) : deref S (.ptr k) = .lst xs := by
  unfold deref
  dsimp only
  rw [show S.getD k .non = .lst xs by rw [List.getD_eq_getElem?_getD, h]; rfl]
theorem p_get2 {a k x : RE} {δ : Sl} {S : Sto} {Q : D → Sto → Prop} (h : (a δ S).post fun d S1 => isDct S1 d = true ∧ (k δ S1).post fun q S2 => (x δ S2).post fun z S3 => ∃ o, lookU S3 d q = some o ∧ Q (o.getD z) S3) : (rGet2 a k x δ S).post Q :=
  p_bind (h.mono fun d S1 ⟨e, q⟩ => by
    rw [if_pos e]
    exact p_bind (q.mono fun y S2 q => p_bind (q.mono fun z S3 ⟨o, e2, q⟩ => p_lift (by rw [e2]; rfl) q)))
theorem p_items {a : RE} {δ : Sl} {S : Sto} {Q : List D → Sto → Prop} (h : (a δ S).post fun d S1 => ∃ kvs, lckOf S1 d = some kvs ∧ Q (pairsD kvs) S1) : (rItems a δ S).post Q := p_bind (h.mono fun d S1 ⟨kvs, e, q⟩ => p_lift (by rw [e]; rfl) q)
theorem s_lockN {i k : Nat} {δ : Sl} {S : Sto} {u : D} {r : RS} {N B C : Sl → Sto → Prop} {T : D → Sto → Prop} (e : δ[i]? = some (some (.ptr k))) (hk : S[k]? = some u) (hu : (∃ kvs, u = .dct kvs) ∨ ∃ kvs, u = .dcn kvs)
    (h : (r δ (S.set k (.lck u))).post (fun δ' S1 => S1[k]? = some (.lck u) ∧ N δ' (S1.set k u)) (fun z S1 => S1[k]? = some (.lck u) ∧ T z (S1.set k u)) NoS NoS) : (sLock i r δ S).post N T B C := by
  have hL : lockAt δ S i = some (k, u) := by
    unfold lockAt
    rw [e]
    dsimp only
    rw [hk]
    rcases hu with ⟨kvs, rfl⟩ | ⟨kvs, rfl⟩ <;> rfl
  unfold sLock
  rw [hL]
  dsimp only
  cases q : r δ (S.set k (.lck u)) with
  | rt z S1 =>
    rw [q] at h
    obtain ⟨h1, hT⟩ : S1[k]? = some (.lck u) ∧ T z (S1.set k u) := h
    unfold unlkO unlk
    dsimp only
    rw [h1]
    exact hT
  | nx δ' S1 =>
    rw [q] at h
    obtain ⟨h1, hT⟩ : S1[k]? = some (.lck u) ∧ N δ' (S1.set k u) := h
    unfold unlkO unlk
    dsimp only
    rw [h1]
    exact hT
  | _ => rw [q] at h; exact h.elim
theorem unset {S : Sto} {k : Nat} {u x : D} (hk : S[k]? = some u) : (S.set k x).set k u = S := by
  have hlt := (List.getElem?_eq_some_iff.mp hk).1
  rw [List.set_set]
  have := (List.getElem?_eq_some_iff.mp hk).2
  rw [← this]
  exact List.set_getElem_self hlt
/-- a walk over a locked dict that leaves the store -/
theorem s_lockS {κ ν : Type} [Emb κ] [Emb ν] [DecidableEq κ] [KeyE κ] {i k : Nat} {δ : Sl} {S : Sto} {u : D} {kvs : List (κ × ν)} {r : RS} {N B C : Sl → Sto → Prop} {T : D → Sto → Prop} (hd : IsDic u kvs) (hk : S[k]? = some u) (e : δ[i]? = some (some (.ptr k)))
    (h : (r δ (S.set k (.lck u))).post (fun δ' S1 => S1 = S.set k (.lck u) ∧ N δ' S) (fun z S1 => S1 = S.set k (.lck u) ∧ T z S) NoS NoS) : (sLock i r δ S).post N T B C := by
  have hlt := (List.getElem?_eq_some_iff.mp hk).1
  refine s_lockN e hk (by rcases hd with ⟨_, rfl⟩ | ⟨_, rfl⟩ | ⟨_, rfl⟩ <;> first | exact .inl ⟨_, rfl⟩ | exact .inr ⟨_, rfl⟩) (h.mono ?_ ?_ (fun _ _ z => z) (fun _ _ z => z))
  · rintro δ' S1 ⟨rfl, hN⟩
    exact ⟨List.getElem?_set_self hlt, by rw [unset hk]; exact hN⟩
  · rintro z S1 ⟨rfl, hT⟩
    exact ⟨List.getElem?_set_self hlt, by rw [unset hk]; exact hT⟩
/-- a comprehension over things of a kind, that leaves the store -/
theorem lcT {α β : Type} (ta : α → D) (tb : β → D) (f : α → Option β) {g : RG} {t : RB} {e : RE} {δ : Sl} {S : Sto} : ∀ {xs : List α}, (∀ a ∈ xs, ∃ δ1, g (ta a) δ S = .ok δ1 S ∧ ((f a = none ∧ t δ1 S = .ok false S) ∨ ∃ b, f a = some b ∧ t δ1 S = .ok true S ∧ e δ1 S = .ok (tb b) S)) → lcL g t e (xs.map ta) δ S = .ok ((xs.filterMap f).map tb) S
  | [], _ => rfl
  | x :: xs, h => by
    have ih := lcT ta tb f (g := g) (t := t) (e := e) (δ := δ) (S := S) (xs := xs) fun y hy => h y (List.mem_cons_of_mem _ hy)
    obtain ⟨δ1, h1, h2⟩ := h x List.mem_cons_self
    rw [List.map_cons]
    unfold lcL
    rw [h1]
    show (t δ1 S).bind _ = _
    rw [List.filterMap_cons]
    rcases h2 with ⟨e1, e2⟩ | ⟨y, e1, e2, e3⟩
    · rw [e2, e1]
      exact ih
    · rw [e2, e1]
      show (e δ1 S).bind _ = _
      rw [e3]
      show (lcL g t e (xs.map ta) δ S).bind _ = _
      rw [ih]
      rfl
/-- each turn one thing -/
theorem lcTm {α β : Type} (ta : α → D) (tb : β → D) (f : α → β) {g : RG} {e : RE} {δ : Sl} {S : Sto} {xs : List α} (h : ∀ a ∈ xs, ∃ δ1, g (ta a) δ S = .ok δ1 S ∧ e δ1 S = .ok (tb (f a)) S) : lcL g bYes e (xs.map ta) δ S = .ok ((xs.map f).map tb) S := by
  rw [lcT ta tb (fun a => some (f a)) fun a ha => by
    obtain ⟨δ1, h1, h2⟩ := h a ha
    exact ⟨δ1, h1, .inr ⟨_, rfl, rfl, h2⟩⟩]
  rw [show xs.filterMap (fun a => some (f a)) = xs.map f from congrFun (List.filterMap_eq_map) xs]
/-- each turn the thing itself, or nothing -/
theorem lcTf {α : Type} (ta tb : α → D) (p : α → Bool) {g : RG} {t : RB} {e : RE} {δ : Sl} {S : Sto} {xs : List α} (h : ∀ a ∈ xs, ∃ δ1, g (ta a) δ S = .ok δ1 S ∧ t δ1 S = .ok (p a) S ∧ (p a = true → e δ1 S = .ok (tb a) S)) : lcL g t e (xs.map ta) δ S = .ok ((xs.filter p).map tb) S := by
  rw [lcT ta tb (fun a => if p a = true then some a else none) fun a ha => by
    obtain ⟨δ1, h1, h2, h3⟩ := h a ha
    refine ⟨δ1, h1, ?_⟩
    cases q : p a with
    | true => exact .inr ⟨a, by simp, by rw [h2, q], h3 q⟩
    | false => exact .inl ⟨by simp, by rw [h2, q]⟩]
  congr 2
  clear h
  induction xs with
  | nil => rfl
  | cons x r ih =>
    rw [List.filterMap_cons, List.filter_cons, ih]
    cases p x <;> rfl
/-- a def that leaves what it made -/
theorem m_defK {n : Nat} {b : RS} {ds : List D} {S : Sto} {Q : D → Sto → Prop} (h : (b (ds.map some ++ List.replicate (n - ds.length) none) S).post (fun _ S1 => Q .non S1) Q NoS NoS) : (mDefK n b ds S).post Q := by
  unfold mDefK
  cases q : b (ds.map some ++ List.replicate (n - ds.length) none) S with
  | nx δ S1 => rw [q] at h; exact h
  | rt d S1 => rw [q] at h; exact h
  | _ => rw [q] at h; exact h.elim
theorem p_sortIt {a : RE} {δ : Sl} {S : Sto} {Q : D → Sto → Prop} (h : (a δ S).post fun d S1 => ∃ xs, (itemsOf (deref S1 d)).bind (sortD S1) = some xs ∧ Q (.lst xs) S1) : (rSortItems a δ S).post Q :=
  p_bind (h.mono fun d S1 ⟨xs, e, q⟩ => p_lift (a := .lst xs) (by rw [e]; rfl) q)
/-- the loop's law over things of a kind: I what is left -/
theorem s_forT {α : Type} (ta : α → D) {g : RG} {b : RS} {N B C : Sl → Sto → Prop} {T : D → Sto → Prop} (I : List α → Sl → Sto → Prop) (step : ∀ x xs δ S, I (x :: xs) δ S → (g (ta x) δ S).post fun δ1 S1 => (b δ1 S1).post (fun δ2 S2 => I xs δ2 S2) T N fun δ2 S2 => I xs δ2 S2) (fin : ∀ δ S, I [] δ S → N δ S)
    (xs : List α) (δ : Sl) (S : Sto) (h : I xs δ S) : (forL g b (xs.map ta) δ S).post N T B C :=
  s_forL (fun ds δ S => ∃ xs : List α, ds = xs.map ta ∧ I xs δ S) (fun x ds δ S ⟨xs, e, h⟩ => by
    cases xs with
    | nil => cases e
    | cons y ys =>
      rw [List.map_cons, List.cons.injEq] at e
      obtain ⟨rfl, rfl⟩ := e
      exact (step y ys δ S h).mono fun δ1 S1 q => q.mono (fun _ _ z => ⟨ys, rfl, z⟩) (fun _ _ z => z) (fun _ _ z => z) (fun _ _ z => ⟨ys, rfl, z⟩)) (fun δ S ⟨xs, e, h⟩ => by
    cases xs with
    | nil => exact fin δ S h
    | cons y ys => cases e) (xs.map ta) δ S ⟨xs, rfl, h⟩
mutual
theorem eqv_refl : ∀ x : PyData, fitP x = true → PyData.eqv x x = true
  | .none, _ => by simp [PyData.eqv]
  | .bool b, _ => by simp [PyData.eqv]
  | .int i, _ => by simp [PyData.eqv]
  | .str x, _ => by simp [PyData.eqv]
  | .list xs, h => by simp only [PyData.eqv]; exact eqvs_refl xs (by unfold fitP at h; exact h)
  | .tuple xs, h => by simp only [PyData.eqv]; exact eqvs_refl xs (by unfold fitP at h; exact h)
  | .dict _, h => by unfold fitP at h; cases h
theorem eqvs_refl : ∀ xs : List PyData, fitPs xs = true → PyData.eqvAll xs xs = true
  | [], _ => by simp [PyData.eqvAll]
  | x :: r, h => by
    unfold fitPs at h
    rw [Bool.and_eq_true] at h
    simp only [PyData.eqvAll, eqv_refl x h.1, eqvs_refl r h.2, Bool.and_self]
end
end DL
set_option Elab.async false
set_option linter.all false
set_option maxRecDepth 100000
set_option maxHeartbeats 4000000
set_option autoImplicit false
/-! Products of boxes, kinds, fractions: typed. -/
namespace DL
open PySem L2
open Emb
/-! ### fractions -/
instance : Emb Rat where
  toD := fun q => .tup [.int q.num, .int q.den]
  py := fun q => .tuple [.int q.num, .int q.den]
  deg := 1
  pyOk := fun _ _ => rfl
  np := fun _ _ h => nomatch h
  al := fun a b => by simp [PySem.W.alike, PySem.W.alikeAll]
  dep := fun a => by simp [PyData.depth, PyData.depthAll]
  inj := fun a b h => by
    simp only [PyData.eqv, PyData.eqvAll, Bool.and_eq_true, beq_iff_eq] at h
    exact Rat.ext h.1 (Int.ofNat.inj h.2.1)
  cl := fun _ _ => rfl
/-! ### products of boxes, kinds -/
abbrev Mono := List (Str × Int)
structure Kind where
  m : Mono
  p : Int
  b : Int
  deriving DecidableEq
instance : Emb Kind where
  toD := fun k => .tup [toD k.m, .int k.p, .int k.b]
  py := fun k => .tuple [py k.m, .int k.p, .int k.b]
  deg := deg Mono + 1
  pyOk := fun S k => by unfold toPy toPys toPys toPys toPys; rw [pyOk]; rfl
  np := fun _ _ h => nomatch h
  al := fun a b => by simp [PySem.W.alike, PySem.W.alikeAll, al]
  dep := fun a => by
    have h1 := dep a.m
    simp only [PyData.depth, PyData.depthAll]
    omega
  inj := fun a b h => by
    simp only [PyData.eqv, PyData.eqvAll, Bool.and_eq_true, beq_iff_eq] at h
    have h1 := inj _ _ h.1
    obtain ⟨_, _, _⟩ := a
    obtain ⟨_, _, _⟩ := b
    simp only [Kind.mk.injEq]
    exact ⟨h1, h.2.1, h.2.2.1⟩
  cl := fun n k => by unfold D.closed closedL closedL closedL closedL; rw [cl]; rfl
instance : NkE Kind where
  nk := fun k => .tup [NkE.nk k.m, .num k.p, .num k.b]
  nkOk := fun k => by
    show keyN (.tup [toD k.m, .int k.p, .int k.b]) = _
    unfold keyN keyNs keyNs keyNs keyNs
    rw [NkE.nkOk]; unfold keyN; rfl
  nkInj := fun a b h => by
    simp only [NestedKey.tup.injEq, List.cons.injEq, NestedKey.num.injEq] at h
    have h1 := NkE.nkInj _ _ h.1
    obtain ⟨_, _, _⟩ := a
    obtain ⟨_, _, _⟩ := b
    simp only [Kind.mk.injEq]
    exact ⟨h1, h.2.1, h.2.2.1⟩
  kdeg := NkE.kdeg Mono + 1
  nkDep := fun a => by
    have h1 := NkE.nkDep a.m
    simp only [NestedKey.depth, NestedKey.depthAll]
    omega
instance : KeyE Mono where
  pk := false
  plain := fun h => nomatch h
  nest := fun _ a => nest_of (fun a => ⟨_, rfl⟩) (by decide) a
instance : KeyE Kind where
  pk := false
  plain := fun h => nomatch h
  nest := fun _ a => nest_of (fun a => ⟨_, rfl⟩) (by decide) a
instance : Sok (Str × Int) := ⟨.inl fun _ => rfl, by decide⟩
instance : Sok (Mono × Int) := ⟨.inl fun _ => rfl, by decide⟩
instance : Sok (Mono × Rat) := ⟨.inl fun _ => rfl, by decide⟩
instance : Sok (Kind × Rat) := ⟨.inl fun _ => rfl, by decide⟩
end DL
set_option Elab.async false
set_option linter.all false
set_option maxRecDepth 100000
set_option maxHeartbeats 4000000
set_option autoImplicit false
/-! Items of tuples. -/
namespace DL
open PySem L2
open Emb
theorem o_ix0 {S : Sto} {a : D} {r : List D} {Q : D → Sto → Prop} (h : Q a S) : (Res.lift (gIx S (.tup (a :: r)) (.int 0)) S).post Q := o_ixT atI_0 h
theorem o_ix1 {S : Sto} {a b : D} {r : List D} {Q : D → Sto → Prop} (h : Q b S) : (Res.lift (gIx S (.tup (a :: b :: r)) (.int 1)) S).post Q := o_ixT atI_1 h
theorem o_ix2 {S : Sto} {a b c : D} {r : List D} {Q : D → Sto → Prop} (h : Q c S) : (Res.lift (gIx S (.tup (a :: b :: c :: r)) (.int 2)) S).post Q := o_ixT atI_2 h
theorem o_ix0L {S : Sto} {a : D} {r : List D} {Q : D → Sto → Prop} (h : Q a S) : (Res.lift (gIx S (.lst (a :: r)) (.int 0)) S).post Q := o_ixL atI_0 h
theorem o_ix1L {S : Sto} {a b : D} {r : List D} {Q : D → Sto → Prop} (h : Q b S) : (Res.lift (gIx S (.lst (a :: b :: r)) (.int 1)) S).post Q := o_ixL atI_1 h
theorem o_ix2L {S : Sto} {a b c : D} {r : List D} {Q : D → Sto → Prop} (h : Q c S) : (Res.lift (gIx S (.lst (a :: b :: c :: r)) (.int 2)) S).post Q := o_ixL atI_2 h
theorem s_gtupl {u : List D → Sl → Sto → Res Sl} {ds : List D} {δ : Sl} {S : Sto} {QS : Sl → Sto → Prop} (h : (u ds δ S).post QS) : (gTup u (.tup ds) δ S).post QS := s_gtup rfl h
end DL
set_option Elab.async false
set_option linter.all false
set_option maxRecDepth 100000
set_option maxHeartbeats 4000000
set_option autoImplicit false
/-! Polys, plain: sums of whole numbers times products of boxes. -/
namespace DL
open PySem L2
open Emb
/-! ### sums -/
def sumZ {α : Type} (xs : List α) (f : α → Int) : Int := (xs.map f).sum
section
variable {α β : Type}
theorem sumZ_nil (f : α → Int) : sumZ [] f = 0 := rfl
theorem sumZ_cons (x : α) (xs : List α) (f : α → Int) : sumZ (x :: xs) f = f x + sumZ xs f := by unfold sumZ; rw [List.map_cons, List.sum_cons]
theorem sumZ_app (xs ys : List α) (f : α → Int) : sumZ (xs ++ ys) f = sumZ xs f + sumZ ys f := by
  induction xs with
  | nil => rw [List.nil_append, sumZ_nil]; omega
  | cons x r ih => rw [List.cons_append, sumZ_cons, sumZ_cons, ih]; omega
theorem sumZ_perm {xs ys : List α} (h : xs.Perm ys) (f : α → Int) : sumZ xs f = sumZ ys f := by
  induction h with
  | nil => rfl
  | cons x _ ih => rw [sumZ_cons, sumZ_cons, ih]
  | swap x y l => rw [sumZ_cons, sumZ_cons, sumZ_cons, sumZ_cons]; omega
  | trans _ _ h1 h2 => exact h1.trans h2
end
/-! ### rows of pairs as sums -/
section
variable {κ : Type} [DecidableEq κ]
def conz (L : List (κ × Int)) (q : κ) : Int := sumZ L fun p => if p.1 = q then p.2 else 0
def atz (kvs : List (κ × Int)) (q : κ) : Int := (getT kvs q).getD 0
def addz (acc : List (κ × Int)) (k : κ) (v : Int) : List (κ × Int) := putT acc k ((getT acc k).getD 0 + v)
def addAllz (acc L : List (κ × Int)) : List (κ × Int) := L.foldl (fun acc p => addz acc p.1 p.2) acc
/-- alike as sums -/
def Eqz (a b : List (κ × Int)) : Prop := ∀ q, conz a q = conz b q
theorem Eqz.refl (a : List (κ × Int)) : Eqz a a := fun _ => rfl
theorem Eqz.symm {a b : List (κ × Int)} (h : Eqz a b) : Eqz b a := fun q => (h q).symm
theorem Eqz.trans {a b c : List (κ × Int)} (h : Eqz a b) (g : Eqz b c) : Eqz a c := fun q => (h q).trans (g q)
theorem conz_nil (q : κ) : conz ([] : List (κ × Int)) q = 0 := rfl
theorem conz_cons (p : κ × Int) (r : List (κ × Int)) (q : κ) : conz (p :: r) q = (if p.1 = q then p.2 else 0) + conz r q := sumZ_cons _ _ _
theorem conz_app (a b : List (κ × Int)) (q : κ) : conz (a ++ b) q = conz a q + conz b q := sumZ_app _ _ _
theorem atz_nil (q : κ) : atz ([] : List (κ × Int)) q = 0 := rfl
theorem atz_cons (p : κ × Int) (r : List (κ × Int)) (q : κ) : atz (p :: r) q = if p.1 = q then p.2 else atz r q := by
  unfold atz
  rw [show p :: r = (p.1, p.2) :: r from rfl, getT_cons]
  split <;> rfl
theorem atz_none {kvs : List (κ × Int)} {q : κ} (h : q ∉ kvs.map (·.1)) : atz kvs q = 0 := by
  unfold atz
  rw [getT_none.mpr h]
  rfl
theorem atz_put (kvs : List (κ × Int)) (k q : κ) (v : Int) : atz (putT kvs k v) q = if q = k then v else atz kvs q := by
  unfold atz
  rw [getT_put]
  split <;> rfl
theorem atz_add (kvs : List (κ × Int)) (k q : κ) (v : Int) : atz (addz kvs k v) q = (if k = q then v else 0) + atz kvs q := by
  unfold addz
  rw [atz_put]
  by_cases z : q = k
  · subst z
    rw [if_pos rfl, if_pos rfl]
    unfold atz
    omega
  · rw [if_neg z, if_neg (Ne.symm z)]
    omega
theorem atz_addAll : ∀ (L acc : List (κ × Int)) (q : κ), atz (addAllz acc L) q = atz acc q + conz L q
  | [], acc, q => by rw [conz_nil]; show atz acc q = _; omega
  | p :: r, acc, q => by
    show atz (addAllz (addz acc p.1 p.2) r) q = _
    rw [atz_addAll r, atz_add, conz_cons]
    omega
theorem nd_addz {kvs : List (κ × Int)} (h : ND kvs) (k : κ) (v : Int) : ND (addz kvs k v) := nd_put h _ _
theorem nd_addAllz : ∀ (L acc : List (κ × Int)), ND acc → ND (addAllz acc L)
  | [], _, h => h
  | _ :: r, _, h => nd_addAllz r _ (nd_addz h _ _)
theorem nd_none : ND ([] : List (κ × Int)) := List.nodup_nil
theorem conz_nd {L : List (κ × Int)} (h : ND L) (q : κ) : conz L q = atz L q := by
  induction L with
  | nil => rfl
  | cons p r ih =>
    unfold ND at h
    rw [List.map_cons, List.nodup_cons] at h
    rw [conz_cons, atz_cons, ih h.2]
    by_cases z : p.1 = q
    · subst z
      rw [if_pos rfl, if_pos rfl, atz_none h.1]
      omega
    · rw [if_neg z, if_neg z]
      omega
theorem eqz_add (L : List (κ × Int)) : Eqz (addAllz [] L) L := fun q => by
  rw [conz_nd (nd_addAllz _ _ nd_none), atz_addAll, atz_nil]
  omega
/-! sizes -/
def nrm (L : List (κ × Int)) : Nat := (L.map fun p => p.2.natAbs).sum
end
/-! ### rows in order without noughts -/
section
variable {κ : Type} [Emb κ] [DecidableEq κ]
def fzz {κ : Type} (p : κ × Int) : Bool := !decide (p.2 = 0)
def rowz (kvs : List (κ × Int)) : List (κ × Int) := srt (kvs.filter fzz)
theorem inc_rowz {kvs : List (κ × Int)} (h : ND kvs) : Inc (rowz kvs) := inc_srt (nd_filter _ h)
theorem atz_rowz {kvs : List (κ × Int)} (h : ND kvs) (q : κ) : atz (rowz kvs) q = atz kvs q := by
  unfold atz rowz
  rw [get_srt (nd_filter _ h), get_filter _ h]
  cases e : getT kvs q with
  | none => rfl
  | some w =>
    by_cases z : w = 0
    · subst z; rfl
    · have : (some w).filter (fun v => fzz (q, v)) = some w := by simp [Option.filter, fzz, z]
      rw [this]
theorem rowz_nz {kvs : List (κ × Int)} : ∀ p ∈ rowz kvs, p ∈ kvs ∧ p.2 ≠ 0 := fun p hp => by
  obtain ⟨h1, h2⟩ := List.mem_filter.mp (srt_mem.mp hp)
  exact ⟨h1, fun z => by unfold fzz at h2; rw [z] at h2; exact absurd h2 (by decide)⟩
theorem rowz_one {a b : List (κ × Int)} (ha : Inc a) (hb : Inc b) (za : ∀ p ∈ a, p.2 ≠ 0) (zb : ∀ p ∈ b, p.2 ≠ 0) (h : ∀ q, atz a q = atz b q) : a = b := by
  refine inc_one ha hb fun q => ?_
  have h := h q
  unfold atz at h
  cases e : getT a q with
  | none =>
    cases e2 : getT b q with
    | none => rfl
    | some w => rw [e, e2] at h; exact absurd h.symm (zb _ (getT_mem e2))
  | some v =>
    cases e2 : getT b q with
    | none => rw [e, e2] at h; exact absurd h (za _ (getT_mem e))
    | some w => rw [e, e2] at h; exact congrArg some h
theorem rowz_ext {a b : List (κ × Int)} (ha : ND a) (hb : ND b) (h : Eqz a b) : rowz a = rowz b :=
  rowz_one (inc_rowz ha) (inc_rowz hb) (fun p hp => (rowz_nz p hp).2) (fun p hp => (rowz_nz p hp).2) fun q => by rw [atz_rowz ha, atz_rowz hb, ← conz_nd ha, ← conz_nd hb, h q]
theorem rowz_id {a : List (κ × Int)} (ha : Inc a) (za : ∀ p ∈ a, p.2 ≠ 0) : rowz a = a :=
  rowz_one (inc_rowz (inc_nd ha)) ha (fun p hp => (rowz_nz p hp).2) za fun q => atz_rowz (inc_nd ha) q
/-- the row of a sum -/
def polz (L : List (κ × Int)) : List (κ × Int) := rowz (addAllz [] L)
theorem polz_ext {a b : List (κ × Int)} (h : Eqz a b) : polz a = polz b := rowz_ext (nd_addAllz _ _ nd_none) (nd_addAllz _ _ nd_none) (((eqz_add a).trans h).trans (eqz_add b).symm)
theorem polz_of {a L : List (κ × Int)} (ha : ND a) (h : Eqz a L) : rowz a = polz L := rowz_ext ha (nd_addAllz _ _ nd_none) (h.trans (eqz_add L).symm)
theorem polz_id {a : List (κ × Int)} (ha : Inc a) (za : ∀ p ∈ a, p.2 ≠ 0) : polz a = a := (polz_of (inc_nd ha) (Eqz.refl a)).symm.trans (rowz_id ha za)
end
end DL
set_option Elab.async false
set_option linter.all false
set_option maxRecDepth 100000
set_option maxHeartbeats 4000000
set_option autoImplicit false
/-! Products of boxes, plain; polys put for boxes. -/
namespace DL
open PySem L2
open Emb
/-! ### products of boxes -/
def dgm (m : Mono) : Int := (m.map (·.2)).sum
theorem dgm_nil : dgm [] = 0 := rfl
theorem dgm_cons (p : Str × Int) (r : Mono) : dgm (p :: r) = p.2 + dgm r := by unfold dgm; rw [List.map_cons, List.sum_cons]
theorem dgm_perm {m n : Mono} (h : m.Perm n) : dgm m = dgm n := by
  induction h with
  | nil => rfl
  | cons x _ ih => rw [dgm_cons, dgm_cons, ih]
  | swap x y l => rw [dgm_cons, dgm_cons, dgm_cons, dgm_cons]; omega
  | trans _ _ h1 h2 => exact h1.trans h2
theorem dgm_repl (m : Mono) (k : Str) (v : Int) (hn : ND m) {w : Int} (h : getT m k = some w) : dgm (replT m k v) = dgm m + v - w := by
  induction m with
  | nil => cases h
  | cons p r ih =>
    obtain ⟨k', v'⟩ := p
    unfold ND at hn
    rw [List.map_cons, List.nodup_cons] at hn
    rw [getT_cons] at h
    unfold replT
    by_cases e : k' = k
    · subst e
      rw [if_pos rfl] at h
      have h : v' = w := Option.some.inj h
      subst h
      rw [if_pos rfl, dgm_cons, dgm_cons]
      have : replT r k' v = r := by
        have hk := hn.1
        clear ih hn
        induction r with
        | nil => rfl
        | cons q s ih =>
          obtain ⟨k2, v2⟩ := q
          rw [List.map_cons, List.mem_cons, not_or] at hk
          unfold replT
          rw [if_neg (Ne.symm hk.1), ih hk.2]
      rw [this]
      show v + dgm r = v' + dgm r + v - v'
      omega
    · rw [if_neg e] at h ⊢
      have := ih hn.2 h
      rw [dgm_cons, dgm_cons]
      show v' + dgm (replT r k v) = v' + dgm r + v - w
      omega
/-- a product's power of a box -/
def pwr (m : Mono) (q : Str) : Int := atz m q
theorem dgm_add (m : Mono) (k : Str) (v : Int) (hn : ND m) : dgm (addz m k v) = dgm m + v := by
  unfold addz putT
  cases e : getT m k with
  | some w =>
    rw [if_pos (show (some w).isSome = true from rfl), dgm_repl m k _ hn e]
    show dgm m + (w + v) - w = _
    omega
  | none =>
    rw [if_neg (show ¬ (none : Option Int).isSome = true by decide)]
    unfold dgm
    rw [List.map_append, List.sum_append]
    simp
/-- a product of boxes among N, in order, of degree up to d -/
structure MonP (N : List Str) (d : Nat) (m : Mono) : Prop where
  inc : Inc m
  nc : ∀ p ∈ m, p.1 ∈ N ∧ 1 ≤ p.2
  dg : dgm m ≤ d
theorem MonP.le {N : List Str} {d e : Nat} {m : Mono} (h : MonP N d m) (hd : d ≤ e) : MonP N e m := ⟨h.inc, h.nc, by have := h.dg; omega⟩
theorem MonP.sub {N M : List Str} {d : Nat} {m : Mono} (h : MonP N d m) (hs : ∀ x ∈ N, x ∈ M) : MonP M d m := ⟨h.inc, fun p hp => ⟨hs _ (h.nc p hp).1, (h.nc p hp).2⟩, h.dg⟩
theorem monp_nil (N : List Str) : MonP N 0 [] := ⟨List.Pairwise.nil, (fun _ z => nomatch z), Int.le_refl _⟩
theorem monp_box {N : List Str} {b : Str} (h : b ∈ N) : MonP N 1 [(b, 1)] := ⟨List.pairwise_singleton _ _, fun p hp => by rw [List.mem_singleton.mp hp]; exact ⟨h, Int.le_refl _⟩, by rw [dgm_cons, dgm_nil]; omega⟩
theorem dgm_pos {N : List Str} {m : Mono} (h : ∀ p ∈ m, p.1 ∈ N ∧ 1 ≤ p.2) : (m.length : Int) ≤ dgm m ∧ 0 ≤ dgm m ∧ ∀ p ∈ m, p.2 ≤ dgm m := by
  induction m with
  | nil => exact ⟨Int.le_refl _, Int.le_refl _, fun _ z => nomatch z⟩
  | cons p r ih =>
    obtain ⟨h1, h2, h4⟩ := ih fun q hq => h q (List.mem_cons_of_mem _ hq)
    have h3 := (h p List.mem_cons_self).2
    rw [dgm_cons, List.length_cons]
    refine ⟨by omega, by omega, fun q hq => ?_⟩
    rcases List.mem_cons.mp hq with rfl | hq
    · omega
    · have := h4 q hq; omega
theorem MonP.len {N : List Str} {d : Nat} {m : Mono} (h : MonP N d m) : m.length ≤ d ∧ (∀ p ∈ m, p.2 ≤ d) ∧ 0 ≤ dgm m := by
  obtain ⟨h1, h2, h3⟩ := dgm_pos h.nc
  have := h.dg
  exact ⟨by omega, fun p hp => by have := h3 p hp; omega, h2⟩
/-- the product of two: as the program comes to it -/
def mfoldz (one other : Mono) : Mono := addAllz (mergeT [] one) other
def mmulz (one other : Mono) : Mono := srt (mfoldz one other)
theorem mfoldz_ok {N : List Str} : ∀ (other acc : Mono), ND acc → (∀ p ∈ acc, p.1 ∈ N ∧ 1 ≤ p.2) → (∀ p ∈ other, p.1 ∈ N ∧ 1 ≤ p.2) →
    ND (addAllz acc other) ∧ (∀ p ∈ addAllz acc other, p.1 ∈ N ∧ 1 ≤ p.2) ∧ dgm (addAllz acc other) = dgm acc + dgm other
  | [], acc, h1, h2, _ => ⟨h1, h2, by rw [dgm_nil]; show dgm acc = _; omega⟩
  | p :: r, acc, h1, h2, h3 => by
    have hp := h3 p List.mem_cons_self
    obtain ⟨g1, g2, g3⟩ := mfoldz_ok r (addz acc p.1 p.2) (nd_addz h1 _ _) (put_all h2 ⟨hp.1, by
      show 1 ≤ (getT acc p.1).getD 0 + p.2
      cases e : getT acc p.1 with
      | none => show 1 ≤ 0 + p.2; omega
      | some w => have := (h2 _ (getT_mem e)).2; show 1 ≤ w + p.2; have := hp.2; omega⟩) fun q hq => h3 q (List.mem_cons_of_mem _ hq)
    refine ⟨g1, g2, g3.trans ?_⟩
    rw [dgm_add _ _ _ h1, dgm_cons]
    omega
theorem mmulz_ok {N : List Str} {d e : Nat} {a b : Mono} (ha : MonP N d a) (hb : MonP N e b) : MonP N (d + e) (mmulz a b) := by
  have na := inc_nd ha.inc
  obtain ⟨g1, g2, g3⟩ := mfoldz_ok b (mergeT [] a) (by rw [merge_id na]; exact na) (by rw [merge_id na]; exact ha.nc) hb.nc
  have h1 := ha.dg
  have h2 := hb.dg
  rw [merge_id na] at g3
  unfold mmulz
  refine ⟨inc_srt g1, fun p hp => g2 p (srt_mem.mp hp), ?_⟩
  rw [dgm_perm (srt_perm _)]
  unfold mfoldz
  rw [merge_id na, g3]
  omega
theorem pwr_mmulz {N : List Str} {d e : Nat} {a b : Mono} (ha : MonP N d a) (hb : MonP N e b) (q : Str) : pwr (mmulz a b) q = pwr a q + pwr b q := by
  have na := inc_nd ha.inc
  obtain ⟨g1, _⟩ := mfoldz_ok b (mergeT [] a) (by rw [merge_id na]; exact na) (by rw [merge_id na]; exact ha.nc) hb.nc
  have e1 : atz (mmulz a b) q = atz (mfoldz a b) q := by unfold mmulz atz; rw [get_srt (show ND (mfoldz a b) from g1)]
  show atz (mmulz a b) q = _
  rw [e1]
  show atz (addAllz (mergeT [] a) b) q = _
  rw [atz_addAll, merge_id na, conz_nd (inc_nd hb.inc)]
  rfl
theorem monp_one {N : List Str} {d e : Nat} {a b : Mono} (ha : MonP N d a) (hb : MonP N e b) (h : ∀ q, pwr a q = pwr b q) : a = b := by
  refine inc_one ha.inc hb.inc fun q => ?_
  have h := h q
  unfold pwr atz at h
  cases e : getT a q with
  | none =>
    cases e2 : getT b q with
    | none => rfl
    | some w => rw [e, e2] at h; have := (hb.nc _ (getT_mem e2)).2; have h : (0 : Int) = w := h; omega
  | some v =>
    cases e2 : getT b q with
    | none => rw [e, e2] at h; have := (ha.nc _ (getT_mem e)).2; have h : v = (0 : Int) := h; omega
    | some w => rw [e, e2] at h; exact congrArg some h
/-! ### how many there are -/
end DL
set_option Elab.async false
set_option linter.all false
set_option maxRecDepth 100000
set_option maxHeartbeats 4000000
set_option autoImplicit false
/-! Products of polys, polys put for boxes, values: plain. -/
namespace DL
open PySem L2
open Emb
abbrev Pol := List (Mono × Int)
/-! ### boxes and degrees -/
def OkL (N : List Str) (d : Nat) (L : Pol) : Prop := ∀ p ∈ L, MonP N d p.1
theorem OkL.le {N : List Str} {d e : Nat} {L : Pol} (h : OkL N d L) (hd : d ≤ e) : OkL N e L := fun p hp => (h p hp).le hd
def wdeg (dg : Str → Nat) (m : Mono) : Nat := (m.map fun p => p.2.toNat * dg p.1).sum
/-! ### sizes -/
/-! ### values -/
end DL
set_option Elab.async false
set_option linter.all false
set_option maxRecDepth 100000
set_option maxHeartbeats 4000000
set_option autoImplicit false
/-! Draws: the state, numbers, fractions. -/
namespace DL
open PySem L2
open Emb
local macro_rules | `(tactic| walk_at "1") => `(tactic| with_reducible first
  | refine s_seq ?_ | refine s_asg ?_ | refine s_ret ?_ | refine s_if ?_ | refine s_expr ?_ | refine s_next ?_ | refine s_brk ?_ | refine s_cont ?_ | refine s_for ?_ | refine s_while ?_
  | refine p_c ?_ | refine p_bin ?_ | refine p_as ?_ | refine p_cons ?_ | refine p_nil ?_ | refine p_un ?_ | refine p_call ?_ | refine p_if ?_ | refine p_own ?_
  | refine p_keep ?_ | refine p_tru ?_ | refine p_and ?_ | refine p_or ?_ | refine p_not ?_ | refine p_val ?_ | refine p_rand ?_ | refine p_ror ?_ | refine p_rnot ?_ | refine p_chain ?_ | refine p_bif ?_
  | refine o_add ?_ | refine o_sub ?_ | refine o_ltU ?_ | refine o_leU ?_ | refine o_gtU ?_ | refine o_geU ?_ | refine o_neg ?_ | refine o_eqI ?_ | refine o_neI ?_ | refine o_abs ?_ | refine o_tru ?_ | refine p_true ?_ | refine p_false ?_
  | refine o_lenT ?_ | refine o_lenL ?_
  | refine s_par ?_ | refine p_yes ?_ | refine p_lc ?_ | refine p_seq ?_ | refine s_gnil ?_ | refine s_gcons ?_ | refine s_gtux ?_ | refine p_onone ?_ | refine p_osome ?_)
local macro_rules | `(tactic| walk_at "2") => `(tactic| first
  | walk_at "1"
  | (with_reducible refine p_var2 ?_)
  | ((with_reducible refine s_name ?_ ?_); (· exact Nat.le_of_ble_eq_true rfl); dsimp only [List.set_cons_zero, List.set_cons_succ])
  | (with_reducible refine p_tup ?_) | ((with_reducible refine ⟨?_, ?_⟩); (· exact Nat.le_of_ble_eq_true rfl))
  | ((with_reducible refine p_ex2 (x := ?_) (y := ?_) ?_ ?_); rotate_left; rotate_left; (· rfl); refine ⟨?_, ?_, ?_⟩; (· exact Nat.le_of_ble_eq_true rfl); (· exact Nat.le_of_ble_eq_true rfl); dsimp only [List.set_cons_zero, List.set_cons_succ])
  | ((with_reducible refine p_isT ?_ ?_); (· rfl)) | ((with_reducible refine p_isF ?_ ?_); (· rfl))
  | ((with_reducible refine p_ex (x := ?_) ?_ ?_); rotate_left; (· rfl)))
local macro_rules | `(tactic| walk_at "3") => `(tactic| repeat (first | walk_at "2" | (with_reducible refine p_lst ?_)))
def stD (ns : List Int) (a : Int) : D := .dct [(.str "script", .lst (ns.map .int)), (.str "at", .int a), (.str "rest", .ptr 0)]
/-- the state of the draws: slots 0 and 1 of the store -/
structure Sta (c : Nat) (S : Sto) : Prop where
  ex : ∃ (ns rs : List Int) (a : Int), S[0]? = some (.lst (rs.map .int)) ∧ S[1]? = some (stD ns a) ∧ rs.length = ns.length ∧ 0 ≤ a ∧ a ≤ c
  sane : Sane S
/-- on to another store: the state goes on, all else stays -/
structure Go (c : Nat) (S S' : Sto) : Prop where
  sta : Sta c S'
  len : S'.length = S.length
  rest : ∀ k, 2 ≤ k → S'[k]? = S[k]?
theorem Sta.le {c c' : Nat} {S : Sto} (h : Sta c S) (hc : c ≤ c') : Sta c' S := by
  obtain ⟨ns, rs, a, h1, h2, h3, h4, h5⟩ := h.ex
  exact ⟨⟨ns, rs, a, h1, h2, h3, h4, by omega⟩, h.sane⟩
theorem Sta.len {c : Nat} {S : Sto} (h : Sta c S) : 2 ≤ S.length := by
  obtain ⟨ns, rs, a, h1, h2, _⟩ := h.ex
  have := (List.getElem?_eq_some_iff.mp h2).1
  omega
theorem Go.trans {c c' : Nat} {S S1 S2 : Sto} (h : Go c S S1) (g : Go c' S1 S2) : Go c' S S2 := ⟨g.sta, g.len.trans h.len, fun k hk => (g.rest k hk).trans (h.rest k hk)⟩
theorem Go.refl {c : Nat} {S : Sto} (h : Sta c S) : Go c S S := ⟨h, rfl, fun _ _ => rfl⟩
theorem Go.le {c c' : Nat} {S S' : Sto} (h : Go c S S') (hc : c ≤ c') : Go c' S S' := ⟨h.sta.le hc, h.len, h.rest⟩
/-- more is made behind -/
theorem Sta.app {c : Nat} {S : Sto} {u : D} (h : Sta c S) (hu : D.closed (S.length + 1) u = true) : Sta c (S ++ [u]) := by
  obtain ⟨ns, rs, a, h1, h2, h3, h4, h5⟩ := h.ex
  have l := h.len
  exact ⟨⟨ns, rs, a, by rw [List.getElem?_append_left (by omega)]; exact h1, by rw [List.getElem?_append_left (by omega)]; exact h2, h3, h4, h5⟩, sane_app h.sane hu⟩
/-! ### products of boxes that are drawn -/
end DL
set_option Elab.async false
set_option linter.all false
set_option maxRecDepth 100000
set_option maxHeartbeats 4000000
set_option autoImplicit false
/-! Rows of fractions, by the law. -/
namespace DL
open PySem L2
open Emb
local macro_rules | `(tactic| walk_at "1") => `(tactic| with_reducible first
  | refine s_seq ?_ | refine s_asg ?_ | refine s_ret ?_ | refine s_if ?_ | refine s_expr ?_ | refine s_next ?_ | refine s_brk ?_ | refine s_cont ?_ | refine s_for ?_ | refine s_while ?_
  | refine p_c ?_ | refine p_bin ?_ | refine p_as ?_ | refine p_cons ?_ | refine p_nil ?_ | refine p_un ?_ | refine p_call ?_ | refine p_if ?_ | refine p_own ?_
  | refine p_keep ?_ | refine p_tru ?_ | refine p_and ?_ | refine p_or ?_ | refine p_not ?_ | refine p_val ?_ | refine p_rand ?_ | refine p_ror ?_ | refine p_rnot ?_ | refine p_chain ?_ | refine p_bif ?_
  | refine o_add ?_ | refine o_sub ?_ | refine o_ltU ?_ | refine o_leU ?_ | refine o_gtU ?_ | refine o_geU ?_ | refine o_neg ?_ | refine o_eqI ?_ | refine o_neI ?_ | refine o_abs ?_ | refine o_tru ?_ | refine p_true ?_ | refine p_false ?_
  | refine o_lenT ?_ | refine o_lenL ?_ | refine o_ix0 ?_ | refine o_ix1 ?_ | refine o_ix2 ?_ | refine o_ix0L ?_ | refine o_ix1L ?_ | refine o_ix2L ?_
  | refine s_par ?_ | refine p_yes ?_ | refine p_seq ?_ | refine s_gnil ?_ | refine s_gcons ?_ | refine s_gtux ?_ | refine s_gtupl ?_ | refine p_onone ?_ | refine p_osome ?_ | refine p_get2 ?_ | refine s_putU ?_ | refine p_sortIt ?_)
local macro_rules | `(tactic| walk_at "2") => `(tactic| first
  | walk_at "1"
  | (with_reducible refine p_var2 ?_)
  | ((with_reducible refine s_name ?_ ?_); (· exact Nat.le_of_ble_eq_true rfl); dsimp only [List.set_cons_zero, List.set_cons_succ])
  | (with_reducible refine p_tup ?_) | (with_reducible refine p_lst ?_) | ((with_reducible refine ⟨?_, ?_⟩); (· exact Nat.le_of_ble_eq_true rfl))
  | ((with_reducible refine p_ex2 (x := ?_) (y := ?_) ?_ ?_); rotate_left; rotate_left; (· rfl); refine ⟨?_, ?_, ?_⟩; (· exact Nat.le_of_ble_eq_true rfl); (· exact Nat.le_of_ble_eq_true rfl); dsimp only [List.set_cons_zero, List.set_cons_succ])
  | ((with_reducible refine p_isT ?_ ?_); (· rfl)) | ((with_reducible refine p_isF ?_ ?_); (· rfl))
  | ((with_reducible refine p_ex (x := ?_) ?_ ?_); rotate_left; (· rfl)))
local macro_rules | `(tactic| walk_at "3") => `(tactic| repeat walk_at "2")
/-! ### comprehensions over rows of pairs -/
section
variable {κ ν β : Type} [Emb κ] [Emb ν]
def in2 (δ : Sl) (a b : Nat) (x y : D) : Sl := ((wipeD δ [a, b]).set a (some x)).set b (some y)
theorem wipe_len : ∀ (vs : List Nat) (δ : Sl), (wipeD δ vs).length = δ.length
  | [], _ => rfl
  | v :: vs, δ => by show ((wipeD δ vs).set v none).length = _; rw [List.length_set, wipe_len vs δ]
theorem g2 {δ : Sl} {S : Sto} {a b : Nat} {x y : D} (ha : a < δ.length) (hb : b < δ.length) (t : List D → D) (ht : t = D.tup ∨ t = D.tux) : gTup (gCons (gName a) (gCons (gName b) gNil)) (t [x, y]) (wipeD δ [a, b]) S = .ok (in2 δ a b x y) S := by
  have e : gTup (gCons (gName a) (gCons (gName b) gNil)) (t [x, y]) (wipeD δ [a, b]) S = gCons (gName a) (gCons (gName b) gNil) [x, y] (wipeD δ [a, b]) S := by rcases ht with rfl | rfl <;> rfl
  rw [e]
  show (gName a x (wipeD δ [a, b]) S).bind (fun δ1 S1 => (gName b y δ1 S1).bind fun δ2 S2 => Res.ok δ2 S2) = _
  unfold gName
  rw [if_pos (by rw [wipe_len]; exact ha)]
  show (Res.bind (if b < ((wipeD δ [a, b]).set a (some x)).length then Res.ok _ S else .stuck) _) = _
  rw [if_pos (by rw [List.length_set, wipe_len]; exact hb)]
  rfl
theorem p_lcRows (rows : List (κ × ν)) (f : κ × ν → β) (tb : β → D) {a b : Nat} {it : RA} {e : RE} {δ : Sl} {S : Sto} {Q : D → Sto → Prop} (hi : it δ S = .ok (rows.map toD) S) (ha : a < δ.length) (hb : b < δ.length) (hl : rows.length ≤ sizeLine)
    (he : ∀ p ∈ rows, e (in2 δ a b (toD p.1) (toD p.2)) S = .ok (tb (f p)) S) (h : Q (.lst ((rows.map f).map tb)) S) : (rLc it (gTup (gCons (gName a) (gCons (gName b) gNil))) [a, b] bYes e δ S).post Q := by
  refine p_lc ?_
  refine Res.post.of_eq hi ?_
  refine Res.post.of_eq (lcTm toD tb f fun p hp => ⟨_, g2 ha hb D.tup (.inl rfl), he p hp⟩) ⟨by rw [List.length_map, List.length_map]; exact hl, h⟩
theorem p_lcItems [DecidableEq κ] [KeyE κ] (rows : List (κ × ν)) (f : κ × ν → Bool) (tb : κ × ν → D) {a b i j : Nat} {t : RB} {e : RE} {δ : Sl} {S : Sto} {u : D} {Q : D → Sto → Prop} (hd : IsDic u rows) (hj : S[j]? = some u) (hv : δ[i]? = some (some (.ptr j))) (ha : a < δ.length) (hb : b < δ.length) (hl : rows.length ≤ sizeLine)
    (ht : ∀ p ∈ rows, t (in2 δ a b (toD p.1) (toD p.2)) (S.set j (.lck u)) = .ok (f p) (S.set j (.lck u)))
    (he : ∀ p ∈ rows, f p = true → e (in2 δ a b (toD p.1) (toD p.2)) (S.set j (.lck u)) = .ok (tb p) (S.set j (.lck u))) (h : Q (.lst ((rows.filter f).map tb)) (S.set j (.lck u))) :
    (rLc (rItems (rVar i)) (gTup (gCons (gName a) (gCons (gName b) gNil))) [a, b] t e δ (S.set j (.lck u))).post Q := by
  refine p_lc ?_
  refine p_items ?_
  refine p_var hv ?_
  refine ⟨_, dic_items hd hj, ?_⟩
  rw [show pairsD (kvD rows) = rows.map (fun p : κ × ν => D.tux [toD p.1, toD p.2]) from by unfold pairsD kvD; rw [List.map_map]; rfl]
  have hf : (rows.filter f).length ≤ rows.length := List.length_filter_le _ _
  refine Res.post.of_eq (lcTf (fun p : κ × ν => D.tux [toD p.1, toD p.2]) tb f fun p hp => ⟨_, g2 ha hb D.tux (.inr rfl), ht p hp, he p hp⟩) ⟨by rw [List.length_map]; omega, h⟩
end
/-! ### rows of fractions -/
end DL
set_option Elab.async false
set_option linter.all false
set_option maxRecDepth 100000
set_option maxHeartbeats 4000000
set_option autoImplicit false
/-! Polys and bodies that are right, as the program looks at them. -/
namespace DL
open PySem L2
open Emb
local macro_rules | `(tactic| walk_at "1") => `(tactic| with_reducible first
  | refine s_seq ?_ | refine s_asg ?_ | refine s_ret ?_ | refine s_if ?_ | refine s_expr ?_ | refine s_next ?_ | refine s_brk ?_ | refine s_cont ?_ | refine s_for ?_ | refine s_while ?_
  | refine p_c ?_ | refine p_bin ?_ | refine p_as ?_ | refine p_cons ?_ | refine p_nil ?_ | refine p_un ?_ | refine p_call ?_ | refine p_if ?_ | refine p_own ?_
  | refine p_keep ?_ | refine p_tru ?_ | refine p_and ?_ | refine p_or ?_ | refine p_not ?_ | refine p_val ?_ | refine p_rand ?_ | refine p_ror ?_ | refine p_rnot ?_ | refine p_chain ?_ | refine p_bif ?_
  | refine o_add ?_ | refine o_sub ?_ | refine o_ltU ?_ | refine o_leU ?_ | refine o_gtU ?_ | refine o_geU ?_ | refine o_neg ?_ | refine o_eqI ?_ | refine o_neI ?_ | refine o_abs ?_ | refine o_tru ?_ | refine p_true ?_ | refine p_false ?_
  | refine o_lenT ?_ | refine o_lenL ?_ | refine o_ix0 ?_ | refine o_ix1 ?_ | refine o_ix2 ?_ | refine o_ix0L ?_ | refine o_ix1L ?_ | refine o_ix2L ?_
  | refine s_par ?_ | refine p_yes ?_ | refine p_seq ?_ | refine s_gnil ?_ | refine s_gcons ?_ | refine s_gtux ?_ | refine s_gtupl ?_ | refine p_onone ?_ | refine p_osome ?_ | refine p_get2 ?_ | refine s_putU ?_ | refine p_sortIt ?_)
local macro_rules | `(tactic| walk_at "2") => `(tactic| first
  | walk_at "1"
  | (with_reducible refine p_var2 ?_)
  | ((with_reducible refine s_name ?_ ?_); (· exact Nat.le_of_ble_eq_true rfl); dsimp only [List.set_cons_zero, List.set_cons_succ])
  | (with_reducible refine p_tup ?_) | (with_reducible refine p_lst ?_) | ((with_reducible refine ⟨?_, ?_⟩); (· exact Nat.le_of_ble_eq_true rfl))
  | ((with_reducible refine p_ex2 (x := ?_) (y := ?_) ?_ ?_); rotate_left; rotate_left; (· rfl); refine ⟨?_, ?_, ?_⟩; (· exact Nat.le_of_ble_eq_true rfl); (· exact Nat.le_of_ble_eq_true rfl); dsimp only [List.set_cons_zero, List.set_cons_succ])
  | ((with_reducible refine p_isT ?_ ?_); (· rfl)) | ((with_reducible refine p_isF ?_ ?_); (· rfl))
  | ((with_reducible refine p_ex (x := ?_) ?_ ?_); rotate_left; (· rfl)))
local macro_rules | `(tactic| walk_at "3") => `(tactic| repeat walk_at "2")
/-! ### names -/
def nm (x : Str) : Bool := nameB (.str x)
theorem letters : ("abcdefghijklmnopqrstuvwxyz" : Str).cps.toList = (List.range 26).map (97 + ·) := by kernel_rfl
theorem nm_iff (x : Str) : nm x = true ↔ 1 ≤ x.length ∧ x.length ≤ 8 ∧ ∀ c ∈ x.cps.toList, 97 ≤ c ∧ c ≤ 122 := by
  have key : ∀ c : Nat, decide (c ∈ ("abcdefghijklmnopqrstuvwxyz" : Str).cps.toList) = decide (97 ≤ c ∧ c ≤ 122) := fun c => by
    rw [letters]
    congr 1
    rw [List.mem_map]
    exact propext ⟨fun ⟨a, h1, h2⟩ => by have := List.mem_range.mp h1; omega, fun h => ⟨c - 97, List.mem_range.mpr (by omega), by omega⟩⟩
  show (decide (1 ≤ x.length) && (decide (x.length ≤ 8) && x.cps.toList.all fun c => decide (c ∈ ("abcdefghijklmnopqrstuvwxyz" : Str).cps.toList))) = true ↔ _
  rw [Bool.and_eq_true, Bool.and_eq_true, decide_eq_true_eq, decide_eq_true_eq, List.all_eq_true]
  constructor
  · rintro ⟨h1, h2, h3⟩
    exact ⟨h1, h2, fun c hc => by have := h3 c hc; rw [key, decide_eq_true_eq] at this; exact this⟩
  · rintro ⟨h1, h2, h3⟩
    exact ⟨h1, h2, fun c hc => by rw [key, decide_eq_true_eq]; exact h3 c hc⟩
/-! ### good things -/
theorem good_strT (n : Nat) {x : Str} (h1 : x.length ≤ 100) (h2 : ∀ c ∈ x.cps.toList, c < 128) : good n (.str x) = true := by
  cases n <;>
  · unfold good
    dsimp only
    rw [Bool.and_eq_true, decide_eq_true_eq, List.all_eq_true]
    exact ⟨h1, fun c hc => decide_eq_true (h2 c hc)⟩
theorem good_nm (n : Nat) {x : Str} (h : nm x = true) : good n (.str x) = true := by
  obtain ⟨h1, h2, h3⟩ := (nm_iff x).mp h
  exact good_strT n (by omega) fun c hc => by have := h3 c hc; omega
/-- a poly of boxes among N, of degree up to d -/
structure PolP (N : List Str) (d : Nat) (p : Pol) : Prop where
  inc : Inc p
  nz : ∀ q ∈ p, q.2 ≠ 0
  ok : OkL N d p
  num : ∀ q ∈ p, q.2.natAbs ≤ 10 ^ 1000
  len : p.length ≤ 300
theorem PolP.le {N : List Str} {d e : Nat} {p : Pol} (h : PolP N d p) (hd : d ≤ e) : PolP N e p := ⟨h.inc, h.nz, h.ok.le hd, h.num, h.len⟩
theorem PolP.sub {N M : List Str} {d : Nat} {p : Pol} (h : PolP N d p) (hs : ∀ x ∈ N, x ∈ M) : PolP M d p := ⟨h.inc, h.nz, fun q hq => (h.ok q hq).sub hs, h.num, h.len⟩
/-! ### looked at -/
/-! ### rows, bodies -/
end DL
set_option Elab.async false
set_option linter.all false
set_option maxRecDepth 100000
set_option maxHeartbeats 4000000
set_option autoImplicit false
/-! The program: bodies let by, boxes, dicts by boxes. -/
namespace DL
open PySem L2
open Emb
local macro_rules | `(tactic| walk_at "1") => `(tactic| with_reducible first
  | refine s_seq ?_ | refine s_asg ?_ | refine s_ret ?_ | refine s_if ?_ | refine s_expr ?_ | refine s_next ?_ | refine s_brk ?_ | refine s_cont ?_ | refine s_for ?_ | refine s_while ?_
  | refine p_c ?_ | refine p_bin ?_ | refine p_as ?_ | refine p_cons ?_ | refine p_nil ?_ | refine p_un ?_ | refine p_call ?_ | refine p_if ?_ | refine p_own ?_
  | refine p_keep ?_ | refine p_tru ?_ | refine p_and ?_ | refine p_or ?_ | refine p_not ?_ | refine p_val ?_ | refine p_rand ?_ | refine p_ror ?_ | refine p_rnot ?_ | refine p_chain ?_ | refine p_bif ?_
  | refine o_add ?_ | refine o_sub ?_ | refine o_ltU ?_ | refine o_leU ?_ | refine o_gtU ?_ | refine o_geU ?_ | refine o_neg ?_ | refine o_eqI ?_ | refine o_neI ?_ | refine o_abs ?_ | refine o_tru ?_ | refine p_true ?_ | refine p_false ?_
  | refine o_lenT ?_ | refine o_lenL ?_ | refine o_ix0 ?_ | refine o_ix1 ?_ | refine o_ix2 ?_ | refine o_ix0L ?_ | refine o_ix1L ?_ | refine o_ix2L ?_
  | refine s_par ?_ | refine p_yes ?_ | refine p_seq ?_ | refine s_gnil ?_ | refine s_gcons ?_ | refine s_gtux ?_ | refine s_gtupl ?_ | refine p_onone ?_ | refine p_osome ?_ | refine p_get2 ?_ | refine s_putU ?_ | refine p_sortIt ?_)
local macro_rules | `(tactic| walk_at "2") => `(tactic| first
  | walk_at "1"
  | (with_reducible refine p_var2 ?_)
  | ((with_reducible refine s_name ?_ ?_); (· exact Nat.le_of_ble_eq_true rfl); dsimp only [List.set_cons_zero, List.set_cons_succ])
  | (with_reducible refine p_tup ?_) | (with_reducible refine p_lst ?_) | ((with_reducible refine ⟨?_, ?_⟩); (· exact Nat.le_of_ble_eq_true rfl))
  | ((with_reducible refine p_ex2 (x := ?_) (y := ?_) ?_ ?_); rotate_left; rotate_left; (· rfl); refine ⟨?_, ?_, ?_⟩; (· exact Nat.le_of_ble_eq_true rfl); (· exact Nat.le_of_ble_eq_true rfl); dsimp only [List.set_cons_zero, List.set_cons_succ])
  | ((with_reducible refine p_isT ?_ ?_); (· rfl)) | ((with_reducible refine p_isF ?_ ?_); (· rfl))
  | ((with_reducible refine p_ex (x := ?_) ?_ ?_); rotate_left; (· rfl)))
local macro_rules | `(tactic| walk_at "3") => `(tactic| repeat walk_at "2")
theorem isDic_of {ν : Type} [Emb ν] (kvs : List (Str × ν)) : IsDic (.dct (kvD kvs)) kvs := .inr (.inl ⟨rfl, rfl⟩)
theorem get_old {S T : Sto} {k : Nat} {u : D} (h : S[k]? = some u) : (S ++ T)[k]? = some u := at_app h
theorem lt_of_at {S : Sto} {k : Nat} {u : D} (h : S[k]? = some u) : k < S.length := (List.getElem?_eq_some_iff.mp h).1
instance : Sok (Str × Pol) := ⟨.inl fun _ => rfl, by decide⟩
/-! ### sets of texts -/
theorem mem_addL {l : List Str} {k x : Str} : x ∈ addL l k ↔ x = k ∨ x ∈ l := by
  unfold addL
  split
  · rename_i h
    constructor
    · exact fun z => .inr z
    · rintro (rfl | z)
      · exact h
      · exact z
  · exact List.mem_cons
theorem nodup_addL {l : List Str} {k : Str} (h : l.Nodup) : (addL l k).Nodup := by
  unfold addL
  split
  · exact h
  · rename_i hn
    exact List.nodup_cons.mpr ⟨hn, h⟩
theorem fold_addL : ∀ (xs l : List Str), l.Nodup → (xs.foldl addL l).Nodup ∧ ∀ x, x ∈ xs.foldl addL l ↔ x ∈ xs ∨ x ∈ l
  | [], l, h => ⟨h, fun x => by simp⟩
  | k :: xs, l, h => by
    obtain ⟨h1, h2⟩ := fold_addL xs (addL l k) (nodup_addL h)
    refine ⟨h1, fun x => ?_⟩
    rw [List.foldl_cons, h2, mem_addL, List.mem_cons]
    constructor
    · rintro (z | z | z)
      · exact .inl (.inr z)
      · exact .inl (.inl z)
      · exact .inr z
    · rintro ((z | z) | z)
      · exact .inr (.inl z)
      · exact .inl z
      · exact .inr (.inr z)
theorem gotL_all (xs : List Str) : (gotL xs xs.length).Nodup ∧ ∀ x, x ∈ gotL xs xs.length ↔ x ∈ xs := by
  unfold gotL
  rw [List.take_length]
  obtain ⟨h1, h2⟩ := fold_addL xs [] List.nodup_nil
  exact ⟨h1, fun x => (h2 x).trans (by simp)⟩
theorem ltS_iff {a b : Str} : ltS a b = true ↔ leT a b = true ∧ a ≠ b := by
  unfold ltS leT
  rw [decide_eq_true_eq, decide_eq_true_eq]
  constructor
  · intro h
    exact ⟨List.le_of_lt h, fun e => by subst e; exact List.lt_irrefl _ h⟩
  · rintro ⟨h1, h2⟩
    rcases Classical.em (a.cps.toList < b.cps.toList) with h | h
    · exact h
    · exact absurd (strT_ext (List.le_antisymm h1 (List.not_lt.mp h))) h2
theorem setT_inc (ts : List Str) : (setT ts).Pairwise fun a b => ltS a b = true := by
  have nd : (setT ts).Nodup := (sortT_perm (gotL ts ts.length)).nodup_iff.mpr (gotL_all ts).1
  exact List.Pairwise.imp₂ (fun a b h1 h2 => ltS_iff.mpr ⟨h1, h2⟩) (sortT_pairwise (gotL ts ts.length)) nd
/-! ### the program -/
/-- the boxes of a poly -/
def bxsM (p : Pol) : List (Str × Int) := p.foldl (fun acc q => mergeT acc q.1) []
def bxs (p : Pol) : List Str := sortT ((bxsM p).map (·.1))
end DL
set_option Elab.async false
set_option linter.all false
set_option maxRecDepth 100000
set_option maxHeartbeats 4000000
set_option autoImplicit false
/-! The program: products, degrees, polys put together. -/
namespace DL
open PySem L2
open Emb
local macro_rules | `(tactic| walk_at "1") => `(tactic| with_reducible first
  | refine s_seq ?_ | refine s_asg ?_ | refine s_ret ?_ | refine s_if ?_ | refine s_expr ?_ | refine s_next ?_ | refine s_brk ?_ | refine s_cont ?_ | refine s_for ?_ | refine s_while ?_
  | refine p_c ?_ | refine p_bin ?_ | refine p_as ?_ | refine p_cons ?_ | refine p_nil ?_ | refine p_un ?_ | refine p_call ?_ | refine p_if ?_ | refine p_own ?_
  | refine p_keep ?_ | refine p_tru ?_ | refine p_and ?_ | refine p_or ?_ | refine p_not ?_ | refine p_val ?_ | refine p_rand ?_ | refine p_ror ?_ | refine p_rnot ?_ | refine p_chain ?_ | refine p_bif ?_
  | refine o_add ?_ | refine o_sub ?_ | refine o_ltU ?_ | refine o_leU ?_ | refine o_gtU ?_ | refine o_geU ?_ | refine o_neg ?_ | refine o_eqI ?_ | refine o_neI ?_ | refine o_abs ?_ | refine o_tru ?_ | refine p_true ?_ | refine p_false ?_
  | refine o_lenT ?_ | refine o_lenL ?_ | refine o_ix0 ?_ | refine o_ix1 ?_ | refine o_ix2 ?_ | refine o_ix0L ?_ | refine o_ix1L ?_ | refine o_ix2L ?_
  | refine s_par ?_ | refine p_yes ?_ | refine p_seq ?_ | refine s_gnil ?_ | refine s_gcons ?_ | refine s_gtux ?_ | refine s_gtupl ?_ | refine p_onone ?_ | refine p_osome ?_ | refine p_get2 ?_ | refine s_putU ?_ | refine p_sortIt ?_)
local macro_rules | `(tactic| walk_at "2") => `(tactic| first
  | walk_at "1"
  | (with_reducible refine p_var2 ?_)
  | ((with_reducible refine s_name ?_ ?_); (· exact Nat.le_of_ble_eq_true rfl); dsimp only [List.set_cons_zero, List.set_cons_succ])
  | (with_reducible refine p_tup ?_) | (with_reducible refine p_lst ?_) | ((with_reducible refine ⟨?_, ?_⟩); (· exact Nat.le_of_ble_eq_true rfl))
  | ((with_reducible refine p_ex2 (x := ?_) (y := ?_) ?_ ?_); rotate_left; rotate_left; (· rfl); refine ⟨?_, ?_, ?_⟩; (· exact Nat.le_of_ble_eq_true rfl); (· exact Nat.le_of_ble_eq_true rfl); dsimp only [List.set_cons_zero, List.set_cons_succ])
  | ((with_reducible refine p_isT ?_ ?_); (· rfl)) | ((with_reducible refine p_isF ?_ ?_); (· rfl))
  | ((with_reducible refine p_ex (x := ?_) ?_ ?_); rotate_left; (· rfl)))
local macro_rules | `(tactic| walk_at "3") => `(tactic| repeat walk_at "2")
theorem mono_product_spec {N : List Str} {d e : Nat} {one other : Mono} (h1 : MonP N d one) (h2 : MonP N e other) (hl : d + e ≤ 1000) (S : Sto) (hS : Sane S) : m_mono_product [toD one, toD other] S = .ok (toD (mmulz one other)) S := by
  have l1 := h1.len.1
  have l2 := h2.len.1
  have n1 := inc_nd h1.inc
  refine m_defJ hS (cl (κ := Mono) _ _) ?_
  show (b_mono_product [some (toD one), some (toD other), none, none, none] S).post _ _ _ _
  unfold b_mono_product
  have sl : 3000 ≤ sizeLine := by decide
  obtain ⟨u, _, e, hu⟩ := dict_of S one
  walk_at "3"
  refine p_lift (show gDict S [toD one] = some u from e) ?_
  walk_at "3"
  refine .inr (.inl ⟨other.map toD, rfl, ?_⟩)
  refine s_forT toD (fun xs δ S2 => ∃ (acc : Mono) (u : D) (o3 o4 : Option D), S2 = S ++ [u] ∧ IsDic u acc ∧ addAllz acc xs = mfoldz one other ∧ acc.length + xs.length ≤ 1000 ∧ δ = [some (toD one), some (toD other), some (.ptr S.length), o3, o4]) ?_ ?_ _ _ _ ⟨mergeT [] one, u, none, none, rfl, hu, rfl, by rw [merge_id n1]; omega, rfl⟩
  · rintro x xs δ S2 ⟨acc, u, o3, o4, rfl, hu, hf, hl, rfl⟩
    rw [List.length_cons] at hl
    show (gTup _ (.tup [toD x.1, toD x.2]) _ _).post _
    walk_at "3"
    refine ⟨dic_isDct hu (get_app (S := S)), ?_⟩
    walk_at "3"
    refine ⟨_, dic_lookU hu (get_app (S := S)) x.1, ?_⟩
    have ev : ((getT acc x.1).map toD).getD (.int 0) = .int ((getT acc x.1).getD 0) := by cases getT acc x.1 <;> rfl
    rw [ev, toD_int]
    walk_at "3"
    obtain ⟨u', e', hu'⟩ := dic_putU hu (by omega) x.1 ((getT acc x.1).getD 0 + x.2)
    refine ⟨S.length, u, u', rfl, get_app, e', ?_⟩
    rw [set_app]
    have := put_len acc x.1 ((getT acc x.1).getD 0 + x.2)
    exact ⟨addz acc x.1 x.2, u', _, _, rfl, hu', hf, by show (putT _ _ _).length + _ ≤ _; omega, rfl⟩
  · rintro δ S2 ⟨acc, u, o3, o4, rfl, hu, hf, hl, rfl⟩
    have hf : acc = mfoldz one other := hf
    subst hf
    walk_at "3"
    refine ⟨(mmulz one other).map toD, ?_, ?_⟩
    · rw [dic_itemsOf hu get_app]
      show sortD _ ((mfoldz one other).map toD) = _
      exact sortD_emb _ _ (by simp at hl; omega)
    · walk_at "3"
      refine p_lift (show gTuple _ [.lst ((mmulz one other).map toD)] = some (.tup ((mmulz one other).map toD)) from rfl) ?_
      exact ⟨rfl, take_app⟩
/-! ### two dicts put together -/
/-- one more at a key -/
theorem add_at {κ : Type} [Emb κ] [DecidableEq κ] [KeyE κ] {S : Sto} {j : Nat} {u : D} {kvs : List (κ × Int)} (h : IsDic u kvs) (hj : S[j]? = some u) (hl : kvs.length < sizeLine) (k : κ) (v : Int) :
    isDct S (.ptr j) = true ∧ lookU S (.ptr j) (toD k) = some ((getT kvs k).map toD) ∧ ((getT kvs k).map toD).getD (.int 0) = .int ((getT kvs k).getD 0) ∧ ∃ u', putU u (toD k) (.int ((getT kvs k).getD 0 + v)) = some u' ∧ IsDic u' (addz kvs k v) := by
  refine ⟨dic_isDct h hj, dic_lookU h hj k, by cases getT kvs k <;> rfl, ?_⟩
  exact dic_putU h hl k ((getT kvs k).getD 0 + v)
theorem addAllz_app {κ : Type} [DecidableEq κ] (acc a b : List (κ × Int)) : addAllz acc (a ++ b) = addAllz (addAllz acc a) b := List.foldl_append ..
theorem len_addAllz {κ : Type} [DecidableEq κ] : ∀ (L acc : List (κ × Int)), (addAllz acc L).length ≤ acc.length + L.length
  | [], acc => by show acc.length ≤ acc.length + 0; omega
  | p :: r, acc => by
    have h1 := len_addAllz r (addz acc p.1 p.2)
    have h2 := put_len acc p.1 ((getT acc p.1).getD 0 + p.2)
    have h2 : (addz acc p.1 p.2).length ≤ acc.length + 1 := h2
    rw [List.length_cons]
    show (addAllz (addz acc p.1 p.2) r).length ≤ _
    omega
end DL
set_option Elab.async false
set_option linter.all false
set_option maxRecDepth 100000
set_option maxHeartbeats 4000000
set_option autoImplicit false
/-! The program: rows of sums, degrees of what is put. -/
namespace DL
open PySem L2
open Emb
local macro_rules | `(tactic| walk_at "1") => `(tactic| with_reducible first
  | refine s_seq ?_ | refine s_asg ?_ | refine s_ret ?_ | refine s_if ?_ | refine s_expr ?_ | refine s_next ?_ | refine s_brk ?_ | refine s_cont ?_ | refine s_for ?_ | refine s_while ?_
  | refine p_c ?_ | refine p_bin ?_ | refine p_as ?_ | refine p_cons ?_ | refine p_nil ?_ | refine p_un ?_ | refine p_call ?_ | refine p_if ?_ | refine p_own ?_
  | refine p_keep ?_ | refine p_tru ?_ | refine p_and ?_ | refine p_or ?_ | refine p_not ?_ | refine p_val ?_ | refine p_rand ?_ | refine p_ror ?_ | refine p_rnot ?_ | refine p_chain ?_ | refine p_bif ?_
  | refine o_add ?_ | refine o_sub ?_ | refine o_ltU ?_ | refine o_leU ?_ | refine o_gtU ?_ | refine o_geU ?_ | refine o_neg ?_ | refine o_eqI ?_ | refine o_neI ?_ | refine o_abs ?_ | refine o_tru ?_ | refine p_true ?_ | refine p_false ?_
  | refine o_lenT ?_ | refine o_lenL ?_ | refine o_ix0 ?_ | refine o_ix1 ?_ | refine o_ix2 ?_ | refine o_ix0L ?_ | refine o_ix1L ?_ | refine o_ix2L ?_
  | refine s_par ?_ | refine p_yes ?_ | refine p_seq ?_ | refine s_gnil ?_ | refine s_gcons ?_ | refine s_gtux ?_ | refine s_gtupl ?_ | refine p_onone ?_ | refine p_osome ?_ | refine p_get2 ?_ | refine s_putU ?_ | refine p_sortIt ?_)
local macro_rules | `(tactic| walk_at "2") => `(tactic| first
  | walk_at "1"
  | (with_reducible refine p_var2 ?_)
  | ((with_reducible refine s_name ?_ ?_); (· exact Nat.le_of_ble_eq_true rfl); dsimp only [List.set_cons_zero, List.set_cons_succ])
  | (with_reducible refine p_tup ?_) | (with_reducible refine p_lst ?_) | ((with_reducible refine ⟨?_, ?_⟩); (· exact Nat.le_of_ble_eq_true rfl))
  | ((with_reducible refine p_ex2 (x := ?_) (y := ?_) ?_ ?_); rotate_left; rotate_left; (· rfl); refine ⟨?_, ?_, ?_⟩; (· exact Nat.le_of_ble_eq_true rfl); (· exact Nat.le_of_ble_eq_true rfl); dsimp only [List.set_cons_zero, List.set_cons_succ])
  | ((with_reducible refine p_isT ?_ ?_); (· rfl)) | ((with_reducible refine p_isF ?_ ?_); (· rfl))
  | ((with_reducible refine p_ex (x := ?_) ?_ ?_); rotate_left; (· rfl)))
local macro_rules | `(tactic| walk_at "3") => `(tactic| repeat walk_at "2")
theorem o_any {S : Sto} {bs : List Bool} {Q : D → Sto → Prop} (h : Q (.bl (bs.any id)) S) : (Res.lift (gAny S [.lst (bs.map .bl)]) S).post Q := p_lift (by unfold gAny deref; dsimp only; rw [asBls_map]; rfl) h
theorem o_getD {κ ν : Type} [Emb κ] [Emb ν] [DecidableEq κ] [KeyE κ] {S : Sto} {j : Nat} {u : D} {kvs : List (κ × ν)} {Q : D → Sto → Prop} (h : IsDic u kvs) (hj : S[j]? = some u) {k : κ} {v : ν} (e : getT kvs k = some v) (q : Q (toD v) S) : (Res.lift (gGetU S (.ptr j) (toD k)) S).post Q := p_lift (by
  unfold gGetU
  rw [dic_lookU h hj k, e]
  rfl) q
/-- the store of S with u on top, and whatever else -/
structure Stk (S S2 : Sto) (u : D) : Prop where
  tk : S2.take S.length = S
  at_ : S2[S.length]? = some u
  sn : Sane S2
theorem Stk.app {S S2 : Sto} {u v : D} (h : Stk S S2 u) (hv : D.closed (S2.length + 1) v = true) : Stk S (S2 ++ [v]) u := by
  have l := lt_of_at h.at_
  refine ⟨?_, get_old h.at_, sane_app h.sn hv⟩
  rw [List.take_append_of_le_length (by omega)]
  exact h.tk
theorem Stk.get {S S2 : Sto} {u v : D} {k : Nat} (h : Stk S S2 u) (hk : S[k]? = some v) : S2[k]? = some v := by
  have l := lt_of_at hk
  have e : (S2.take S.length)[k]? = S[k]? := by rw [h.tk]
  rw [List.getElem?_take_of_lt l] at e
  rw [e]
  exact hk
theorem take_set_le {S : Sto} {n k : Nat} {v : D} (h : n ≤ k) : (S.set k v).take n = S.take n := by
  refine List.ext_getElem? fun i => ?_
  by_cases hi : i < n
  · rw [List.getElem?_take_of_lt hi, List.getElem?_take_of_lt hi, List.getElem?_set_ne (by omega)]
  · rw [List.getElem?_eq_none (by rw [List.length_take]; omega), List.getElem?_eq_none (by rw [List.length_take]; omega)]
theorem Stk.set {S S2 : Sto} {u u' : D} (h : Stk S S2 u) (hv : D.closed S2.length u' = true) : Stk S (S2.set S.length u') u' := by
  refine ⟨?_, List.getElem?_set_self (lt_of_at h.at_), sane_set h.sn hv⟩
  rw [take_set_le (Nat.le_refl _)]
  exact h.tk
theorem Stk.setO {S S2 : Sto} {u v : D} {k : Nat} (h : Stk S S2 u) (hk : S.length < k) (hv : D.closed S2.length v = true) : Stk S (S2.set k v) u := by
  refine ⟨?_, ?_, sane_set h.sn hv⟩
  · rw [take_set_le (by omega)]
    exact h.tk
  · rw [List.getElem?_set_ne (by omega)]
    exact h.at_
/-! ### rows -/
theorem poly_of_spec {S : Sto} {j : Nat} {u : D} {kvs : Pol} (hS : Sane S) (hd : IsDic u kvs) (hj : S[j]? = some u) (hl : kvs.length ≤ 1000) (h3 : (rowz kvs).length ≤ 300) (hb : ∀ p ∈ rowz kvs, p.2.natAbs ≤ 10 ^ 1000) : m_poly_of [.ptr j] S = .ok (toD (rowz kvs)) S := by
  have ln : (kvs.filter fzz).length ≤ kvs.length := List.length_filter_le _ _
  have sl : 2000 ≤ sizeLine := by decide
  refine m_defJ hS (cl _ _) ?_
  have hb' : b_poly_of = (sSeq (sLock 0 (sAsg (rAs gTuple (rCons (rKeep (rAs gSorted (rCons (rKeep (rLc (rItems (rVar 0)) (gTup (gCons (gName 2) (gCons (gName 3) gNil))) [2, 3] (bVal (rBin gNe (rVar 3) (rC (.int 0)))) (rTup (rCons (rVar 2) (rCons (rVar 3) rNil))))) rNil))) rNil)) (gName 1)))
    (sSeq (sIf (bVal (rBin gGtU (rAs gLen (rCons (rVar 1) rNil)) (rC (.int 300)))) sNever sNext)
    (sSeq (sIf (bTru (rAs gAny (rCons (rKeep (rLc (rSeq (rVar 1)) (gTup (gCons (gName 2) (gCons (gName 3) gNil))) [2, 3] bYes (rBin gGtU (rAs gAbs (rCons (rVar 3) rNil)) (rC (.int GZ))))) rNil))) sNever sNext)
    (sRet (rVar 1))))) := rfl
  show (b_poly_of [some (.ptr j), none, none, none] S).post _ _ _ _
  rw [hb']
  have hsm : ∀ p ∈ rowz kvs, ((p.2.natAbs : Int) ≤ GZ) := fun p hp => by
    have := hb p hp
    rw [gz_nat] at this
    have g0 := gz_pos
    generalize GZ = g at *
    omega
  generalize GZ = g at *
  refine s_seq ?_
  refine s_lockS hd hj rfl ?_
  walk_at "3"
  refine p_lcItems kvs fzz toD hd hj rfl (Nat.le_of_ble_eq_true rfl) (Nat.le_of_ble_eq_true rfl) (by omega) (fun p hp => ?_) (fun p hp _ => ?_) ?_
  · refine exact_of ?_
    dsimp only [in2, wipeD, List.set_cons_zero, List.set_cons_succ]
    rw [toD_int]
    walk_at "3"
    exact ⟨rfl, rfl⟩
  · refine exact_of ?_
    dsimp only [in2, wipeD, List.set_cons_zero, List.set_cons_succ]
    walk_at "3"
    exact ⟨rfl, rfl⟩
  · walk_at "3"
    refine p_lift (a := .lst ((rowz kvs).map toD)) (show Option.map D.lst (sortD _ ((kvs.filter fzz).map toD)) = _ from by rw [sortD_emb _ _ (by omega)]; rfl) ?_
    walk_at "3"
    refine p_lift (show gTuple _ [.lst ((rowz kvs).map toD)] = some (.tup ((rowz kvs).map toD)) from rfl) ?_
    walk_at "3"
    refine ⟨rfl, ?_⟩
    walk_at "3"
    refine ⟨fun z => absurd (of_decide_eq_true z) (by rw [List.length_map]; omega), fun _ => ?_⟩
    walk_at "3"
    refine p_lcRows (rowz kvs) (fun p => decide (g < (p.2.natAbs : Int))) D.bl (exact_of (p_seq (p_var rfl (.inr (.inl ⟨_, rfl, rfl, rfl⟩))))) (Nat.le_of_ble_eq_true rfl) (Nat.le_of_ble_eq_true rfl) (by omega) (fun p hp => ?_) ?_
    · refine exact_of ?_
      dsimp only [in2, wipeD, List.set_cons_zero, List.set_cons_succ]
      rw [toD_int]
      walk_at "3"
      exact ⟨rfl, rfl⟩
    · walk_at "3"
      refine o_any ?_
      have ea : ((rowz kvs).map (fun p => decide (g < (p.2.natAbs : Int)))).any id = false := by
        refine List.any_eq_false.mpr fun b hb => ?_
        obtain ⟨p, hp, rfl⟩ := List.mem_map.mp hb
        have := hsm p hp
        simp
        omega
      rw [ea]
      walk_at "3"
      exact ⟨rfl, List.take_length⟩
/-! ### what is put -/
def boxz (b : Str) : Pol := [([(b, 1)], 1)]
def plf (pls : List (Str × Pol)) (b : Str) : Pol := (getT pls b).getD (boxz b)
/-- all that is asked of a row's poly and of what is put -/
structure PutOk (N : List Str) (dg w : Str → Nat) (X dm W C : Nat) (pls : List (Str × Pol)) (poly : Pol) : Prop where
  d12 : dm ≤ 12
  c3 : C ≤ 300
  cnt : ∀ L : List Mono, L.Nodup → (∀ m ∈ L, MonP N dm m) → L.length ≤ C
  x1 : 1 ≤ X
  xw : X ^ W ≤ 10 ^ 1000
  pl : ∀ b ∈ N, OkL N (dg b) (plf pls b) ∧ ND (plf pls b) ∧ nrm (plf pls b) ≤ X ^ w b
  mn : ∀ p ∈ poly, MonP N 12 p.1 ∧ wdeg dg p.1 ≤ dm ∧ wdeg w p.1 ≤ W
  nr : nrm poly * X ^ W ≤ 10 ^ 1000
theorem PutOk.few {N : List Str} {dg w : Str → Nat} {X dm W C : Nat} {pls : List (Str × Pol)} {poly : Pol} (h : PutOk N dg w X dm W C pls poly) {L : Pol} (hn : ND L) (ho : OkL N dm L) : L.length ≤ C := by
  have := h.cnt (List.map Prod.fst L) hn fun m hm => by
    obtain ⟨p, hp, rfl⟩ := List.mem_map.mp hm
    exact ho p hp
  rwa [List.length_map] at this
end DL
set_option Elab.async false
set_option linter.all false
set_option maxRecDepth 100000
set_option maxHeartbeats 4000000
set_option autoImplicit false
/-! The program: polys put for boxes, steps. -/
namespace DL
open PySem L2
open Emb
local macro_rules | `(tactic| walk_at "1") => `(tactic| with_reducible first
  | refine s_seq ?_ | refine s_asg ?_ | refine s_ret ?_ | refine s_if ?_ | refine s_expr ?_ | refine s_next ?_ | refine s_brk ?_ | refine s_cont ?_ | refine s_for ?_ | refine s_while ?_
  | refine p_c ?_ | refine p_bin ?_ | refine p_as ?_ | refine p_cons ?_ | refine p_nil ?_ | refine p_un ?_ | refine p_call ?_ | refine p_if ?_ | refine p_own ?_
  | refine p_keep ?_ | refine p_tru ?_ | refine p_and ?_ | refine p_or ?_ | refine p_not ?_ | refine p_val ?_ | refine p_rand ?_ | refine p_ror ?_ | refine p_rnot ?_ | refine p_chain ?_ | refine p_bif ?_
  | refine o_add ?_ | refine o_sub ?_ | refine o_ltU ?_ | refine o_leU ?_ | refine o_gtU ?_ | refine o_geU ?_ | refine o_neg ?_ | refine o_eqI ?_ | refine o_neI ?_ | refine o_abs ?_ | refine o_tru ?_ | refine p_true ?_ | refine p_false ?_
  | refine o_lenT ?_ | refine o_lenL ?_ | refine o_ix0 ?_ | refine o_ix1 ?_ | refine o_ix2 ?_ | refine o_ix0L ?_ | refine o_ix1L ?_ | refine o_ix2L ?_
  | refine s_par ?_ | refine p_yes ?_ | refine p_seq ?_ | refine s_gnil ?_ | refine s_gcons ?_ | refine s_gtux ?_ | refine s_gtupl ?_ | refine p_onone ?_ | refine p_osome ?_ | refine p_get2 ?_ | refine s_putU ?_ | refine p_sortIt ?_)
local macro_rules | `(tactic| walk_at "2") => `(tactic| first
  | walk_at "1"
  | (with_reducible refine p_var2 ?_)
  | ((with_reducible refine s_name ?_ ?_); (· exact Nat.le_of_ble_eq_true rfl); dsimp only [List.set_cons_zero, List.set_cons_succ])
  | (with_reducible refine p_tup ?_) | (with_reducible refine p_lst ?_) | ((with_reducible refine ⟨?_, ?_⟩); (· exact Nat.le_of_ble_eq_true rfl))
  | ((with_reducible refine p_ex2 (x := ?_) (y := ?_) ?_ ?_); rotate_left; rotate_left; (· rfl); refine ⟨?_, ?_, ?_⟩; (· exact Nat.le_of_ble_eq_true rfl); (· exact Nat.le_of_ble_eq_true rfl); dsimp only [List.set_cons_zero, List.set_cons_succ])
  | ((with_reducible refine p_isT ?_ ?_); (· rfl)) | ((with_reducible refine p_isF ?_ ?_); (· rfl))
  | ((with_reducible refine p_ex (x := ?_) ?_ ?_); rotate_left; (· rfl)))
local macro_rules | `(tactic| walk_at "3") => `(tactic| repeat walk_at "2")
end DL
set_option Elab.async false
set_option linter.all false
set_option maxRecDepth 100000
set_option maxHeartbeats 4000000
set_option autoImplicit false
/-! The program: steps, boxes of bodies. -/
namespace DL
open PySem L2
open Emb
local macro_rules | `(tactic| walk_at "1") => `(tactic| with_reducible first
  | refine s_seq ?_ | refine s_asg ?_ | refine s_ret ?_ | refine s_if ?_ | refine s_expr ?_ | refine s_next ?_ | refine s_brk ?_ | refine s_cont ?_ | refine s_for ?_ | refine s_while ?_
  | refine p_c ?_ | refine p_bin ?_ | refine p_as ?_ | refine p_cons ?_ | refine p_nil ?_ | refine p_un ?_ | refine p_call ?_ | refine p_if ?_ | refine p_own ?_
  | refine p_keep ?_ | refine p_tru ?_ | refine p_and ?_ | refine p_or ?_ | refine p_not ?_ | refine p_val ?_ | refine p_rand ?_ | refine p_ror ?_ | refine p_rnot ?_ | refine p_chain ?_ | refine p_bif ?_
  | refine o_add ?_ | refine o_sub ?_ | refine o_ltU ?_ | refine o_leU ?_ | refine o_gtU ?_ | refine o_geU ?_ | refine o_neg ?_ | refine o_eqI ?_ | refine o_neI ?_ | refine o_abs ?_ | refine o_tru ?_ | refine p_true ?_ | refine p_false ?_
  | refine o_lenT ?_ | refine o_lenL ?_ | refine o_ix0 ?_ | refine o_ix1 ?_ | refine o_ix2 ?_ | refine o_ix0L ?_ | refine o_ix1L ?_ | refine o_ix2L ?_
  | refine s_par ?_ | refine p_yes ?_ | refine p_seq ?_ | refine s_gnil ?_ | refine s_gcons ?_ | refine s_gtux ?_ | refine s_gtupl ?_ | refine p_onone ?_ | refine p_osome ?_ | refine p_get2 ?_ | refine s_putU ?_ | refine p_sortIt ?_)
local macro_rules | `(tactic| walk_at "2") => `(tactic| first
  | walk_at "1"
  | (with_reducible refine p_var2 ?_)
  | ((with_reducible refine s_name ?_ ?_); (· exact Nat.le_of_ble_eq_true rfl); dsimp only [List.set_cons_zero, List.set_cons_succ])
  | (with_reducible refine p_tup ?_) | (with_reducible refine p_lst ?_) | ((with_reducible refine ⟨?_, ?_⟩); (· exact Nat.le_of_ble_eq_true rfl))
  | ((with_reducible refine p_ex2 (x := ?_) (y := ?_) ?_ ?_); rotate_left; rotate_left; (· rfl); refine ⟨?_, ?_, ?_⟩; (· exact Nat.le_of_ble_eq_true rfl); (· exact Nat.le_of_ble_eq_true rfl); dsimp only [List.set_cons_zero, List.set_cons_succ])
  | ((with_reducible refine p_isT ?_ ?_); (· rfl)) | ((with_reducible refine p_isF ?_ ?_); (· rfl))
  | ((with_reducible refine p_ex (x := ?_) ?_ ?_); rotate_left; (· rfl)))
local macro_rules | `(tactic| walk_at "3") => `(tactic| repeat walk_at "2")
abbrev Rows := List (Str × Pol)
abbrev Nums := List (Str × Int)
/-! ### boxes -/
def bodyBx (rows : Rows) : List Str := setT (setT (rows.map fun r => r.1) ++ rows.flatMap fun r => bxs r.2)
theorem o_catS {S : Sto} {a b : List Str} {Q : D → Sto → Prop} (hl : a.length + b.length ≤ sizeLine) (h : Q (.lst ((a ++ b).map .str)) S) : (Res.lift (gCat S (.lst (a.map .str)) (.lst (b.map .str))) S).post Q := p_lift (by
  show (if (a.map D.str).length + (b.map D.str).length ≤ sizeLine then some (D.lst (a.map .str ++ b.map .str)) else none) = _
  rw [List.length_map, List.length_map, if_pos hl, List.map_append]) h
end DL
set_option Elab.async false
set_option linter.all false
set_option maxRecDepth 100000
set_option maxHeartbeats 4000000
set_option autoImplicit false
/-! The program: rounds. -/
namespace DL
open PySem L2
open Emb
local macro_rules | `(tactic| walk_at "1") => `(tactic| with_reducible first
  | refine s_seq ?_ | refine s_asg ?_ | refine s_ret ?_ | refine s_if ?_ | refine s_expr ?_ | refine s_next ?_ | refine s_brk ?_ | refine s_cont ?_ | refine s_for ?_ | refine s_while ?_
  | refine p_c ?_ | refine p_bin ?_ | refine p_as ?_ | refine p_cons ?_ | refine p_nil ?_ | refine p_un ?_ | refine p_call ?_ | refine p_if ?_ | refine p_own ?_
  | refine p_keep ?_ | refine p_tru ?_ | refine p_and ?_ | refine p_or ?_ | refine p_not ?_ | refine p_val ?_ | refine p_rand ?_ | refine p_ror ?_ | refine p_rnot ?_ | refine p_chain ?_ | refine p_bif ?_
  | refine o_add ?_ | refine o_sub ?_ | refine o_ltU ?_ | refine o_leU ?_ | refine o_gtU ?_ | refine o_geU ?_ | refine o_neg ?_ | refine o_eqI ?_ | refine o_neI ?_ | refine o_abs ?_ | refine o_tru ?_ | refine p_true ?_ | refine p_false ?_
  | refine o_lenT ?_ | refine o_lenL ?_ | refine o_ix0 ?_ | refine o_ix1 ?_ | refine o_ix2 ?_ | refine o_ix0L ?_ | refine o_ix1L ?_ | refine o_ix2L ?_
  | refine s_par ?_ | refine p_yes ?_ | refine p_seq ?_ | refine s_gnil ?_ | refine s_gcons ?_ | refine s_gtux ?_ | refine s_gtupl ?_ | refine p_onone ?_ | refine p_osome ?_ | refine p_get2 ?_ | refine s_putU ?_ | refine p_sortIt ?_)
local macro_rules | `(tactic| walk_at "2") => `(tactic| first
  | walk_at "1"
  | (with_reducible refine p_var2 ?_)
  | ((with_reducible refine s_name ?_ ?_); (· exact Nat.le_of_ble_eq_true rfl); dsimp only [List.set_cons_zero, List.set_cons_succ])
  | (with_reducible refine p_tup ?_) | (with_reducible refine p_lst ?_) | ((with_reducible refine ⟨?_, ?_⟩); (· exact Nat.le_of_ble_eq_true rfl))
  | ((with_reducible refine p_ex2 (x := ?_) (y := ?_) ?_ ?_); rotate_left; rotate_left; (· rfl); refine ⟨?_, ?_, ?_⟩; (· exact Nat.le_of_ble_eq_true rfl); (· exact Nat.le_of_ble_eq_true rfl); dsimp only [List.set_cons_zero, List.set_cons_succ])
  | ((with_reducible refine p_isT ?_ ?_); (· rfl)) | ((with_reducible refine p_isF ?_ ?_); (· rfl))
  | ((with_reducible refine p_ex (x := ?_) ?_ ?_); rotate_left; (· rfl)))
local macro_rules | `(tactic| walk_at "3") => `(tactic| repeat walk_at "2")
theorem p_append2 {δ : Sl} {S : Sto} {x e : RE} {k : Nat} {Q : D → Sto → Prop} (h : (x δ S).post fun d S1 => d = .ptr k ∧ (∃ xs0, S1[k]? = some (.lst xs0)) ∧ (e δ S1).post fun y S2 => ∃ xs, S2[k]? = some (.lst xs) ∧ xs.length < sizeLine ∧ Q .non (S2.set k (.lst (xs ++ [y])))) : (rMeth "list" mAppend x (rCons e rNil) δ S).post Q := by
  refine p_meth (h.mono fun d S1 ⟨e1, ⟨xs0, e2⟩, q⟩ => ?_)
  subst e1
  refine ⟨?_, ?_⟩
  · unfold isTy
    rw [deref_at e2]
    rfl
  · refine p_cons (q.mono fun y S2 ⟨xs, e3, e4, q2⟩ => p_nil ?_)
    refine ⟨.non, S2.set k (.lst (xs ++ [y])), ?_, q2⟩
    unfold mAppend
    dsimp only
    rw [e3]
    dsimp only
    rw [if_pos e4]
/-! ### begun -/
end DL
set_option Elab.async false
set_option linter.all false
set_option maxRecDepth 100000
set_option maxHeartbeats 4000000
set_option autoImplicit false
/-! The program: values, one round. -/
namespace DL
open PySem L2
open Emb
local macro_rules | `(tactic| walk_at "1") => `(tactic| with_reducible first
  | refine s_seq ?_ | refine s_asg ?_ | refine s_ret ?_ | refine s_if ?_ | refine s_expr ?_ | refine s_next ?_ | refine s_brk ?_ | refine s_cont ?_ | refine s_for ?_ | refine s_while ?_
  | refine p_c ?_ | refine p_bin ?_ | refine p_as ?_ | refine p_cons ?_ | refine p_nil ?_ | refine p_un ?_ | refine p_call ?_ | refine p_if ?_ | refine p_own ?_
  | refine p_keep ?_ | refine p_tru ?_ | refine p_and ?_ | refine p_or ?_ | refine p_not ?_ | refine p_val ?_ | refine p_rand ?_ | refine p_ror ?_ | refine p_rnot ?_ | refine p_chain ?_ | refine p_bif ?_
  | refine o_add ?_ | refine o_sub ?_ | refine o_ltU ?_ | refine o_leU ?_ | refine o_gtU ?_ | refine o_geU ?_ | refine o_neg ?_ | refine o_eqI ?_ | refine o_neI ?_ | refine o_abs ?_ | refine o_tru ?_ | refine p_true ?_ | refine p_false ?_
  | refine o_lenT ?_ | refine o_lenL ?_ | refine o_ix0 ?_ | refine o_ix1 ?_ | refine o_ix2 ?_ | refine o_ix0L ?_ | refine o_ix1L ?_ | refine o_ix2L ?_
  | refine s_par ?_ | refine p_yes ?_ | refine p_seq ?_ | refine s_gnil ?_ | refine s_gcons ?_ | refine s_gtux ?_ | refine s_gtupl ?_ | refine p_onone ?_ | refine p_osome ?_ | refine p_get2 ?_ | refine s_putU ?_ | refine p_sortIt ?_)
local macro_rules | `(tactic| walk_at "2") => `(tactic| first
  | walk_at "1"
  | (with_reducible refine p_var2 ?_)
  | ((with_reducible refine s_name ?_ ?_); (· exact Nat.le_of_ble_eq_true rfl); dsimp only [List.set_cons_zero, List.set_cons_succ])
  | (with_reducible refine p_tup ?_) | (with_reducible refine p_lst ?_) | ((with_reducible refine ⟨?_, ?_⟩); (· exact Nat.le_of_ble_eq_true rfl))
  | ((with_reducible refine p_ex2 (x := ?_) (y := ?_) ?_ ?_); rotate_left; rotate_left; (· rfl); refine ⟨?_, ?_, ?_⟩; (· exact Nat.le_of_ble_eq_true rfl); (· exact Nat.le_of_ble_eq_true rfl); dsimp only [List.set_cons_zero, List.set_cons_succ])
  | ((with_reducible refine p_isT ?_ ?_); (· rfl)) | ((with_reducible refine p_isF ?_ ?_); (· rfl))
  | ((with_reducible refine p_ex (x := ?_) ?_ ?_); rotate_left; (· rfl)))
local macro_rules | `(tactic| walk_at "3") => `(tactic| repeat walk_at "2")
/-! ### one round -/
end DL
set_option Elab.async false
set_option linter.all false
set_option maxRecDepth 100000
set_option maxHeartbeats 4000000
set_option autoImplicit false
/-! The law: sums told, products, what is put. -/
namespace DL
open PySem L2
open Emb
local macro_rules | `(tactic| walk_at "1") => `(tactic| with_reducible first
  | refine s_seq ?_ | refine s_asg ?_ | refine s_ret ?_ | refine s_if ?_ | refine s_expr ?_ | refine s_next ?_ | refine s_brk ?_ | refine s_cont ?_ | refine s_for ?_ | refine s_while ?_
  | refine p_c ?_ | refine p_bin ?_ | refine p_as ?_ | refine p_cons ?_ | refine p_nil ?_ | refine p_un ?_ | refine p_call ?_ | refine p_if ?_ | refine p_own ?_
  | refine p_keep ?_ | refine p_tru ?_ | refine p_and ?_ | refine p_or ?_ | refine p_not ?_ | refine p_val ?_ | refine p_rand ?_ | refine p_ror ?_ | refine p_rnot ?_ | refine p_chain ?_ | refine p_bif ?_
  | refine o_add ?_ | refine o_sub ?_ | refine o_ltU ?_ | refine o_leU ?_ | refine o_gtU ?_ | refine o_geU ?_ | refine o_neg ?_ | refine o_eqI ?_ | refine o_neI ?_ | refine o_abs ?_ | refine o_tru ?_ | refine p_true ?_ | refine p_false ?_
  | refine o_lenT ?_ | refine o_lenL ?_ | refine o_ix0 ?_ | refine o_ix1 ?_ | refine o_ix2 ?_ | refine o_ix0L ?_ | refine o_ix1L ?_ | refine o_ix2L ?_
  | refine s_par ?_ | refine p_yes ?_ | refine p_seq ?_ | refine s_gnil ?_ | refine s_gcons ?_ | refine s_gtux ?_ | refine s_gtupl ?_ | refine p_onone ?_ | refine p_osome ?_ | refine p_get2 ?_ | refine s_putU ?_ | refine p_sortIt ?_)
local macro_rules | `(tactic| walk_at "2") => `(tactic| first
  | walk_at "1"
  | (with_reducible refine p_var2 ?_)
  | ((with_reducible refine s_name ?_ ?_); (· exact Nat.le_of_ble_eq_true rfl); dsimp only [List.set_cons_zero, List.set_cons_succ])
  | (with_reducible refine p_tup ?_) | (with_reducible refine p_lst ?_) | ((with_reducible refine ⟨?_, ?_⟩); (· exact Nat.le_of_ble_eq_true rfl))
  | ((with_reducible refine p_ex2 (x := ?_) (y := ?_) ?_ ?_); rotate_left; rotate_left; (· rfl); refine ⟨?_, ?_, ?_⟩; (· exact Nat.le_of_ble_eq_true rfl); (· exact Nat.le_of_ble_eq_true rfl); dsimp only [List.set_cons_zero, List.set_cons_succ])
  | ((with_reducible refine p_isT ?_ ?_); (· rfl)) | ((with_reducible refine p_isF ?_ ?_); (· rfl))
  | ((with_reducible refine p_ex (x := ?_) ?_ ?_); rotate_left; (· rfl)))
local macro_rules | `(tactic| walk_at "3") => `(tactic| repeat walk_at "2")
/-! ### what the law comes to -/
/-! ### dicts of anything by texts -/
/-! ### told -/
end DL
set_option Elab.async false
set_option linter.all false
set_option maxRecDepth 100000
set_option maxHeartbeats 4000000
set_option autoImplicit false
/-! The law: products, what is put. -/
namespace DL
open PySem L2
open Emb
local macro_rules | `(tactic| walk_at "1") => `(tactic| with_reducible first
  | refine s_seq ?_ | refine s_asg ?_ | refine s_ret ?_ | refine s_if ?_ | refine s_expr ?_ | refine s_next ?_ | refine s_brk ?_ | refine s_cont ?_ | refine s_for ?_ | refine s_while ?_
  | refine p_c ?_ | refine p_bin ?_ | refine p_as ?_ | refine p_cons ?_ | refine p_nil ?_ | refine p_un ?_ | refine p_call ?_ | refine p_if ?_ | refine p_own ?_
  | refine p_keep ?_ | refine p_tru ?_ | refine p_and ?_ | refine p_or ?_ | refine p_not ?_ | refine p_val ?_ | refine p_rand ?_ | refine p_ror ?_ | refine p_rnot ?_ | refine p_chain ?_ | refine p_bif ?_
  | refine o_add ?_ | refine o_sub ?_ | refine o_ltU ?_ | refine o_leU ?_ | refine o_gtU ?_ | refine o_geU ?_ | refine o_neg ?_ | refine o_eqI ?_ | refine o_neI ?_ | refine o_abs ?_ | refine o_tru ?_ | refine p_true ?_ | refine p_false ?_
  | refine o_lenT ?_ | refine o_lenL ?_ | refine o_ix0 ?_ | refine o_ix1 ?_ | refine o_ix2 ?_ | refine o_ix0L ?_ | refine o_ix1L ?_ | refine o_ix2L ?_
  | refine s_par ?_ | refine p_yes ?_ | refine p_seq ?_ | refine s_gnil ?_ | refine s_gcons ?_ | refine s_gtux ?_ | refine s_gtupl ?_ | refine p_onone ?_ | refine p_osome ?_ | refine p_get2 ?_ | refine s_putU ?_ | refine p_sortIt ?_)
local macro_rules | `(tactic| walk_at "2") => `(tactic| first
  | walk_at "1"
  | (with_reducible refine p_var2 ?_)
  | ((with_reducible refine s_name ?_ ?_); (· exact Nat.le_of_ble_eq_true rfl); dsimp only [List.set_cons_zero, List.set_cons_succ])
  | (with_reducible refine p_tup ?_) | (with_reducible refine p_lst ?_) | ((with_reducible refine ⟨?_, ?_⟩); (· exact Nat.le_of_ble_eq_true rfl))
  | ((with_reducible refine p_ex2 (x := ?_) (y := ?_) ?_ ?_); rotate_left; rotate_left; (· rfl); refine ⟨?_, ?_, ?_⟩; (· exact Nat.le_of_ble_eq_true rfl); (· exact Nat.le_of_ble_eq_true rfl); dsimp only [List.set_cons_zero, List.set_cons_succ])
  | ((with_reducible refine p_isT ?_ ?_); (· rfl)) | ((with_reducible refine p_isF ?_ ?_); (· rfl))
  | ((with_reducible refine p_ex (x := ?_) ?_ ?_); rotate_left; (· rfl)))
local macro_rules | `(tactic| walk_at "3") => `(tactic| repeat walk_at "2")
theorem Stk.base {S S2 : Sto} {u v : D} {k : Nat} (h : Stk S S2 u) (hk : k < S.length) (hv : D.closed S2.length v = true) : Stk (S.set k v) (S2.set k v) u := by
  refine ⟨?_, ?_, sane_set h.sn hv⟩
  · rw [List.length_set, List.take_set, h.tk]
  · rw [List.length_set, List.getElem?_set_ne (by omega)]
    exact h.at_
end DL
set_option Elab.async false
set_option linter.all false
set_option maxRecDepth 100000
set_option maxHeartbeats 4000000
set_option autoImplicit false
/-! The law: what is put. -/
namespace DL
open PySem L2
open Emb
local macro_rules | `(tactic| walk_at "1") => `(tactic| with_reducible first
  | refine s_seq ?_ | refine s_asg ?_ | refine s_ret ?_ | refine s_if ?_ | refine s_expr ?_ | refine s_next ?_ | refine s_brk ?_ | refine s_cont ?_ | refine s_for ?_ | refine s_while ?_
  | refine p_c ?_ | refine p_bin ?_ | refine p_as ?_ | refine p_cons ?_ | refine p_nil ?_ | refine p_un ?_ | refine p_call ?_ | refine p_if ?_ | refine p_own ?_
  | refine p_keep ?_ | refine p_tru ?_ | refine p_and ?_ | refine p_or ?_ | refine p_not ?_ | refine p_val ?_ | refine p_rand ?_ | refine p_ror ?_ | refine p_rnot ?_ | refine p_chain ?_ | refine p_bif ?_
  | refine o_add ?_ | refine o_sub ?_ | refine o_ltU ?_ | refine o_leU ?_ | refine o_gtU ?_ | refine o_geU ?_ | refine o_neg ?_ | refine o_eqI ?_ | refine o_neI ?_ | refine o_abs ?_ | refine o_tru ?_ | refine p_true ?_ | refine p_false ?_
  | refine o_lenT ?_ | refine o_lenL ?_ | refine o_ix0 ?_ | refine o_ix1 ?_ | refine o_ix2 ?_ | refine o_ix0L ?_ | refine o_ix1L ?_ | refine o_ix2L ?_
  | refine s_par ?_ | refine p_yes ?_ | refine p_seq ?_ | refine s_gnil ?_ | refine s_gcons ?_ | refine s_gtux ?_ | refine s_gtupl ?_ | refine p_onone ?_ | refine p_osome ?_ | refine p_get2 ?_ | refine s_putU ?_ | refine p_sortIt ?_)
local macro_rules | `(tactic| walk_at "2") => `(tactic| first
  | walk_at "1"
  | (with_reducible refine p_var2 ?_)
  | ((with_reducible refine s_name ?_ ?_); (· exact Nat.le_of_ble_eq_true rfl); dsimp only [List.set_cons_zero, List.set_cons_succ])
  | (with_reducible refine p_tup ?_) | (with_reducible refine p_lst ?_) | ((with_reducible refine ⟨?_, ?_⟩); (· exact Nat.le_of_ble_eq_true rfl))
  | ((with_reducible refine p_ex2 (x := ?_) (y := ?_) ?_ ?_); rotate_left; rotate_left; (· rfl); refine ⟨?_, ?_, ?_⟩; (· exact Nat.le_of_ble_eq_true rfl); (· exact Nat.le_of_ble_eq_true rfl); dsimp only [List.set_cons_zero, List.set_cons_succ])
  | ((with_reducible refine p_isT ?_ ?_); (· rfl)) | ((with_reducible refine p_isF ?_ ?_); (· rfl))
  | ((with_reducible refine p_ex (x := ?_) ?_ ?_); rotate_left; (· rfl)))
local macro_rules | `(tactic| walk_at "3") => `(tactic| repeat walk_at "2")
/-! ### steps -/
end DL
set_option Elab.async false
set_option linter.all false
set_option maxRecDepth 100000
set_option maxHeartbeats 4000000
set_option autoImplicit false
/-! The law: steps. -/
namespace DL
open PySem L2
open Emb
local macro_rules | `(tactic| walk_at "1") => `(tactic| with_reducible first
  | refine s_seq ?_ | refine s_asg ?_ | refine s_ret ?_ | refine s_if ?_ | refine s_expr ?_ | refine s_next ?_ | refine s_brk ?_ | refine s_cont ?_ | refine s_for ?_ | refine s_while ?_
  | refine p_c ?_ | refine p_bin ?_ | refine p_as ?_ | refine p_cons ?_ | refine p_nil ?_ | refine p_un ?_ | refine p_call ?_ | refine p_if ?_ | refine p_own ?_
  | refine p_keep ?_ | refine p_tru ?_ | refine p_and ?_ | refine p_or ?_ | refine p_not ?_ | refine p_val ?_ | refine p_rand ?_ | refine p_ror ?_ | refine p_rnot ?_ | refine p_chain ?_ | refine p_bif ?_
  | refine o_add ?_ | refine o_sub ?_ | refine o_ltU ?_ | refine o_leU ?_ | refine o_gtU ?_ | refine o_geU ?_ | refine o_neg ?_ | refine o_eqI ?_ | refine o_neI ?_ | refine o_abs ?_ | refine o_tru ?_ | refine p_true ?_ | refine p_false ?_
  | refine o_lenT ?_ | refine o_lenL ?_ | refine o_ix0 ?_ | refine o_ix1 ?_ | refine o_ix2 ?_ | refine o_ix0L ?_ | refine o_ix1L ?_ | refine o_ix2L ?_
  | refine s_par ?_ | refine p_yes ?_ | refine p_seq ?_ | refine s_gnil ?_ | refine s_gcons ?_ | refine s_gtux ?_ | refine s_gtupl ?_ | refine p_onone ?_ | refine p_osome ?_ | refine p_get2 ?_ | refine s_putU ?_ | refine p_sortIt ?_)
local macro_rules | `(tactic| walk_at "2") => `(tactic| first
  | walk_at "1"
  | (with_reducible refine p_var2 ?_)
  | ((with_reducible refine s_name ?_ ?_); (· exact Nat.le_of_ble_eq_true rfl); dsimp only [List.set_cons_zero, List.set_cons_succ])
  | (with_reducible refine p_tup ?_) | (with_reducible refine p_lst ?_) | ((with_reducible refine ⟨?_, ?_⟩); (· exact Nat.le_of_ble_eq_true rfl))
  | ((with_reducible refine p_ex2 (x := ?_) (y := ?_) ?_ ?_); rotate_left; rotate_left; (· rfl); refine ⟨?_, ?_, ?_⟩; (· exact Nat.le_of_ble_eq_true rfl); (· exact Nat.le_of_ble_eq_true rfl); dsimp only [List.set_cons_zero, List.set_cons_succ])
  | ((with_reducible refine p_isT ?_ ?_); (· rfl)) | ((with_reducible refine p_isF ?_ ?_); (· rfl))
  | ((with_reducible refine p_ex (x := ?_) ?_ ?_); rotate_left; (· rfl)))
local macro_rules | `(tactic| walk_at "3") => `(tactic| repeat walk_at "2")
end DL
set_option Elab.async false
set_option linter.all false
set_option maxRecDepth 100000
set_option maxHeartbeats 4000000
set_option autoImplicit false
/-! The law: boxes, rounds. -/
namespace DL
open PySem L2
open Emb
local macro_rules | `(tactic| walk_at "1") => `(tactic| with_reducible first
  | refine s_seq ?_ | refine s_asg ?_ | refine s_ret ?_ | refine s_if ?_ | refine s_expr ?_ | refine s_next ?_ | refine s_brk ?_ | refine s_cont ?_ | refine s_for ?_ | refine s_while ?_
  | refine p_c ?_ | refine p_bin ?_ | refine p_as ?_ | refine p_cons ?_ | refine p_nil ?_ | refine p_un ?_ | refine p_call ?_ | refine p_if ?_ | refine p_own ?_
  | refine p_keep ?_ | refine p_tru ?_ | refine p_and ?_ | refine p_or ?_ | refine p_not ?_ | refine p_val ?_ | refine p_rand ?_ | refine p_ror ?_ | refine p_rnot ?_ | refine p_chain ?_ | refine p_bif ?_
  | refine o_add ?_ | refine o_sub ?_ | refine o_ltU ?_ | refine o_leU ?_ | refine o_gtU ?_ | refine o_geU ?_ | refine o_neg ?_ | refine o_eqI ?_ | refine o_neI ?_ | refine o_abs ?_ | refine o_tru ?_ | refine p_true ?_ | refine p_false ?_
  | refine o_lenT ?_ | refine o_lenL ?_ | refine o_ix0 ?_ | refine o_ix1 ?_ | refine o_ix2 ?_ | refine o_ix0L ?_ | refine o_ix1L ?_ | refine o_ix2L ?_
  | refine s_par ?_ | refine p_yes ?_ | refine p_seq ?_ | refine s_gnil ?_ | refine s_gcons ?_ | refine s_gtux ?_ | refine s_gtupl ?_ | refine p_onone ?_ | refine p_osome ?_ | refine p_get2 ?_ | refine s_putU ?_ | refine p_sortIt ?_)
local macro_rules | `(tactic| walk_at "2") => `(tactic| first
  | walk_at "1"
  | (with_reducible refine p_var2 ?_)
  | ((with_reducible refine s_name ?_ ?_); (· exact Nat.le_of_ble_eq_true rfl); dsimp only [List.set_cons_zero, List.set_cons_succ])
  | (with_reducible refine p_tup ?_) | (with_reducible refine p_lst ?_) | ((with_reducible refine ⟨?_, ?_⟩); (· exact Nat.le_of_ble_eq_true rfl))
  | ((with_reducible refine p_ex2 (x := ?_) (y := ?_) ?_ ?_); rotate_left; rotate_left; (· rfl); refine ⟨?_, ?_, ?_⟩; (· exact Nat.le_of_ble_eq_true rfl); (· exact Nat.le_of_ble_eq_true rfl); dsimp only [List.set_cons_zero, List.set_cons_succ])
  | ((with_reducible refine p_isT ?_ ?_); (· rfl)) | ((with_reducible refine p_isF ?_ ?_); (· rfl))
  | ((with_reducible refine p_ex (x := ?_) ?_ ?_); rotate_left; (· rfl)))
local macro_rules | `(tactic| walk_at "3") => `(tactic| repeat walk_at "2")
instance : Emb Bool where
  toD := .bl
  py := .bool
  deg := 0
  pyOk := fun _ _ => rfl
  np := fun _ _ h => nomatch h
  al := fun a b => by simp [PySem.W.alike]
  dep := fun a => by simp [PyData.depth]
  inj := fun a b h => by simpa [PyData.eqv] using h
  cl := fun _ _ => rfl
end DL
set_option Elab.async false
set_option linter.all false
set_option maxRecDepth 100000
set_option maxHeartbeats 4000000
set_option autoImplicit false
/-! The law: rounds. -/
namespace DL
open PySem L2
open Emb
local macro_rules | `(tactic| walk_at "1") => `(tactic| with_reducible first
  | refine s_seq ?_ | refine s_asg ?_ | refine s_ret ?_ | refine s_if ?_ | refine s_expr ?_ | refine s_next ?_ | refine s_brk ?_ | refine s_cont ?_ | refine s_for ?_ | refine s_while ?_
  | refine p_c ?_ | refine p_bin ?_ | refine p_as ?_ | refine p_cons ?_ | refine p_nil ?_ | refine p_un ?_ | refine p_call ?_ | refine p_if ?_ | refine p_own ?_
  | refine p_keep ?_ | refine p_tru ?_ | refine p_and ?_ | refine p_or ?_ | refine p_not ?_ | refine p_val ?_ | refine p_rand ?_ | refine p_ror ?_ | refine p_rnot ?_ | refine p_chain ?_ | refine p_bif ?_
  | refine o_add ?_ | refine o_sub ?_ | refine o_ltU ?_ | refine o_leU ?_ | refine o_gtU ?_ | refine o_geU ?_ | refine o_neg ?_ | refine o_eqI ?_ | refine o_neI ?_ | refine o_abs ?_ | refine o_tru ?_ | refine p_true ?_ | refine p_false ?_
  | refine o_lenT ?_ | refine o_lenL ?_ | refine o_ix0 ?_ | refine o_ix1 ?_ | refine o_ix2 ?_ | refine o_ix0L ?_ | refine o_ix1L ?_ | refine o_ix2L ?_
  | refine s_par ?_ | refine p_yes ?_ | refine p_seq ?_ | refine s_gnil ?_ | refine s_gcons ?_ | refine s_gtux ?_ | refine s_gtupl ?_ | refine p_onone ?_ | refine p_osome ?_ | refine p_get2 ?_ | refine s_putU ?_ | refine p_sortIt ?_)
local macro_rules | `(tactic| walk_at "2") => `(tactic| first
  | walk_at "1"
  | (with_reducible refine p_var2 ?_)
  | ((with_reducible refine s_name ?_ ?_); (· exact Nat.le_of_ble_eq_true rfl); dsimp only [List.set_cons_zero, List.set_cons_succ])
  | (with_reducible refine p_tup ?_) | (with_reducible refine p_lst ?_) | ((with_reducible refine ⟨?_, ?_⟩); (· exact Nat.le_of_ble_eq_true rfl))
  | ((with_reducible refine p_ex2 (x := ?_) (y := ?_) ?_ ?_); rotate_left; rotate_left; (· rfl); refine ⟨?_, ?_, ?_⟩; (· exact Nat.le_of_ble_eq_true rfl); (· exact Nat.le_of_ble_eq_true rfl); dsimp only [List.set_cons_zero, List.set_cons_succ])
  | ((with_reducible refine p_isT ?_ ?_); (· rfl)) | ((with_reducible refine p_isF ?_ ?_); (· rfl))
  | ((with_reducible refine p_ex (x := ?_) ?_ ?_); rotate_left; (· rfl)))
local macro_rules | `(tactic| walk_at "3") => `(tactic| repeat walk_at "2")
/-- numbers for all boxes of a body -/
structure NumB (rows : Rows) (nums : Nums) : Prop where
  key : nums.map (·.1) = bodyBx rows
  num : ∀ p ∈ nums, p.2.natAbs ≤ 1000
theorem bx_nd (rows : Rows) : (bodyBx rows).Nodup := (setT_inc _).imp fun z => (ltS_iff.mp z).2
theorem NumB.nd {rows : Rows} {nums : Nums} (h : NumB rows nums) : ND nums := by
  unfold ND
  rw [h.key]
  exact bx_nd rows
end DL
set_option Elab.async false
set_option linter.all false
set_option maxRecDepth 100000
set_option maxHeartbeats 4000000
set_option autoImplicit false
/-! The law: likes. -/
namespace DL
open PySem L2
open Emb
local macro_rules | `(tactic| walk_at "1") => `(tactic| with_reducible first
  | refine s_seq ?_ | refine s_asg ?_ | refine s_ret ?_ | refine s_if ?_ | refine s_expr ?_ | refine s_next ?_ | refine s_brk ?_ | refine s_cont ?_ | refine s_for ?_ | refine s_while ?_
  | refine p_c ?_ | refine p_bin ?_ | refine p_as ?_ | refine p_cons ?_ | refine p_nil ?_ | refine p_un ?_ | refine p_call ?_ | refine p_if ?_ | refine p_own ?_
  | refine p_keep ?_ | refine p_tru ?_ | refine p_and ?_ | refine p_or ?_ | refine p_not ?_ | refine p_val ?_ | refine p_rand ?_ | refine p_ror ?_ | refine p_rnot ?_ | refine p_chain ?_ | refine p_bif ?_
  | refine o_add ?_ | refine o_sub ?_ | refine o_ltU ?_ | refine o_leU ?_ | refine o_gtU ?_ | refine o_geU ?_ | refine o_neg ?_ | refine o_eqI ?_ | refine o_neI ?_ | refine o_abs ?_ | refine o_tru ?_ | refine p_true ?_ | refine p_false ?_
  | refine o_lenT ?_ | refine o_lenL ?_ | refine o_ix0 ?_ | refine o_ix1 ?_ | refine o_ix2 ?_ | refine o_ix0L ?_ | refine o_ix1L ?_ | refine o_ix2L ?_
  | refine s_par ?_ | refine p_yes ?_ | refine p_seq ?_ | refine s_gnil ?_ | refine s_gcons ?_ | refine s_gtux ?_ | refine s_gtupl ?_ | refine p_onone ?_ | refine p_osome ?_ | refine p_get2 ?_ | refine s_putU ?_ | refine p_sortIt ?_)
local macro_rules | `(tactic| walk_at "2") => `(tactic| first
  | walk_at "1"
  | (with_reducible refine p_var2 ?_)
  | ((with_reducible refine s_name ?_ ?_); (· exact Nat.le_of_ble_eq_true rfl); dsimp only [List.set_cons_zero, List.set_cons_succ])
  | (with_reducible refine p_tup ?_) | (with_reducible refine p_lst ?_) | ((with_reducible refine ⟨?_, ?_⟩); (· exact Nat.le_of_ble_eq_true rfl))
  | ((with_reducible refine p_ex2 (x := ?_) (y := ?_) ?_ ?_); rotate_left; rotate_left; (· rfl); refine ⟨?_, ?_, ?_⟩; (· exact Nat.le_of_ble_eq_true rfl); (· exact Nat.le_of_ble_eq_true rfl); dsimp only [List.set_cons_zero, List.set_cons_succ])
  | ((with_reducible refine p_isT ?_ ?_); (· rfl)) | ((with_reducible refine p_isF ?_ ?_); (· rfl))
  | ((with_reducible refine p_ex (x := ?_) ?_ ?_); rotate_left; (· rfl)))
local macro_rules | `(tactic| walk_at "3") => `(tactic| repeat walk_at "2")
/-! ### what is flat -/
end DL
set_option Elab.async false
set_option linter.all false
set_option maxRecDepth 100000
set_option maxHeartbeats 4000000
set_option autoImplicit false
/-! The law: draws. -/
namespace DL
open PySem L2
open Emb
local macro_rules | `(tactic| walk_at "1") => `(tactic| with_reducible first
  | refine s_seq ?_ | refine s_asg ?_ | refine s_ret ?_ | refine s_if ?_ | refine s_expr ?_ | refine s_next ?_ | refine s_brk ?_ | refine s_cont ?_ | refine s_for ?_ | refine s_while ?_
  | refine p_c ?_ | refine p_bin ?_ | refine p_as ?_ | refine p_cons ?_ | refine p_nil ?_ | refine p_un ?_ | refine p_call ?_ | refine p_if ?_ | refine p_own ?_
  | refine p_keep ?_ | refine p_tru ?_ | refine p_and ?_ | refine p_or ?_ | refine p_not ?_ | refine p_val ?_ | refine p_rand ?_ | refine p_ror ?_ | refine p_rnot ?_ | refine p_chain ?_ | refine p_bif ?_
  | refine o_add ?_ | refine o_sub ?_ | refine o_ltU ?_ | refine o_leU ?_ | refine o_gtU ?_ | refine o_geU ?_ | refine o_neg ?_ | refine o_eqI ?_ | refine o_neI ?_ | refine o_abs ?_ | refine o_tru ?_ | refine p_true ?_ | refine p_false ?_
  | refine o_lenT ?_ | refine o_lenL ?_ | refine o_ix0 ?_ | refine o_ix1 ?_ | refine o_ix2 ?_ | refine o_ix0L ?_ | refine o_ix1L ?_ | refine o_ix2L ?_
  | refine s_par ?_ | refine p_yes ?_ | refine p_seq ?_ | refine s_gnil ?_ | refine s_gcons ?_ | refine s_gtux ?_ | refine s_gtupl ?_ | refine p_onone ?_ | refine p_osome ?_ | refine p_get2 ?_ | refine s_putU ?_ | refine p_sortIt ?_)
local macro_rules | `(tactic| walk_at "2") => `(tactic| first
  | walk_at "1"
  | (with_reducible refine p_var2 ?_)
  | ((with_reducible refine s_name ?_ ?_); (· exact Nat.le_of_ble_eq_true rfl); dsimp only [List.set_cons_zero, List.set_cons_succ])
  | (with_reducible refine p_tup ?_) | (with_reducible refine p_lst ?_) | ((with_reducible refine ⟨?_, ?_⟩); (· exact Nat.le_of_ble_eq_true rfl))
  | ((with_reducible refine p_ex2 (x := ?_) (y := ?_) ?_ ?_); rotate_left; rotate_left; (· rfl); refine ⟨?_, ?_, ?_⟩; (· exact Nat.le_of_ble_eq_true rfl); (· exact Nat.le_of_ble_eq_true rfl); dsimp only [List.set_cons_zero, List.set_cons_succ])
  | ((with_reducible refine p_isT ?_ ?_); (· rfl)) | ((with_reducible refine p_isF ?_ ?_); (· rfl))
  | ((with_reducible refine p_ex (x := ?_) ?_ ?_); rotate_left; (· rfl)))
local macro_rules | `(tactic| walk_at "3") => `(tactic| repeat walk_at "2")
theorem strok_nm {x : Str} (h : nm x = true) : PyData.strOk x = true := by
  have h' := (nm_iff x).mp h
  unfold PyData.strOk
  rw [Array.all_eq_true']
  intro c hc
  have := h'.2.2 c (by simpa using hc)
  exact decide_eq_true (by omega)
/-! ### the state of the draws -/
def stW (a b : Int) : D := .dct (kvD (κ := Str) (ν := Int) [("digits", a), ("number", b)])
def StG (a b : Int) : Prop := 0 ≤ a ∧ a < 10 ^ 120 ∧ 0 ≤ b ∧ b < 2 ^ 40
structure Ds (j : Nat) (S : Sto) : Prop where
  sn : Sane S
  at_ : ∃ a b, S[j]? = some (stW a b) ∧ StG a b
def Dr (j : Nat) (S S' : Sto) : Prop := ∃ a b, S' = S.set j (stW a b) ∧ StG a b
/-- within a def that draws -/
structure In (j : Nat) (S S2 : Sto) : Prop where
  sn : Sane S2
  tk : ∃ a b, S2.take S.length = S.set j (stW a b) ∧ StG a b
section
variable {j : Nat} {S S2 S3 : Sto}
theorem Ds.lt (h : Ds j S) : j < S.length := by
  obtain ⟨a, b, h, _⟩ := h.at_
  exact lt_of_at h
theorem Ds.in_ (h : Ds j S) : In j S S := by
  obtain ⟨a, b, e, g⟩ := h.at_
  refine ⟨h.sn, a, b, ?_, g⟩
  rw [List.take_length]
  have hlt := lt_of_at e
  have := (List.getElem?_eq_some_iff.mp e).2
  rw [← this]
  exact (List.set_getElem_self hlt).symm
theorem In.len (h : In j S S2) : S.length ≤ S2.length := by
  obtain ⟨a, b, e, _⟩ := h.tk
  have : (S2.take S.length).length = S.length := by rw [e, List.length_set]
  rw [List.length_take] at this
  omega
theorem In.app {v : D} (h : In j S S2) (hv : D.closed (S2.length + 1) v = true) : In j S (S2 ++ [v]) := by
  obtain ⟨a, b, e, g⟩ := h.tk
  refine ⟨sane_app h.sn hv, a, b, ?_, g⟩
  rw [List.take_append_of_le_length h.len]
  exact e
theorem In.setO {v : D} {k : Nat} (h : In j S S2) (hk : S.length ≤ k) (hv : D.closed S2.length v = true) : In j S (S2.set k v) := by
  obtain ⟨a, b, e, g⟩ := h.tk
  refine ⟨sane_set h.sn hv, a, b, ?_, g⟩
  rw [take_set_le hk]
  exact e
theorem Dr.get {k : Nat} {v : D} (d : Dr j S S2) (hk : S[k]? = some v) (hne : k ≠ j) : S2[k]? = some v := by
  obtain ⟨a, b, rfl, _⟩ := d
  rw [List.getElem?_set_ne (by omega)]
  exact hk
theorem Dr.len (d : Dr j S S2) : S2.length = S.length := by
  obtain ⟨a, b, rfl, _⟩ := d
  exact List.length_set
/-! one draw -/
end
end DL
set_option Elab.async false
set_option linter.all false
set_option maxRecDepth 100000
set_option maxHeartbeats 4000000
set_option autoImplicit false
/-! The law: begun, names. -/
namespace DL
open PySem L2
open Emb
local macro_rules | `(tactic| walk_at "1") => `(tactic| with_reducible first
  | refine s_seq ?_ | refine s_asg ?_ | refine s_ret ?_ | refine s_if ?_ | refine s_expr ?_ | refine s_next ?_ | refine s_brk ?_ | refine s_cont ?_ | refine s_for ?_ | refine s_while ?_
  | refine p_c ?_ | refine p_bin ?_ | refine p_as ?_ | refine p_cons ?_ | refine p_nil ?_ | refine p_un ?_ | refine p_call ?_ | refine p_if ?_ | refine p_own ?_
  | refine p_keep ?_ | refine p_tru ?_ | refine p_and ?_ | refine p_or ?_ | refine p_not ?_ | refine p_val ?_ | refine p_rand ?_ | refine p_ror ?_ | refine p_rnot ?_ | refine p_chain ?_ | refine p_bif ?_
  | refine o_add ?_ | refine o_sub ?_ | refine o_ltU ?_ | refine o_leU ?_ | refine o_gtU ?_ | refine o_geU ?_ | refine o_neg ?_ | refine o_eqI ?_ | refine o_neI ?_ | refine o_abs ?_ | refine o_tru ?_ | refine p_true ?_ | refine p_false ?_
  | refine o_lenT ?_ | refine o_lenL ?_ | refine o_ix0 ?_ | refine o_ix1 ?_ | refine o_ix2 ?_ | refine o_ix0L ?_ | refine o_ix1L ?_ | refine o_ix2L ?_
  | refine s_par ?_ | refine p_yes ?_ | refine p_seq ?_ | refine s_gnil ?_ | refine s_gcons ?_ | refine s_gtux ?_ | refine s_gtupl ?_ | refine p_onone ?_ | refine p_osome ?_ | refine p_get2 ?_ | refine s_putU ?_ | refine p_sortIt ?_)
local macro_rules | `(tactic| walk_at "2") => `(tactic| first
  | walk_at "1"
  | (with_reducible refine p_var2 ?_)
  | ((with_reducible refine s_name ?_ ?_); (· exact Nat.le_of_ble_eq_true rfl); dsimp only [List.set_cons_zero, List.set_cons_succ])
  | (with_reducible refine p_tup ?_) | (with_reducible refine p_lst ?_) | ((with_reducible refine ⟨?_, ?_⟩); (· exact Nat.le_of_ble_eq_true rfl))
  | ((with_reducible refine p_ex2 (x := ?_) (y := ?_) ?_ ?_); rotate_left; rotate_left; (· rfl); refine ⟨?_, ?_, ?_⟩; (· exact Nat.le_of_ble_eq_true rfl); (· exact Nat.le_of_ble_eq_true rfl); dsimp only [List.set_cons_zero, List.set_cons_succ])
  | ((with_reducible refine p_isT ?_ ?_); (· rfl)) | ((with_reducible refine p_isF ?_ ?_); (· rfl))
  | ((with_reducible refine p_ex (x := ?_) ?_ ?_); rotate_left; (· rfl)))
local macro_rules | `(tactic| walk_at "3") => `(tactic| repeat walk_at "2")
theorem asStrs_of : ∀ xs : List Str, asStrs (xs.map .str) = some xs
  | [] => rfl
  | b :: r => by unfold List.map asStrs; rw [asStrs_of r]; rfl
/-! ### begun -/
theorem at_nat {A : Type} {xs : List A} {k : Nat} {d : A} (h : xs[k]? = some d) : atI xs (k : Int) = some d := by
  have hl := (List.getElem?_eq_some_iff.mp h).1
  unfold atI ixN
  rw [if_pos (by omega), if_pos (by omega)]
  exact h
/-! ### names -/
theorem closed_strs {n : Nat} (xs : List Str) : D.closed n (.lst (xs.map .str)) = true := by
  unfold D.closed
  rw [show xs.map D.str = xs.map toD from rfl]
  exact emb_closed _ _
theorem cutD_from {A : Type} (xs : List A) {k : Nat} (hk : k ≤ xs.length) : cutD xs (some (k : Int)) none = xs.drop k := by
  unfold cutD
  have e : HT.sIx xs.length 0 (some (k : Int)) = min k xs.length := HT.sIx_nat _ _ k
  rw [e, HT.sIx_none, Nat.min_eq_left hk]
  exact List.take_of_length_le (by rw [List.length_drop]; omega)
theorem p_splitQ {ro rf : RE} {δ : Sl} {S : Sto} {Q : D → Sto → Prop} (h : (ro δ S).post fun x S1 => (rf δ S1).post fun y S2 => ∃ a b, x = .str a ∧ y = .str b ∧ ((b.length == 0) = false ∧ a.length + 2 ≤ sizeLine) ∧ Q (.lst ((Txt.split a b).map .str)) S2) : (rSplit ro rf δ S).post Q :=
  p_bind (h.mono fun x S1 q => by
    obtain ⟨y, S2, e, a, b, e1, e2, e3, q'⟩ := q.ex
    subst e1
    refine p_bind ?_
    rw [e]
    subst e2
    exact p_lift (by unfold gSplit; dsimp only; rw [if_pos e3]) q')
end DL
set_option Elab.async false
set_option linter.all false
set_option maxRecDepth 100000
set_option maxHeartbeats 4000000
set_option autoImplicit false
/-! The law: polys drawn, degrees. -/
namespace DL
open PySem L2
open Emb
local macro_rules | `(tactic| walk_at "1") => `(tactic| with_reducible first
  | refine s_seq ?_ | refine s_asg ?_ | refine s_ret ?_ | refine s_if ?_ | refine s_expr ?_ | refine s_next ?_ | refine s_brk ?_ | refine s_cont ?_ | refine s_for ?_ | refine s_while ?_
  | refine p_c ?_ | refine p_bin ?_ | refine p_as ?_ | refine p_cons ?_ | refine p_nil ?_ | refine p_un ?_ | refine p_call ?_ | refine p_if ?_ | refine p_own ?_
  | refine p_keep ?_ | refine p_tru ?_ | refine p_and ?_ | refine p_or ?_ | refine p_not ?_ | refine p_val ?_ | refine p_rand ?_ | refine p_ror ?_ | refine p_rnot ?_ | refine p_chain ?_ | refine p_bif ?_
  | refine o_add ?_ | refine o_sub ?_ | refine o_ltU ?_ | refine o_leU ?_ | refine o_gtU ?_ | refine o_geU ?_ | refine o_neg ?_ | refine o_eqI ?_ | refine o_neI ?_ | refine o_abs ?_ | refine o_tru ?_ | refine p_true ?_ | refine p_false ?_
  | refine o_lenT ?_ | refine o_lenL ?_ | refine o_ix0 ?_ | refine o_ix1 ?_ | refine o_ix2 ?_ | refine o_ix0L ?_ | refine o_ix1L ?_ | refine o_ix2L ?_
  | refine s_par ?_ | refine p_yes ?_ | refine p_seq ?_ | refine s_gnil ?_ | refine s_gcons ?_ | refine s_gtux ?_ | refine s_gtupl ?_ | refine p_onone ?_ | refine p_osome ?_ | refine p_get2 ?_ | refine s_putU ?_ | refine p_sortIt ?_)
local macro_rules | `(tactic| walk_at "2") => `(tactic| first
  | walk_at "1"
  | (with_reducible refine p_var2 ?_)
  | ((with_reducible refine s_name ?_ ?_); (· exact Nat.le_of_ble_eq_true rfl); dsimp only [List.set_cons_zero, List.set_cons_succ])
  | (with_reducible refine p_tup ?_) | (with_reducible refine p_lst ?_) | ((with_reducible refine ⟨?_, ?_⟩); (· exact Nat.le_of_ble_eq_true rfl))
  | ((with_reducible refine p_ex2 (x := ?_) (y := ?_) ?_ ?_); rotate_left; rotate_left; (· rfl); refine ⟨?_, ?_, ?_⟩; (· exact Nat.le_of_ble_eq_true rfl); (· exact Nat.le_of_ble_eq_true rfl); dsimp only [List.set_cons_zero, List.set_cons_succ])
  | ((with_reducible refine p_isT ?_ ?_); (· rfl)) | ((with_reducible refine p_isF ?_ ?_); (· rfl))
  | ((with_reducible refine p_ex (x := ?_) ?_ ?_); rotate_left; (· rfl)))
local macro_rules | `(tactic| walk_at "3") => `(tactic| repeat walk_at "2")
theorem In.get {j k : Nat} {S S2 S3 : Sto} {v : D} (h : Dr j S2 S3) (hj : j < S.length) (hk : S2[k]? = some v) (hs : S.length ≤ k) : S3[k]? = some v := h.get hk (by omega)
theorem names_at {names : List Str} {v : Int} (h0 : 0 ≤ v) (h1 : v < (names.length : Nat)) : ∃ x ∈ names, atI (names.map D.str) v = some (.str x) := by
  obtain ⟨k, rfl⟩ : ∃ k : Nat, v = k := ⟨v.toNat, by omega⟩
  have hk : k < names.length := by omega
  refine ⟨names[k], List.getElem_mem hk, at_nat ?_⟩
  rw [List.getElem?_map, List.getElem?_eq_getElem hk]
  rfl
theorem monp_add {N : List Str} {pw : Nums} (hn : ND pw) (hp : ∀ p ∈ pw, p.1 ∈ N ∧ 1 ≤ p.2) {x : Str} (hx : x ∈ N) : ND (addz pw x 1) ∧ (∀ p ∈ addz pw x 1, p.1 ∈ N ∧ 1 ≤ p.2) ∧ dgm (addz pw x 1) = dgm pw + 1 := by
  refine ⟨nd_addz hn _ _, put_all hp ⟨hx, ?_⟩, dgm_add _ _ _ hn⟩
  show 1 ≤ (getT pw x).getD 0 + 1
  cases e : getT pw x with
  | none => show (1 : Int) ≤ 0 + 1; omega
  | some w => have := (hp _ (getT_mem e)).2; show 1 ≤ w + 1; have : 1 ≤ w := this; omega
end DL
set_option Elab.async false
set_option linter.all false
set_option maxRecDepth 100000
set_option maxHeartbeats 4000000
set_option autoImplicit false
/-! law k01, plain part: words of figures. -/
namespace DL
open PySem L2
local macro_rules | `(tactic| walk_at "1") => `(tactic| with_reducible first
  | refine s_seq ?_ | refine s_asg ?_ | refine s_ret ?_ | refine s_if ?_ | refine s_expr ?_ | refine s_next ?_ | refine s_brk ?_ | refine s_cont ?_ | refine s_for ?_ | refine s_while ?_
  | refine p_c ?_ | refine p_bin ?_ | refine p_as ?_ | refine p_cons ?_ | refine p_nil ?_ | refine p_un ?_ | refine p_call ?_ | refine p_if ?_ | refine p_own ?_
  | refine p_keep ?_ | refine p_tru ?_ | refine p_and ?_ | refine p_or ?_ | refine p_not ?_ | refine p_val ?_ | refine p_rand ?_ | refine p_ror ?_ | refine p_rnot ?_ | refine p_chain ?_
  | refine o_add ?_ | refine o_sub ?_ | refine o_lt ?_ | refine o_le ?_ | refine o_gt ?_ | refine o_ge ?_ | refine o_neg ?_ | refine o_eqI ?_ | refine o_neI ?_ | refine o_abs ?_ | refine o_tru ?_ | refine p_true ?_ | refine p_false ?_
  | refine s_par ?_ | refine p_yes ?_ | refine p_lc ?_ | refine p_seq ?_ | refine s_gnil ?_ | refine s_gcons ?_ | refine p_lc_nil ?_ | refine p_lc_cons ?_ | refine p_cutS ?_ | refine p_onone ?_ | refine p_osome ?_)
local macro_rules | `(tactic| walk_at "2") => `(tactic| first
  | walk_at "1"
  | (with_reducible refine p_var2 ?_)
  | ((with_reducible refine s_name ?_ ?_); (· exact Nat.le_of_ble_eq_true rfl); dsimp only [List.set_cons_zero, List.set_cons_succ])
  | (with_reducible refine p_tup ?_) | ((with_reducible refine ⟨?_, ?_⟩); (· exact Nat.le_of_ble_eq_true rfl))
  | ((with_reducible refine p_ex2 (x := ?_) (y := ?_) ?_ ?_); rotate_left; rotate_left; (· rfl); refine ⟨?_, ?_, ?_⟩; (· exact Nat.le_of_ble_eq_true rfl); (· exact Nat.le_of_ble_eq_true rfl); dsimp only [List.set_cons_zero, List.set_cons_succ])
  | ((with_reducible refine p_isT ?_ ?_); (· rfl)) | ((with_reducible refine p_isF ?_ ?_); (· rfl))
  | ((with_reducible refine p_ex (x := ?_) ?_ ?_); rotate_left; (· rfl)))
/-- the figures behind a sign -/
def plain (cs : List Nat) : List Nat := if cs.head? = some 45 then cs.drop 1 else cs
/-- a number's word -/
structure NumW (cs : List Nat) : Prop where
  lo : 1 ≤ (plain cs).length
  hi : (plain cs).length ≤ 40
  dig : NumText.AllDigits (plain cs)
  nz : ¬ ((plain cs).head? = some 48 ∧ cs ≠ [48])
def numV (cs : List Nat) : Int := if cs.head? = some 45 then -((NumText.digitsVal (plain cs) : Nat) : Int) else (NumText.digitsVal (plain cs) : Nat)
theorem Fine.plain {cs : List Nat} (h : Fine cs) : Fine (DL.plain cs) := by
  unfold DL.plain
  split
  · exact h.drop 1
  · exact h
theorem plain_len {cs : List Nat} : (plain cs).length ≤ cs.length := by
  unfold plain
  split <;> simp
theorem nought : ("0" : Str) = mk [48] := by kernel_rfl
theorem head_at {p : List Nat} (h : 1 ≤ p.length) : ∃ a, p.head? = some a ∧ atI (mk p).cps.toList 0 = some a := by
  rcases p with _ | ⟨a, r⟩
  · simp at h
  · exact ⟨a, rfl, by rw [mk_list]; unfold atI ixN; simp⟩
theorem number_spec {cs : List Nat} (hf : Fine cs) (hl : cs.length ≤ 6000) (S : Sto) (hS : Sane S) (d : D) (hg : NumW cs → d = .int (numV cs)) (hb : ¬ NumW cs → d = .non) : m_number_of [.str (mk cs)] S = .ok d S := by
  have sl : 6001 ≤ sizeLine := by decide
  have zl : (mk cs).length ≤ sizeLine := by rw [mk_len]; omega
  have hp := hf.plain
  have pl := plain_len (cs := cs)
  have zp : (mk (plain cs)).length ≤ sizeLine := by rw [mk_len]; omega
  have hc : D.closed S.length d = true := by
    by_cases z : NumW cs
    · rw [hg z]; rfl
    · rw [hb z]; rfl
  refine m_defS hS hc ?_
  show (b_number_of [some (.str (mk cs)), none, none] S).post _ _ _ _
  unfold b_number_of
  repeat walk_at "2"
  refine p_lift (a := D.bl true) (by kernel_rfl) ?_
  walk_at "2"
  walk_at "2"
  walk_at "2"
  with_reducible refine s_seq ?_
  with_reducible refine s_asg ?_
  refine Res.post.mono (Q1 := fun d S1 => d = .str (mk (plain cs)) ∧ S1 = S) ?_ ?_
  · repeat walk_at "2"
    refine p_meth ?_
    repeat walk_at "2"
    refine ⟨rfl, ?_⟩
    repeat walk_at "2"
    refine ⟨_, _, rfl, ?_⟩
    repeat walk_at "2"
    rw [starts_dash]
    refine ⟨fun h => ?_, fun h => ?_⟩
    · have h : cs.head? = some 45 := by simpa using h
      repeat walk_at "2"
      refine ⟨zl, ?_⟩
      rw [cut_tail]
      unfold plain
      rw [if_pos h]
      exact ⟨rfl, rfl⟩
    · have h : ¬ cs.head? = some 45 := by simpa using h
      repeat walk_at "2"
      unfold plain
      rw [if_neg h]
      exact ⟨rfl, rfl⟩
  rintro d1 S1 ⟨e1, e2⟩
  subst e1
  subst e2
  generalize hpp : plain cs = p at *
  walk_at "2"
  walk_at "2"
  walk_at "2"
  -- the lengths and the figures
  refine Res.post.mono (Q1 := fun k S2 => (k = true ↔ ¬ (1 ≤ p.length ∧ p.length ≤ 40 ∧ NumText.AllDigits p)) ∧ S2 = S1) ?_ ?_
  · have bad : ¬ (1 ≤ p.length ∧ p.length ≤ 40 ∧ NumText.AllDigits p) → (true = true ↔ ¬ (1 ≤ p.length ∧ p.length ≤ 40 ∧ NumText.AllDigits p)) ∧ S1 = S1 := fun z => ⟨⟨fun _ => z, fun _ => rfl⟩, rfl⟩
    have good : (1 ≤ p.length ∧ p.length ≤ 40 ∧ NumText.AllDigits p) → (false = true ↔ ¬ (1 ≤ p.length ∧ p.length ≤ 40 ∧ NumText.AllDigits p)) ∧ S1 = S1 := fun z => ⟨⟨fun y => (nomatch y), fun y => absurd z y⟩, rfl⟩
    repeat walk_at "2"
    refine o_len zp ?_
    rw [mk_len]
    repeat walk_at "2"
    refine ⟨fun h1 => ?_, fun h1 => ?_⟩
    · have h1 := of_decide_eq_true h1
      repeat walk_at "2"
      refine ⟨_, rfl, fun h2 => ?_, fun h2 => ?_⟩
      · have h2 : ¬ (p.length : Int) ≤ 40 := by simpa using h2
        exact bad fun z => by omega
      · have h2 : (p.length : Int) ≤ 40 := by simpa using h2
        repeat walk_at "2"
        refine .inr (.inr ⟨_, rfl, ?_⟩)
        rw [walk_mk]
        dsimp only [wipeD, List.set_cons_zero, List.set_cons_succ]
        refine Res.post.of_eq (lcL_map (f := fun x => match x with | .str s => .bl (decide (s.cps.getD 0 0 ∈ ("0123456789" : Str).cps.toList)) | d => d) (by exact Nat.le_of_ble_eq_true rfl) fun x hx => ?_) ?_
        · obtain ⟨c, hc, rfl⟩ := sgs_mem hx
          refine exact_of ?_
          repeat walk_at "2"
          refine o_in1 ?_
          exact ⟨rfl, rfl⟩
        have em : (sgs p).map (fun x => match x with | .str s => D.bl (decide (s.cps.getD 0 0 ∈ ("0123456789" : Str).cps.toList)) | d => d) = (p.map fun c => decide (c ∈ ("0123456789" : Str).cps.toList)).map D.bl := by
          unfold sgs
          rw [List.map_map, List.map_map]
          rfl
        rw [em]
        refine ⟨by rw [List.length_map, List.length_map]; omega, ?_⟩
        repeat walk_at "2"
        refine o_all ?_
        repeat walk_at "2"
        rw [List.all_map]
        by_cases hd : NumText.AllDigits p
        · rw [show p.all (id ∘ fun c => decide (c ∈ ("0123456789" : Str).cps.toList)) = true from List.all_eq_true.mpr fun c hc => decide_eq_true ((in_figs c).mpr (hd c hc))]
          exact good ⟨by omega, by omega, hd⟩
        · rw [show p.all (id ∘ fun c => decide (c ∈ ("0123456789" : Str).cps.toList)) = false from by
            rw [← Bool.not_eq_true, List.all_eq_true]
            exact fun z => hd fun c hc => (in_figs c).mp (of_decide_eq_true (z c hc))]
          exact bad fun z => hd z.2.2
    · have h1 : ¬ (1 : Int) ≤ p.length := of_decide_eq_false h1
      repeat walk_at "2"
      exact bad fun z => by omega
  rintro k S2 ⟨hk, e⟩
  subst e
  refine ⟨fun h => ?_, fun h => ?_⟩
  · rw [hb fun z => hk.mp h ⟨by have := z.lo; rwa [hpp] at this, by have := z.hi; rwa [hpp] at this, by have := z.dig; rwa [hpp] at this⟩]
    repeat walk_at "2"
    exact ⟨rfl, rfl⟩
  have hok : 1 ≤ p.length ∧ p.length ≤ 40 ∧ NumText.AllDigits p := by
    by_cases z : 1 ≤ p.length ∧ p.length ≤ 40 ∧ NumText.AllDigits p
    · exact z
    · rw [hk.mpr z] at h; cases h
  obtain ⟨k1, k2, hd⟩ := hok
  obtain ⟨a, ha, e⟩ := head_at k1
  have ha1 : a < 128 := hp a (List.mem_of_mem_head? ha)
  walk_at "2"
  walk_at "2"
  walk_at "2"
  refine Res.post.mono (Q1 := fun k S1 => (k = true ↔ ¬ NumW cs) ∧ S1 = S2) ?_ ?_
  · have bad : ¬ NumW cs → (true = true ↔ ¬ NumW cs) ∧ S2 = S2 := fun z => ⟨⟨fun _ => z, fun _ => rfl⟩, rfl⟩
    have good : NumW cs → (false = true ↔ ¬ NumW cs) ∧ S2 = S2 := fun z => ⟨⟨fun y => (nomatch y), fun y => absurd z y⟩, rfl⟩
    repeat walk_at "2"
    refine o_ixS zp e ?_
    repeat walk_at "2"
    rw [nought]
    refine o_eqS (x := mk [a]) (y := mk [48]) (Fine.ok fun c h => by rw [List.mem_singleton.mp h]; exact ha1) (Fine.ok fun c h => by rw [List.mem_singleton.mp h]; decide) ?_
    rw [mk_beq]
    repeat walk_at "2"
    refine ⟨fun h3 => ?_, fun h3 => ?_⟩
    · have h3 : a = 48 := by simpa using h3
      repeat walk_at "2"
      refine o_neS (x := mk cs) (y := mk [48]) hf.ok (Fine.ok fun c h => by rw [List.mem_singleton.mp h]; decide) ?_
      rw [mk_beq]
      repeat walk_at "2"
      by_cases h4 : cs = [48]
      · rw [decide_eq_true h4]
        exact good ⟨by rw [hpp]; omega, by rw [hpp]; omega, by rw [hpp]; exact hd, fun z => z.2 h4⟩
      · rw [decide_eq_false h4]
        exact bad fun z => z.nz ⟨by rw [hpp, ha, h3], h4⟩
    · have h3 : a ≠ 48 := by simpa using h3
      exact good ⟨by rw [hpp]; omega, by rw [hpp]; omega, by rw [hpp]; exact hd, fun z => by
        have := z.1
        rw [hpp, ha] at this
        exact h3 (Option.some.inj this)⟩
  rintro k S3 ⟨hk, e⟩
  subst e
  refine ⟨fun h => ?_, fun h => ?_⟩
  · rw [hb (hk.mp h)]
    repeat walk_at "2"
    exact ⟨rfl, rfl⟩
  have hn : NumW cs := by
    by_cases z : NumW cs
    · exact z
    · rw [hk.mpr z] at h; cases h
  rw [hg hn]
  repeat walk_at "2"
  have cl : cs.length ≤ p.length + 1 := by
    rw [← hpp]
    unfold plain
    split
    · rw [List.length_drop]; omega
    · omega
  refine o_int (n := numV cs) ?_ (by rw [mk_len]; omega) ⟨rfl, rfl⟩
  unfold numV
  rw [hpp]
  have pn : p ≠ [] := by intro z; rw [z] at k1; simp at k1
  by_cases h0 : cs.head? = some 45
  · rw [if_pos h0]
    have e1 : (mk cs).cps.toList = 45 :: p := by
      rw [mk_list, ← hpp]
      unfold plain
      rw [if_pos h0]
      rcases cs with _ | ⟨b, r⟩
      · cases h0
      · have : b = 45 := by simpa using h0
        rw [this]; rfl
    exact PySem.intText_neg e1 hd pn (by rw [mk_len]; omega)
  · rw [if_neg h0]
    have e1 : (mk cs).cps.toList = p := by
      rw [mk_list, ← hpp]
      unfold plain
      rw [if_neg h0]
    have := PySem.intText_digits (x := mk cs) (by rw [e1]; exact hd) (by rw [e1]; exact pn) (by rw [mk_len]; omega)
    rwa [e1] at this
end DL
set_option Elab.async false
set_option linter.all false
set_option maxRecDepth 100000
set_option maxHeartbeats 4000000
set_option autoImplicit false
/-! law k01, plain part: names, rows of words. -/
namespace DL
open PySem L2
local macro_rules | `(tactic| walk_at "1") => `(tactic| with_reducible first
  | refine s_seq ?_ | refine s_asg ?_ | refine s_ret ?_ | refine s_if ?_ | refine s_expr ?_ | refine s_next ?_ | refine s_brk ?_ | refine s_cont ?_ | refine s_for ?_ | refine s_while ?_
  | refine p_c ?_ | refine p_bin ?_ | refine p_as ?_ | refine p_cons ?_ | refine p_nil ?_ | refine p_un ?_ | refine p_call ?_ | refine p_if ?_ | refine p_own ?_
  | refine p_keep ?_ | refine p_tru ?_ | refine p_and ?_ | refine p_or ?_ | refine p_not ?_ | refine p_val ?_ | refine p_rand ?_ | refine p_ror ?_ | refine p_rnot ?_ | refine p_chain ?_
  | refine o_add ?_ | refine o_sub ?_ | refine o_lt ?_ | refine o_le ?_ | refine o_gt ?_ | refine o_ge ?_ | refine o_neg ?_ | refine o_eqI ?_ | refine o_neI ?_ | refine o_abs ?_ | refine o_tru ?_ | refine p_true ?_ | refine p_false ?_
  | refine s_par ?_ | refine p_yes ?_ | refine p_lc ?_ | refine p_seq ?_ | refine s_gnil ?_ | refine s_gcons ?_ | refine p_lc_nil ?_ | refine p_lc_cons ?_ | refine p_cutS ?_ | refine p_onone ?_ | refine p_osome ?_)
local macro_rules | `(tactic| walk_at "2") => `(tactic| first
  | walk_at "1"
  | (with_reducible refine p_var2 ?_)
  | ((with_reducible refine s_name ?_ ?_); (· exact Nat.le_of_ble_eq_true rfl); dsimp only [List.set_cons_zero, List.set_cons_succ])
  | (with_reducible refine p_tup ?_) | ((with_reducible refine ⟨?_, ?_⟩); (· exact Nat.le_of_ble_eq_true rfl))
  | ((with_reducible refine p_ex2 (x := ?_) (y := ?_) ?_ ?_); rotate_left; rotate_left; (· rfl); refine ⟨?_, ?_, ?_⟩; (· exact Nat.le_of_ble_eq_true rfl); (· exact Nat.le_of_ble_eq_true rfl); dsimp only [List.set_cons_zero, List.set_cons_succ])
  | ((with_reducible refine p_isT ?_ ?_); (· rfl)) | ((with_reducible refine p_isF ?_ ?_); (· rfl))
  | ((with_reducible refine p_ex (x := ?_) ?_ ?_); rotate_left; (· rfl)))
/-! rows of words -/
theorem flat_strs : ∀ xs : List Str, flatDs (xs.map .str) = some (xs.map V.str)
  | [] => rfl
  | x :: r => by unfold List.map flatDs flatD; rw [flat_strs r]
theorem o_inStrs {S : Sto} {x : Str} {xs : List Str} {Q : D → Sto → Prop} (h : Q (.bl (inV (.str x) (xs.map V.str))) S) : (Res.lift (gInQ S (.str x) (.lst (xs.map .str))) S).post Q := p_lift (by unfold gInQ flatD deref; dsimp only; rw [flat_strs]; rfl) h
theorem closedL_strs : ∀ {n : Nat} (xs : List Str), closedL n (xs.map .str) = true
  | _, [] => rfl
  | n, x :: r => by unfold List.map closedL; rw [closedL_strs r]; rfl
end DL
set_option Elab.async false
set_option linter.all false
set_option maxRecDepth 100000
set_option maxHeartbeats 400000
set_option autoImplicit false
/-! Parts put together by a sign: they are told apart again. -/
namespace DL
open PySem L2
def jn (c : Nat) : List (List Nat) → List Nat
  | [] => []
  | [p] => p
  | p :: q :: r => p ++ c :: jn c (q :: r)
theorem cut_one {c : Nat} : ∀ {a b x y : List Nat}, c ∉ a → c ∉ b → a ++ c :: x = b ++ c :: y → a = b ∧ x = y
  | [], [], _, _, _, _, h => ⟨rfl, (List.cons.inj h).2⟩
  | [], d :: b, _, _, _, hb, h => absurd (List.mem_cons.mpr (.inl (List.cons.inj h).1)) hb
  | d :: a, [], _, _, ha, _, h => absurd (List.mem_cons.mpr (.inl (List.cons.inj h).1.symm)) ha
  | d :: a, e :: b, x, y, ha, hb, h => by
    have h1 := (List.cons.inj h).1
    obtain ⟨e1, e2⟩ := cut_one (a := a) (b := b) (fun z => ha (List.mem_cons_of_mem _ z)) (fun z => hb (List.mem_cons_of_mem _ z)) (List.cons.inj h).2
    exact ⟨by rw [h1, e1], e2⟩
theorem jn_inj {c : Nat} : ∀ {ps qs : List (List Nat)}, ps ≠ [] → qs ≠ [] → (∀ p ∈ ps, c ∉ p) → (∀ q ∈ qs, c ∉ q) → jn c ps = jn c qs → ps = qs
  | [], _, h, _, _, _, _ => absurd rfl h
  | _ :: _, [], _, h, _, _, _ => absurd rfl h
  | [p], [q], _, _, _, _, h => by rw [show p = q from h]
  | [p], q :: q2 :: r, _, _, hp, _, h => by
    have h : p = q ++ c :: jn c (q2 :: r) := h
    exact absurd (by rw [h]; exact List.mem_append_right _ List.mem_cons_self) (hp p List.mem_cons_self)
  | p :: p2 :: r, [q], _, _, _, hq, h => by
    have h : p ++ c :: jn c (p2 :: r) = q := h
    exact absurd (by rw [← h]; exact List.mem_append_right _ List.mem_cons_self) (hq q List.mem_cons_self)
  | p :: p2 :: r, q :: q2 :: s, _, _, hp, hq, h => by
    have h : p ++ c :: jn c (p2 :: r) = q ++ c :: jn c (q2 :: s) := h
    obtain ⟨e1, e2⟩ := cut_one (hp p List.mem_cons_self) (hq q List.mem_cons_self) h
    rw [e1, jn_inj (ps := p2 :: r) (qs := q2 :: s) (by simp) (by simp) (fun z hz => hp z (List.mem_cons_of_mem _ hz)) (fun z hz => hq z (List.mem_cons_of_mem _ hz)) e2]
end DL
set_option Elab.async false
set_option linter.all false
set_option maxRecDepth 100000
set_option maxHeartbeats 400000
set_option autoImplicit false
/-! Texts put together by a sign: split gives the parts again. -/
namespace DL
open PySem L2 PyProof
theorem join_list (c : Nat) : ∀ ps : List Str, (Str.join ⟨#[c]⟩ ps).cps.toList = jn c (ps.map fun p => p.cps.toList)
  | [] => rfl
  | [p] => rfl
  | p :: q :: r => by
    have ih := join_list c (q :: r)
    have e : Str.join ⟨#[c]⟩ (p :: q :: r) = p ++ ⟨#[c]⟩ ++ Str.join ⟨#[c]⟩ (q :: r) := rfl
    rw [e]
    have e2 : ∀ a b : Str, (a ++ b).cps.toList = a.cps.toList ++ b.cps.toList := fun a b => by
      show (a.cps ++ b.cps).toList = _
      simp
    rw [e2, e2, ih]
    show (p.cps.toList ++ [c]) ++ jn c (q.cps.toList :: r.map fun p => p.cps.toList) = p.cps.toList ++ c :: jn c (q.cps.toList :: r.map fun p => p.cps.toList)
    simp
theorem split_some (x y : Str) : Txt.split x y ≠ [] := by
  unfold Txt.split
  split
  · simp
  · split
    · simp
    · intro z
      have := congrArg List.length z
      unfold Builtin.Str.partsBetween at this
      simp at this
theorem split_join {c : Nat} {ps : List Str} (hne : ps ≠ []) (hf : ∀ p ∈ ps, c ∉ p.cps.toList) : Txt.split (Str.join ⟨#[c]⟩ ps) ⟨#[c]⟩ = ps := by
  have h1 := congrArg (fun z : Str => z.cps.toList) (StrLaws.join_split (Str.join ⟨#[c]⟩ ps) ⟨#[c]⟩)
  rw [join_list, join_list] at h1
  have h2 := jn_inj (c := c) (by simpa using split_some _ _) (by simpa using hne) (fun p hp => by
    obtain ⟨q, hq, rfl⟩ := List.mem_map.mp hp
    exact StrLaws.split_free _ c q hq) (fun p hp => by
    obtain ⟨q, hq, rfl⟩ := List.mem_map.mp hp
    exact hf q hq) h1
  exact List.map_inj_right (fun a b e => strT_ext e) |>.mp h2
end DL
set_option Elab.async false
set_option linter.all false
set_option maxRecDepth 100000
set_option maxHeartbeats 1000000
set_option autoImplicit false
/-! The law: the boxes of a product, one by one. -/
namespace DL
open PySem L2
open Emb
local macro_rules | `(tactic| walk_at "1") => `(tactic| with_reducible first
  | refine s_seq ?_ | refine s_asg ?_ | refine s_ret ?_ | refine s_if ?_ | refine s_expr ?_ | refine s_next ?_ | refine s_brk ?_ | refine s_cont ?_ | refine s_for ?_ | refine s_while ?_
  | refine p_c ?_ | refine p_bin ?_ | refine p_as ?_ | refine p_cons ?_ | refine p_nil ?_ | refine p_un ?_ | refine p_call ?_ | refine p_if ?_ | refine p_own ?_
  | refine p_keep ?_ | refine p_tru ?_ | refine p_and ?_ | refine p_or ?_ | refine p_not ?_ | refine p_val ?_ | refine p_rand ?_ | refine p_ror ?_ | refine p_rnot ?_ | refine p_chain ?_ | refine p_bif ?_
  | refine o_add ?_ | refine o_sub ?_ | refine o_ltU ?_ | refine o_leU ?_ | refine o_gtU ?_ | refine o_geU ?_ | refine o_neg ?_ | refine o_eqI ?_ | refine o_neI ?_ | refine o_abs ?_ | refine o_tru ?_ | refine p_true ?_ | refine p_false ?_
  | refine o_lenT ?_ | refine o_lenL ?_ | refine o_ix0 ?_ | refine o_ix1 ?_ | refine o_ix2 ?_ | refine o_ix0L ?_ | refine o_ix1L ?_ | refine o_ix2L ?_
  | refine s_par ?_ | refine p_yes ?_ | refine p_seq ?_ | refine s_gnil ?_ | refine s_gcons ?_ | refine s_gtux ?_ | refine s_gtupl ?_ | refine p_onone ?_ | refine p_osome ?_ | refine p_get2 ?_ | refine s_putU ?_ | refine p_sortIt ?_)
local macro_rules | `(tactic| walk_at "2") => `(tactic| first
  | walk_at "1"
  | (with_reducible refine p_var2 ?_)
  | ((with_reducible refine s_name ?_ ?_); (· exact Nat.le_of_ble_eq_true rfl); dsimp only [List.set_cons_zero, List.set_cons_succ])
  | (with_reducible refine p_tup ?_) | (with_reducible refine p_lst ?_) | ((with_reducible refine ⟨?_, ?_⟩); (· exact Nat.le_of_ble_eq_true rfl))
  | ((with_reducible refine p_ex2 (x := ?_) (y := ?_) ?_ ?_); rotate_left; rotate_left; (· rfl); refine ⟨?_, ?_, ?_⟩; (· exact Nat.le_of_ble_eq_true rfl); (· exact Nat.le_of_ble_eq_true rfl); dsimp only [List.set_cons_zero, List.set_cons_succ])
  | ((with_reducible refine p_isT ?_ ?_); (· rfl)) | ((with_reducible refine p_isF ?_ ?_); (· rfl))
  | ((with_reducible refine p_ex (x := ?_) ?_ ?_); rotate_left; (· rfl)))
local macro_rules | `(tactic| walk_at "3") => `(tactic| repeat walk_at "2")
def spread (m : Mono) : List Str := m.flatMap fun p => List.replicate p.2.toNat p.1
theorem spread_len {N : List Str} {d : Nat} {m : Mono} (h : MonP N d m) : (spread m).length ≤ d := by
  have key : ∀ m : Mono, (∀ p ∈ m, p.1 ∈ N ∧ 1 ≤ p.2) → ((spread m).length : Int) = dgm m := fun m => by
    induction m with
    | nil => intro _; rfl
    | cons p r ih =>
      intro hp
      have h1 := (hp p List.mem_cons_self).2
      have h2 := ih fun q hq => hp q (List.mem_cons_of_mem _ hq)
      have e : spread (p :: r) = List.replicate p.2.toNat p.1 ++ spread r := by unfold spread; rw [List.flatMap_cons]
      rw [e, List.length_append, List.length_replicate, dgm_cons]
      omega
  have := key m h.nc
  have := h.dg
  omega
end DL
set_option Elab.async false
set_option linter.all false
set_option maxRecDepth 100000
set_option maxHeartbeats 1000000
set_option autoImplicit false
/-! Numbers as texts, terms, polys, rows, bodies as texts: plain. -/
namespace DL
open PySem L2 PyProof
open Emb
def numI (i : Int) : List Nat := if i < 0 then 45 :: TL.numL i.natAbs else TL.numL i.natAbs
def numS (i : Int) : Str := mk (numI i)
theorem num_cps (i : Int) : (Str.ofString (toString i)).cps.toList = numI i := by
  unfold numI
  rw [PyProof.Rows.signs_ofString, Int.toString_eq_repr, Int.repr_eq_if]
  by_cases h : i < 0
  · rw [if_neg (by omega), if_pos h, String.toList_append, List.map_append, Nat.toList_repr]
    have e : (-i).toNat = i.natAbs := by omega
    rw [e]
    rfl
  · rw [if_pos (by omega), if_neg h, Nat.toList_repr]
    have e : i.toNat = i.natAbs := by omega
    rw [e]
    rfl
theorem num_str (i : Int) : Str.ofString (toString i) = numS i := by
  have := num_cps i
  unfold numS
  rw [← this]
  exact mk_of _
theorem numL_head (n : Nat) : ∃ c r, TL.numL n = c :: r ∧ (n ≠ 0 → 49 ≤ c) := by
  induction n using Nat.strongRecOn with
  | _ n ih =>
    by_cases h : n < 10
    · exact ⟨_, _, TL.numL_lt h, fun z => by omega⟩
    · obtain ⟨c, r, e, hc⟩ := ih (n / 10) (by omega)
      refine ⟨c, r ++ [48 + n % 10], by rw [TL.numL_step (by omega), e]; rfl, fun _ => hc (by omega)⟩
theorem numL_no45 {n : Nat} : (TL.numL n).head? ≠ some 45 := by
  obtain ⟨c, r, e, _⟩ := numL_head n
  have h := TL.numL_digits n c (by rw [e]; exact List.mem_cons_self)
  rw [e]
  intro z
  have : c = 45 := by simpa using z
  omega
theorem plain_num (i : Int) : plain (numI i) = TL.numL i.natAbs := by
  unfold plain numI
  by_cases h : i < 0
  · rw [if_pos h, if_pos (by rfl)]
    rfl
  · rw [if_neg h, if_neg numL_no45]
theorem num_neg (i : Int) : (numI i).head? = some 45 ↔ i < 0 := by
  unfold numI
  by_cases h : i < 0
  · rw [if_pos h]; exact ⟨fun _ => h, fun _ => rfl⟩
  · rw [if_neg h]; exact ⟨fun z => absurd z numL_no45, fun z => absurd z h⟩
theorem numW_of {i : Int} (h : i.natAbs < 10 ^ 40) : NumW (numI i) := by
  refine ⟨?_, ?_, ?_, ?_⟩
  · rw [plain_num]
    have := TL.numL_ne i.natAbs
    exact List.length_pos_iff.mpr this
  · rw [plain_num]; exact TL.numL_len (by decide) h
  · rw [plain_num]; exact TL.numL_digits _
  · rw [plain_num]
    rintro ⟨h1, h2⟩
    obtain ⟨c, r, e, hc⟩ := numL_head i.natAbs
    rw [e] at h1
    have h1 : c = 48 := by simpa using h1
    have z : i = 0 := by
      by_cases z : i.natAbs = 0
      · omega
      · have := hc z; omega
    rw [z] at h2
    exact h2 (by decide)
theorem numV_of (i : Int) : numV (numI i) = i := by
  unfold numV
  rw [plain_num, TL.numL_val]
  by_cases h : i < 0
  · rw [if_pos ((num_neg i).mpr h)]; omega
  · rw [if_neg fun z => h ((num_neg i).mp z)]; omega
theorem num_sign {i : Int} {c : Nat} (h : c ∈ numI i) : c = 45 ∨ (48 ≤ c ∧ c ≤ 57) := by
  unfold numI at h
  split at h
  · rcases List.mem_cons.mp h with h | h
    · exact .inl h
    · exact .inr (TL.numL_digits _ c h)
  · exact .inr (TL.numL_digits _ c h)
theorem num_fine (i : Int) : Fine (numI i) := fun c hc => by rcases num_sign hc with h | h <;> omega
theorem num_len {i : Int} (h : i.natAbs < 10 ^ 40) : (numI i).length ≤ 41 := by
  have := TL.numL_len (n := i.natAbs) (k := 40) (by decide) h
  unfold numI
  split
  · rw [List.length_cons]; omega
  · omega
set_option exponentiation.threshold 2000 in
theorem o_strI {S : Sto} {i : Int} (h : i.natAbs < 10 ^ 40) : gStr S [.int i] = some (.str (numS i)) := by
  unfold gStr
  dsimp only
  rw [if_pos (by
    by_cases z : i.natAbs = 0
    · rw [z]; decide
    · exact (Nat.log2_lt z).mpr (Nat.lt_of_lt_of_le h (Nat.le_trans (Nat.pow_le_pow_left (by decide : 10 ≤ 2 ^ 4) 40) (by rw [← Nat.pow_mul]; exact Nat.pow_le_pow_right (by decide) (by decide)))))]
  exact congrArg (fun z => some (D.str z)) (num_str i)
/-! signs of joined texts -/
theorem join_mem (y : Str) : ∀ {xs : List Str} {c : Nat}, c ∈ (Str.join y xs).cps.toList → c ∈ y.cps.toList ∨ ∃ x ∈ xs, c ∈ x.cps.toList
  | [], c, h => by cases h
  | [x], c, h => .inr ⟨x, List.mem_cons_self, h⟩
  | x :: z :: r, c, h => by
    have e : (Str.join y (x :: z :: r)).cps.toList = x.cps.toList ++ y.cps.toList ++ (Str.join y (z :: r)).cps.toList := by
      show ((x.cps ++ y.cps) ++ (Str.join y (z :: r)).cps).toList = _
      simp
    rw [e, List.mem_append, List.mem_append] at h
    rcases h with (h | h) | h
    · exact .inr ⟨x, List.mem_cons_self, h⟩
    · exact .inl h
    · rcases join_mem y h with h | ⟨p, hp, h⟩
      · exact .inl h
      · exact .inr ⟨p, List.mem_cons_of_mem _ hp, h⟩
theorem joinS_len (y : Str) (m : Nat) : ∀ {xs : List Str}, (∀ x ∈ xs, x.length ≤ m) → (Str.join y xs).length ≤ xs.length * (m + y.length)
  | [], _ => by show 0 ≤ _; exact Nat.zero_le _
  | [x], h => by
    have := h x List.mem_cons_self
    show x.length ≤ 1 * (m + y.length)
    omega
  | x :: z :: r, h => by
    have h1 := h x List.mem_cons_self
    have ih := joinS_len y m (xs := z :: r) fun q hq => h q (List.mem_cons_of_mem _ hq)
    have e : (Str.join y (x :: z :: r)).length = x.length + y.length + (Str.join y (z :: r)).length := by
      show ((x.cps ++ y.cps) ++ (Str.join y (z :: r)).cps).size = _
      rw [Array.size_append, Array.size_append]
      rfl
    rw [e, List.length_cons, Nat.add_mul]
    omega
theorem o_joinS {S : Sto} {y : Str} {xs : List Str} {m : Nat} (h : ∀ x ∈ xs, x.length ≤ m) (hl : xs.length * (m + y.length) ≤ 16777216) : pureM gJoin S (.str y) [.lst (xs.map .str)] = some (.str (Str.join y xs), S) := by
  have e : gJoin S (.str y) [.lst (xs.map .str)] = some (.str (Str.join y xs)) := by
    unfold gJoin deref
    dsimp only
    rw [asStrs_of]
    dsimp only
    rw [TL.join_eq, if_pos]
    have : ∀ l : List Str, (∀ x ∈ l, x.length ≤ m) → (l.map (·.length)).sum ≤ l.length * m := fun l => by
      induction l with
      | nil => intro _; exact Nat.zero_le _
      | cons a r ih =>
        intro hh
        have h1 := hh a List.mem_cons_self
        have h2 := ih fun q hq => hh q (List.mem_cons_of_mem _ hq)
        rw [List.map_cons, List.sum_cons, List.length_cons, Nat.add_mul]
        omega
    have := this xs h
    rw [Nat.mul_add] at hl
    omega
  unfold pureM
  rw [e]
  rfl
theorem o_joinP {S : Sto} {y : Str} {xs : List Str} {m k : Nat} (hk : S[k]? = some (.lst (xs.map .str))) (h : ∀ x ∈ xs, x.length ≤ m) (hl : xs.length * (m + y.length) ≤ 16777216) : pureM gJoin S (.str y) [.ptr k] = some (.str (Str.join y xs), S) := by
  have e := o_joinS (S := S) (y := y) h hl
  have e2 : gJoin S (.str y) [.ptr k] = gJoin S (.str y) [.lst (xs.map .str)] := by
    unfold gJoin
    dsimp only
    rw [deref_at hk]
    rfl
  unfold pureM at e ⊢
  rw [e2]
  exact e
end DL
set_option Elab.async false
set_option linter.all false
set_option maxRecDepth 100000
set_option maxHeartbeats 1000000
set_option autoImplicit false
/-! Terms, polys, rows, bodies as texts, and their parts: plain. -/
namespace DL
open PySem L2 PyProof
open Emb
abbrev Term := Int × List Str
def starS : Str := ⟨#[42]⟩
def blankS : Str := ⟨#[32]⟩
theorem star_eq : ("*" : Str) = starS := by kernel_rfl
theorem blank_eq : (" " : Str) = blankS := by kernel_rfl
def termS (t : Term) : Str := Str.join starS (numS t.1 :: t.2)
structure TermG (t : Term) : Prop where
  num : t.1.natAbs < 10 ^ 40
  nm : ∀ b ∈ t.2, DL.nm b = true
  len : t.2.length ≤ 12
theorem numS_cps (i : Int) : (numS i).cps.toList = numI i := by unfold numS; rw [mk_list]
theorem numS_len {i : Int} (h : i.natAbs < 10 ^ 40) : (numS i).length ≤ 41 := by unfold numS; rw [mk_len]; exact num_len h
theorem numS_sign {i : Int} {c : Nat} (h : c ∈ (numS i).cps.toList) : c = 45 ∨ (48 ≤ c ∧ c ≤ 57) := by rw [numS_cps] at h; exact num_sign h
theorem nm_sign {b : Str} (h : nm b = true) {c : Nat} (hc : c ∈ b.cps.toList) : 97 ≤ c ∧ c ≤ 122 := ((nm_iff b).mp h).2.2 c hc
theorem nm_len {b : Str} (h : nm b = true) : 1 ≤ b.length ∧ b.length ≤ 8 := ⟨((nm_iff b).mp h).1, ((nm_iff b).mp h).2.1⟩
theorem termS_parts {t : Term} (h : TermG t) : ∀ x ∈ numS t.1 :: t.2, x.length ≤ 41 := fun x hx => by
  rcases List.mem_cons.mp hx with rfl | hx
  · exact numS_len h.num
  · have := (nm_len (h.nm x hx)).2; omega
theorem termS_len {t : Term} (h : TermG t) : (termS t).length ≤ 546 := by
  have h1 := joinS_len starS 41 (termS_parts h)
  have h2 := h.len
  have e : starS.length = 1 := by decide
  rw [e, List.length_cons] at h1
  unfold termS
  omega
/-- the signs of terms -/
def okSign (c : Nat) : Prop := c = 42 ∨ c = 45 ∨ (48 ≤ c ∧ c ≤ 57) ∨ (97 ≤ c ∧ c ≤ 122)
theorem termS_sign {t : Term} (h : TermG t) {c : Nat} (hc : c ∈ (termS t).cps.toList) : okSign c := by
  unfold termS at hc
  rcases join_mem starS hc with hc | ⟨x, hx, hc⟩
  · exact .inl (List.mem_singleton.mp hc)
  · rcases List.mem_cons.mp hx with rfl | hx
    · rcases numS_sign hc with z | z
      · exact .inr (.inl z)
      · exact .inr (.inr (.inl z))
    · exact .inr (.inr (.inr (nm_sign (h.nm x hx) hc)))
theorem termS_split {t : Term} (h : TermG t) : Txt.split (termS t) starS = numS t.1 :: t.2 := by
  refine split_join (c := 42) (by simp) fun p hp => ?_
  rcases List.mem_cons.mp hp with rfl | hp
  · intro z; rcases numS_sign z with z | z <;> omega
  · intro z; have := nm_sign (h.nm p hp) z; omega
theorem str_assoc (a b c : Str) : a ++ b ++ c = a ++ (b ++ c) := TL.ext_tl (by rw [TL.tl_append, TL.tl_append, TL.tl_append, TL.tl_append, List.append_assoc])
theorem join_cons {y x : Str} : ∀ {r : List Str}, r ≠ [] → Str.join y (x :: r) = x ++ y ++ Str.join y r
  | [], h => absurd rfl h
  | _ :: _, _ => rfl
def plusS : Str := "+"
def inter : List Str → List Str
  | [] => []
  | [x] => [x]
  | x :: y :: r => x :: plusS :: inter (y :: r)
theorem inter_ne : ∀ {xs : List Str}, xs ≠ [] → inter xs ≠ []
  | [], h => absurd rfl h
  | [_], _ => by simp [inter]
  | _ :: _ :: _, _ => by simp [inter]
theorem plus_eq : (" + " : Str) = blankS ++ plusS ++ blankS := by kernel_rfl
theorem join_inter : ∀ xs : List Str, Str.join " + " xs = Str.join blankS (inter xs)
  | [] => rfl
  | [x] => rfl
  | x :: y :: r => by
    have ih := join_inter (y :: r)
    rw [join_cons (List.cons_ne_nil _ _), ih]
    show _ = Str.join blankS (x :: plusS :: inter (y :: r))
    rw [join_cons (List.cons_ne_nil _ _), join_cons (inter_ne (List.cons_ne_nil _ _)), plus_eq]
    simp only [str_assoc]
theorem inter_len : ∀ {xs : List Str}, xs ≠ [] → (inter xs).length = 2 * xs.length - 1
  | [], h => absurd rfl h
  | [_], _ => rfl
  | x :: y :: r, _ => by
    have ih := inter_len (xs := y :: r) (by simp)
    show (x :: plusS :: inter (y :: r)).length = _
    rw [List.length_cons, List.length_cons, ih]
    simp only [List.length_cons]
    omega
theorem inter_even : ∀ {xs : List Str} {k : Nat} {x : Str}, xs[k]? = some x → (inter xs)[2 * k]? = some x
  | [], k, x, h => by simp at h
  | [y], 0, x, h => h
  | [y], k + 1, x, h => by simp at h
  | y :: z :: r, 0, x, h => h
  | y :: z :: r, k + 1, x, h => by
    have ih := inter_even (xs := z :: r) (k := k) (x := x) (by simpa using h)
    unfold inter
    rw [show 2 * (k + 1) = 2 * k + 1 + 1 by omega, List.getElem?_cons_succ, List.getElem?_cons_succ]
    exact ih
theorem inter_odd : ∀ {xs : List Str} {k : Nat}, k + 1 < xs.length → (inter xs)[2 * k + 1]? = some plusS
  | [], k, h => by simp at h
  | [y], k, h => by simp at h
  | y :: z :: r, 0, h => rfl
  | y :: z :: r, k + 1, h => by
    have ih := inter_odd (xs := z :: r) (k := k) (by simpa using h)
    unfold inter
    rw [show 2 * (k + 1) + 1 = 2 * k + 1 + 1 + 1 by omega, List.getElem?_cons_succ, List.getElem?_cons_succ]
    exact ih
theorem inter_mem : ∀ {xs : List Str} {x : Str}, x ∈ inter xs → x = plusS ∨ x ∈ xs
  | [], x, h => by simp [inter] at h
  | [y], x, h => .inr h
  | y :: z :: r, x, h => by
    unfold inter at h
    rcases List.mem_cons.mp h with rfl | h
    · exact .inr List.mem_cons_self
    rcases List.mem_cons.mp h with rfl | h
    · exact .inl rfl
    rcases inter_mem h with h | h
    · exact .inl h
    · exact .inr (List.mem_cons_of_mem _ h)
/-! rows -/
def polyS (ts : List Term) : Str := Str.join " + " (ts.map termS)
abbrev TRow := Str × List Term
structure TRowG (r : TRow) : Prop where
  nm : DL.nm r.1 = true
  ts : ∀ t ∈ r.2, TermG t
  ne : r.2 ≠ []
  len : r.2.length ≤ 300
/-! bodies -/
theorem inV_str (x : Str) (ys : List Str) : inV (.str x) (ys.map V.str) = decide (x ∈ ys) := by
  unfold inV
  induction ys with
  | nil => rfl
  | cons y r ih =>
    rw [List.map_cons, List.any_cons, ih]
    have e : eqV (.str y) (.str x) = decide (y = x) := by
      unfold eqV
      by_cases h : y = x
      · subst h; simp
      · simp [h]
    rw [e]
    by_cases h : y = x
    · subst h; simp
    · have : x ≠ y := fun z => h z.symm
      simp [h, this]
end DL
set_option Elab.async false
set_option linter.all false
set_option maxRecDepth 100000
set_option maxHeartbeats 1000000
set_option autoImplicit false
/-! Boxes one by one, put together: plain. -/
namespace DL
open PySem L2 PyProof
open Emb
def monoF (m : Mono) (bs : List Str) : Mono := bs.foldl (fun m b => mmulz m [(b, 1)]) m
def monoOf (bs : List Str) : Mono := monoF [] bs
theorem monoF_ok {N : List Str} : ∀ {bs : List Str} {d : Nat} {m : Mono}, MonP N d m → (∀ b ∈ bs, b ∈ N) → MonP N (d + bs.length) (monoF m bs) ∧ ∀ q, pwr (monoF m bs) q = pwr m q + (bs.count q : Nat)
  | [], d, m, h, _ => ⟨h, fun q => by show pwr m q = pwr m q + ((0 : Nat) : Int); omega⟩
  | b :: r, d, m, h, hb => by
    have h1 := monp_box (hb b List.mem_cons_self)
    obtain ⟨g1, g2⟩ := monoF_ok (bs := r) (mmulz_ok h h1) fun x hx => hb x (List.mem_cons_of_mem _ hx)
    refine ⟨?_, fun q => ?_⟩
    · rw [List.length_cons, show d + (r.length + 1) = d + 1 + r.length by omega]
      exact g1
    · show pwr (monoF (mmulz m [(b, 1)]) r) q = _
      rw [g2 q, pwr_mmulz h h1 q, List.count_cons]
      have e : pwr [(b, 1)] q = if b = q then 1 else 0 := by
        unfold pwr
        rw [atz_cons, atz_nil]
      rw [e]
      by_cases z : b = q
      · rw [if_pos z, if_pos (by simpa using z)]; omega
      · rw [if_neg z, if_neg (by simpa using z)]; omega
theorem spread_count {N : List Str} {d : Nat} {m : Mono} (h : MonP N d m) (q : Str) : ((spread m).count q : Int) = pwr m q := by
  have key : ∀ m : Mono, ND m → (∀ p ∈ m, 1 ≤ p.2) → ((spread m).count q : Int) = pwr m q := fun m => by
    induction m with
    | nil => intro _ _; rfl
    | cons p r ih =>
      intro hn hp
      have hn' : ND r := (List.nodup_cons.mp hn).2
      have hq : p.1 ∉ r.map (·.1) := (List.nodup_cons.mp hn).1
      have h1 := ih hn' fun x hx => hp x (List.mem_cons_of_mem _ hx)
      have h2 := hp p List.mem_cons_self
      have e : spread (p :: r) = List.replicate p.2.toNat p.1 ++ spread r := by unfold spread; rw [List.flatMap_cons]
      rw [e, List.count_append, List.count_replicate]
      unfold pwr at h1 ⊢
      rw [atz_cons]
      by_cases z : p.1 = q
      · rw [if_pos z, if_pos (by simpa using z)]
        have : atz r q = 0 := atz_none (by rw [← z]; exact hq)
        omega
      · rw [if_neg z, if_neg (by simpa using z)]
        omega
  exact key m (inc_nd h.inc) fun p hp => (h.nc p hp).2
theorem spread_in {N : List Str} {d : Nat} {m : Mono} (h : MonP N d m) {b : Str} (hb : b ∈ spread m) : b ∈ N := by
  unfold spread at hb
  obtain ⟨p, hp, hb⟩ := List.mem_flatMap.mp hb
  have := List.eq_of_mem_replicate hb
  rw [this]
  exact (h.nc p hp).1
theorem monoOf_perm {N : List Str} {d : Nat} {m : Mono} (h : MonP N d m) {bs : List Str} (hp : bs.Perm (spread m)) : monoOf bs = m := by
  have hb : ∀ b ∈ bs, b ∈ N := fun b hb => spread_in h (hp.mem_iff.mp hb)
  obtain ⟨g1, g2⟩ := monoF_ok (m := []) (monp_nil N) hb
  refine monp_one g1 h fun q => ?_
  show pwr (monoF [] bs) q = _
  rw [g2 q, hp.count_eq q, spread_count h q]
  show (0 : Int) + _ = _
  omega
/-- what terms come to -/
def sumT (ts : List Term) : Pol := ts.map fun t => (monoOf t.2, t.1)
def termsOf (p : Pol) : List Term := p.map fun q => (q.2, spread q.1)
def nets (ts : List Term) : List Term := if ts = [] then [(0, [])] else ts
theorem sum_termsOf {N : List Str} {d : Nat} {p : Pol} (h : OkL N d p) : sumT (termsOf p) = p := by
  unfold sumT termsOf
  rw [List.map_map]
  conv => rhs; rw [← List.map_id p]
  refine List.map_congr_left fun q hq => ?_
  show (monoOf (spread q.1), q.2) = q
  rw [monoOf_perm (h q hq) (List.Perm.refl _)]
theorem sum_nets (ts : List Term) : Eqz (sumT (nets ts)) (sumT ts) := by
  unfold nets
  split
  · rename_i e
    subst e
    intro q
    show conz [(([] : Mono), (0 : Int))] q = conz [] q
    rw [conz_cons, conz_nil]
    split <;> rfl
  · exact Eqz.refl _
theorem conz_sumT_perm {a b : List Term} (h : a.Perm b) : Eqz (sumT a) (sumT b) := fun q => sumZ_perm (h.map _) _
theorem polz_terms {N : List Str} {d : Nat} {p : Pol} (h : PolP N d p) {ts : List Term} (he : Eqz (sumT ts) p) : polz (sumT ts) = p := by
  rw [polz_ext he]
  exact polz_id h.inc h.nz
theorem termsOf_ok {N : List Str} (hN : ∀ x ∈ N, DL.nm x = true) {d : Nat} (hd : d ≤ 12) {p : Pol} (h : OkL N d p) (hn : ∀ q ∈ p, q.2.natAbs < 10 ^ 40) : ∀ t ∈ termsOf p, TermG t := fun t ht => by
  unfold termsOf at ht
  obtain ⟨q, hq, rfl⟩ := List.mem_map.mp ht
  have := spread_len (h q hq)
  exact ⟨hn q hq, fun b hb => hN b (spread_in (h q hq) hb), by show (spread q.1).length ≤ 12; omega⟩
theorem nets_ok {ts : List Term} (h : ∀ t ∈ ts, TermG t) : ∀ t ∈ nets ts, TermG t := fun t ht => by
  unfold nets at ht
  split at ht
  · rw [List.mem_singleton.mp ht]
    exact ⟨by decide, (fun _ z => nomatch z), by decide⟩
  · exact h t ht
theorem nets_ne (ts : List Term) : nets ts ≠ [] := by
  unfold nets
  split
  · simp
  · assumption
theorem polyS_nets (ts : List Term) : polyS (nets ts) = if ts = [] then ("0" : Str) else Str.join " + " (ts.map termS) := by
  unfold nets polyS
  split
  · decide +kernel
  · rfl
/-- rows as rows of terms -/
def rowT (r : Str × Pol) : TRow := (r.1, nets (termsOf r.2))
theorem rowT_ok {N : List Str} (hN : ∀ x ∈ N, DL.nm x = true) {r : Str × Pol} (hr : DL.nm r.1 = true) (h : PolP N 12 r.2) (hn : ∀ q ∈ r.2, q.2.natAbs < 10 ^ 40) : TRowG (rowT r) := by
  refine ⟨hr, nets_ok (termsOf_ok hN (Nat.le_refl _) h.ok hn), nets_ne _, ?_⟩
  show (nets (termsOf r.2)).length ≤ 300
  have := h.len
  unfold nets
  split
  · simp
  · unfold termsOf; rw [List.length_map]; exact this
end DL
set_option Elab.async false
set_option linter.all false
set_option maxRecDepth 100000
set_option maxHeartbeats 1000000
set_option autoImplicit false
/-! Terms, rows, bodies read: the program. -/
namespace DL
open PySem L2
open Emb
local macro_rules | `(tactic| walk_at "1") => `(tactic| with_reducible first
  | refine s_seq ?_ | refine s_asg ?_ | refine s_ret ?_ | refine s_if ?_ | refine s_expr ?_ | refine s_next ?_ | refine s_brk ?_ | refine s_cont ?_ | refine s_for ?_ | refine s_while ?_
  | refine p_c ?_ | refine p_bin ?_ | refine p_as ?_ | refine p_cons ?_ | refine p_nil ?_ | refine p_un ?_ | refine p_call ?_ | refine p_if ?_ | refine p_own ?_
  | refine p_keep ?_ | refine p_tru ?_ | refine p_and ?_ | refine p_or ?_ | refine p_not ?_ | refine p_val ?_ | refine p_rand ?_ | refine p_ror ?_ | refine p_rnot ?_ | refine p_chain ?_ | refine p_bif ?_
  | refine o_add ?_ | refine o_sub ?_ | refine o_ltU ?_ | refine o_leU ?_ | refine o_gtU ?_ | refine o_geU ?_ | refine o_neg ?_ | refine o_eqI ?_ | refine o_neI ?_ | refine o_abs ?_ | refine o_tru ?_ | refine p_true ?_ | refine p_false ?_
  | refine o_lenT ?_ | refine o_lenL ?_ | refine o_ix0 ?_ | refine o_ix1 ?_ | refine o_ix2 ?_ | refine o_ix0L ?_ | refine o_ix1L ?_ | refine o_ix2L ?_
  | refine s_par ?_ | refine p_yes ?_ | refine p_seq ?_ | refine s_gnil ?_ | refine s_gcons ?_ | refine s_gtux ?_ | refine s_gtupl ?_ | refine p_onone ?_ | refine p_osome ?_ | refine p_get2 ?_ | refine s_putU ?_ | refine p_sortIt ?_)
local macro_rules | `(tactic| walk_at "2") => `(tactic| first
  | walk_at "1"
  | (with_reducible refine p_var2 ?_)
  | ((with_reducible refine s_name ?_ ?_); (· exact Nat.le_of_ble_eq_true rfl); dsimp only [List.set_cons_zero, List.set_cons_succ])
  | (with_reducible refine p_tup ?_) | (with_reducible refine p_lst ?_) | ((with_reducible refine ⟨?_, ?_⟩); (· exact Nat.le_of_ble_eq_true rfl))
  | ((with_reducible refine p_ex2 (x := ?_) (y := ?_) ?_ ?_); rotate_left; rotate_left; (· rfl); refine ⟨?_, ?_, ?_⟩; (· exact Nat.le_of_ble_eq_true rfl); (· exact Nat.le_of_ble_eq_true rfl); dsimp only [List.set_cons_zero, List.set_cons_succ])
  | ((with_reducible refine p_isT ?_ ?_); (· rfl)) | ((with_reducible refine p_isF ?_ ?_); (· rfl))
  | ((with_reducible refine p_ex (x := ?_) ?_ ?_); rotate_left; (· rfl)))
local macro_rules | `(tactic| walk_at "3") => `(tactic| repeat walk_at "2")
theorem number_numS {i : Int} (h : i.natAbs < 10 ^ 40) (S : Sto) (hS : Sane S) : m_number_of [.str (numS i)] S = .ok (.int i) S := by
  have hl := num_len h
  exact number_spec (cs := numI i) (num_fine i) (by omega) S hS (.int i) (fun _ => by rw [numV_of]) (fun z => absurd (numW_of h) z)
theorem is_name_ok {b : Str} (h : nm b = true) (S : Sto) (hS : Sane S) : m_is_name [.str b] S = .ok (.bl true) S := by
  have := is_name_spec (n := 1) (.str b) (good_nm 1 h) S hS
  rw [this]
  exact congrArg (fun z => Res.ok (D.bl z) S) h
theorem cutD_1 {A : Type} (a : A) (xs : List A) : cutD (a :: xs) (some 1) none = xs := by
  have := cutD_from (a :: xs) (k := 1) (by simp)
  exact this
theorem term_in_spec {t : Term} (h : TermG t) (S : Sto) (hS : Sane S) : m_term_in [.str (termS t)] S = .ok (.tup [toD (monoOf t.2), .int t.1]) S := by
  have sl : 3000 ≤ sizeLine := by decide
  have hl := termS_len h
  have tl := h.len
  refine m_defS hS (by
    show closedL _ [toD (monoOf t.2), D.int t.1] = true
    rw [show [toD (monoOf t.2), D.int t.1] = [(toD (monoOf t.2) : D)] ++ [.int t.1] from rfl]
    have e : D.closed S.length (toD (monoOf t.2)) = true := cl (κ := Mono) _ _
    unfold closedL closedL closedL
    rw [show ([(toD (monoOf t.2) : D)] ++ [D.int t.1]) = [toD (monoOf t.2), D.int t.1] from rfl]
    simp [closedL, e, D.closed]) ?_
  show (b_term_in [some (.str (termS t)), none, none, none, none] S).post _ _ _ _
  unfold b_term_in
  walk_at "3"
  with_reducible refine p_splitQ ?_
  walk_at "3"
  refine ⟨_, _, rfl, rfl, ⟨by kernel_rfl, by omega⟩, ?_⟩
  rw [star_eq, termS_split h, List.map_cons]
  walk_at "3"
  refine Res.post.of_eq (number_numS h.num S hS) ?_
  walk_at "3"
  refine p_lift (a := D.bl false) rfl ?_
  walk_at "3"
  rw [List.length_cons, List.length_map]
  walk_at "3"
  refine ⟨fun z => ?_, fun _ => ?_⟩
  · have z := of_decide_eq_true z
    have z : (12 : Int) + 1 < ((t.2.length + 1 : Nat) : Int) := z
    omega
  walk_at "3"
  refine p_lc ?_
  walk_at "3"
  refine p_cutL ?_
  walk_at "3"
  refine .inl ⟨_, rfl, ?_⟩
  rw [cutD_1]
  dsimp only [wipeD, List.set_cons_zero, List.set_cons_succ]
  refine Res.post.of_eq (lcL_map (f := fun _ => D.bl true) (by exact Nat.le_of_ble_eq_true rfl) fun x hx => ?_) ?_
  · obtain ⟨b, hb, rfl⟩ := List.mem_map.mp hx
    refine exact_of ?_
    walk_at "3"
    exact Res.post.of_eq (is_name_ok (h.nm b hb) S hS) ⟨rfl, rfl⟩
  rw [show (t.2.map D.str).map (fun _ => D.bl true) = (t.2.map fun _ => true).map D.bl by rw [List.map_map, List.map_map]; rfl]
  refine ⟨by rw [List.length_map, List.length_map]; omega, ?_⟩
  walk_at "3"
  refine o_all ?_
  walk_at "3"
  rw [show (t.2.map fun _ => true).all id = true by rw [List.all_map]; exact List.all_eq_true.mpr fun _ _ => rfl]
  walk_at "3"
  refine p_cutL ?_
  walk_at "3"
  refine .inl ⟨_, rfl, ?_⟩
  rw [cutD_1]
  refine s_forT D.str (fun xs δ S2 => ∃ (m : Mono) (d : Nat) (o4 : Option D), S2 = S ∧ MonP t.2 d m ∧ monoF m xs = monoOf t.2 ∧ (∀ x ∈ xs, x ∈ t.2) ∧ d + xs.length = t.2.length ∧ δ = [some (.str (termS t)), some (.lst (.str (numS t.1) :: t.2.map .str)), some (.int t.1), some (toD m), o4]) ?_ ?_ _ _ _ ⟨[], 0, none, rfl, monp_nil _, rfl, fun _ z => z, by omega, rfl⟩
  · rintro x xs δ S2 ⟨m, d, o4, rfl, hm, he, hin, hlen, rfl⟩
    rw [List.length_cons] at hlen
    have hx := hin x List.mem_cons_self
    walk_at "3"
    refine Res.post.of_eq (mono_product_spec hm (monp_box hx) (by omega) S2 hS) ?_
    walk_at "3"
    exact ⟨mmulz m [(x, 1)], d + 1, _, rfl, mmulz_ok hm (monp_box hx), he, fun z hz => hin z (List.mem_cons_of_mem _ hz), by omega, rfl⟩
  · rintro δ S2 ⟨m, d, o4, rfl, hm, he, hin, hlen, rfl⟩
    have he : m = monoOf t.2 := he
    subst he
    walk_at "3"
    exact ⟨rfl, rfl⟩
end DL
set_option Elab.async false
set_option linter.all false
set_option maxRecDepth 100000
set_option maxHeartbeats 1000000
set_option autoImplicit false
/-! A poly read: the program. -/
namespace DL
open PySem L2
open Emb
local macro_rules | `(tactic| walk_at "1") => `(tactic| with_reducible first
  | refine s_seq ?_ | refine s_asg ?_ | refine s_ret ?_ | refine s_if ?_ | refine s_expr ?_ | refine s_next ?_ | refine s_brk ?_ | refine s_cont ?_ | refine s_for ?_ | refine s_while ?_
  | refine p_c ?_ | refine p_bin ?_ | refine p_as ?_ | refine p_cons ?_ | refine p_nil ?_ | refine p_un ?_ | refine p_call ?_ | refine p_if ?_ | refine p_own ?_
  | refine p_keep ?_ | refine p_tru ?_ | refine p_and ?_ | refine p_or ?_ | refine p_not ?_ | refine p_val ?_ | refine p_rand ?_ | refine p_ror ?_ | refine p_rnot ?_ | refine p_chain ?_ | refine p_bif ?_
  | refine o_add ?_ | refine o_sub ?_ | refine o_ltU ?_ | refine o_leU ?_ | refine o_gtU ?_ | refine o_geU ?_ | refine o_neg ?_ | refine o_eqI ?_ | refine o_neI ?_ | refine o_abs ?_ | refine o_tru ?_ | refine p_true ?_ | refine p_false ?_
  | refine o_lenT ?_ | refine o_lenL ?_ | refine o_ix0 ?_ | refine o_ix1 ?_ | refine o_ix2 ?_ | refine o_ix0L ?_ | refine o_ix1L ?_ | refine o_ix2L ?_
  | refine s_par ?_ | refine p_yes ?_ | refine p_seq ?_ | refine s_gnil ?_ | refine s_gcons ?_ | refine s_gtux ?_ | refine s_gtupl ?_ | refine p_onone ?_ | refine p_osome ?_ | refine p_get2 ?_ | refine s_putU ?_ | refine p_sortIt ?_)
local macro_rules | `(tactic| walk_at "2") => `(tactic| first
  | walk_at "1"
  | (with_reducible refine p_var2 ?_)
  | ((with_reducible refine s_name ?_ ?_); (· exact Nat.le_of_ble_eq_true rfl); dsimp only [List.set_cons_zero, List.set_cons_succ])
  | (with_reducible refine p_tup ?_) | (with_reducible refine p_lst ?_) | ((with_reducible refine ⟨?_, ?_⟩); (· exact Nat.le_of_ble_eq_true rfl))
  | ((with_reducible refine p_ex2 (x := ?_) (y := ?_) ?_ ?_); rotate_left; rotate_left; (· rfl); refine ⟨?_, ?_, ?_⟩; (· exact Nat.le_of_ble_eq_true rfl); (· exact Nat.le_of_ble_eq_true rfl); dsimp only [List.set_cons_zero, List.set_cons_succ])
  | ((with_reducible refine p_isT ?_ ?_); (· rfl)) | ((with_reducible refine p_isF ?_ ?_); (· rfl))
  | ((with_reducible refine p_ex (x := ?_) ?_ ?_); rotate_left; (· rfl)))
local macro_rules | `(tactic| walk_at "3") => `(tactic| repeat walk_at "2")
theorem sumT_snoc {ts : List Term} {j : Nat} {t : Term} (h : ts[j]? = some t) : sumT (ts.take (j + 1)) = sumT (ts.take j) ++ [(monoOf t.2, t.1)] := by
  obtain ⟨hj, e⟩ := List.getElem?_eq_some_iff.mp h
  unfold sumT
  rw [List.take_succ, h, List.map_append]
  rfl
theorem addAllz_snoc {κ : Type} [DecidableEq κ] (L : List (κ × Int)) (p : κ × Int) (acc : List (κ × Int)) : addAllz acc (L ++ [p]) = addz (addAllz acc L) p.1 p.2 := by
  rw [addAllz_app]
  rfl
theorem plus_ok : PyData.strOk (plusS) = true := by decide +kernel
end DL
set_option Elab.async false
set_option linter.all false
set_option maxRecDepth 100000
set_option maxHeartbeats 1000000
set_option autoImplicit false
/-! Rows, bodies read: the program. -/
namespace DL
open PySem L2
open Emb
local macro_rules | `(tactic| walk_at "1") => `(tactic| with_reducible first
  | refine s_seq ?_ | refine s_asg ?_ | refine s_ret ?_ | refine s_if ?_ | refine s_expr ?_ | refine s_next ?_ | refine s_brk ?_ | refine s_cont ?_ | refine s_for ?_ | refine s_while ?_
  | refine p_c ?_ | refine p_bin ?_ | refine p_as ?_ | refine p_cons ?_ | refine p_nil ?_ | refine p_un ?_ | refine p_call ?_ | refine p_if ?_ | refine p_own ?_
  | refine p_keep ?_ | refine p_tru ?_ | refine p_and ?_ | refine p_or ?_ | refine p_not ?_ | refine p_val ?_ | refine p_rand ?_ | refine p_ror ?_ | refine p_rnot ?_ | refine p_chain ?_ | refine p_bif ?_
  | refine o_add ?_ | refine o_sub ?_ | refine o_ltU ?_ | refine o_leU ?_ | refine o_gtU ?_ | refine o_geU ?_ | refine o_neg ?_ | refine o_eqI ?_ | refine o_neI ?_ | refine o_abs ?_ | refine o_tru ?_ | refine p_true ?_ | refine p_false ?_
  | refine o_lenT ?_ | refine o_lenL ?_ | refine o_ix0 ?_ | refine o_ix1 ?_ | refine o_ix2 ?_ | refine o_ix0L ?_ | refine o_ix1L ?_ | refine o_ix2L ?_
  | refine s_par ?_ | refine p_yes ?_ | refine p_seq ?_ | refine s_gnil ?_ | refine s_gcons ?_ | refine s_gtux ?_ | refine s_gtupl ?_ | refine p_onone ?_ | refine p_osome ?_ | refine p_get2 ?_ | refine s_putU ?_ | refine p_sortIt ?_)
local macro_rules | `(tactic| walk_at "2") => `(tactic| first
  | walk_at "1"
  | (with_reducible refine p_var2 ?_)
  | ((with_reducible refine s_name ?_ ?_); (· exact Nat.le_of_ble_eq_true rfl); dsimp only [List.set_cons_zero, List.set_cons_succ])
  | (with_reducible refine p_tup ?_) | (with_reducible refine p_lst ?_) | ((with_reducible refine ⟨?_, ?_⟩); (· exact Nat.le_of_ble_eq_true rfl))
  | ((with_reducible refine p_ex2 (x := ?_) (y := ?_) ?_ ?_); rotate_left; rotate_left; (· rfl); refine ⟨?_, ?_, ?_⟩; (· exact Nat.le_of_ble_eq_true rfl); (· exact Nat.le_of_ble_eq_true rfl); dsimp only [List.set_cons_zero, List.set_cons_succ])
  | ((with_reducible refine p_isT ?_ ?_); (· rfl)) | ((with_reducible refine p_isF ?_ ?_); (· rfl))
  | ((with_reducible refine p_ex (x := ?_) ?_ ?_); rotate_left; (· rfl)))
local macro_rules | `(tactic| walk_at "3") => `(tactic| repeat walk_at "2")
def wordsD (ws : List Str) : D := if ("" : Str) ∈ ws then .non else .lst (ws.map .str)
theorem words_of_str {x : Str} (hl : x.length + 2 ≤ sizeLine) (S : Sto) (hS : Sane S) : m_words_of [.str x] S = .ok (wordsD (Txt.split x " ")) S := by
  refine m_defS hS (by unfold wordsD; split <;> first | rfl | exact closed_strs _) ?_
  show (b_words_of [some (.str x), none] S).post _ _ _ _
  unfold b_words_of
  walk_at "3"
  refine p_lift (a := D.bl true) (by kernel_rfl) ?_
  walk_at "3"
  with_reducible refine p_splitQ ?_
  walk_at "3"
  refine ⟨_, _, rfl, rfl, ⟨by kernel_rfl, hl⟩, ?_⟩
  walk_at "3"
  refine o_inStrs ?_
  rw [inV_str]
  walk_at "3"
  unfold wordsD
  refine ⟨fun h => ?_, fun h => ?_⟩
  · rw [if_pos (of_decide_eq_true h)]
    walk_at "3"
    exact ⟨rfl, rfl⟩
  · rw [if_neg (of_decide_eq_false h)]
    walk_at "3"
    exact ⟨rfl, rfl⟩
theorem strok_low {x : Str} (h : ∀ c ∈ x.cps.toList, c < 128) : PyData.strOk x = true := by
  rw [mk_of x]
  exact Fine.ok h
theorem okSign_low {c : Nat} (h : okSign c) : c < 128 := by unfold okSign at h; omega
end DL
set_option Elab.async false
set_option linter.all false
set_option maxRecDepth 100000
set_option maxHeartbeats 1000000
set_option autoImplicit false
/-! Bodies read: the program. -/
namespace DL
open PySem L2
open Emb
local macro_rules | `(tactic| walk_at "1") => `(tactic| with_reducible first
  | refine s_seq ?_ | refine s_asg ?_ | refine s_ret ?_ | refine s_if ?_ | refine s_expr ?_ | refine s_next ?_ | refine s_brk ?_ | refine s_cont ?_ | refine s_for ?_ | refine s_while ?_
  | refine p_c ?_ | refine p_bin ?_ | refine p_as ?_ | refine p_cons ?_ | refine p_nil ?_ | refine p_un ?_ | refine p_call ?_ | refine p_if ?_ | refine p_own ?_
  | refine p_keep ?_ | refine p_tru ?_ | refine p_and ?_ | refine p_or ?_ | refine p_not ?_ | refine p_val ?_ | refine p_rand ?_ | refine p_ror ?_ | refine p_rnot ?_ | refine p_chain ?_ | refine p_bif ?_
  | refine o_add ?_ | refine o_sub ?_ | refine o_ltU ?_ | refine o_leU ?_ | refine o_gtU ?_ | refine o_geU ?_ | refine o_neg ?_ | refine o_eqI ?_ | refine o_neI ?_ | refine o_abs ?_ | refine o_tru ?_ | refine p_true ?_ | refine p_false ?_
  | refine o_lenT ?_ | refine o_lenL ?_ | refine o_ix0 ?_ | refine o_ix1 ?_ | refine o_ix2 ?_ | refine o_ix0L ?_ | refine o_ix1L ?_ | refine o_ix2L ?_
  | refine s_par ?_ | refine p_yes ?_ | refine p_seq ?_ | refine s_gnil ?_ | refine s_gcons ?_ | refine s_gtux ?_ | refine s_gtupl ?_ | refine p_onone ?_ | refine p_osome ?_ | refine p_get2 ?_ | refine s_putU ?_ | refine p_sortIt ?_)
local macro_rules | `(tactic| walk_at "2") => `(tactic| first
  | walk_at "1"
  | (with_reducible refine p_var2 ?_)
  | ((with_reducible refine s_name ?_ ?_); (· exact Nat.le_of_ble_eq_true rfl); dsimp only [List.set_cons_zero, List.set_cons_succ])
  | (with_reducible refine p_tup ?_) | (with_reducible refine p_lst ?_) | ((with_reducible refine ⟨?_, ?_⟩); (· exact Nat.le_of_ble_eq_true rfl))
  | ((with_reducible refine p_ex2 (x := ?_) (y := ?_) ?_ ?_); rotate_left; rotate_left; (· rfl); refine ⟨?_, ?_, ?_⟩; (· exact Nat.le_of_ble_eq_true rfl); (· exact Nat.le_of_ble_eq_true rfl); dsimp only [List.set_cons_zero, List.set_cons_succ])
  | ((with_reducible refine p_isT ?_ ?_); (· rfl)) | ((with_reducible refine p_isF ?_ ?_); (· rfl))
  | ((with_reducible refine p_ex (x := ?_) ?_ ?_); rotate_left; (· rfl)))
local macro_rules | `(tactic| walk_at "3") => `(tactic| repeat walk_at "2")
structure Rdb (q : TRow × Pol) : Prop where
  g : TRowG q.1
  pol : ∃ N d, PolP N d q.2
  eq : Eqz (sumT q.1.2) q.2
end DL
set_option Elab.async false
set_option linter.all false
set_option maxRecDepth 100000
set_option maxHeartbeats 1000000
set_option autoImplicit false
/-! Terms, polys, bodies written: the program and the law. -/
namespace DL
open PySem L2
open Emb
local macro_rules | `(tactic| walk_at "1") => `(tactic| with_reducible first
  | refine s_seq ?_ | refine s_asg ?_ | refine s_ret ?_ | refine s_if ?_ | refine s_expr ?_ | refine s_next ?_ | refine s_brk ?_ | refine s_cont ?_ | refine s_for ?_ | refine s_while ?_
  | refine p_c ?_ | refine p_bin ?_ | refine p_as ?_ | refine p_cons ?_ | refine p_nil ?_ | refine p_un ?_ | refine p_call ?_ | refine p_if ?_ | refine p_own ?_
  | refine p_keep ?_ | refine p_tru ?_ | refine p_and ?_ | refine p_or ?_ | refine p_not ?_ | refine p_val ?_ | refine p_rand ?_ | refine p_ror ?_ | refine p_rnot ?_ | refine p_chain ?_ | refine p_bif ?_
  | refine o_add ?_ | refine o_sub ?_ | refine o_ltU ?_ | refine o_leU ?_ | refine o_gtU ?_ | refine o_geU ?_ | refine o_neg ?_ | refine o_eqI ?_ | refine o_neI ?_ | refine o_abs ?_ | refine o_tru ?_ | refine p_true ?_ | refine p_false ?_
  | refine o_lenT ?_ | refine o_lenL ?_ | refine o_ix0 ?_ | refine o_ix1 ?_ | refine o_ix2 ?_ | refine o_ix0L ?_ | refine o_ix1L ?_ | refine o_ix2L ?_
  | refine s_par ?_ | refine p_yes ?_ | refine p_seq ?_ | refine s_gnil ?_ | refine s_gcons ?_ | refine s_gtux ?_ | refine s_gtupl ?_ | refine p_onone ?_ | refine p_osome ?_ | refine p_get2 ?_ | refine s_putU ?_ | refine p_sortIt ?_)
local macro_rules | `(tactic| walk_at "2") => `(tactic| first
  | walk_at "1"
  | (with_reducible refine p_var2 ?_)
  | ((with_reducible refine s_name ?_ ?_); (· exact Nat.le_of_ble_eq_true rfl); dsimp only [List.set_cons_zero, List.set_cons_succ])
  | (with_reducible refine p_tup ?_) | (with_reducible refine p_lst ?_) | ((with_reducible refine ⟨?_, ?_⟩); (· exact Nat.le_of_ble_eq_true rfl))
  | ((with_reducible refine p_ex2 (x := ?_) (y := ?_) ?_ ?_); rotate_left; rotate_left; (· rfl); refine ⟨?_, ?_, ?_⟩; (· exact Nat.le_of_ble_eq_true rfl); (· exact Nat.le_of_ble_eq_true rfl); dsimp only [List.set_cons_zero, List.set_cons_succ])
  | ((with_reducible refine p_isT ?_ ?_); (· rfl)) | ((with_reducible refine p_isF ?_ ?_); (· rfl))
  | ((with_reducible refine p_ex (x := ?_) ?_ ?_); rotate_left; (· rfl)))
local macro_rules | `(tactic| walk_at "3") => `(tactic| repeat walk_at "2")
theorem term_text_spec {N : List Str} (hN : ∀ x ∈ N, DL.nm x = true) {d : Nat} (hd : d ≤ 12) {m : Mono} (h : MonP N d m) {i : Int} (hi : i.natAbs < 10 ^ 40) (S : Sto) (hS : Sane S) : m_term_text [toD m, .int i] S = .ok (.str (termS (i, spread m))) S := by
  have sl : 3000 ≤ sizeLine := by decide
  have hl := spread_len h
  have ht : TermG (i, spread m) := ⟨hi, fun b hb => hN b (spread_in h hb), by show (spread m).length ≤ 12; omega⟩
  refine m_defS hS rfl ?_
  show (b_term_text [some (toD m), some (.int i), none, none, none] S).post _ _ _ _
  unfold b_term_text
  walk_at "3"
  refine p_lift (o_strI hi) ?_
  walk_at "3"
  refine .inr (.inl ⟨m.map toD, rfl, ?_⟩)
  refine s_forT toD (fun xs δ S2 => ∃ (acc : List Str) (o3 o4 : Option D), S2 = S ∧ acc ++ spread xs = spread m ∧ (∀ p ∈ xs, p ∈ m) ∧ δ = [some (toD m), some (.int i), some (.lst ((numS i :: acc).map .str)), o3, o4]) ?_ ?_ _ _ _ ⟨[], none, none, rfl, rfl, (fun _ z => z), rfl⟩
  · rintro x xs δ S2 ⟨acc, o2, o3, rfl, he, hin, rfl⟩
    have hx := hin x List.mem_cons_self
    have x2 := h.len.2.1 x hx
    have x1 := (h.nc x hx).2
    have e : spread (x :: xs) = List.replicate x.2.toNat x.1 ++ spread xs := by unfold spread; rw [List.flatMap_cons]
    rw [e] at he
    have hlen := congrArg List.length he
    rw [List.length_append, List.length_append, List.length_replicate] at hlen
    show (gTup _ (.tup [.str x.1, .int x.2]) _ _).post _
    walk_at "3"
    refine p_lift (a := .lst ((List.replicate x.2.toNat x.1).map .str)) ?_ ?_
    · show (if -(2 ^ 63) ≤ x.2 ∧ x.2 < 2 ^ 63 ∧ 1 * x.2.toNat ≤ sizeLine then some (D.lst (List.replicate x.2.toNat [D.str x.1]).flatten) else none) = _
      rw [if_pos ⟨by omega, by omega, by omega⟩, List.flatten_replicate_singleton, List.map_replicate]
    · walk_at "3"
      refine o_catS (a := numS i :: acc) (by rw [List.length_replicate, List.length_cons]; omega) ?_
      walk_at "3"
      refine ⟨acc ++ List.replicate x.2.toNat x.1, _, _, rfl, by rw [List.append_assoc]; exact he, fun p hp => hin p (List.mem_cons_of_mem _ hp), rfl⟩
  · rintro δ S2 ⟨acc, o2, o3, rfl, he, _, rfl⟩
    have he : acc ++ [] = spread m := he
    rw [List.append_nil] at he
    subst he
    walk_at "3"
    refine p_meth ?_
    walk_at "3"
    refine ⟨rfl, ?_⟩
    walk_at "3"
    rw [star_eq]
    refine ⟨_, _, o_joinS (m := 41) (termS_parts ht) (by rw [List.length_cons, show starS.length = 1 by decide]; show ((spread m).length + 1) * _ ≤ _; omega), rfl, rfl⟩
end DL
set_option Elab.async false
set_option linter.all false
set_option maxRecDepth 100000
set_option maxHeartbeats 1000000
set_option autoImplicit false
namespace DL
open PySem L2
open Emb
local macro_rules | `(tactic| walk_at "1") => `(tactic| with_reducible first
  | refine s_seq ?_ | refine s_asg ?_ | refine s_ret ?_ | refine s_if ?_ | refine s_expr ?_ | refine s_next ?_ | refine s_brk ?_ | refine s_cont ?_ | refine s_for ?_ | refine s_while ?_
  | refine p_c ?_ | refine p_bin ?_ | refine p_as ?_ | refine p_cons ?_ | refine p_nil ?_ | refine p_un ?_ | refine p_call ?_ | refine p_if ?_ | refine p_own ?_
  | refine p_keep ?_ | refine p_tru ?_ | refine p_and ?_ | refine p_or ?_ | refine p_not ?_ | refine p_val ?_ | refine p_rand ?_ | refine p_ror ?_ | refine p_rnot ?_ | refine p_chain ?_ | refine p_bif ?_
  | refine o_add ?_ | refine o_sub ?_ | refine o_ltU ?_ | refine o_leU ?_ | refine o_gtU ?_ | refine o_geU ?_ | refine o_neg ?_ | refine o_eqI ?_ | refine o_neI ?_ | refine o_abs ?_ | refine o_tru ?_ | refine p_true ?_ | refine p_false ?_
  | refine o_lenT ?_ | refine o_lenL ?_ | refine o_ix0 ?_ | refine o_ix1 ?_ | refine o_ix2 ?_ | refine o_ix0L ?_ | refine o_ix1L ?_ | refine o_ix2L ?_
  | refine s_par ?_ | refine p_yes ?_ | refine p_seq ?_ | refine s_gnil ?_ | refine s_gcons ?_ | refine s_gtux ?_ | refine s_gtupl ?_ | refine p_onone ?_ | refine p_osome ?_ | refine p_get2 ?_ | refine s_putU ?_ | refine p_sortIt ?_)
local macro_rules | `(tactic| walk_at "2") => `(tactic| first
  | walk_at "1"
  | (with_reducible refine p_var2 ?_)
  | ((with_reducible refine s_name ?_ ?_); (· exact Nat.le_of_ble_eq_true rfl); dsimp only [List.set_cons_zero, List.set_cons_succ])
  | (with_reducible refine p_tup ?_) | (with_reducible refine p_lst ?_) | ((with_reducible refine ⟨?_, ?_⟩); (· exact Nat.le_of_ble_eq_true rfl))
  | ((with_reducible refine p_ex2 (x := ?_) (y := ?_) ?_ ?_); rotate_left; rotate_left; (· rfl); refine ⟨?_, ?_, ?_⟩; (· exact Nat.le_of_ble_eq_true rfl); (· exact Nat.le_of_ble_eq_true rfl); dsimp only [List.set_cons_zero, List.set_cons_succ])
  | ((with_reducible refine p_isT ?_ ?_); (· rfl)) | ((with_reducible refine p_isF ?_ ?_); (· rfl))
  | ((with_reducible refine p_ex (x := ?_) ?_ ?_); rotate_left; (· rfl)))
local macro_rules | `(tactic| walk_at "3") => `(tactic| repeat walk_at "2")
open PyProof
set_option exponentiation.threshold 10000 in
theorem log_sml {i : Int} (h : i ≤ 10 ^ 40) (h1 : 1 ≤ i) : i.natAbs.log2 < 9000 := by
  have : i.natAbs < 2 ^ 9000 := by
    have h2 : i.natAbs ≤ 10 ^ 40 := by omega
    have h3 : (10 : Nat) ^ 40 < 2 ^ 9000 := Nat.lt_of_le_of_lt (Nat.pow_le_pow_left (by decide : 10 ≤ 2 ^ 4) 40) (by rw [← Nat.pow_mul]; exact Nat.pow_lt_pow_right (by decide) (by decide))
    omega
  exact (Nat.log2_lt (by omega)).mpr this
theorem fmod_rng (a : Int) {m : Int} (h : 0 < m) : 0 ≤ a.fmod m ∧ a.fmod m < m := by
  rw [Int.fmod_eq_emod_of_nonneg _ (by omega)]
  exact ⟨Int.emod_nonneg _ (by omega), Int.emod_lt_of_pos _ h⟩
/-! ### the state of the digits -/
def sdD (l s t : Int) : D := .dct (kvD (κ := Str) (ν := Int) [("left", l), ("seed", s), ("turns", t)])
theorem sdD_dic (l s t : Int) : IsDic (sdD l s t) ([("left", l), ("seed", s), ("turns", t)] : List (Str × Int)) := isDic_of _
theorem sdD_closed (l s t : Int) (n : Nat) : D.closed n (sdD l s t) = true := isDic_closed (sdD_dic l s t) n
def SdG (c : Nat) (l s t : Int) : Prop := 0 ≤ l ∧ 0 ≤ s ∧ s < 2147483647 ∧ 0 ≤ t ∧ t ≤ c
structure Gs (j c : Nat) (S : Sto) : Prop where
  sn : Sane S
  at_ : ∃ l s t, S[j]? = some (sdD l s t) ∧ SdG c l s t
def Gr (j c : Nat) (S S' : Sto) : Prop := ∃ l s t, S' = S.set j (sdD l s t) ∧ SdG c l s t
/-- within a def that draws -/
structure Gi (j c : Nat) (S S2 : Sto) : Prop where
  sn : Sane S2
  tk : ∃ l s t, S2.take S.length = S.set j (sdD l s t) ∧ SdG c l s t
section
variable {j c c' : Nat} {S S2 S3 : Sto}
theorem SdG.le {l s t : Int} (h : SdG c l s t) (hc : c ≤ c') : SdG c' l s t := ⟨h.1, h.2.1, h.2.2.1, h.2.2.2.1, by have := h.2.2.2.2; omega⟩
theorem Gs.le (h : Gs j c S) (hc : c ≤ c') : Gs j c' S := by
  obtain ⟨l, s, t, e, g⟩ := h.at_
  exact ⟨h.sn, l, s, t, e, g.le hc⟩
theorem Gr.le (h : Gr j c S S2) (hc : c ≤ c') : Gr j c' S S2 := by
  obtain ⟨l, s, t, e, g⟩ := h
  exact ⟨l, s, t, e, g.le hc⟩
theorem Gi.le (h : Gi j c S S2) (hc : c ≤ c') : Gi j c' S S2 := by
  obtain ⟨l, s, t, e, g⟩ := h.tk
  exact ⟨h.sn, l, s, t, e, g.le hc⟩
theorem Gs.lt (h : Gs j c S) : j < S.length := by
  obtain ⟨l, s, t, h, _⟩ := h.at_
  exact lt_of_at h
theorem Gs.in_ (h : Gs j c S) : Gi j c S S := by
  obtain ⟨l, s, t, e, g⟩ := h.at_
  refine ⟨h.sn, l, s, t, ?_, g⟩
  rw [List.take_length]
  have hlt := lt_of_at e
  have := (List.getElem?_eq_some_iff.mp e).2
  rw [← this]
  exact (List.set_getElem_self hlt).symm
theorem Gi.len (h : Gi j c S S2) : S.length ≤ S2.length := by
  obtain ⟨l, s, t, e, _⟩ := h.tk
  have : (S2.take S.length).length = S.length := by rw [e, List.length_set]
  rw [List.length_take] at this
  omega
theorem Gi.gs (hj : j < S.length) (h : Gi j c S S2) : Gs j c S2 := by
  obtain ⟨l, s, t, e, g⟩ := h.tk
  refine ⟨h.sn, l, s, t, ?_, g⟩
  have : (S2.take S.length)[j]? = some (sdD l s t) := by rw [e]; exact List.getElem?_set_self hj
  rwa [List.getElem?_take_of_lt hj] at this
theorem Gi.gr (hj : j < S.length) (h : Gi j c S S2) (d : Gr j c' S2 S3) : Gi j c' S S3 := by
  obtain ⟨l, s, t, e, g⟩ := h.tk
  obtain ⟨l', s', t', rfl, g'⟩ := d
  refine ⟨sane_set h.sn (sdD_closed _ _ _ _), l', s', t', ?_, g'⟩
  rw [List.take_set, e, List.set_set]
theorem Gi.app {v : D} (h : Gi j c S S2) (hv : D.closed (S2.length + 1) v = true) : Gi j c S (S2 ++ [v]) := by
  obtain ⟨l, s, t, e, g⟩ := h.tk
  refine ⟨sane_app h.sn hv, l, s, t, ?_, g⟩
  rw [List.take_append_of_le_length h.len]
  exact e
theorem Gi.setO {v : D} {k : Nat} (h : Gi j c S S2) (hk : S.length ≤ k) (hv : D.closed S2.length v = true) : Gi j c S (S2.set k v) := by
  obtain ⟨l, s, t, e, g⟩ := h.tk
  refine ⟨sane_set h.sn hv, l, s, t, ?_, g⟩
  rw [take_set_le hk]
  exact e
theorem Gr.get {k : Nat} {v : D} (d : Gr j c S S2) (hk : S[k]? = some v) (hne : k ≠ j) : S2[k]? = some v := by
  obtain ⟨l, s, t, rfl, _⟩ := d
  rw [List.getElem?_set_ne (by omega)]
  exact hk
theorem Gr.len (d : Gr j c S S2) : S2.length = S.length := by
  obtain ⟨l, s, t, rfl, _⟩ := d
  exact List.length_set
theorem m_gi {n c0 : Nat} {b : RS} {ds : List D} {P : D → Prop} (hd : Gs j c0 S) (h : (b (ds.map some ++ List.replicate (n - ds.length) none) S).post NoS (fun z S1 => D.closed S.length z = true ∧ Gi j c S S1 ∧ P z) NoS NoS) : (mDef n b ds S).post fun z S' => P z ∧ Gr j c S S' :=
  m_def (h.mono (fun _ _ z => z.elim) (fun z S1 ⟨e1, e2, e3⟩ => by
    obtain ⟨l, s, t, e, g⟩ := e2.tk
    have sc : closedL S.length (S.set j (sdD l s t)) = true := by
      have := sane_set hd.sn (k := j) (sdD_closed l s t S.length)
      unfold Sane at this
      rwa [List.length_set] at this
    rw [e1, e, sc]
    exact ⟨rfl, e3, l, s, t, rfl, g⟩) (fun _ _ z => z) (fun _ _ z => z))
theorem Gs.gr (h : Gs j c S) (d : Gr j c' S S2) : Gs j c' S2 := (h.in_.gr h.lt d).gs h.lt
/-! one draw -/
theorem mixed_spec (x k : Int) (hk : k.natAbs < 2 ^ 45) (S : Sto) (hS : Sane S) : ∃ v : Int, 0 ≤ v ∧ v < 2147483647 ∧ m__law_mixed [.int x, .int k] S = .ok (.int v) S := by
  refine ⟨(((((x.fmod 1000000007 + 7919 * k + 13) * (x.fmod 1000000007 + 7919 * k + 13)).fmod 1000000007) * 48271).fmod 2147483647), (fmod_rng _ (by decide)).1, (fmod_rng _ (by decide)).2, m_defS hS rfl ?_⟩
  show (b__law_mixed [some (.int x), some (.int k)] S).post _ _ _ _
  unfold b__law_mixed
  have r := fmod_rng x (m := 1000000007) (by decide)
  walk_at "3"
  refine o_mod (by decide) ?_
  walk_at "3"
  refine o_mul (fits_l (by decide)) ?_
  walk_at "3"
  refine o_mul (fits_l (by omega)) ?_
  walk_at "3"
  refine o_mod (by decide) ?_
  walk_at "3"
  refine o_mul (fits_r (by decide)) ?_
  walk_at "3"
  refine o_mod (by decide) ?_
  exact ⟨rfl, rfl⟩
theorem digit_spec (hd : Gs j c S) (hc : c < 2 ^ 40) {many : Int} (h1 : 1 ≤ many) (h2 : many ≤ 10 ^ 40) : (m__law_digit [.ptr j, .int many] S).post fun z S' => (∃ v, z = .int v ∧ 0 ≤ v ∧ v < many) ∧ Gr j (c + 1) S S' := by
  obtain ⟨l, s, t, e, gl, gs, gs2, gt, gt2⟩ := hd.at_
  refine m_gi (P := fun z => ∃ v, z = .int v ∧ 0 ≤ v ∧ v < many) hd ?_
  show (b__law_digit [some (.ptr j), some (.int many), none, none] S).post _ _ _ _
  unfold b__law_digit
  have fin : ∀ {l' s' t' : Int}, SdG (c + 1) l' s' t' → Gi j (c + 1) S (S.set j (sdD l' s' t')) := fun {l' s' t'} g => hd.in_.gr hd.lt ⟨l', s', t', rfl, g⟩
  with_reducible refine s_seq ?_
  refine Out.post.mono (N1 := fun δ1 S1 => ∃ (l' t' : Int) (o2 : Option D), S1 = S.set j (sdD l' s t') ∧ 0 ≤ l' ∧ 0 ≤ t' ∧ t' ≤ ((c + 1 : Nat) : Int) ∧ δ1 = [some (.ptr j), some (.int many), o2, none]) (T1 := NoD) (B1 := NoS) (C1 := NoS) ?_ ?_ (fun _ _ z => z.elim) (fun _ _ z => z.elim) (fun _ _ z => z.elim)
  · walk_at "3"
    refine o_getD (sdD_dic l s t) e (show getT ([("left", l), ("seed", s), ("turns", t)] : List (Str × Int)) "left" = some l from rfl) ?_
    rw [toD_int]
    walk_at "3"
    refine ⟨fun z => ?_, fun z => ?_⟩
    · walk_at "3"
      refine o_getD (sdD_dic l s t) e (show getT ([("left", l), ("seed", s), ("turns", t)] : List (Str × Int)) "turns" = some t from rfl) ?_
      rw [toD_int]
      walk_at "3"
      refine ⟨j, _, sdD l s (t + 1), rfl, e, rfl, ?_⟩
      walk_at "3"
      with_reducible refine p_range1 ?_
      walk_at "3"
      refine ⟨by decide, by decide, ?_⟩
      refine s_forL (fun xs δ S2 => ∃ (l' : Int) (o2 : Option D), (∀ x ∈ xs, ∃ i : Int, x = .int i ∧ 0 ≤ i ∧ i < 4) ∧ S2 = S.set j (sdD l' s (t + 1)) ∧ 0 ≤ l' ∧ δ = [some (.ptr j), some (.int many), o2, none]) ?_ ?_ _ _ _ ⟨l, none, ?_, rfl, gl, rfl⟩
      · rintro x xs δ S2 ⟨l', o2, hxs, rfl, hl', rfl⟩
        obtain ⟨i, rfl, i0, i4⟩ := hxs x List.mem_cons_self
        have e2 : (S.set j (sdD l' s (t + 1)))[j]? = some (sdD l' s (t + 1)) := List.getElem?_set_self hd.lt
        have sn2 : Sane (S.set j (sdD l' s (t + 1))) := sane_set hd.sn (sdD_closed _ _ _ _)
        obtain ⟨v, v0, v1, ev⟩ := mixed_spec s (4 * (t + 1) + i) (by omega) _ sn2
        walk_at "3"
        refine o_getD (sdD_dic l' s (t + 1)) e2 (show getT ([("left", l'), ("seed", s), ("turns", t + 1)] : List (Str × Int)) "left" = some l' from rfl) ?_
        rw [toD_int]
        walk_at "3"
        refine o_mul (fits_r (by decide)) ?_
        walk_at "3"
        refine o_getD (sdD_dic l' s (t + 1)) e2 (show getT ([("left", l'), ("seed", s), ("turns", t + 1)] : List (Str × Int)) "seed" = some s from rfl) ?_
        rw [toD_int]
        walk_at "3"
        refine o_getD (sdD_dic l' s (t + 1)) e2 (show getT ([("left", l'), ("seed", s), ("turns", t + 1)] : List (Str × Int)) "turns" = some (t + 1) from rfl) ?_
        rw [toD_int]
        refine o_mul (fits_l (by decide)) ?_
        walk_at "3"
        refine Res.post.of_eq ev ?_
        walk_at "3"
        refine ⟨j, _, sdD (l' * 2147483647 + v) s (t + 1), rfl, e2, rfl, ?_⟩
        refine ⟨l' * 2147483647 + v, _, fun y hy => hxs y (List.mem_cons_of_mem _ hy), by rw [List.set_set], by omega, rfl⟩
      · rintro δ S2 ⟨l', o2, _, rfl, hl', rfl⟩
        exact ⟨l', t + 1, o2, rfl, hl', by omega, by omega, rfl⟩
      · intro x hx
        unfold rangeD at hx
        obtain ⟨i, hi, rfl⟩ := List.mem_map.mp hx
        have := List.mem_range.mp hi
        exact ⟨_, rfl, by omega, by omega⟩
    · walk_at "3"
      refine ⟨l, t, none, ?_, gl, gt, by omega, rfl⟩
      have hlt := hd.lt
      have := (List.getElem?_eq_some_iff.mp e).2
      rw [← this]
      exact (List.set_getElem_self hlt).symm
  rintro δ1 S1 ⟨l', t', o2, rfl, hl', ht', htc, rfl⟩
  have e2 : (S.set j (sdD l' s t'))[j]? = some (sdD l' s t') := List.getElem?_set_self hd.lt
  walk_at "3"
  refine o_getD (sdD_dic l' s t') e2 (show getT ([("left", l'), ("seed", s), ("turns", t')] : List (Str × Int)) "left" = some l' from rfl) ?_
  rw [toD_int]
  walk_at "3"
  refine o_mod (by omega) ?_
  walk_at "3"
  refine o_getD (sdD_dic l' s t') e2 (show getT ([("left", l'), ("seed", s), ("turns", t')] : List (Str × Int)) "left" = some l' from rfl) ?_
  rw [toD_int]
  walk_at "3"
  refine o_div ⟨by omega, log_sml h2 h1⟩ ?_
  walk_at "3"
  refine ⟨j, _, sdD (l'.fdiv many) s t', rfl, e2, rfl, ?_⟩
  walk_at "3"
  have r := fmod_rng l' (m := many) (by omega)
  rw [List.set_set]
  refine ⟨rfl, fin ⟨?_, gs, gs2, ht', htc⟩, _, rfl, r.1, r.2⟩
  rw [Int.fdiv_eq_ediv_of_nonneg _ (by omega)]
  exact Int.ediv_nonneg hl' (by omega)
theorem digit_go (hd : Gs j c S) (hc : c < 2 ^ 40) {many : Int} (h1 : 1 ≤ many) (h2 : many ≤ 10 ^ 40) {Q : D → Sto → Prop} (h : ∀ v S', 0 ≤ v → v < many → Gr j (c + 1) S S' → Q (.int v) S') : (m__law_digit [.ptr j, .int many] S).post Q :=
  (digit_spec hd hc h1 h2).mono fun z S' ⟨⟨v, e, v0, v1⟩, d⟩ => by subst e; exact h v S' v0 v1 d
end
end DL
set_option Elab.async false
set_option linter.all false
set_option maxRecDepth 100000
set_option maxHeartbeats 1000000
set_option autoImplicit false
namespace DL
open PySem L2
open Emb
local macro_rules | `(tactic| walk_at "1") => `(tactic| with_reducible first
  | refine s_seq ?_ | refine s_asg ?_ | refine s_ret ?_ | refine s_if ?_ | refine s_expr ?_ | refine s_next ?_ | refine s_brk ?_ | refine s_cont ?_ | refine s_for ?_ | refine s_while ?_
  | refine p_c ?_ | refine p_bin ?_ | refine p_as ?_ | refine p_cons ?_ | refine p_nil ?_ | refine p_un ?_ | refine p_call ?_ | refine p_if ?_ | refine p_own ?_
  | refine p_keep ?_ | refine p_tru ?_ | refine p_and ?_ | refine p_or ?_ | refine p_not ?_ | refine p_val ?_ | refine p_rand ?_ | refine p_ror ?_ | refine p_rnot ?_ | refine p_chain ?_ | refine p_bif ?_
  | refine o_add ?_ | refine o_sub ?_ | refine o_ltU ?_ | refine o_leU ?_ | refine o_gtU ?_ | refine o_geU ?_ | refine o_neg ?_ | refine o_eqI ?_ | refine o_neI ?_ | refine o_abs ?_ | refine o_tru ?_ | refine p_true ?_ | refine p_false ?_
  | refine o_lenT ?_ | refine o_lenL ?_ | refine o_ix0 ?_ | refine o_ix1 ?_ | refine o_ix2 ?_ | refine o_ix0L ?_ | refine o_ix1L ?_ | refine o_ix2L ?_
  | refine s_par ?_ | refine p_yes ?_ | refine p_seq ?_ | refine s_gnil ?_ | refine s_gcons ?_ | refine s_gtux ?_ | refine s_gtupl ?_ | refine p_onone ?_ | refine p_osome ?_ | refine p_get2 ?_ | refine s_putU ?_ | refine p_sortIt ?_)
local macro_rules | `(tactic| walk_at "2") => `(tactic| first
  | walk_at "1"
  | (with_reducible refine p_var2 ?_)
  | ((with_reducible refine s_name ?_ ?_); (· exact Nat.le_of_ble_eq_true rfl); dsimp only [List.set_cons_zero, List.set_cons_succ])
  | (with_reducible refine p_tup ?_) | (with_reducible refine p_lst ?_) | ((with_reducible refine ⟨?_, ?_⟩); (· exact Nat.le_of_ble_eq_true rfl))
  | ((with_reducible refine p_ex2 (x := ?_) (y := ?_) ?_ ?_); rotate_left; rotate_left; (· rfl); refine ⟨?_, ?_, ?_⟩; (· exact Nat.le_of_ble_eq_true rfl); (· exact Nat.le_of_ble_eq_true rfl); dsimp only [List.set_cons_zero, List.set_cons_succ])
  | ((with_reducible refine p_isT ?_ ?_); (· rfl)) | ((with_reducible refine p_isF ?_ ?_); (· rfl))
  | ((with_reducible refine p_ex (x := ?_) ?_ ?_); rotate_left; (· rfl)))
local macro_rules | `(tactic| walk_at "3") => `(tactic| repeat walk_at "2")
open PyProof
/-! ### polys drawn by digits -/
theorem dmono_spec {j c : Nat} {S : Sto} (hd : Gs j c S) (hc : c < 2 ^ 39) {names : List Str} (hN : 1 ≤ names.length ∧ names.length ≤ 8) (most : Nat) (hm : most ≤ 12) : (m__law_mono [.ptr j, .lst (names.map .str), .int most] S).post fun z S' => (∃ m, z = toD m ∧ MonP names most m) ∧ Gr j (c + 14) S S' := by
  have sl : 1000 ≤ sizeLine := by decide
  have hlt := hd.lt
  refine m_gi (P := fun z => ∃ m, z = toD m ∧ MonP names most m) hd ?_
  show (b__law_mono [some (.ptr j), some (.lst (names.map .str)), some (.int most), none, none, none] S).post _ _ _ _
  unfold b__law_mono
  walk_at "3"
  with_reducible refine p_range1 ?_
  walk_at "3"
  have i3 : Gi j c S (S ++ [.dct []]) := hd.in_.app rfl
  refine digit_go (i3.gs hlt) (by omega) (by omega) (by omega) fun v S3 v0 v1 d3 => ?_
  refine ⟨_, rfl, by omega, by omega, ?_⟩
  have i4 := i3.gr hlt d3
  have gp3 : S3[S.length]? = some (.dct []) := d3.get get_app (by omega)
  have rl3 : (rangeD 0 v).length = v.toNat := by unfold rangeD; rw [List.length_map, List.length_range]; omega
  refine s_forL (fun ys δ S4 => ∃ (n : Nat) (pw : Nums) (up : D) (o4 o5 : Option D), n + ys.length = v.toNat ∧ Gi j (c + 1 + n) S S4 ∧ S4[S.length]? = some up ∧ IsDic up pw ∧ ND pw ∧ (∀ p ∈ pw, p.1 ∈ names ∧ 1 ≤ p.2) ∧ dgm pw + ys.length ≤ most ∧ δ = [some (.ptr j), some (.lst (names.map .str)), some (.int most), some (.ptr S.length), o4, o5]) ?_ ?_ _ _ _
    ⟨0, [], _, none, none, by rw [rl3, Nat.zero_add], i4, gp3, isDic_nil, List.nodup_nil, (fun _ z => nomatch z), by rw [rl3, dgm_nil]; omega, rfl⟩
  · rintro y ys δ S4 ⟨n, pw, up, o4, o5, hn, i4, gp, hup, ndp, hpw, hdg, rfl⟩
    rw [List.length_cons] at hdg hn
    walk_at "3"
    rw [List.length_map]
    refine digit_go (i4.gs hlt) (by omega) (by omega) (by omega) fun v S5 v0 v1 d5 => ?_
    have i5 := i4.gr hlt d5
    have gp5 : S5[S.length]? = some up := d5.get gp (by omega)
    obtain ⟨b, hb, eb⟩ := names_at v0 v1
    refine o_ixL eb ?_
    have lpw : pw.length ≤ 12 := by have := (dgm_pos hpw).1; omega
    obtain ⟨k1, k2, k3, u', k4, k5⟩ := add_at hup gp5 (by omega) b 1
    walk_at "3"
    refine ⟨k1, ?_⟩
    walk_at "3"
    refine ⟨_, k2, ?_⟩
    rw [k3]
    walk_at "3"
    refine ⟨S.length, up, u', rfl, gp5, k4, ?_⟩
    obtain ⟨a1, a2, a3⟩ := monp_add ndp hpw hb
    exact ⟨n + 1, addz pw b 1, u', _, _, by omega, (i5.setO (Nat.le_refl _) (isDic_closed k5 _)).le (by omega), List.getElem?_set_self (lt_of_at gp5), k5, a1, a2, by rw [a3]; omega, rfl⟩
  · rintro δ S4 ⟨n, pw, up, o4, o5, hn, i4, gp, hup, ndp, hpw, hdg, rfl⟩
    have hdg : dgm pw + 0 ≤ most := hdg
    have hn : n = v.toNat := hn
    have lpw : pw.length ≤ 12 := by have := (dgm_pos hpw).1; omega
    have mm : MonP names most (srt pw) := ⟨inc_srt ndp, fun p hp => hpw p (srt_mem.mp hp), by rw [dgm_perm (srt_perm _)]; omega⟩
    walk_at "3"
    refine ⟨(srt pw).map toD, ?_, ?_⟩
    · rw [dic_itemsOf hup gp]
      exact sortD_emb _ _ (by omega)
    walk_at "3"
    refine p_lift (show gTuple _ [.lst ((srt pw).map toD)] = some (.tup ((srt pw).map toD)) from rfl) ?_
    exact ⟨cl (κ := Mono) _ _, i4.le (by omega), _, rfl, mm⟩
theorem great_at {v : Int} (h0 : 0 ≤ v) (h1 : v < 4) : ∃ g : Int, 3 ≤ g ∧ g ≤ 10 ^ 20 ∧ atI [D.int 3, .int 9, .int 9, .int (10 ^ 20)] v = some (.int g) := by
  have : v = 0 ∨ v = 1 ∨ v = 2 ∨ v = 3 := by omega
  rcases this with rfl | rfl | rfl | rfl
  · exact ⟨3, by decide, by decide, rfl⟩
  · exact ⟨9, by decide, by decide, rfl⟩
  · exact ⟨9, by decide, by decide, rfl⟩
  · exact ⟨10 ^ 20, by decide, by decide, rfl⟩
theorem dnumber_spec {j c : Nat} {S : Sto} (hd : Gs j c S) (hc : c < 2 ^ 39) : (m__law_number [.ptr j] S).post fun z S' => (∃ i : Int, z = .int i ∧ i ≠ 0 ∧ i.natAbs ≤ 10 ^ 20) ∧ Gr j (c + 2) S S' := by
  have hlt := hd.lt
  refine m_gi (P := fun z => ∃ i : Int, z = .int i ∧ i ≠ 0 ∧ i.natAbs ≤ 10 ^ 20) hd ?_
  show (b__law_number [some (.ptr j), none, none] S).post _ _ _ _
  unfold b__law_number
  walk_at "3"
  have p20 : ((10 : Int) ^ (20 : Int).toNat) = 10 ^ 20 := by decide
  refine o_pow ⟨by decide, by decide, by decide⟩ ?_
  rw [p20]
  walk_at "3"
  refine digit_go hd (by omega) (by decide) (by decide) fun v S1 v0 v1 d1 => ?_
  obtain ⟨g, g0, g1, eg⟩ := great_at v0 v1
  refine o_ixL eg ?_
  have i1 := hd.in_.gr hlt d1
  walk_at "3"
  refine o_mul (fits_l (by decide)) ?_
  refine digit_go (i1.gs hlt) (by omega) (by omega) (by omega) fun w S2 w0 w1 d2 => ?_
  have i2 := i1.gr hlt d2
  walk_at "3"
  refine ⟨fun z => ?_, fun z => ?_⟩
  · have z : w - g < 0 := of_decide_eq_true z
    walk_at "3"
    exact ⟨rfl, i2, _, rfl, by omega, by omega⟩
  · have z : ¬ w - g < 0 := of_decide_eq_false z
    walk_at "3"
    exact ⟨rfl, i2, _, rfl, by omega, by omega⟩
/-- a poly that is drawn -/
structure PolD (N : List Str) (d : Nat) (p : Pol) : Prop where
  inc : Inc p
  nz : ∀ q ∈ p, q.2 ≠ 0
  ok : OkL N d p
  num : ∀ q ∈ p, q.2.natAbs ≤ 10 ^ 20
  len : p.length ≤ 6
theorem dpoly_spec {j c : Nat} {S : Sto} (hd : Gs j c S) (hc : c < 2 ^ 38) {names : List Str} (hN : 1 ≤ names.length ∧ names.length ≤ 8) (many most : Nat) (hmany : many ≤ 6) (hm : most ≤ 12) : (m__law_poly [.ptr j, .lst (names.map .str), .int many, .int most] S).post fun z S' => (∃ p, z = toD p ∧ PolD names most p) ∧ Gr j (c + 200) S S' := by
  have sl : 1000 ≤ sizeLine := by decide
  have hlt := hd.lt
  refine m_gi (P := fun z => ∃ p, z = toD p ∧ PolD names most p) hd ?_
  show (b__law_poly [some (.ptr j), some (.lst (names.map .str)), some (.int many), some (.int most), none, none] S).post _ _ _ _
  unfold b__law_poly
  walk_at "3"
  with_reducible refine p_range1 ?_
  walk_at "3"
  have i3 : Gi j c S (S ++ [.dct []]) := hd.in_.app rfl
  refine digit_go (i3.gs hlt) (by omega) (by omega) (by omega) fun v S3 v0 v1 d3 => ?_
  refine ⟨_, rfl, by omega, by omega, ?_⟩
  have i4 := i3.gr hlt d3
  have gp3 : S3[S.length]? = some (.dct []) := d3.get get_app (by omega)
  have rl3 : (rangeD 0 v).length = v.toNat := by unfold rangeD; rw [List.length_map, List.length_range]; omega
  refine s_forL (fun ys δ S4 => ∃ (n : Nat) (acc : Pol) (u : D) (o5 : Option D), n + ys.length = v.toNat ∧ Gi j (c + 1 + 20 * n) S S4 ∧ S4[S.length]? = some u ∧ IsDic u acc ∧ ND acc ∧ (∀ p ∈ acc, MonP names most p.1 ∧ p.2 ≠ 0 ∧ p.2.natAbs ≤ 10 ^ 20) ∧ acc.length ≤ n ∧ δ = [some (.ptr j), some (.lst (names.map .str)), some (.int many), some (.int most), some (.ptr S.length), o5]) ?_ ?_ _ _ _
    ⟨0, [], _, none, by rw [rl3, Nat.zero_add], i4, gp3, isDic_nil, List.nodup_nil, (fun _ z => nomatch z), Nat.le_refl _, rfl⟩
  · rintro y ys δ S4 ⟨n, acc, u, o5, hn, i4, gp, hu, nda, hacc, hl, rfl⟩
    rw [List.length_cons] at hn
    walk_at "3"
    refine (dnumber_spec (i4.gs hlt) (by omega)).mono ?_
    rintro _ S5 ⟨⟨i, rfl, i0, i20⟩, d5⟩
    have i5 := i4.gr hlt d5
    have gp5 : S5[S.length]? = some u := d5.get gp (by omega)
    walk_at "3"
    refine (dmono_spec (i5.gs hlt) (by omega) hN most hm).mono ?_
    rintro _ S6 ⟨⟨m, rfl, hmm⟩, d6⟩
    have i6 := i5.gr hlt d6
    have gp6 : S6[S.length]? = some u := d6.get gp5 (by omega)
    walk_at "3"
    obtain ⟨u', k4, k5⟩ := dic_putU hu (by omega) m i
    refine ⟨S.length, u, u', rfl, gp6, k4, ?_⟩
    have pl := put_len acc m i
    exact ⟨n + 1, putT acc m i, u', _, by omega, (i6.setO (Nat.le_refl _) (isDic_closed k5 _)).le (by omega), List.getElem?_set_self (lt_of_at gp6), k5, nd_put nda _ _, put_all (P := fun p : Mono × Int => MonP names most p.1 ∧ p.2 ≠ 0 ∧ p.2.natAbs ≤ 10 ^ 20) hacc ⟨hmm, i0, i20⟩, by omega, rfl⟩
  · rintro δ S4 ⟨n, acc, u, o5, hn, i4, gp, hu, nda, hacc, hl, rfl⟩
    have hn : n = v.toNat := hn
    walk_at "3"
    refine ⟨(srt acc).map toD, ?_, ?_⟩
    · rw [dic_itemsOf hu gp]
      exact sortD_emb _ _ (by omega)
    walk_at "3"
    refine p_lift (show gTuple _ [.lst ((srt acc).map toD)] = some (.tup ((srt acc).map toD)) from rfl) ?_
    exact ⟨cl (κ := Pol) _ _, i4.le (by omega), _, rfl, inc_srt nda, fun q hq => (hacc q (srt_mem.mp hq)).2.1, fun q hq => (hacc q (srt_mem.mp hq)).1, fun q hq => (hacc q (srt_mem.mp hq)).2.2, by rw [srt_len]; omega⟩
end DL
set_option Elab.async false
set_option linter.all false
set_option maxRecDepth 100000
set_option maxHeartbeats 1000000
set_option autoImplicit false
/-! Data held against one another. -/
namespace DL
open PySem L2
open Emb
mutual
theorem fitL : ∀ {x : PyData}, fitP x = true → x.canLay0 = true
  | .none, _ => by simp [PyData.canLay0]
  | .bool _, _ => by simp [PyData.canLay0]
  | .int _, _ => by simp [PyData.canLay0]
  | .str _, h => by unfold fitP at h; simp [PyData.canLay0, h]
  | .list xs, h => by unfold fitP at h; simp only [PyData.canLay0]; exact fitLs h
  | .tuple xs, h => by unfold fitP at h; simp only [PyData.canLay0]; exact fitLs h
  | .dict _, h => by unfold fitP at h; cases h
theorem fitLs : ∀ {xs : List PyData}, fitPs xs = true → PyData.canLayAll0 xs = true
  | [], _ => by simp [PyData.canLayAll0]
  | x :: r, h => by
    unfold fitPs at h
    rw [Bool.and_eq_true] at h
    simp only [PyData.canLayAll0, fitL h.1, fitLs h.2, Bool.and_self]
end
theorem fitShaped {x : PyData} (h : fitP x = true) (hd : x.depth ≤ 64) : SeqAt.shaped x = true := by
  unfold SeqAt.shaped
  rw [fitL h, decide_eq_true hd]
  rfl
section
variable {κ : Type} [Emb κ]
theorem fitPs_of : ∀ {xs : List κ}, (∀ x ∈ xs, fitP (py x) = true) → fitPs (xs.map py) = true
  | [], _ => rfl
  | x :: r, h => by
    unfold List.map fitPs
    rw [h x List.mem_cons_self, fitPs_of fun z hz => h z (List.mem_cons_of_mem _ hz)]
    rfl
theorem fit_list {xs : List κ} (h : ∀ x ∈ xs, fitP (py x) = true) : fitP (py xs) = true := by
  show fitP (.tuple (xs.map py)) = true
  unfold fitP
  exact fitPs_of h
theorem eqv_fit [DecidableEq κ] {a b : κ} (ha : fitP (py a) = true) : PyData.eqv (py a) (py b) = decide (a = b) := by
  by_cases e : a = b
  · subst e
    rw [eqv_refl _ ha, decide_eq_true rfl]
  · rw [decide_eq_false e]
    cases z : PyData.eqv (py a) (py b) with
    | true => exact absurd (inj _ _ z) e
    | false => rfl
theorem o_eqFit [DecidableEq κ] {a b : κ} {S : Sto} {Q : D → Sto → Prop} (ha : fitP (py a) = true) (hb : fitP (py b) = true) (hd : deg κ ≤ 64) (q : Q (.bl (decide (a = b))) S) : (Res.lift (gEq S (toD a) (toD b)) S).post Q :=
  o_eqg (u := py a) (v := py b) (by rw [deref_emb]; exact pyOk S a) (by rw [deref_emb]; exact pyOk S b) (fitShaped ha (Nat.le_trans (dep a) hd)) (fitShaped hb (Nat.le_trans (dep b) hd)) (by rw [eqv_fit ha]; exact q)
end
theorem fit_str {x : Str} (h : PyData.strOk x = true) : fitP (py x) = true := by
  show fitP (.str x) = true
  unfold fitP
  exact h
theorem fit_int {i : Int} (h : i.natAbs ≤ 10 ^ 1000) : fitP (py i) = true := by
  show fitP (.int i) = true
  unfold fitP
  have : (10 : Nat) ^ 1000 < 10 ^ 1005 := Nat.pow_lt_pow_right (by decide) (by decide)
  exact decide_eq_true (by omega)
theorem fit_pair {α β : Type} [Emb α] [Emb β] {p : α × β} (h1 : fitP (py p.1) = true) (h2 : fitP (py p.2) = true) : fitP (py p) = true := by
  show fitP (.tuple [py p.1, py p.2]) = true
  unfold fitP fitPs fitPs fitPs
  rw [h1, h2]
  rfl
theorem small_1000 {i : Int} {n : Nat} (h : i.natAbs ≤ n) (hn : n ≤ 1000) : i.natAbs ≤ 10 ^ 1000 := by
  have : (1000 : Nat) ≤ 10 ^ 1000 := Nat.le_trans (by decide : 1000 ≤ 10 ^ 3) (Nat.pow_le_pow_right (by decide) (by decide))
  omega
theorem fit_mono {N : List Str} (hN : ∀ x ∈ N, DL.nm x = true) {d : Nat} {m : Mono} (h : MonP N d m) (hd : d ≤ 1000) : fitP (py m) = true := fit_list fun p hp => by
  have h1 := h.nc p hp
  have h2 := h.len.2.1 p hp
  exact fit_pair (fit_str (strok_nm (hN _ h1.1))) (fit_int (small_1000 (n := d) (by omega) hd))
theorem fit_pol {N : List Str} (hN : ∀ x ∈ N, DL.nm x = true) {d : Nat} {p : Pol} (h : OkL N d p) (hd : d ≤ 1000) (hn : ∀ q ∈ p, q.2.natAbs ≤ 10 ^ 1000) : fitP (py p) = true := fit_list fun q hq => fit_pair (fit_mono hN (h q hq) hd) (fit_int (hn q hq))
/-- what the texts' laws ask of a row -/
structure RowF (N : List Str) (r : Str × Pol) : Prop where
  nm : r.1 ∈ N
  pol : PolP N 12 r.2
  num : ∀ q ∈ r.2, q.2.natAbs < 10 ^ 40
theorem RowF.t {N : List Str} (hN : ∀ x ∈ N, DL.nm x = true) {r : Str × Pol} (h : RowF N r) : TRowG (rowT r) := rowT_ok hN (hN _ h.nm) h.pol h.num
theorem RowF.rd {N : List Str} (hN : ∀ x ∈ N, DL.nm x = true) {r : Str × Pol} (h : RowF N r) : Rdb (rowT r, r.2) := ⟨h.t hN, ⟨N, 12, h.pol⟩, (sum_nets _).trans (by
  show Eqz (sumT (termsOf r.2)) r.2
  rw [sum_termsOf h.pol.ok]
  exact Eqz.refl _)⟩
end DL
set_option Elab.async false
set_option linter.all false
set_option maxRecDepth 100000
set_option maxHeartbeats 1000000
set_option autoImplicit false
/-! Polys, bodies written: the program and the law. -/
namespace DL
open PySem L2
open Emb
local macro_rules | `(tactic| walk_at "1") => `(tactic| with_reducible first
  | refine s_seq ?_ | refine s_asg ?_ | refine s_ret ?_ | refine s_if ?_ | refine s_expr ?_ | refine s_next ?_ | refine s_brk ?_ | refine s_cont ?_ | refine s_for ?_ | refine s_while ?_
  | refine p_c ?_ | refine p_bin ?_ | refine p_as ?_ | refine p_cons ?_ | refine p_nil ?_ | refine p_un ?_ | refine p_call ?_ | refine p_if ?_ | refine p_own ?_
  | refine p_keep ?_ | refine p_tru ?_ | refine p_and ?_ | refine p_or ?_ | refine p_not ?_ | refine p_val ?_ | refine p_rand ?_ | refine p_ror ?_ | refine p_rnot ?_ | refine p_chain ?_ | refine p_bif ?_
  | refine o_add ?_ | refine o_sub ?_ | refine o_ltU ?_ | refine o_leU ?_ | refine o_gtU ?_ | refine o_geU ?_ | refine o_neg ?_ | refine o_eqI ?_ | refine o_neI ?_ | refine o_abs ?_ | refine o_tru ?_ | refine p_true ?_ | refine p_false ?_
  | refine o_lenT ?_ | refine o_lenL ?_ | refine o_ix0 ?_ | refine o_ix1 ?_ | refine o_ix2 ?_ | refine o_ix0L ?_ | refine o_ix1L ?_ | refine o_ix2L ?_
  | refine s_par ?_ | refine p_yes ?_ | refine p_seq ?_ | refine s_gnil ?_ | refine s_gcons ?_ | refine s_gtux ?_ | refine s_gtupl ?_ | refine p_onone ?_ | refine p_osome ?_ | refine p_get2 ?_ | refine s_putU ?_ | refine p_sortIt ?_)
local macro_rules | `(tactic| walk_at "2") => `(tactic| first
  | walk_at "1"
  | (with_reducible refine p_var2 ?_)
  | ((with_reducible refine s_name ?_ ?_); (· exact Nat.le_of_ble_eq_true rfl); dsimp only [List.set_cons_zero, List.set_cons_succ])
  | (with_reducible refine p_tup ?_) | (with_reducible refine p_lst ?_) | ((with_reducible refine ⟨?_, ?_⟩); (· exact Nat.le_of_ble_eq_true rfl))
  | ((with_reducible refine p_ex2 (x := ?_) (y := ?_) ?_ ?_); rotate_left; rotate_left; (· rfl); refine ⟨?_, ?_, ?_⟩; (· exact Nat.le_of_ble_eq_true rfl); (· exact Nat.le_of_ble_eq_true rfl); dsimp only [List.set_cons_zero, List.set_cons_succ])
  | ((with_reducible refine p_isT ?_ ?_); (· rfl)) | ((with_reducible refine p_isF ?_ ?_); (· rfl))
  | ((with_reducible refine p_ex (x := ?_) ?_ ?_); rotate_left; (· rfl)))
local macro_rules | `(tactic| walk_at "3") => `(tactic| repeat walk_at "2")
theorem nil_iff {p : Pol} : termsOf p = [] ↔ p = [] := by unfold termsOf; exact List.map_eq_nil_iff
theorem polyS_of (p : Pol) : polyS (nets (termsOf p)) = if p = [] then ("0" : Str) else Str.join " + " ((termsOf p).map termS) := by
  rw [polyS_nets]
  by_cases h : p = []
  · rw [if_pos h, if_pos (nil_iff.mpr h)]
  · rw [if_neg h, if_neg fun z => h (nil_iff.mp z)]
theorem terms_len {N : List Str} (hN : ∀ x ∈ N, DL.nm x = true) {r : Str × Pol} (h : RowF N r) : ∀ x ∈ (termsOf r.2).map termS, x.length ≤ 546 := fun x hx => by
  obtain ⟨t, ht, rfl⟩ := List.mem_map.mp hx
  exact termS_len (termsOf_ok hN (Nat.le_refl _) h.pol.ok h.num t ht)
theorem poly_text_spec {N : List Str} (hN : ∀ x ∈ N, DL.nm x = true) {r : Str × Pol} (h : RowF N r) (S : Sto) (hS : Sane S) : m_poly_text [toD r.2] S = .ok (.str (polyS (nets (termsOf r.2)))) S := by
  have sl : 3000 ≤ sizeLine := by decide
  have h3 := h.pol.len
  refine m_defS hS rfl ?_
  show (b_poly_text [some (toD r.2), none, none] S).post _ _ _ _
  unfold b_poly_text
  rw [polyS_of]
  walk_at "3"
  refine o_eqFit (κ := Pol) (a := r.2) (b := []) (fit_pol hN h.pol.ok (by decide) h.pol.num) rfl (by decide) ?_
  walk_at "3"
  refine ⟨fun z => ?_, fun z => ?_⟩
  · have z : r.2 = [] := of_decide_eq_true z
    walk_at "3"
    rw [if_pos z]
    exact ⟨rfl, rfl⟩
  · have z : ¬ r.2 = [] := of_decide_eq_false z
    rw [if_neg z]
    walk_at "3"
    refine p_meth ?_
    walk_at "3"
    refine ⟨rfl, ?_⟩
    walk_at "3"
    refine p_lcRows r.2 (fun q => termS (q.2, spread q.1)) D.str (exact_of (p_seq (p_var rfl (.inr (.inl ⟨_, rfl, rfl, rfl⟩))))) (Nat.le_of_ble_eq_true rfl) (Nat.le_of_ble_eq_true rfl) (by omega) (fun p hp => ?_) ?_
    · refine exact_of ?_
      dsimp only [in2, wipeD, List.set_cons_zero, List.set_cons_succ]
      walk_at "3"
      exact Res.post.of_eq (term_text_spec hN (Nat.le_refl _) (h.pol.ok p hp) (h.num p hp) S hS) ⟨rfl, rfl⟩
    · have e : (r.2.map fun q => termS (q.2, spread q.1)) = (termsOf r.2).map termS := by unfold termsOf; rw [List.map_map]; rfl
      rw [e]
      walk_at "3"
      exact ⟨_, _, o_joinS (m := 546) (terms_len hN h) (by rw [List.length_map, show (" + " : Str).length = 3 by kernel_rfl]; unfold termsOf; rw [List.length_map]; omega), rfl, rfl⟩
end DL
set_option Elab.async false
set_option linter.all false
set_option maxRecDepth 100000
set_option maxHeartbeats 1000000
set_option autoImplicit false
namespace DL
open PySem L2
open Emb
local macro_rules | `(tactic| walk_at "1") => `(tactic| with_reducible first
  | refine s_seq ?_ | refine s_asg ?_ | refine s_ret ?_ | refine s_if ?_ | refine s_expr ?_ | refine s_next ?_ | refine s_brk ?_ | refine s_cont ?_ | refine s_for ?_ | refine s_while ?_
  | refine p_c ?_ | refine p_bin ?_ | refine p_as ?_ | refine p_cons ?_ | refine p_nil ?_ | refine p_un ?_ | refine p_call ?_ | refine p_if ?_ | refine p_own ?_
  | refine p_keep ?_ | refine p_tru ?_ | refine p_and ?_ | refine p_or ?_ | refine p_not ?_ | refine p_val ?_ | refine p_rand ?_ | refine p_ror ?_ | refine p_rnot ?_ | refine p_chain ?_ | refine p_bif ?_
  | refine o_add ?_ | refine o_sub ?_ | refine o_ltU ?_ | refine o_leU ?_ | refine o_gtU ?_ | refine o_geU ?_ | refine o_neg ?_ | refine o_eqI ?_ | refine o_neI ?_ | refine o_abs ?_ | refine o_tru ?_ | refine p_true ?_ | refine p_false ?_
  | refine o_lenT ?_ | refine o_lenL ?_ | refine o_ix0 ?_ | refine o_ix1 ?_ | refine o_ix2 ?_ | refine o_ix0L ?_ | refine o_ix1L ?_ | refine o_ix2L ?_
  | refine s_par ?_ | refine p_yes ?_ | refine p_seq ?_ | refine s_gnil ?_ | refine s_gcons ?_ | refine s_gtux ?_ | refine s_gtupl ?_ | refine p_onone ?_ | refine p_osome ?_ | refine p_get2 ?_ | refine s_putU ?_ | refine p_sortIt ?_)
local macro_rules | `(tactic| walk_at "2") => `(tactic| first
  | walk_at "1"
  | (with_reducible refine p_var2 ?_)
  | ((with_reducible refine s_name ?_ ?_); (· exact Nat.le_of_ble_eq_true rfl); dsimp only [List.set_cons_zero, List.set_cons_succ])
  | (with_reducible refine p_tup ?_) | (with_reducible refine p_lst ?_) | ((with_reducible refine ⟨?_, ?_⟩); (· exact Nat.le_of_ble_eq_true rfl))
  | ((with_reducible refine p_ex2 (x := ?_) (y := ?_) ?_ ?_); rotate_left; rotate_left; (· rfl); refine ⟨?_, ?_, ?_⟩; (· exact Nat.le_of_ble_eq_true rfl); (· exact Nat.le_of_ble_eq_true rfl); dsimp only [List.set_cons_zero, List.set_cons_succ])
  | ((with_reducible refine p_isT ?_ ?_); (· rfl)) | ((with_reducible refine p_isF ?_ ?_); (· rfl))
  | ((with_reducible refine p_ex (x := ?_) ?_ ?_); rotate_left; (· rfl)))
local macro_rules | `(tactic| walk_at "3") => `(tactic| repeat walk_at "2")
open PyProof
/-! ### polys read behind some words -/
theorem poly_in_at {ts : List Term} (hne0 : ts ≠ []) (hts : ∀ t ∈ ts, TermG t) (hl3 : ts.length ≤ 300) {ahead : List Str} (hal : ahead.length ≤ 10) {N : List Str} {d : Nat} {p : Pol} (hp : PolP N d p) (he : Eqz (sumT ts) p) (k : Int) (S : Sto) (hS : Sane S) : m_poly_in [.lst ((ahead ++ inter (ts.map termS)).map .str), .int k, .int ahead.length] S = .ok (toD p) S := by
  have sl : 3000 ≤ sizeLine := by decide
  have hne : ts.length ≠ 0 := fun z => hne0 (List.length_eq_zero_iff.mp z)
  obtain ⟨A, hA⟩ : ∃ A : Nat, A = ahead.length := ⟨_, rfl⟩
  have hpz := polz_terms hp he
  refine m_defJ hS (cl (κ := Pol) _ _) ?_
  rw [← hA]
  show (b_poly_in [some (.lst ((ahead ++ inter (ts.map termS)).map .str)), some (.int k), some (.int A), none, none, none] S).post _ _ _ _
  have hterm : ∀ (j : Nat) (t : Term), ts[j]? = some t → ((ahead ++ inter (ts.map termS)).map D.str)[A + 2 * j]? = some (.str (termS t)) := fun j t e => by
    rw [List.getElem?_map]
    rw [hA, List.getElem?_append_right (by omega), Nat.add_sub_cancel_left, inter_even (by rw [List.getElem?_map, e]; rfl)]
    rfl
  have hplus : ∀ j : Nat, j + 1 < ts.length → ((ahead ++ inter (ts.map termS)).map D.str)[A + 2 * j + 1]? = some (.str plusS) := fun j e => by
    rw [List.getElem?_map]
    rw [hA, Nat.add_assoc, List.getElem?_append_right (by omega), Nat.add_sub_cancel_left, inter_odd (by rw [List.length_map]; exact e)]
    rfl
  have hlen : ((ahead ++ inter (ts.map termS)).map D.str).length = A + 2 * ts.length - 1 := by
    rw [List.length_map, List.length_append, inter_len (by simpa using hne0), List.length_map]
    omega
  generalize (ahead ++ inter (ts.map termS)).map D.str = W at *
  unfold b_poly_in
  obtain ⟨av, hav⟩ : ∃ av : Int, av = (A : Int) := ⟨_, rfl⟩
  rw [← hav]
  walk_at "3"
  refine s_whileL (fun n δ S2 => ∃ (j : Nat) (acc : Pol) (u : D) (o5 : Option D) (a m : Int), n + j = 999 ∧ j ≤ ts.length ∧ S2 = S ++ [u] ∧ IsDic u acc ∧ acc = addAllz [] (sumT (ts.take j)) ∧ a = (if j = 0 then (A : Int) else A + 2 * j - 1 : Int) ∧ m = (j : Int) ∧ δ = [some (.lst W), some (.int k), some (.int a), some (.ptr S.length), some (.int m), o5]) ?_ 999 _ _ _ ⟨0, [], .dct [], none, av, 0, rfl, Nat.zero_le _, rfl, isDic_nil, rfl, by rw [hav]; rfl, rfl, rfl⟩ (by show 999 < 1000; decide)
  rintro n δ S2 ⟨j, acc, u, o5, a, m, hn, hj, rfl, hu, hacc, ha, hm, rfl⟩
  refine Res.post.mono (Q1 := fun z S3 => z = decide (j < ts.length) ∧ S3 = S ++ [u]) ?_ ?_
  · walk_at "3"
    refine ⟨fun z => ?_, fun z => ?_⟩
    · have z : m = 0 := by simpa using z
      exact ⟨(decide_eq_true (by omega)).symm, rfl⟩
    · have z : m ≠ 0 := by simpa using z
      rw [if_neg (by omega)] at ha
      walk_at "3"
      exact ⟨decide_eq_decide.mpr (by rw [hlen]; omega), rfl⟩
  rintro z S3 ⟨hz, rfl⟩
  refine ⟨fun hk => ?_, fun hk => ?_⟩
  · have hjn : j < ts.length := of_decide_eq_true (hz ▸ hk)
    refine ⟨n - 1, by omega, ?_⟩
    obtain ⟨t, ht⟩ : ∃ t, ts[j]? = some t := ⟨_, List.getElem?_eq_getElem hjn⟩
    have tg := hts t (List.mem_of_getElem? ht)
    with_reducible refine s_seq ?_
    refine Out.post.mono (N1 := fun δ1 S1 => S1 = S ++ [u] ∧ δ1 = [some (.lst W), some (.int k), some (.int (A + 2 * j : Int)), some (.ptr S.length), some (.int m), o5]) (T1 := NoD) (B1 := NoS) (C1 := NoS) ?_ ?_ (fun _ _ z => z.elim) (fun _ _ z => z.elim) (fun _ _ z => z.elim)
    · walk_at "3"
      refine ⟨fun z => ?_, fun z => ?_⟩
      · have z : 0 < m := of_decide_eq_true z
        rw [if_neg (by omega)] at ha
        obtain ⟨j', rfl⟩ : ∃ j', j = j' + 1 := ⟨j - 1, by omega⟩
        walk_at "3"
        refine o_ixL (d := .str plusS) (by rw [ha, show ((A : Int) + 2 * ((j' + 1 : Nat) : Int) - 1) = ((A + 2 * j' + 1 : Nat) : Int) by omega]; exact at_nat (hplus j' hjn)) ?_
        walk_at "3"
        refine o_neS (x := plusS) (y := plusS) plus_ok plus_ok ?_
        rw [show (!(plusS == plusS)) = false by simp]
        walk_at "3"
        rw [show (m == 300) = false by simp; omega]
        walk_at "3"
        refine s_augI rfl ?_
        walk_at "3"
        refine ⟨rfl, ?_⟩
        rw [show ((A : Int) + 2 * ((j' + 1 : Nat) : Int)) = a + 1 by omega]
        rfl
      · have z : ¬ 0 < m := of_decide_eq_false z
        rw [if_pos (by omega)] at ha
        walk_at "3"
        refine ⟨rfl, ?_⟩
        rw [show ((A : Int) + 2 * (j : Int)) = a by omega]
    rintro δ1 S1 ⟨rfl, rfl⟩
    walk_at "3"
    rw [show decide (((A : Int) + 2 * (j : Int)) < (W.length : Int)) = true from decide_eq_true (by rw [hlen]; omega)]
    walk_at "3"
    refine o_ixL (d := .str (termS t)) (by rw [show ((A : Int) + 2 * (j : Int)) = ((A + 2 * j : Nat) : Int) by omega]; exact at_nat (hterm j t ht)) ?_
    walk_at "3"
    have sS : Sane (S ++ [u]) := sane_app hS (isDic_closed hu _)
    refine Res.post.of_eq (term_in_spec tg _ sS) ?_
    walk_at "3"
    refine p_lift (a := D.bl false) rfl ?_
    walk_at "3"
    refine ⟨dic_isDct hu get_app, ?_⟩
    walk_at "3"
    refine ⟨_, dic_lookU hu get_app (monoOf t.2), ?_⟩
    have ev : ((getT acc (monoOf t.2)).map toD).getD (.int 0) = .int ((getT acc (monoOf t.2)).getD 0) := by cases getT acc (monoOf t.2) <;> rfl
    rw [ev]
    walk_at "3"
    have al : acc.length ≤ j := by
      rw [hacc]
      have := len_addAllz (sumT (ts.take j)) []
      unfold sumT at this ⊢
      rw [List.length_nil, List.length_map, List.length_take] at this
      omega
    obtain ⟨u', e', hu'⟩ := dic_putU hu (by omega) (monoOf t.2) ((getT acc (monoOf t.2)).getD 0 + t.1)
    refine ⟨S.length, u, u', rfl, get_app, e', ?_⟩
    rw [set_app]
    walk_at "3"
    refine s_augI rfl ?_
    walk_at "3"
    refine s_augI rfl ?_
    walk_at "3"
    refine ⟨j + 1, addz acc (monoOf t.2) t.1, u', _, A + 2 * j + 1, m + 1, by omega, hjn, rfl, hu', ?_, ?_, by omega, rfl⟩
    · rw [sumT_snoc ht, addAllz_snoc, hacc]
    · rw [if_neg (by omega)]; omega
  · have hjn : ¬ j < ts.length := of_decide_eq_false (hz ▸ hk)
    have ej : j = ts.length := by omega
    rw [ej, List.take_length] at hacc
    have al : acc.length ≤ 300 := by
      rw [hacc]
      have := len_addAllz (sumT ts) []
      unfold sumT at this ⊢
      rw [List.length_nil, List.length_map] at this
      omega
    have sS : Sane (S ++ [u]) := sane_app hS (isDic_closed hu _)
    have er : rowz acc = p := by rw [hacc]; exact hpz
    walk_at "3"
    refine Res.post.of_eq (poly_of_spec sS hu get_app (by omega) (by rw [er]; exact hp.len) (by rw [er]; exact hp.num)) ?_
    rw [er]
    exact ⟨rfl, take_app⟩
structure ToldP (x : Str) (ws : List Str) (p : Pol) : Prop where
  split : Txt.split x blankS = ws
  ok : ∀ w ∈ ws, PyData.strOk w = true
  ne : ("" : Str) ∉ ws
  len : x.length + 2 ≤ sizeLine
  wl : ws.length ≤ 600
  inn : ∀ (ahead : List Str), ahead.length ≤ 10 → ∀ (row : Int) (S : Sto), Sane S → m_poly_in [.lst ((ahead ++ ws).map .str), .int row, .int ahead.length] S = .ok (toD p) S
theorem read_poly_spec {x : Str} {ws : List Str} {p : Pol} (h : ToldP x ws p) (S : Sto) (hS : Sane S) : m_read_poly [.str x] S = .ok (toD p) S := by
  refine m_defS hS (cl (κ := Pol) _ _) ?_
  show (b_read_poly [some (.str x), none] S).post _ _ _ _
  unfold b_read_poly
  walk_at "3"
  refine Res.post.of_eq (words_of_str h.len S hS) ?_
  unfold wordsD
  rw [show Txt.split x " " = ws by rw [blank_eq]; exact h.split, if_neg h.ne]
  walk_at "3"
  refine p_lift (a := D.bl false) rfl ?_
  walk_at "3"
  have e := h.inn [] (by decide) 1 S hS
  rw [List.nil_append] at e
  refine Res.post.of_eq (show m_poly_in [.lst (ws.map .str), .int 1, .int 0] S = _ from e) ?_
  exact ⟨rfl, rfl⟩
theorem termS_pos {t : Term} (h : TermG t) : termS t ≠ "" := fun e => by
  have h1 := termS_split h
  rw [e] at h1
  have h2 : Txt.split ("" : Str) starS = [("" : Str)] := by decide +kernel
  rw [h2] at h1
  have h3 : ("" : Str) = numS t.1 := (List.cons.inj h1).1
  have h4 : ("" : Str).cps.toList = (numS t.1).cps.toList := by rw [h3]
  rw [numS_cps] at h4
  have h5 : ("" : Str).cps.toList = [] := by decide
  have := (numW_of h.num).lo
  rw [← h4, h5] at this
  simp [plain] at this
theorem told_pol {ts : List Term} {N : List Str} {d : Nat} {p : Pol} (hne : ts ≠ []) (hg : ∀ t ∈ ts, TermG t) (hl : ts.length ≤ 300) (hp : PolP N d p) (he : Eqz (sumT ts) p) : ToldP (Str.join " + " (ts.map termS)) (inter (ts.map termS)) p := by
  have sl : 200000 ≤ sizeLine := by decide
  have hm : ∀ {w : Str}, w ∈ inter (ts.map termS) → w = plusS ∨ ∃ t ∈ ts, w = termS t := fun {w} hw => by
    rcases inter_mem hw with e | e
    · exact .inl e
    · obtain ⟨t, ht, rfl⟩ := List.mem_map.mp e
      exact .inr ⟨t, ht, rfl⟩
  have hne2 : ts.map termS ≠ [] := by simpa using hne
  refine ⟨?_, ?_, ?_, ?_, ?_, ?_⟩
  · rw [join_inter]
    refine split_join (c := 32) (inter_ne hne2) fun q hq hc => ?_
    rcases hm hq with rfl | ⟨t, ht, rfl⟩
    · have : ¬ (32 ∈ (plusS).cps.toList) := by decide
      exact this hc
    · have := termS_sign (hg t ht) hc
      unfold okSign at this
      omega
  · intro w hw
    rcases hm hw with rfl | ⟨t, ht, rfl⟩
    · exact plus_ok
    · exact strok_low fun c hc => okSign_low (termS_sign (hg t ht) hc)
  · intro hw
    rcases hm hw with e | ⟨t, ht, e⟩
    · exact absurd e (by decide)
    · exact termS_pos (hg t ht) e.symm
  · have h1 := joinS_len (" + " : Str) 546 (xs := ts.map termS) fun x hx => by
      obtain ⟨t, ht, rfl⟩ := List.mem_map.mp hx
      exact termS_len (hg t ht)
    rw [List.length_map, show (" + " : Str).length = 3 by kernel_rfl] at h1
    have : ts.length * (546 + 3) ≤ 300 * (546 + 3) := Nat.mul_le_mul_right _ hl
    omega
  · rw [inter_len hne2, List.length_map]
    omega
  · intro ahead ha row S hS
    exact poly_in_at hne hg hl ha hp he row S hS
end DL
set_option Elab.async false
set_option linter.all false
set_option maxRecDepth 100000
set_option maxHeartbeats 1000000
set_option autoImplicit false
namespace DL
open PySem L2
open Emb
local macro_rules | `(tactic| walk_at "1") => `(tactic| with_reducible first
  | refine s_seq ?_ | refine s_asg ?_ | refine s_ret ?_ | refine s_if ?_ | refine s_expr ?_ | refine s_next ?_ | refine s_brk ?_ | refine s_cont ?_ | refine s_for ?_ | refine s_while ?_
  | refine p_c ?_ | refine p_bin ?_ | refine p_as ?_ | refine p_cons ?_ | refine p_nil ?_ | refine p_un ?_ | refine p_call ?_ | refine p_if ?_ | refine p_own ?_
  | refine p_keep ?_ | refine p_tru ?_ | refine p_and ?_ | refine p_or ?_ | refine p_not ?_ | refine p_val ?_ | refine p_rand ?_ | refine p_ror ?_ | refine p_rnot ?_ | refine p_chain ?_ | refine p_bif ?_
  | refine o_add ?_ | refine o_sub ?_ | refine o_ltU ?_ | refine o_leU ?_ | refine o_gtU ?_ | refine o_geU ?_ | refine o_neg ?_ | refine o_eqI ?_ | refine o_neI ?_ | refine o_abs ?_ | refine o_tru ?_ | refine p_true ?_ | refine p_false ?_
  | refine o_lenT ?_ | refine o_lenL ?_ | refine o_ix0 ?_ | refine o_ix1 ?_ | refine o_ix2 ?_ | refine o_ix0L ?_ | refine o_ix1L ?_ | refine o_ix2L ?_
  | refine s_par ?_ | refine p_yes ?_ | refine p_seq ?_ | refine s_gnil ?_ | refine s_gcons ?_ | refine s_gtux ?_ | refine s_gtupl ?_ | refine p_onone ?_ | refine p_osome ?_ | refine p_get2 ?_ | refine s_putU ?_ | refine p_sortIt ?_)
local macro_rules | `(tactic| walk_at "2") => `(tactic| first
  | walk_at "1"
  | (with_reducible refine p_var2 ?_)
  | ((with_reducible refine s_name ?_ ?_); (· exact Nat.le_of_ble_eq_true rfl); dsimp only [List.set_cons_zero, List.set_cons_succ])
  | (with_reducible refine p_tup ?_) | (with_reducible refine p_lst ?_) | ((with_reducible refine ⟨?_, ?_⟩); (· exact Nat.le_of_ble_eq_true rfl))
  | ((with_reducible refine p_ex2 (x := ?_) (y := ?_) ?_ ?_); rotate_left; rotate_left; (· rfl); refine ⟨?_, ?_, ?_⟩; (· exact Nat.le_of_ble_eq_true rfl); (· exact Nat.le_of_ble_eq_true rfl); dsimp only [List.set_cons_zero, List.set_cons_succ])
  | ((with_reducible refine p_isT ?_ ?_); (· rfl)) | ((with_reducible refine p_isF ?_ ?_); (· rfl))
  | ((with_reducible refine p_ex (x := ?_) ?_ ?_); rotate_left; (· rfl)))
local macro_rules | `(tactic| walk_at "3") => `(tactic| repeat walk_at "2")
open PyProof
/-! ### lists the store holds (as in K27u) -/
theorem isTy_at {S : Sto} {k : Nat} {xs : List D} (h : S[k]? = some (.lst xs)) : isTy "list" S (.ptr k) = true := by
  unfold isTy
  rw [deref_at h]
  rfl
theorem o_lenP {S : Sto} {k : Nat} {xs : List D} {Q : D → Sto → Prop} (h : S[k]? = some (.lst xs)) (q : Q (.int xs.length) S) : (Res.lift (gLen S [.ptr k]) S).post Q := p_lift (by unfold gLen; dsimp only; rw [deref_at h]) q
theorem map_erase {α β : Type} (f : α → β) : ∀ (xs : List α) (i : Nat), (xs.map f).eraseIdx i = (xs.eraseIdx i).map f
  | [], i => by simp
  | x :: r, 0 => rfl
  | x :: r, i + 1 => by
    show f x :: (r.map f).eraseIdx i = f x :: (r.eraseIdx i).map f
    rw [map_erase f r i]
theorem erase_perm {α : Type} : ∀ (xs : List α) (i : Nat) (h : i < xs.length), (xs[i] :: xs.eraseIdx i).Perm xs
  | [], i, h => by simp at h
  | x :: r, 0, h => List.Perm.refl _
  | x :: r, i + 1, h => by
    have hi : i < r.length := by simpa using h
    have ih := erase_perm r i hi
    show (r[i] :: x :: r.eraseIdx i).Perm (x :: r)
    exact (List.Perm.swap _ _ _).trans (ih.cons x)
theorem o_catP {S : Sto} {k : Nat} {a b : List Str} {Q : D → Sto → Prop} (hk : S[k]? = some (.lst (a.map .str))) (hl : a.length + b.length ≤ sizeLine) (h : Q (.lst ((a ++ b).map .str)) S) : (Res.lift (gCat S (.ptr k) (.lst (b.map .str))) S).post Q := by
  have e : gCat S (.ptr k) (.lst (b.map .str)) = gCat S (.lst (a.map .str)) (.lst (b.map .str)) := by
    unfold gCat
    rw [deref_at hk]
    rfl
  rw [e]
  exact o_catS hl h
theorem o_catQ {S : Sto} {k : Nat} {a b : List Str} {Q : D → Sto → Prop} (hk : S[k]? = some (.lst (b.map .str))) (hl : a.length + b.length ≤ sizeLine) (h : Q (.lst ((a ++ b).map .str)) S) : (Res.lift (gCat S (.lst (a.map .str)) (.ptr k)) S).post Q := by
  have e : gCat S (.lst (a.map .str)) (.ptr k) = gCat S (.lst (a.map .str)) (.lst (b.map .str)) := by
    unfold gCat
    rw [deref_at hk]
    rfl
  rw [e]
  exact o_catS hl h
/-- a store that has grown -/
structure Kp (S S2 : Sto) : Prop where
  sn : Sane S2
  tk : S2.take S.length = S
theorem Kp.len {S S2 : Sto} (h : Kp S S2) : S.length ≤ S2.length := by
  have := congrArg List.length h.tk
  rw [List.length_take] at this
  omega
theorem Kp.app {S S2 : Sto} {v : D} (h : Kp S S2) (hv : D.closed (S2.length + 1) v = true) : Kp S (S2 ++ [v]) := ⟨sane_app h.sn hv, by rw [List.take_append_of_le_length h.len]; exact h.tk⟩
theorem pop_at {S : Sto} {k : Nat} {xs : List Str} {v : Int} (hk : S[k]? = some (.lst (xs.map .str))) (v0 : 0 ≤ v) (hv : v.toNat < xs.length) (hb : v < 2 ^ 62) : mPopI S (.ptr k) [.int v] = some (D.str xs[v.toNat], S.set k (.lst ((xs.eraseIdx v.toNat).map .str))) := by
  unfold mPopI
  dsimp only
  rw [hk]
  dsimp only
  rw [if_pos ⟨v0, hb⟩, List.getElem?_map, List.getElem?_eq_getElem hv]
  dsimp only [Option.map]
  rw [map_erase]
theorem turn_perm {α : Type} {xs ys : List α} (h : xs.Perm ys) {i : Nat} (hi : i < xs.length) : (xs.eraseIdx i ++ [xs[i]]).Perm ys := (List.perm_append_singleton _ _).trans ((erase_perm xs i hi).trans h)
end DL
set_option Elab.async false
set_option linter.all false
set_option maxRecDepth 100000
set_option maxHeartbeats 1000000
set_option autoImplicit false
namespace DL
open PySem L2
open Emb
local macro_rules | `(tactic| walk_at "1") => `(tactic| with_reducible first
  | refine s_seq ?_ | refine s_asg ?_ | refine s_ret ?_ | refine s_if ?_ | refine s_expr ?_ | refine s_next ?_ | refine s_brk ?_ | refine s_cont ?_ | refine s_for ?_ | refine s_while ?_
  | refine p_c ?_ | refine p_bin ?_ | refine p_as ?_ | refine p_cons ?_ | refine p_nil ?_ | refine p_un ?_ | refine p_call ?_ | refine p_if ?_ | refine p_own ?_
  | refine p_keep ?_ | refine p_tru ?_ | refine p_and ?_ | refine p_or ?_ | refine p_not ?_ | refine p_val ?_ | refine p_rand ?_ | refine p_ror ?_ | refine p_rnot ?_ | refine p_chain ?_ | refine p_bif ?_
  | refine o_add ?_ | refine o_sub ?_ | refine o_ltU ?_ | refine o_leU ?_ | refine o_gtU ?_ | refine o_geU ?_ | refine o_neg ?_ | refine o_eqI ?_ | refine o_neI ?_ | refine o_abs ?_ | refine o_tru ?_ | refine p_true ?_ | refine p_false ?_
  | refine o_lenT ?_ | refine o_lenL ?_ | refine o_ix0 ?_ | refine o_ix1 ?_ | refine o_ix2 ?_ | refine o_ix0L ?_ | refine o_ix1L ?_ | refine o_ix2L ?_
  | refine s_par ?_ | refine p_yes ?_ | refine p_seq ?_ | refine s_gnil ?_ | refine s_gcons ?_ | refine s_gtux ?_ | refine s_gtupl ?_ | refine p_onone ?_ | refine p_osome ?_ | refine p_get2 ?_ | refine s_putU ?_ | refine p_sortIt ?_)
local macro_rules | `(tactic| walk_at "2") => `(tactic| first
  | walk_at "1"
  | (with_reducible refine p_var2 ?_)
  | ((with_reducible refine s_name ?_ ?_); (· exact Nat.le_of_ble_eq_true rfl); dsimp only [List.set_cons_zero, List.set_cons_succ])
  | (with_reducible refine p_tup ?_) | (with_reducible refine p_lst ?_) | ((with_reducible refine ⟨?_, ?_⟩); (· exact Nat.le_of_ble_eq_true rfl))
  | ((with_reducible refine p_ex2 (x := ?_) (y := ?_) ?_ ?_); rotate_left; rotate_left; (· rfl); refine ⟨?_, ?_, ?_⟩; (· exact Nat.le_of_ble_eq_true rfl); (· exact Nat.le_of_ble_eq_true rfl); dsimp only [List.set_cons_zero, List.set_cons_succ])
  | ((with_reducible refine p_isT ?_ ?_); (· rfl)) | ((with_reducible refine p_isF ?_ ?_); (· rfl))
  | ((with_reducible refine p_ex (x := ?_) ?_ ?_); rotate_left; (· rfl)))
local macro_rules | `(tactic| walk_at "3") => `(tactic| repeat walk_at "2")
open PyProof
/-! ### terms written, boxes in a drawn order -/
theorem spread_cons5 (x : Str × Int) (xs : Mono) : spread (x :: xs) = List.replicate x.2.toNat x.1 ++ spread xs := by unfold spread; rw [List.flatMap_cons]
theorem law_term_none {N : List Str} (hN : ∀ x ∈ N, DL.nm x = true) {m : Mono} (hm : MonP N 12 m) {i : Int} (h40 : i.natAbs < 10 ^ 40) (S : Sto) (hS : Sane S) : m__law_term [toD m, .int i, .non] S = .ok (.str (termS (i, spread m))) S := by
  have sl : 3000 ≤ sizeLine := by decide
  have hsl := spread_len hm
  have hnl := numS_len h40
  have e40 : ∀ x ∈ spread m, x.length ≤ 41 := fun x hx => by have := (nm_len (hN x (spread_in hm hx))).2; omega
  refine m_defJ hS rfl ?_
  show (b__law_term [some (toD m), some (.int i), some .non, none, none, none, none] S).post _ _ _ _
  have Z0 : Kp S S := ⟨hS, List.take_length⟩
  unfold b__law_term
  walk_at "3"
  refine .inr (.inl ⟨m.map toD, rfl, ?_⟩)
  refine s_forT toD (fun xs δ S2 => ∃ (k : Nat) (acc : List Str) (o4 o5 : Option D), Kp S S2 ∧ S.length ≤ k ∧ S2[k]? = some (.lst (acc.map .str)) ∧ acc ++ spread xs = spread m ∧ (∀ p ∈ xs, p ∈ m) ∧ δ = [some (toD m), some (.int i), some .non, some (.ptr k), o4, o5, none]) ?_ ?_ _ _ _ ⟨S.length, [], none, none, Z0.app rfl, Nat.le_refl _, get_app, rfl, (fun _ z => z), rfl⟩
  · rintro x xs δ S2 ⟨k, acc, o4, o5, hi, hk, gk, he, hin, rfl⟩
    have hx := hin x List.mem_cons_self
    have x2 := hm.len.2.1 x hx
    have x1 := (hm.nc x hx).2
    rw [spread_cons5] at he
    have hlen := congrArg List.length he
    rw [List.length_append, List.length_append, List.length_replicate] at hlen
    show (gTup _ (.tup [.str x.1, .int x.2]) _ _).post _
    walk_at "3"
    refine p_lift (a := .lst ((List.replicate x.2.toNat x.1).map .str)) ?_ ?_
    · show (if -(2 ^ 63) ≤ x.2 ∧ x.2 < 2 ^ 63 ∧ 1 * x.2.toNat ≤ sizeLine then some (D.lst (List.replicate x.2.toNat [D.str x.1]).flatten) else none) = _
      rw [if_pos ⟨by omega, by omega, by omega⟩, List.flatten_replicate_singleton, List.map_replicate]
    · walk_at "3"
      refine o_catP gk (by rw [List.length_replicate]; omega) ?_
      walk_at "3"
      have hle := hi.len
      exact ⟨S2.length, acc ++ List.replicate x.2.toNat x.1, _, _, hi.app (by show closedL _ _ = true; exact closedL_strs _), hle, get_app, by rw [List.append_assoc]; exact he, fun p hp => hin p (List.mem_cons_of_mem _ hp), rfl⟩
  · rintro δ S2 ⟨k, acc, o4, o5, hi, hk, gk, he, hin, rfl⟩
    have he : acc ++ [] = spread m := he
    rw [List.append_nil] at he
    subst he
    walk_at "3"
    refine p_lift (a := D.bl false) rfl ?_
    walk_at "3"
    refine p_meth ?_
    walk_at "3"
    refine ⟨rfl, ?_⟩
    walk_at "3"
    refine p_lift (o_strI h40) ?_
    walk_at "3"
    refine o_catQ (a := [numS i]) gk (by rw [List.length_singleton]; omega) ?_
    walk_at "3"
    rw [star_eq]
    exact ⟨_, _, o_joinS (m := 41) (fun x hx => by
      rcases List.mem_cons.mp hx with rfl | hx
      · exact hnl
      · exact e40 x hx) (by rw [List.length_append, List.length_singleton, show starS.length = 1 by decide]; omega), rfl, hi.tk⟩
theorem law_term_st {j c : Nat} {S : Sto} (hd : Gs j c S) (hc : c < 2 ^ 38) {N : List Str} (hN : ∀ x ∈ N, DL.nm x = true) {m : Mono} (hm : MonP N 12 m) {i : Int} (h40 : i.natAbs < 10 ^ 40) : (m__law_term [toD m, .int i, .ptr j] S).post fun z S' => (∃ bs : List Str, bs.Perm (spread m) ∧ z = .str (termS (i, bs))) ∧ Gr j (c + 12) S S' := by
  have sl : 3000 ≤ sizeLine := by decide
  have hsl := spread_len hm
  have hnl := numS_len h40
  have e40 : ∀ x ∈ spread m, x.length ≤ 41 := fun x hx => by have := (nm_len (hN x (spread_in hm hx))).2; omega
  have hlt := hd.lt
  refine m_gi (P := fun z => ∃ bs : List Str, bs.Perm (spread m) ∧ z = .str (termS (i, bs))) hd ?_
  show (b__law_term [some (toD m), some (.int i), some (.ptr j), none, none, none, none] S).post _ _ _ _
  have Z0 : Gi j c S S := hd.in_
  unfold b__law_term
  walk_at "3"
  refine .inr (.inl ⟨m.map toD, rfl, ?_⟩)
  refine s_forT toD (fun xs δ S2 => ∃ (k : Nat) (acc : List Str) (o4 o5 : Option D), Gi j c S S2 ∧ S.length ≤ k ∧ S2[k]? = some (.lst (acc.map .str)) ∧ acc ++ spread xs = spread m ∧ (∀ p ∈ xs, p ∈ m) ∧ δ = [some (toD m), some (.int i), some (.ptr j), some (.ptr k), o4, o5, none]) ?_ ?_ _ _ _ ⟨S.length, [], none, none, Z0.app rfl, Nat.le_refl _, get_app, rfl, (fun _ z => z), rfl⟩
  · rintro x xs δ S2 ⟨k, acc, o4, o5, hi, hk, gk, he, hin, rfl⟩
    have hx := hin x List.mem_cons_self
    have x2 := hm.len.2.1 x hx
    have x1 := (hm.nc x hx).2
    rw [spread_cons5] at he
    have hlen := congrArg List.length he
    rw [List.length_append, List.length_append, List.length_replicate] at hlen
    show (gTup _ (.tup [.str x.1, .int x.2]) _ _).post _
    walk_at "3"
    refine p_lift (a := .lst ((List.replicate x.2.toNat x.1).map .str)) ?_ ?_
    · show (if -(2 ^ 63) ≤ x.2 ∧ x.2 < 2 ^ 63 ∧ 1 * x.2.toNat ≤ sizeLine then some (D.lst (List.replicate x.2.toNat [D.str x.1]).flatten) else none) = _
      rw [if_pos ⟨by omega, by omega, by omega⟩, List.flatten_replicate_singleton, List.map_replicate]
    · walk_at "3"
      refine o_catP gk (by rw [List.length_replicate]; omega) ?_
      walk_at "3"
      have hle := hi.len
      exact ⟨S2.length, acc ++ List.replicate x.2.toNat x.1, _, _, hi.app (by show closedL _ _ = true; exact closedL_strs _), hle, get_app, by rw [List.append_assoc]; exact he, fun p hp => hin p (List.mem_cons_of_mem _ hp), rfl⟩
  · rintro δ S2 ⟨k, acc, o4, o5, hi, hk, gk, he, hin, rfl⟩
    have he : acc ++ [] = spread m := he
    rw [List.append_nil] at he
    subst he
    walk_at "3"
    refine p_lift (a := D.bl true) rfl ?_
    walk_at "3"
    with_reducible refine p_range1 ?_
    walk_at "3"
    refine o_lenP gk ?_
    rw [List.length_map]
    obtain ⟨nv, hnv⟩ : ∃ nv : Int, nv = ((spread m).length : Nat) := ⟨_, rfl⟩
    rw [← hnv]
    walk_at "3"
    refine ⟨by omega, by omega, ?_⟩
    have rl : (rangeD 0 nv).length = (spread m).length := by rw [hnv]; unfold rangeD; rw [List.length_map, List.length_range]; omega
    refine s_forL (fun ys δ S4 => ∃ (n : Nat) (xs : List Str) (o6 : Option D), n + ys.length = (spread m).length ∧ Gi j (c + n) S S4 ∧ S4[k]? = some (.lst (xs.map .str)) ∧ xs.Perm (spread m) ∧ δ = [some (toD m), some (.int i), some (.ptr j), some (.ptr k), o4, o5, o6]) ?_ ?_ _ _ _ ⟨0, spread m, none, by rw [rl, Nat.zero_add], hi, gk, List.Perm.refl _, rfl⟩
    · rintro y ys δ S4 ⟨n, xs, o6, hn, i4, gk4, hp, rfl⟩
      rw [List.length_cons] at hn
      have hxl := hp.length_eq
      walk_at "3"
      refine p_append2 (k := k) ?_
      walk_at "3"
      refine ⟨rfl, ⟨_, gk4⟩, ?_⟩
      refine p_meth ?_
      walk_at "3"
      refine ⟨isTy_at gk4, ?_⟩
      walk_at "3"
      refine o_lenP gk4 ?_
      rw [List.length_map]
      walk_at "3"
      refine digit_go (i4.gs hlt) (by omega) (by omega) (by omega) fun v S5 v0 v1 d5 => ?_
      have i5 := i4.gr hlt d5
      have gk5 : S5[k]? = some (.lst (xs.map .str)) := d5.get gk4 (by omega)
      have hv : v.toNat < xs.length := by omega
      have hk5 := lt_of_at gk5
      have c1 : D.closed S5.length (.lst ((xs.eraseIdx v.toNat).map .str)) = true := by show closedL _ _ = true; exact closedL_strs _
      walk_at "3"
      refine ⟨_, _, pop_at gk5 v0 hv (by omega), ?_⟩
      walk_at "3"
      refine ⟨_, List.getElem?_set_self hk5, by rw [List.length_map, List.length_eraseIdx_of_lt hv]; omega, ?_⟩
      rw [List.set_set, show (xs.eraseIdx v.toNat).map D.str ++ [D.str xs[v.toNat]] = (xs.eraseIdx v.toNat ++ [xs[v.toNat]]).map D.str by rw [List.map_append]; rfl]
      exact ⟨n + 1, xs.eraseIdx v.toNat ++ [xs[v.toNat]], _, by omega, (i5.setO hk (by show closedL _ _ = true; exact closedL_strs _)).le (by omega), List.getElem?_set_self hk5, turn_perm hp hv, rfl⟩
    · rintro δ S4 ⟨n, xs, o6, hn, i4, gk4, hp, rfl⟩
      have hn : n = (spread m).length := hn
      have hxl := hp.length_eq
      walk_at "3"
      refine p_meth ?_
      walk_at "3"
      refine ⟨rfl, ?_⟩
      walk_at "3"
      refine p_lift (o_strI h40) ?_
      walk_at "3"
      refine o_catQ (a := [numS i]) gk4 (by rw [List.length_singleton]; omega) ?_
      walk_at "3"
      rw [star_eq]
      exact ⟨_, _, o_joinS (m := 41) (fun x hx => by
        rcases List.mem_cons.mp hx with rfl | hx
        · exact hnl
        · exact e40 x (hp.mem_iff.mp hx)) (by rw [List.length_append, List.length_singleton, show starS.length = 1 by decide]; omega), rfl, i4.le (by omega), xs, hp, rfl⟩
end DL
set_option Elab.async false
set_option linter.all false
set_option maxRecDepth 100000
set_option maxHeartbeats 1000000
set_option autoImplicit false
namespace DL
open PySem L2
open Emb
local macro_rules | `(tactic| walk_at "1") => `(tactic| with_reducible first
  | refine s_seq ?_ | refine s_asg ?_ | refine s_ret ?_ | refine s_if ?_ | refine s_expr ?_ | refine s_next ?_ | refine s_brk ?_ | refine s_cont ?_ | refine s_for ?_ | refine s_while ?_
  | refine p_c ?_ | refine p_bin ?_ | refine p_as ?_ | refine p_cons ?_ | refine p_nil ?_ | refine p_un ?_ | refine p_call ?_ | refine p_if ?_ | refine p_own ?_
  | refine p_keep ?_ | refine p_tru ?_ | refine p_and ?_ | refine p_or ?_ | refine p_not ?_ | refine p_val ?_ | refine p_rand ?_ | refine p_ror ?_ | refine p_rnot ?_ | refine p_chain ?_ | refine p_bif ?_
  | refine o_add ?_ | refine o_sub ?_ | refine o_ltU ?_ | refine o_leU ?_ | refine o_gtU ?_ | refine o_geU ?_ | refine o_neg ?_ | refine o_eqI ?_ | refine o_neI ?_ | refine o_abs ?_ | refine o_tru ?_ | refine p_true ?_ | refine p_false ?_
  | refine o_lenT ?_ | refine o_lenL ?_ | refine o_ix0 ?_ | refine o_ix1 ?_ | refine o_ix2 ?_ | refine o_ix0L ?_ | refine o_ix1L ?_ | refine o_ix2L ?_
  | refine s_par ?_ | refine p_yes ?_ | refine p_seq ?_ | refine s_gnil ?_ | refine s_gcons ?_ | refine s_gtux ?_ | refine s_gtupl ?_ | refine p_onone ?_ | refine p_osome ?_ | refine p_get2 ?_ | refine s_putU ?_ | refine p_sortIt ?_)
local macro_rules | `(tactic| walk_at "2") => `(tactic| first
  | walk_at "1"
  | (with_reducible refine p_var2 ?_)
  | ((with_reducible refine s_name ?_ ?_); (· exact Nat.le_of_ble_eq_true rfl); dsimp only [List.set_cons_zero, List.set_cons_succ])
  | (with_reducible refine p_tup ?_) | (with_reducible refine p_lst ?_) | ((with_reducible refine ⟨?_, ?_⟩); (· exact Nat.le_of_ble_eq_true rfl))
  | ((with_reducible refine p_ex2 (x := ?_) (y := ?_) ?_ ?_); rotate_left; rotate_left; (· rfl); refine ⟨?_, ?_, ?_⟩; (· exact Nat.le_of_ble_eq_true rfl); (· exact Nat.le_of_ble_eq_true rfl); dsimp only [List.set_cons_zero, List.set_cons_succ])
  | ((with_reducible refine p_isT ?_ ?_); (· rfl)) | ((with_reducible refine p_isF ?_ ?_); (· rfl))
  | ((with_reducible refine p_ex (x := ?_) ?_ ?_); rotate_left; (· rfl)))
local macro_rules | `(tactic| walk_at "3") => `(tactic| repeat walk_at "2")
open PyProof
theorem perm_map_inv5 {α β : Type} (f : α → β) : ∀ {xs : List α} {ys : List β}, ys.Perm (xs.map f) → ∃ zs : List α, zs.Perm xs ∧ ys = zs.map f
  | [], ys, h => ⟨[], List.Perm.refl _, by have := h.length_eq; exact List.length_eq_zero_iff.mp (by simpa using this)⟩
  | x :: r, ys, h => by
    have hm : f x ∈ ys := h.mem_iff.mpr (by simp)
    obtain ⟨a, b, rfl⟩ := List.append_of_mem hm
    have h2 : (a ++ b).Perm (r.map f) := (List.perm_middle.symm.trans h).cons_inv
    obtain ⟨zs, p, e⟩ := perm_map_inv5 f h2
    obtain ⟨z1, z2, rfl, e1, e2⟩ := List.map_eq_append_iff.mp e.symm
    refine ⟨z1 ++ x :: z2, List.perm_middle.trans (p.cons x), ?_⟩
    rw [List.map_append, List.map_cons, e1, e2]
theorem eqz_snoc5 {a b : Pol} (h : Eqz a b) {m : Mono} {x y z : Int} (e : x + y = z) : Eqz (a ++ [(m, x)] ++ [(m, y)]) (b ++ [(m, z)]) := fun q => by
  rw [conz_app, conz_app, conz_app, h q, conz_cons, conz_cons, conz_cons, conz_nil]
  dsimp only
  split <;> omega
theorem eqz_zero5 {a b : Pol} (h : Eqz a b) (m : Mono) : Eqz (a ++ [(m, 0)]) b := fun q => by
  rw [conz_app, h q, conz_cons, conz_nil]
  dsimp only
  split <;> omega
/-! ### a poly's texts -/
theorem law_text_spec05 {N : List Str} (hN : ∀ x ∈ N, DL.nm x = true) {r : Str × Pol} (h : RowF N r) (S : Sto) (hS : Sane S) : m__law_text [toD r.2] S = .ok (.str (polyS (nets (termsOf r.2)))) S := by
  have sl : 3000 ≤ sizeLine := by decide
  have h3 := h.pol.len
  refine m_defS hS rfl ?_
  show (b__law_text [some (toD r.2), none, none] S).post _ _ _ _
  unfold b__law_text
  rw [polyS_of]
  walk_at "3"
  refine o_eqFit (κ := Pol) (a := r.2) (b := []) (fit_pol hN h.pol.ok (by decide) h.pol.num) rfl (by decide) ?_
  walk_at "3"
  refine ⟨fun z => ?_, fun z => ?_⟩
  · have z : r.2 = [] := of_decide_eq_true z
    walk_at "3"
    rw [if_pos z]
    exact ⟨rfl, rfl⟩
  · have z : ¬ r.2 = [] := of_decide_eq_false z
    rw [if_neg z]
    walk_at "3"
    refine p_meth ?_
    walk_at "3"
    refine ⟨rfl, ?_⟩
    walk_at "3"
    refine p_lcRows r.2 (fun q => termS (q.2, spread q.1)) D.str (exact_of (p_seq (p_var rfl (.inr (.inl ⟨_, rfl, rfl, rfl⟩))))) (Nat.le_of_ble_eq_true rfl) (Nat.le_of_ble_eq_true rfl) (by omega) (fun p hp => ?_) ?_
    · refine exact_of ?_
      dsimp only [in2, wipeD, List.set_cons_zero, List.set_cons_succ]
      walk_at "3"
      exact Res.post.of_eq (law_term_none hN (h.pol.ok p hp) (h.num p hp) S hS) ⟨rfl, rfl⟩
    · have e : (r.2.map fun q => termS (q.2, spread q.1)) = (termsOf r.2).map termS := by unfold termsOf; rw [List.map_map]; rfl
      rw [e]
      walk_at "3"
      exact ⟨_, _, o_joinS (m := 546) (terms_len hN h) (by rw [List.length_map, show (" + " : Str).length = 3 by kernel_rfl]; unfold termsOf; rw [List.length_map]; omega), rfl, rfl⟩
theorem zz_s : termS (0, ["zz"]) = ("0*zz" : Str) := by decide +kernel
theorem nought_s : termS (0, []) = ("0" : Str) := by decide +kernel
theorem zz_g : TermG (0, ["zz"]) := ⟨by show (0 : Int).natAbs < _; decide, fun x hx => by rw [List.mem_singleton.mp hx]; decide +kernel, by show 1 ≤ 12; decide⟩
theorem nought_g : TermG (0, []) := ⟨by show (0 : Int).natAbs < _; decide, (fun x hx => nomatch hx), by show 0 ≤ 12; decide⟩
theorem app_strs {ts : List Term} {t : Term} : (ts.map termS).map D.str ++ [D.str (termS t)] = ((ts ++ [t]).map termS).map D.str := by rw [List.map_append, List.map_append]; rfl
theorem otherwise_spec05 {j c : Nat} {S : Sto} (hd : Gs j c S) (hc : c < 2 ^ 37) {N : List Str} (hN : ∀ x ∈ N, DL.nm x = true) {p : Pol} (hp : PolD N 12 p) : (m__law_otherwise [.ptr j, toD p] S).post fun z S' => (∃ ts : List Term, ts ≠ [] ∧ (∀ t ∈ ts, TermG t) ∧ ts.length ≤ 14 ∧ Eqz (sumT ts) p ∧ z = .str (Str.join " + " (ts.map termS))) ∧ Gr j (c + 300) S S' := by
  have sl : 3000 ≤ sizeLine := by decide
  have hlt := hd.lt
  have hpl := hp.len
  refine m_gi (P := fun z => ∃ ts : List Term, ts ≠ [] ∧ (∀ t ∈ ts, TermG t) ∧ ts.length ≤ 14 ∧ Eqz (sumT ts) p ∧ z = .str (Str.join " + " (ts.map termS))) hd ?_
  show (b__law_otherwise [some (.ptr j), some (toD p), none, none, none, none, none] S).post _ _ _ _
  unfold b__law_otherwise
  walk_at "3"
  refine .inr (.inl ⟨p.map toD, rfl, ?_⟩)
  refine s_forT toD (fun xs δ S2 => ∃ (n : Nat) (done : Pol) (ts : List Term) (o3 o4 o5 : Option D), n + xs.length = p.length ∧ done ++ xs = p ∧ Gi j (c + 40 * n) S S2 ∧ S2[S.length]? = some (.lst ((ts.map termS).map .str)) ∧ (∀ t ∈ ts, TermG t) ∧ ts.length = 2 * n ∧ Eqz (sumT ts) done ∧ (∀ q ∈ xs, q ∈ p) ∧ δ = [some (.ptr j), some (toD p), some (.ptr S.length), o3, o4, o5, none]) ?_ ?_ _ _ _ ⟨0, [], [], none, none, none, Nat.zero_add _, rfl, hd.in_.app rfl, get_app, (fun _ z => nomatch z), rfl, Eqz.refl _, (fun _ z => z), rfl⟩
  · rintro x xs δ S2 ⟨n, done, ts, o3, o4, o5, hn, he, hi, gk, hts, htl, heq, hin, rfl⟩
    rw [List.length_cons] at hn
    have hx := hin x List.mem_cons_self
    have hm := hp.ok x hx
    have hnum := hp.num x hx
    have hsl := spread_len hm
    have hil := hi.len
    have hgk := lt_of_at gk
    show (gTup _ (.tup [toD x.1, .int x.2]) _ _).post _
    walk_at "3"
    refine digit_go (hi.gs hlt) (by omega) (by decide) (by decide) fun v S3 v0 v1 d3 => ?_
    have i3 := hi.gr hlt d3
    have gk3 : S3[S.length]? = some (.lst ((ts.map termS).map .str)) := d3.get gk (by omega)
    walk_at "3"
    refine p_append2 (k := S.length) ?_
    walk_at "3"
    refine ⟨rfl, ⟨_, gk3⟩, ?_⟩
    walk_at "3"
    have n1 : (x.2 - (v - 4)).natAbs < 10 ^ 40 := by omega
    have n2 : (v - 4).natAbs < 10 ^ 40 := by omega
    refine (law_term_st (i3.gs hlt) (by omega) hN hm n1).mono ?_
    rintro _ S4 ⟨⟨b1, hb1, rfl⟩, d4⟩
    have i4 := i3.gr hlt d4
    have gk4 : S4[S.length]? = some (.lst ((ts.map termS).map .str)) := d4.get gk3 (by omega)
    have tg1 : TermG (x.2 - (v - 4), b1) := ⟨n1, fun b hb => hN b (spread_in hm (hb1.mem_iff.mp hb)), by have := hb1.length_eq; show b1.length ≤ 12; omega⟩
    walk_at "3"
    refine ⟨_, gk4, by rw [List.length_map, List.length_map]; omega, ?_⟩
    rw [app_strs]
    have i5 := i4.setO (k := S.length) (v := .lst (((ts ++ [(x.2 - (v - 4), b1)]).map termS).map .str)) (Nat.le_refl _) (by show closedL _ _ = true; exact closedL_strs _)
    have gk5 : (S4.set S.length (.lst (((ts ++ [(x.2 - (v - 4), b1)]).map termS).map .str)))[S.length]? = some (.lst (((ts ++ [(x.2 - (v - 4), b1)]).map termS).map .str)) := List.getElem?_set_self (lt_of_at gk4)
    generalize S4.set S.length (.lst (((ts ++ [(x.2 - (v - 4), b1)]).map termS).map .str)) = S5 at i5 gk5 ⊢
    walk_at "3"
    refine p_append2 (k := S.length) ?_
    walk_at "3"
    refine ⟨rfl, ⟨_, gk5⟩, ?_⟩
    walk_at "3"
    refine (law_term_st (i5.gs hlt) (by omega) hN hm n2).mono ?_
    rintro _ S6 ⟨⟨b2, hb2, rfl⟩, d6⟩
    have i6 := i5.gr hlt d6
    have gk6 := d6.get gk5 (by omega)
    have tg2 : TermG (v - 4, b2) := ⟨n2, fun b hb => hN b (spread_in hm (hb2.mem_iff.mp hb)), by have := hb2.length_eq; show b2.length ≤ 12; omega⟩
    walk_at "3"
    refine ⟨_, gk6, by rw [List.length_map, List.length_map, List.length_append, List.length_singleton]; omega, ?_⟩
    rw [app_strs]
    refine ⟨n + 1, done ++ [x], (ts ++ [(x.2 - (v - 4), b1)]) ++ [(v - 4, b2)], _, _, _, by omega, by rw [List.append_assoc]; exact he, (i6.setO (Nat.le_refl _) (by show closedL _ _ = true; exact closedL_strs _)).le (by omega), List.getElem?_set_self (lt_of_at gk6), ?_, by rw [List.length_append, List.length_append, List.length_singleton, List.length_singleton]; omega, ?_, fun q hq => hin q (List.mem_cons_of_mem _ hq), rfl⟩
    · intro t ht
      rcases List.mem_append.mp ht with e | e
      · rcases List.mem_append.mp e with e | e
        · exact hts t e
        · rw [List.mem_singleton.mp e]; exact tg1
      · rw [List.mem_singleton.mp e]; exact tg2
    · have e1 : sumT ((ts ++ [(x.2 - (v - 4), b1)]) ++ [(v - 4, b2)]) = sumT ts ++ [(x.1, x.2 - (v - 4))] ++ [(x.1, v - 4)] := by
        unfold sumT
        rw [List.map_append, List.map_append, List.map_cons, List.map_cons, List.map_nil]
        dsimp only
        rw [monoOf_perm hm hb1, monoOf_perm hm hb2]
      rw [e1]
      exact eqz_snoc5 heq (by omega)
  · rintro δ S2 ⟨n, done, ts, o3, o4, o5, hn, he, hi, gk, hts, htl, heq, hin, rfl⟩
    have hn : n = p.length := hn
    have he : done ++ [] = p := he
    rw [List.append_nil] at he
    subst he
    walk_at "3"
    refine o_catP (a := ts.map termS) (b := ["0*zz", "0"]) gk (by rw [List.length_map]; show _ + 2 ≤ _; omega) ?_
    have ets : ts.map termS ++ ([("0*zz" : Str), ("0" : Str)] : List Str) = (ts ++ [((0 : Int), (["zz"] : List Str)), ((0 : Int), ([] : List Str))]).map termS := by
      rw [List.map_append, List.map_cons, List.map_cons, List.map_nil, zz_s, nought_s]
    rw [ets]
    have htg : ∀ t ∈ ts ++ [((0 : Int), (["zz"] : List Str)), ((0 : Int), ([] : List Str))], TermG t := fun t ht => by
      rcases List.mem_append.mp ht with e | e
      · exact hts t e
      · rcases List.mem_cons.mp e with rfl | e
        · exact zz_g
        · rw [List.mem_singleton.mp e]; exact nought_g
    have hte : Eqz (sumT (ts ++ [((0 : Int), (["zz"] : List Str)), ((0 : Int), ([] : List Str))])) done := by
      have e1 : sumT (ts ++ [((0 : Int), (["zz"] : List Str)), ((0 : Int), ([] : List Str))]) = sumT ts ++ [(monoOf ["zz"], 0)] ++ [(monoOf [], 0)] := by
        unfold sumT
        rw [List.map_append, List.append_assoc]
        rfl
      rw [e1]
      exact eqz_zero5 (eqz_zero5 heq _) _
    have htl2 : (ts ++ [((0 : Int), (["zz"] : List Str)), ((0 : Int), ([] : List Str))]).length = 2 * n + 2 := by rw [List.length_append, htl]; rfl
    generalize ts ++ [((0 : Int), (["zz"] : List Str)), ((0 : Int), ([] : List Str))] = us at htg hte htl2 ⊢
    walk_at "3"
    have hil := hi.len
    have i3 := hi.app (v := .lst ((us.map termS).map .str)) (by show closedL _ _ = true; exact closedL_strs _)
    have gk3 : (S2 ++ [D.lst ((us.map termS).map .str)])[S2.length]? = some (.lst ((us.map termS).map .str)) := get_app
    generalize S2 ++ [D.lst ((us.map termS).map .str)] = S3 at i3 gk3 ⊢
    with_reducible refine p_range1 ?_
    walk_at "3"
    refine o_lenP gk3 ?_
    rw [List.length_map, List.length_map]
    obtain ⟨nv, hnv⟩ : ∃ nv : Int, nv = (us.length : Nat) := ⟨_, rfl⟩
    rw [← hnv]
    walk_at "3"
    refine ⟨by omega, by omega, ?_⟩
    have rl : (rangeD 0 nv).length = us.length := by rw [hnv]; unfold rangeD; rw [List.length_map, List.length_range]; omega
    refine s_forL (fun ys δ S4 => ∃ (k : Nat) (xs : List Str) (o6 : Option D), k + ys.length = us.length ∧ Gi j (c + 40 * n + k) S S4 ∧ S4[S2.length]? = some (.lst (xs.map .str)) ∧ xs.Perm (us.map termS) ∧ δ = [some (.ptr j), some (toD done), some (.ptr S2.length), o3, o4, o5, o6]) ?_ ?_ _ _ _ ⟨0, us.map termS, none, by rw [rl, Nat.zero_add], i3, gk3, List.Perm.refl _, rfl⟩
    · rintro y ys δ S4 ⟨k, xs, o6, hk, i4, gk4, hpm, rfl⟩
      rw [List.length_cons] at hk
      have hxl := hpm.length_eq
      rw [List.length_map] at hxl
      walk_at "3"
      refine p_append2 (k := S2.length) ?_
      walk_at "3"
      refine ⟨rfl, ⟨_, gk4⟩, ?_⟩
      refine p_meth ?_
      walk_at "3"
      refine ⟨isTy_at gk4, ?_⟩
      walk_at "3"
      refine o_lenP gk4 ?_
      rw [List.length_map]
      walk_at "3"
      refine digit_go (i4.gs hlt) (by omega) (by omega) (by omega) fun v S5 v0 v1 d5 => ?_
      have i5 := i4.gr hlt d5
      have gk5 : S5[S2.length]? = some (.lst (xs.map .str)) := d5.get gk4 (by omega)
      have hv : v.toNat < xs.length := by omega
      have hk5 := lt_of_at gk5
      walk_at "3"
      refine ⟨_, _, pop_at gk5 v0 hv (by omega), ?_⟩
      walk_at "3"
      refine ⟨_, List.getElem?_set_self hk5, by rw [List.length_map, List.length_eraseIdx_of_lt hv]; omega, ?_⟩
      rw [List.set_set, show (xs.eraseIdx v.toNat).map D.str ++ [D.str xs[v.toNat]] = (xs.eraseIdx v.toNat ++ [xs[v.toNat]]).map D.str by rw [List.map_append]; rfl]
      exact ⟨k + 1, xs.eraseIdx v.toNat ++ [xs[v.toNat]], _, by omega, (i5.setO hil (by show closedL _ _ = true; exact closedL_strs _)).le (by omega), List.getElem?_set_self hk5, turn_perm hpm hv, rfl⟩
    · rintro δ S4 ⟨k, xs, o6, hk, i4, gk4, hpm, rfl⟩
      have hk : k = us.length := hk
      obtain ⟨vs, hvp, rfl⟩ := perm_map_inv5 termS hpm
      have hvl := hvp.length_eq
      have hvg : ∀ t ∈ vs, TermG t := fun t ht => htg t (hvp.mem_iff.mp ht)
      walk_at "3"
      refine p_meth ?_
      walk_at "3"
      refine ⟨rfl, ?_⟩
      walk_at "3"
      refine ⟨_, _, o_joinP (m := 546) gk4 (fun x hx => ?_) (by rw [List.length_map, show (" + " : Str).length = 3 by kernel_rfl]; omega), rfl, i4.le (by omega), vs, fun e => by rw [e] at hvl; simp at hvl; omega, hvg, by omega, (conz_sumT_perm hvp).trans hte, rfl⟩
      obtain ⟨t, ht, rfl⟩ := List.mem_map.mp hx
      exact termS_len (hvg t ht)
end DL
set_option Elab.async false
set_option linter.all false
set_option maxRecDepth 100000
set_option maxHeartbeats 1000000
set_option autoImplicit false
namespace DL
open PySem L2
open Emb
local macro_rules | `(tactic| walk_at "1") => `(tactic| with_reducible first
  | refine s_seq ?_ | refine s_asg ?_ | refine s_ret ?_ | refine s_if ?_ | refine s_expr ?_ | refine s_next ?_ | refine s_brk ?_ | refine s_cont ?_ | refine s_for ?_ | refine s_while ?_
  | refine p_c ?_ | refine p_bin ?_ | refine p_as ?_ | refine p_cons ?_ | refine p_nil ?_ | refine p_un ?_ | refine p_call ?_ | refine p_if ?_ | refine p_own ?_
  | refine p_keep ?_ | refine p_tru ?_ | refine p_and ?_ | refine p_or ?_ | refine p_not ?_ | refine p_val ?_ | refine p_rand ?_ | refine p_ror ?_ | refine p_rnot ?_ | refine p_chain ?_ | refine p_bif ?_
  | refine o_add ?_ | refine o_sub ?_ | refine o_ltU ?_ | refine o_leU ?_ | refine o_gtU ?_ | refine o_geU ?_ | refine o_neg ?_ | refine o_eqI ?_ | refine o_neI ?_ | refine o_abs ?_ | refine o_tru ?_ | refine p_true ?_ | refine p_false ?_
  | refine o_lenT ?_ | refine o_lenL ?_ | refine o_ix0 ?_ | refine o_ix1 ?_ | refine o_ix2 ?_ | refine o_ix0L ?_ | refine o_ix1L ?_ | refine o_ix2L ?_
  | refine s_par ?_ | refine p_yes ?_ | refine p_seq ?_ | refine s_gnil ?_ | refine s_gcons ?_ | refine s_gtux ?_ | refine s_gtupl ?_ | refine p_onone ?_ | refine p_osome ?_ | refine p_get2 ?_ | refine s_putU ?_ | refine p_sortIt ?_)
local macro_rules | `(tactic| walk_at "2") => `(tactic| first
  | walk_at "1"
  | (with_reducible refine p_var2 ?_)
  | ((with_reducible refine s_name ?_ ?_); (· exact Nat.le_of_ble_eq_true rfl); dsimp only [List.set_cons_zero, List.set_cons_succ])
  | (with_reducible refine p_tup ?_) | (with_reducible refine p_lst ?_) | ((with_reducible refine ⟨?_, ?_⟩); (· exact Nat.le_of_ble_eq_true rfl))
  | ((with_reducible refine p_ex2 (x := ?_) (y := ?_) ?_ ?_); rotate_left; rotate_left; (· rfl); refine ⟨?_, ?_, ?_⟩; (· exact Nat.le_of_ble_eq_true rfl); (· exact Nat.le_of_ble_eq_true rfl); dsimp only [List.set_cons_zero, List.set_cons_succ])
  | ((with_reducible refine p_isT ?_ ?_); (· rfl)) | ((with_reducible refine p_isF ?_ ?_); (· rfl))
  | ((with_reducible refine p_ex (x := ?_) ?_ ?_); rotate_left; (· rfl)))
local macro_rules | `(tactic| walk_at "3") => `(tactic| repeat walk_at "2")
open PyProof
/-! ### what is shown (as in Tk), for names of one to eight letters -/
structure Shw (d : D) (t : Str) : Prop where
  rep : ∀ S : Sto, gReprW S [d] = some (.str t)
  ok : PyData.strOk t = true
theorem o_shw {S : Sto} {d : D} {t : Str} {Q : D → Sto → Prop} (h : Shw d t) (q : Q (.str t) S) : (Res.lift (gReprW S [d]) S).post Q := p_lift (h.rep S) q
theorem o_neSame {S : Sto} {d : D} {t : Str} {Q : D → Sto → Prop} (h : Shw d t) (q : Q (.bl false) S) : (Res.lift (gNe S (.str t) (.str t)) S).post Q := o_neS h.ok h.ok (by rw [beq_self_eq_true]; exact q)
def FitE {κ : Type} [Emb κ] (w : Nat) (x : κ) : Prop := fitP (py x) = true ∧ wtP (py x) ≤ w
theorem shw_emb {κ : Type} [Emb κ] {w : Nat} {x : κ} (h : FitE w x) (hw : w ≤ sizeLine) (hd : deg κ ≤ 64) : Shw (toD x) (py x).shown := by
  obtain ⟨g1, g2, g3⟩ := shown_fit h.1
  refine ⟨fun S => ?_, okS_ok g1⟩
  have h2 := h.2
  unfold gReprW
  dsimp only
  rw [deref_emb, pyOk]
  dsimp only
  rw [g3, decide_eq_true (Nat.le_trans (dep x) hd), decide_eq_true (show (py x).shown.length ≤ sizeLine by omega)]
  rfl
theorem fitE_le {κ : Type} [Emb κ] {v w : Nat} {x : κ} (h : FitE v x) (hv : v ≤ w) : FitE w x := ⟨h.1, Nat.le_trans h.2 hv⟩
theorem fitE_int {i : Int} (h : i.natAbs ≤ 10 ^ 1000) : FitE 1006 i := by
  refine ⟨?_, ?_⟩
  · show fitP (.int i) = true
    unfold fitP
    exact decide_eq_true (Nat.lt_of_le_of_lt h (Nat.pow_lt_pow_right (by decide) (by decide)))
  · show wtP (.int i) ≤ 1006
    unfold wtP
    exact Nat.le_refl _
theorem fitE_pair {α β : Type} [Emb α] [Emb β] {a b : Nat} {p : α × β} (h1 : FitE a p.1) (h2 : FitE b p.2) : FitE (a + b + 7) p := by
  refine ⟨?_, ?_⟩
  · show fitP (.tuple [py p.1, py p.2]) = true
    unfold fitP fitPs fitPs fitPs
    rw [h1.1, h2.1]; rfl
  · show wtP (.tuple [py p.1, py p.2]) ≤ _
    unfold wtP wtPs wtPs wtPs
    have := h1.2
    have := h2.2
    omega
theorem fitE_list {α : Type} [Emb α] {w : Nat} : ∀ {xs : List α}, (∀ x ∈ xs, FitE w x) → fitPs (xs.map py) = true ∧ wtPs (xs.map py) ≤ xs.length * (w + 2)
  | [], _ => ⟨by unfold List.map fitPs; rfl, by unfold List.map wtPs; simp⟩
  | x :: r, h => by
    obtain ⟨h1, h2⟩ := fitE_list fun y hy => h y (List.mem_cons_of_mem _ hy)
    have hx := h x List.mem_cons_self
    unfold List.map fitPs wtPs
    rw [hx.1, h1, List.length_cons, Nat.succ_mul]
    refine ⟨rfl, ?_⟩
    have := hx.2
    omega
theorem fitE_tuple {α : Type} [Emb α] {w n : Nat} {xs : List α} (h : ∀ x ∈ xs, FitE w x) (hn : xs.length ≤ n) : FitE (n * (w + 2) + 3) xs := by
  obtain ⟨h1, h2⟩ := fitE_list h
  refine ⟨?_, ?_⟩
  · show fitP (.tuple (xs.map py)) = true
    unfold fitP; exact h1
  · show wtP (.tuple (xs.map py)) ≤ _
    unfold wtP
    have := Nat.mul_le_mul_right (w + 2) hn
    omega
theorem fitE_nm {x : Str} (h : nm x = true) : FitE 82 x := by
  refine ⟨fit_str (strok_nm h), ?_⟩
  have := (nm_len h).2
  show wtP (.str x) ≤ 82
  unfold wtP
  omega
theorem fitE_nmono {N : List Str} (hN : ∀ x ∈ N, DL.nm x = true) {m : Mono} (h : MonP N 12 m) : FitE 13200 m := by
  obtain ⟨h1, h2, _⟩ := h.len
  refine fitE_le (fitE_tuple (w := 82 + 1006 + 7) (n := 12) (fun p hp => fitE_pair (fitE_nm (hN _ (h.nc p hp).1)) (fitE_int (small_1000 (n := 12) (by have := h2 p hp; have := (h.nc p hp).2; omega) (by decide)))) (by omega)) (by decide)
theorem fitE_npol {N : List Str} (hN : ∀ x ∈ N, DL.nm x = true) {p : Pol} (h : OkL N 12 p) (hn : ∀ q ∈ p, q.2.natAbs ≤ 10 ^ 1000) (hl : p.length ≤ 300) : FitE 5000000 p :=
  fitE_le (fitE_tuple (w := 13200 + 1006 + 7) (n := 300) (fun q hq => fitE_pair (fitE_nmono hN (h q hq)) (fitE_int (hn q hq))) hl) (by decide)
theorem shw_npol {N : List Str} (hN : ∀ x ∈ N, DL.nm x = true) {p : Pol} (h : OkL N 12 p) (hn : ∀ q ∈ p, q.2.natAbs ≤ 10 ^ 1000) (hl : p.length ≤ 300) : Shw (toD p) (py p).shown := shw_emb (fitE_npol hN h hn hl) (by decide) (by decide)
end DL
set_option Elab.async false
set_option linter.all false
set_option maxRecDepth 100000
set_option maxHeartbeats 1000000
set_option autoImplicit false
namespace DL
open PySem L2
open Emb
local macro_rules | `(tactic| walk_at "1") => `(tactic| with_reducible first
  | refine s_seq ?_ | refine s_asg ?_ | refine s_ret ?_ | refine s_if ?_ | refine s_expr ?_ | refine s_next ?_ | refine s_brk ?_ | refine s_cont ?_ | refine s_for ?_ | refine s_while ?_
  | refine p_c ?_ | refine p_bin ?_ | refine p_as ?_ | refine p_cons ?_ | refine p_nil ?_ | refine p_un ?_ | refine p_call ?_ | refine p_if ?_ | refine p_own ?_
  | refine p_keep ?_ | refine p_tru ?_ | refine p_and ?_ | refine p_or ?_ | refine p_not ?_ | refine p_val ?_ | refine p_rand ?_ | refine p_ror ?_ | refine p_rnot ?_ | refine p_chain ?_ | refine p_bif ?_
  | refine o_add ?_ | refine o_sub ?_ | refine o_ltU ?_ | refine o_leU ?_ | refine o_gtU ?_ | refine o_geU ?_ | refine o_neg ?_ | refine o_eqI ?_ | refine o_neI ?_ | refine o_abs ?_ | refine o_tru ?_ | refine p_true ?_ | refine p_false ?_
  | refine o_lenT ?_ | refine o_lenL ?_ | refine o_ix0 ?_ | refine o_ix1 ?_ | refine o_ix2 ?_ | refine o_ix0L ?_ | refine o_ix1L ?_ | refine o_ix2L ?_
  | refine s_par ?_ | refine p_yes ?_ | refine p_seq ?_ | refine s_gnil ?_ | refine s_gcons ?_ | refine s_gtux ?_ | refine s_gtupl ?_ | refine p_onone ?_ | refine p_osome ?_ | refine p_get2 ?_ | refine s_putU ?_ | refine p_sortIt ?_)
local macro_rules | `(tactic| walk_at "2") => `(tactic| first
  | walk_at "1"
  | (with_reducible refine p_var2 ?_)
  | ((with_reducible refine s_name ?_ ?_); (· exact Nat.le_of_ble_eq_true rfl); dsimp only [List.set_cons_zero, List.set_cons_succ])
  | (with_reducible refine p_tup ?_) | (with_reducible refine p_lst ?_) | ((with_reducible refine ⟨?_, ?_⟩); (· exact Nat.le_of_ble_eq_true rfl))
  | ((with_reducible refine p_ex2 (x := ?_) (y := ?_) ?_ ?_); rotate_left; rotate_left; (· rfl); refine ⟨?_, ?_, ?_⟩; (· exact Nat.le_of_ble_eq_true rfl); (· exact Nat.le_of_ble_eq_true rfl); dsimp only [List.set_cons_zero, List.set_cons_succ])
  | ((with_reducible refine p_isT ?_ ?_); (· rfl)) | ((with_reducible refine p_isF ?_ ?_); (· rfl))
  | ((with_reducible refine p_ex (x := ?_) ?_ ?_); rotate_left; (· rfl)))
local macro_rules | `(tactic| walk_at "3") => `(tactic| repeat walk_at "2")
open PyProof
/-! ### refusals made by hand -/
theorem p_exc0 {c : Str} {δ : Sl} {S : Sto} {Q : D → Sto → Prop} (h : Q (.exc c []) S) : (rExc0 c δ S).post Q := h
theorem p_excN {c : Str} {ns : List Str} {rs : RA} {δ : Sl} {S : Sto} {Q : D → Sto → Prop} (h : (rs δ S).post fun ds S1 => (ds.length = ns.length ∧ ds.length ≤ 1000) ∧ Q (.exc c ((ns.zip ds).reverse.map fun p => (.str p.1, p.2))) S1) : (rExcN c ns rs δ S).post Q :=
  p_bind (h.mono fun ds S1 ⟨a, q⟩ => by
    rw [if_pos a]
    exact q)
theorem s_freeze5 {i k : Nat} {δ : Sl} {S : Sto} {ds : List D} {N B C : Sl → Sto → Prop} {T : D → Sto → Prop} (e : δ[i]? = some (some (.ptr k))) (hk : S[k]? = some (.lst ds)) (h : N (δ.set i (some (.lst ds))) (S.set k .non)) : (sFreeze i δ S).post N T B C := by
  unfold sFreeze
  rw [e]
  dsimp only
  rw [hk]
  exact h
theorem o_catD {S : Sto} {k : Nat} {a b : List D} {Q : D → Sto → Prop} (hk : S[k]? = some (.lst a)) (hl : a.length + b.length ≤ sizeLine) (h : Q (.lst (a ++ b)) S) : (Res.lift (gCat S (.ptr k) (.lst b)) S).post Q := p_lift (by
  unfold gCat
  rw [deref_at hk]
  show (if _ then _ else _) = _
  rw [if_pos hl]) h
def kindsL (c : Str) : List (Str × Bool) := [("row", subC c "BadRow"), ("loop", subC c "BadLoop"), ("hindered", subC c "Hindered"), ("paper", subC c "BadPaper"), ("great", subC c "TooGreat"), ("question", subC c "BadQuestion"), ("place", subC c "OutOfPlace"), ("other", false)]
def kindD (p : Str × Bool) : D := .tup [.str p.1, .bl p.2]
theorem isiE {c x : Str} {fs : List (D × D)} (hc : decide (c ∈ clX) = true) (hx : decide (x ∈ clX) = true) (S : Sto) : gIsiE clX S [.exc c fs, .fn x] = some (.bl (subC c x)) := by
  unfold gIsiE
  dsimp only
  rw [hc, hx]
  rfl
theorem isiV {c : Str} {fs : List (D × D)} (hc : decide (c ∈ clX) = true) (S : Sto) : gIsiE clX S [.exc c fs, .ty "ValueError"] = some (.bl true) := by
  unfold gIsiE
  dsimp only
  rw [hc]
  rfl
theorem kinds_spec {c : Str} {fs : List (D × D)} (hc : decide (c ∈ clX) = true) (S : Sto) (hS : Sane S) : m__law_kinds [.exc c fs] S = .ok (.lst (((kindsL c).filter (·.2)).map fun p => .str p.1)) S := by
  have sl : 1000 ≤ sizeLine := by decide
  have hL : subC c "LoopError" = true := by unfold subC; simp
  refine m_defJ hS (by
    show closedL _ _ = true
    rw [show ((kindsL c).filter (·.2)).map (fun p => D.str p.1) = (((kindsL c).filter (·.2)).map (·.1)).map D.str by rw [List.map_map]; rfl]
    exact closedL_strs _) ?_
  show (b__law_kinds [some (.exc c fs), none, none, none] S).post _ _ _ _
  unfold b__law_kinds
  walk_at "3"
  refine p_lift (isiE hc (x := "BadRow") (by decide) _) ?_
  walk_at "3"
  refine p_lift (isiE hc (x := "BadLoop") (by decide) _) ?_
  walk_at "3"
  refine p_lift (isiE hc (x := "Hindered") (by decide) _) ?_
  walk_at "3"
  refine p_lift (isiE hc (x := "BadPaper") (by decide) _) ?_
  walk_at "3"
  refine o_catD get_app (by show 2 + 2 ≤ _; omega) ?_
  walk_at "3"
  refine p_lift (isiE hc (x := "TooGreat") (by decide) _) ?_
  walk_at "3"
  refine p_lift (isiE hc (x := "BadQuestion") (by decide) _) ?_
  walk_at "3"
  refine o_catD get_app (by show 4 + 2 ≤ _; omega) ?_
  generalize hT : (S ++ [D.lst [D.tup [D.str (Str.ofString "row"), D.bl (subC c (Str.ofString "BadRow"))], D.tup [D.str (Str.ofString "loop"), D.bl (subC c (Str.ofString "BadLoop"))]]]) ++ _ = T
  have tk : T.take S.length = S := by rw [← hT]; simp
  walk_at "3"
  refine p_append2 (k := T.length) ?_
  walk_at "3"
  refine ⟨rfl, ⟨_, get_app⟩, ?_⟩
  walk_at "3"
  refine p_lift (isiE hc (x := "OutOfPlace") (by decide) _) ?_
  walk_at "3"
  refine ⟨_, get_app, by show 6 < _; omega, ?_⟩
  rw [set_app]
  walk_at "3"
  refine p_append2 (k := T.length) ?_
  walk_at "3"
  refine ⟨rfl, ⟨_, get_app⟩, ?_⟩
  walk_at "3"
  refine p_lift (isiV hc _) ?_
  walk_at "3"
  refine p_lift (isiE hc (x := "LoopError") (by decide) _) ?_
  rw [hL]
  walk_at "3"
  refine ⟨_, get_app, by show 7 < _; omega, ?_⟩
  rw [set_app]
  walk_at "3"
  refine s_freeze5 (k := T.length) rfl get_app ?_
  rw [set_app]
  dsimp only [List.set_cons_zero, List.set_cons_succ]
  walk_at "3"
  refine p_lc ?_
  refine Res.post.of_eq (exact_of (p_seq (p_var rfl (.inl ⟨(kindsL c).map kindD, rfl, rfl, rfl⟩)))) ?_
  refine Res.post.of_eq (lcTf kindD (fun p => D.str p.1) (fun p : Str × Bool => p.2) fun p hp => ⟨[some (.exc c fs), some (.lst ((kindsL c).map kindD)), some (.str p.1), some (.bl p.2)], rfl, rfl, fun _ => rfl⟩) ?_
  refine ⟨?_, ?_⟩
  · rw [List.length_map]
    have : ((kindsL c).filter fun p => p.2).length ≤ (kindsL c).length := List.length_filter_le _ _
    have e : (kindsL c).length = 8 := rfl
    omega
  · exact ⟨_, rfl, rfl, by rw [List.take_append_of_le_length (by have := congrArg List.length tk; rw [List.length_take] at this; omega)]; exact tk⟩
def sevenE (n : Int) : List (D × Str) := [(.exc "BadRow" [(.str "word", .int 3), (.str "row", .int n)], "row"), (.exc "BadLoop" [(.str "row", .int n)], "loop"), (.exc "Hindered" [(.str "what", .int n), (.str "boxes", .lst [.str "a"])], "hindered"), (.exc "BadPaper" [(.str "place", .int n)], "paper"), (.exc "TooGreat" [], "great"), (.exc "BadQuestion" [], "question"), (.exc "OutOfPlace" [], "place")]
theorem seven_ok {n : Int} {p : D × Str} (h : p ∈ sevenE n) : ∃ c fs, p.1 = .exc c fs ∧ decide (c ∈ clX) = true ∧ ((kindsL c).filter (·.2)).map (·.1) = [p.2] := by
  unfold sevenE at h
  rcases List.mem_cons.mp h with rfl | h
  · exact ⟨_, _, rfl, by decide, by show _ = [("row" : Str)]; decide +kernel⟩
  rcases List.mem_cons.mp h with rfl | h
  · exact ⟨_, _, rfl, by decide, by show _ = [("loop" : Str)]; decide +kernel⟩
  rcases List.mem_cons.mp h with rfl | h
  · exact ⟨_, _, rfl, by decide, by show _ = [("hindered" : Str)]; decide +kernel⟩
  rcases List.mem_cons.mp h with rfl | h
  · exact ⟨_, _, rfl, by decide, by show _ = [("paper" : Str)]; decide +kernel⟩
  rcases List.mem_cons.mp h with rfl | h
  · exact ⟨_, _, rfl, by decide, by show _ = [("great" : Str)]; decide +kernel⟩
  rcases List.mem_cons.mp h with rfl | h
  · exact ⟨_, _, rfl, by decide, by show _ = [("question" : Str)]; decide +kernel⟩
  rw [List.mem_singleton.mp h]
  exact ⟨_, _, rfl, by decide, by show _ = [("place" : Str)]; decide +kernel⟩
theorem by_hand_spec (n : Int) (hn : n.natAbs ≤ 1000) (S : Sto) (hS : Sane S) : m__law_by_hand [.int n] S = .ok (.bl true) S := by
  have sl : 1000 ≤ sizeLine := by decide
  refine m_defS hS rfl ?_
  show (b__law_by_hand [some (.int n), none, none, none, none, none] S).post _ _ _ _
  unfold b__law_by_hand
  walk_at "3"
  refine p_excN ?_
  walk_at "3"
  refine ⟨⟨rfl, by show 2 ≤ 1000; decide⟩, ?_⟩
  walk_at "3"
  refine p_excN ?_
  walk_at "3"
  refine ⟨⟨rfl, by show 1 ≤ 1000; decide⟩, ?_⟩
  walk_at "3"
  refine p_excN ?_
  walk_at "3"
  refine ⟨⟨rfl, by show 2 ≤ 1000; decide⟩, ?_⟩
  walk_at "3"
  refine p_excN ?_
  walk_at "3"
  refine ⟨⟨rfl, by show 1 ≤ 1000; decide⟩, ?_⟩
  walk_at "3"
  refine p_lift (a := .int n) rfl ?_
  walk_at "3"
  refine p_lift (a := .int 3) rfl ?_
  walk_at "3"
  refine p_lift (a := .int n) rfl ?_
  walk_at "3"
  refine p_lift (a := .lst [.str "a"]) rfl ?_
  walk_at "3"
  refine p_lift (a := .int n) rfl ?_
  walk_at "3"
  refine o_ixL (d := .exc "BadPaper" [(.str "place", .int n)]) rfl ?_
  refine p_lift (a := .int n) rfl ?_
  walk_at "3"
  have sh : SeqAt.shaped (.list [.int n, .int 3, .int n, .list [.str "a"], .int n, .int n]) = true := by
    unfold SeqAt.shaped
    have : PyData.strOk ("a" : Str) = true := by decide +kernel
    simp [PyData.canLay0, PyData.canLayAll0, PyData.depth, PyData.depthAll, this]
  refine o_neg_ (u := .list [.int n, .int 3, .int n, .list [.str "a"], .int n, .int n]) (v := .list [.int n, .int 3, .int n, .list [.str "a"], .int n, .int n]) rfl rfl sh sh ?_
  rw [show PyData.eqv (.list [.int n, .int 3, .int n, .list [.str "a"], .int n, .int n]) (.list [.int n, .int 3, .int n, .list [.str "a"], .int n, .int n]) = true by simp [PyData.eqv, PyData.eqvAll]]
  walk_at "3"
  refine p_exc0 ?_
  walk_at "3"
  refine p_exc0 ?_
  walk_at "3"
  refine p_exc0 ?_
  walk_at "3"
  refine p_lift (a := .lst ((sevenE n).map (·.1))) rfl ?_
  walk_at "3"
  refine p_lc ?_
  refine Res.post.of_eq (exact_of (p_seq (p_var rfl (.inl ⟨(sevenE n).map (·.1), rfl, rfl, rfl⟩)))) ?_
  refine Res.post.of_eq (lcTm (fun p : D × Str => p.1) (fun s : Str => D.lst [.str s]) (fun p => p.2) fun p hp => ⟨_, rfl, ?_⟩) ?_
  · obtain ⟨c, fs, e1, hc, ek⟩ := seven_ok hp
    refine exact_of ?_
    rw [e1]
    dsimp only [wipeD, List.set_cons_zero, List.set_cons_succ]
    walk_at "3"
    refine Res.post.of_eq (kinds_spec hc S hS) ?_
    refine ⟨?_, rfl⟩
    rw [show ((kindsL c).filter (·.2)).map (fun q => D.str q.1) = (((kindsL c).filter (·.2)).map (·.1)).map D.str by rw [List.map_map]; rfl, ek]
    rfl
  refine ⟨by show 7 ≤ _; omega, _, rfl, ?_⟩
  walk_at "3"
  refine p_lc ?_
  refine Res.post.of_eq (exact_of (p_seq (p_var rfl (.inl ⟨([("row" : Str), "loop", "hindered", "paper", "great", "question", "place"] : List Str).map D.str, rfl, rfl, rfl⟩)))) ?_
  refine Res.post.of_eq (lcTm D.str (fun s : Str => D.lst [.str s]) id fun p hp => ⟨_, rfl, ?_⟩) ?_
  · refine exact_of ?_
    dsimp only [wipeD, List.set_cons_zero, List.set_cons_succ]
    walk_at "3"
    exact ⟨rfl, rfl⟩
  refine ⟨by show 7 ≤ _; omega, _, rfl, ?_⟩
  have sh : SeqAt.shaped (.list [.list [.str "row"], .list [.str "loop"], .list [.str "hindered"], .list [.str "paper"], .list [.str "great"], .list [.str "question"], .list [.str "place"]]) = true := by decide +kernel
  refine o_eqg (u := .list [.list [.str "row"], .list [.str "loop"], .list [.str "hindered"], .list [.str "paper"], .list [.str "great"], .list [.str "question"], .list [.str "place"]]) (v := .list [.list [.str "row"], .list [.str "loop"], .list [.str "hindered"], .list [.str "paper"], .list [.str "great"], .list [.str "question"], .list [.str "place"]]) rfl rfl sh sh ?_
  rw [show PyData.eqv (.list [.list [.str "row"], .list [.str "loop"], .list [.str "hindered"], .list [.str "paper"], .list [.str "great"], .list [.str "question"], .list [.str "place"]]) (.list [.list [.str "row"], .list [.str "loop"], .list [.str "hindered"], .list [.str "paper"], .list [.str "great"], .list [.str "question"], .list [.str "place"]]) = true by simp [PyData.eqv, PyData.eqvAll]]
  exact ⟨rfl, rfl⟩
end DL
set_option Elab.async false
set_option linter.all false
set_option maxRecDepth 100000
set_option maxHeartbeats 1000000
set_option autoImplicit false
namespace DL
open PySem L2
open Emb
local macro_rules | `(tactic| walk_at "1") => `(tactic| with_reducible first
  | refine s_seq ?_ | refine s_asg ?_ | refine s_ret ?_ | refine s_if ?_ | refine s_expr ?_ | refine s_next ?_ | refine s_brk ?_ | refine s_cont ?_ | refine s_for ?_ | refine s_while ?_
  | refine p_c ?_ | refine p_bin ?_ | refine p_as ?_ | refine p_cons ?_ | refine p_nil ?_ | refine p_un ?_ | refine p_call ?_ | refine p_if ?_ | refine p_own ?_
  | refine p_keep ?_ | refine p_tru ?_ | refine p_and ?_ | refine p_or ?_ | refine p_not ?_ | refine p_val ?_ | refine p_rand ?_ | refine p_ror ?_ | refine p_rnot ?_ | refine p_chain ?_ | refine p_bif ?_
  | refine o_add ?_ | refine o_sub ?_ | refine o_ltU ?_ | refine o_leU ?_ | refine o_gtU ?_ | refine o_geU ?_ | refine o_neg ?_ | refine o_eqI ?_ | refine o_neI ?_ | refine o_abs ?_ | refine o_tru ?_ | refine p_true ?_ | refine p_false ?_
  | refine o_lenT ?_ | refine o_lenL ?_ | refine o_ix0 ?_ | refine o_ix1 ?_ | refine o_ix2 ?_ | refine o_ix0L ?_ | refine o_ix1L ?_ | refine o_ix2L ?_
  | refine s_par ?_ | refine p_yes ?_ | refine p_seq ?_ | refine s_gnil ?_ | refine s_gcons ?_ | refine s_gtux ?_ | refine s_gtupl ?_ | refine p_onone ?_ | refine p_osome ?_ | refine p_get2 ?_ | refine s_putU ?_ | refine p_sortIt ?_)
local macro_rules | `(tactic| walk_at "2") => `(tactic| first
  | walk_at "1"
  | (with_reducible refine p_var2 ?_)
  | ((with_reducible refine s_name ?_ ?_); (· exact Nat.le_of_ble_eq_true rfl); dsimp only [List.set_cons_zero, List.set_cons_succ])
  | (with_reducible refine p_tup ?_) | (with_reducible refine p_lst ?_) | ((with_reducible refine ⟨?_, ?_⟩); (· exact Nat.le_of_ble_eq_true rfl))
  | ((with_reducible refine p_ex2 (x := ?_) (y := ?_) ?_ ?_); rotate_left; rotate_left; (· rfl); refine ⟨?_, ?_, ?_⟩; (· exact Nat.le_of_ble_eq_true rfl); (· exact Nat.le_of_ble_eq_true rfl); dsimp only [List.set_cons_zero, List.set_cons_succ])
  | ((with_reducible refine p_isT ?_ ?_); (· rfl)) | ((with_reducible refine p_isF ?_ ?_); (· rfl))
  | ((with_reducible refine p_ex (x := ?_) ?_ ?_); rotate_left; (· rfl)))
local macro_rules | `(tactic| walk_at "3") => `(tactic| repeat walk_at "2")
open PyProof
theorem cutD_map5 {A B : Type} (f : A → B) (xs : List A) (lo hi : Option Int) : cutD (xs.map f) lo hi = (cutD xs lo hi).map f := by
  unfold cutD
  rw [List.length_map, ← List.map_drop, ← List.map_take]
theorem cutD_le5 {A : Type} (xs : List A) (l h : Option Int) : (cutD xs l h).length ≤ xs.length := by
  unfold cutD
  rw [List.length_take, List.length_drop]
  omega
theorem enum_mem : ∀ {ds : List D} {n : Nat} {x : D}, x ∈ enumD n ds → ∃ (k : Nat) (d : D), x = .tux [.int k, d] ∧ k < n + ds.length ∧ d ∈ ds
  | [], n, x, h => nomatch h
  | d :: r, n, x, h => by
    rcases List.mem_cons.mp h with rfl | h
    · exact ⟨n, d, rfl, by rw [List.length_cons]; omega, List.mem_cons_self⟩
    · obtain ⟨k, e, h1, h2, h3⟩ := enum_mem h
      exact ⟨k, e, h1, by rw [List.length_cons]; omega, List.mem_cons_of_mem _ h3⟩
def N8 : List Str := ["owl", "b", "zebra", "ant", "yak", "c", "hedgehog", "x"]
theorem n8_nm : ∀ x ∈ N8, DL.nm x = true := by
  have : N8.all (fun x => DL.nm x) = true := by decide +kernel
  exact List.all_eq_true.mp this
theorem n8_cut {v : Int} (h0 : 0 ≤ v) (h1 : v < 5) : cutD (N8.map D.str) (some v) none = (N8.drop v.toNat).map D.str := by
  have : v = 0 ∨ v = 1 ∨ v = 2 ∨ v = 3 ∨ v = 4 := by omega
  rcases this with rfl | rfl | rfl | rfl | rfl <;> rfl
theorem ahead5 {v : Int} (h0 : 0 ≤ v) (h1 : v < 3) : cutD (([("x" : Str), "="] : List Str).map D.str) none (some v) = (([("x" : Str), "="] : List Str).take v.toNat).map D.str := by
  have : v = 0 ∨ v = 1 ∨ v = 2 := by omega
  rcases this with rfl | rfl | rfl <;> rfl
theorem most_at {v : Int} (h0 : 0 ≤ v) (h1 : v < 3) : ∃ n : Nat, n ≤ 12 ∧ atI [D.int 2, .int 4, .int 12] v = some (.int (n : Nat)) := by
  have : v = 0 ∨ v = 1 ∨ v = 2 := by omega
  rcases this with rfl | rfl | rfl
  · exact ⟨2, by decide, rfl⟩
  · exact ⟨4, by decide, rfl⟩
  · exact ⟨12, by decide, rfl⟩
theorem ddraw_spec (x : Int) (k : Nat) (hk : k ≤ 1000) (S : Sto) (hS : Sane S) : ∃ l s : Int, m__law_draw [.int x, .int k] S = .ok (.ptr S.length) (S ++ [sdD l s k]) ∧ SdG k l s k := by
  obtain ⟨s, s0, s1, es⟩ := mixed_spec x (k : Nat) (by omega) S hS
  refine ⟨if (10 : Int) ^ 18 ≤ x then x else 0, s, exact_of (m_defK ?_), by split <;> omega, s0, s1, by omega, by omega⟩
  show (b__law_draw [some (.int x), some (.int k)] S).post _ _ _ _
  unfold b__law_draw
  refine s_ret ?_
  refine p_own ?_
  refine p_disp ?_
  have h1 : (rIf (bVal (rBin gGeU (rVar 0) (rBin gPow (rC (.int 10)) (rC (.int 18))))) (rVar 0) (rC (.int 0))) [some (.int x), some (.int k)] S = .ok (.int (if (10 : Int) ^ 18 ≤ x then x else 0)) S := by
    refine exact_of ?_
    walk_at "3"
    have p18 : ((10 : Int) ^ (18 : Int).toNat) = 10 ^ 18 := by decide
    refine o_pow ⟨by decide, by decide, by decide⟩ ?_
    rw [p18]
    walk_at "3"
    refine ⟨fun z => ?_, fun z => ?_⟩
    · have z : (10 : Int) ^ 18 ≤ x := of_decide_eq_true z
      walk_at "3"
      rw [if_pos z]
      exact ⟨rfl, rfl⟩
    · have z : ¬ (10 : Int) ^ 18 ≤ x := of_decide_eq_false z
      walk_at "3"
      rw [if_neg z]
      exact ⟨rfl, rfl⟩
  have h2 : (rCall m__law_mixed (rCons (rVar 0) (rCons (rVar 1) rNil))) [some (.int x), some (.int k)] S = .ok (.int s) S := by
    refine exact_of ?_
    walk_at "3"
    exact Res.post.of_eq es ⟨rfl, rfl⟩
  have hp : rPairs [((rC (.str "left")), (rIf (bVal (rBin gGeU (rVar 0) (rBin gPow (rC (.int 10)) (rC (.int 18))))) (rVar 0) (rC (.int 0)))), ((rC (.str "seed")), (rCall m__law_mixed (rCons (rVar 0) (rCons (rVar 1) rNil)))), ((rC (.str "turns")), (rVar 1))] [some (.int x), some (.int k)] S = .ok [(.str "left", .int (if (10 : Int) ^ 18 ≤ x then x else 0)), (.str "seed", .int s), (.str "turns", .int k)] S := by
    unfold rPairs rPairs rPairs rPairs
    simp [rC, rVar, Res.bind, h1, h2]
  refine Res.post.of_eq hp ⟨rfl, ?_⟩
  exact ⟨rfl, rfl⟩
theorem zero_ok5 : PyData.strOk ("0" : Str) = true := by decide +kernel
theorem rowF_of {N : List Str} {a : Str} (ha : a ∈ N) {d : Nat} (hd : d ≤ 12) {p : Pol} (h : PolD N d p) : RowF N (a, p) :=
  ⟨ha, ⟨h.inc, h.nz, h.ok.le hd, fun q hq => Nat.le_trans (h.num q hq) (Nat.pow_le_pow_right (by decide) (by decide)), by have := h.len; show p.length ≤ 300; omega⟩, fun q hq => Nat.lt_of_le_of_lt (h.num q hq) (by decide)⟩
theorem told_text {N : List Str} (hN : ∀ x ∈ N, DL.nm x = true) {a : Str} {p : Pol} (h : RowF N (a, p)) : ∃ ws, ToldP (polyS (nets (termsOf p))) ws p := by
  have hg : ∀ t ∈ nets (termsOf p), TermG t := nets_ok (termsOf_ok hN (Nat.le_refl _) h.pol.ok h.num)
  have hl : (nets (termsOf p)).length ≤ 300 := by
    have h3 := h.pol.len
    unfold nets
    split
    · show 1 ≤ 300; decide
    · unfold termsOf; rw [List.length_map]; exact h3
  refine ⟨_, told_pol (ts := nets (termsOf p)) (nets_ne _) hg hl h.pol ?_⟩
  have e := sum_nets (termsOf p)
  rw [sum_termsOf h.pol.ok] at e
  exact e
theorem polyS_ok {N : List Str} (hN : ∀ x ∈ N, DL.nm x = true) {a : Str} {p : Pol} (h : RowF N (a, p)) : PyData.strOk (polyS (nets (termsOf p))) = true := strok_low fun c hc => by
  have hg : ∀ t ∈ nets (termsOf p), TermG t := nets_ok (termsOf_ok hN (Nat.le_refl _) h.pol.ok h.num)
  unfold polyS at hc
  rcases join_mem (" + " : Str) hc with hc | ⟨x, hx, hc⟩
  · have : (" + " : Str).cps.toList = [32, 43, 32] := by decide
    rw [this] at hc
    simp at hc
    omega
  · obtain ⟨t, ht, rfl⟩ := List.mem_map.mp hx
    exact okSign_low (termS_sign (hg t ht) hc)
theorem bb_s : Str.join " + " (([((0 : Int), (["b", "b"] : List Str)), ((0 : Int), ([] : List Str))] : List Term).map termS) = ("0*b*b + 0" : Str) := by decide +kernel
theorem told_bb : ∃ ws, ToldP ("0*b*b + 0" : Str) ws [] := by
  rw [← bb_s]
  refine ⟨_, told_pol (N := N8) (d := 12) (by simp) (fun t ht => ?_) (by show 2 ≤ 300; decide) ⟨List.Pairwise.nil, (fun _ z => nomatch z), (fun _ z => nomatch z), (fun _ z => nomatch z), Nat.zero_le _⟩ ?_⟩
  · rcases List.mem_cons.mp ht with rfl | ht
    · refine ⟨by show (0 : Int).natAbs < _; decide, fun x hx => ?_, by show 2 ≤ 12; decide⟩
      have : x = "b" := by
        rcases List.mem_cons.mp hx with e | e
        · exact e
        · exact List.mem_singleton.mp e
      rw [this]; decide +kernel
    · rw [List.mem_singleton.mp ht]; exact nought_g
  · have e1 : sumT [((0 : Int), (["b", "b"] : List Str)), ((0 : Int), ([] : List Str))] = ([] : Pol) ++ [(monoOf ["b", "b"], 0)] ++ [(monoOf [], 0)] := rfl
    rw [e1]
    exact eqz_zero5 (eqz_zero5 (Eqz.refl _) _) _
end DL
set_option Elab.async false
set_option linter.all false
set_option maxRecDepth 100000
set_option maxHeartbeats 1000000
set_option autoImplicit false
namespace DL
open PySem L2
open Emb
local macro_rules | `(tactic| walk_at "1") => `(tactic| with_reducible first
  | refine s_seq ?_ | refine s_asg ?_ | refine s_ret ?_ | refine s_if ?_ | refine s_expr ?_ | refine s_next ?_ | refine s_brk ?_ | refine s_cont ?_ | refine s_for ?_ | refine s_while ?_
  | refine p_c ?_ | refine p_bin ?_ | refine p_as ?_ | refine p_cons ?_ | refine p_nil ?_ | refine p_un ?_ | refine p_call ?_ | refine p_if ?_ | refine p_own ?_
  | refine p_keep ?_ | refine p_tru ?_ | refine p_and ?_ | refine p_or ?_ | refine p_not ?_ | refine p_val ?_ | refine p_rand ?_ | refine p_ror ?_ | refine p_rnot ?_ | refine p_chain ?_ | refine p_bif ?_
  | refine o_add ?_ | refine o_sub ?_ | refine o_ltU ?_ | refine o_leU ?_ | refine o_gtU ?_ | refine o_geU ?_ | refine o_neg ?_ | refine o_eqI ?_ | refine o_neI ?_ | refine o_abs ?_ | refine o_tru ?_ | refine p_true ?_ | refine p_false ?_
  | refine o_lenT ?_ | refine o_lenL ?_ | refine o_ix0 ?_ | refine o_ix1 ?_ | refine o_ix2 ?_ | refine o_ix0L ?_ | refine o_ix1L ?_ | refine o_ix2L ?_
  | refine s_par ?_ | refine p_yes ?_ | refine p_seq ?_ | refine s_gnil ?_ | refine s_gcons ?_ | refine s_gtux ?_ | refine s_gtupl ?_ | refine p_onone ?_ | refine p_osome ?_ | refine p_get2 ?_ | refine s_putU ?_ | refine p_sortIt ?_)
local macro_rules | `(tactic| walk_at "2") => `(tactic| first
  | walk_at "1"
  | (with_reducible refine p_var2 ?_)
  | ((with_reducible refine s_name ?_ ?_); (· exact Nat.le_of_ble_eq_true rfl); dsimp only [List.set_cons_zero, List.set_cons_succ])
  | (with_reducible refine p_tup ?_) | (with_reducible refine p_lst ?_) | ((with_reducible refine ⟨?_, ?_⟩); (· exact Nat.le_of_ble_eq_true rfl))
  | ((with_reducible refine p_ex2 (x := ?_) (y := ?_) ?_ ?_); rotate_left; rotate_left; (· rfl); refine ⟨?_, ?_, ?_⟩; (· exact Nat.le_of_ble_eq_true rfl); (· exact Nat.le_of_ble_eq_true rfl); dsimp only [List.set_cons_zero, List.set_cons_succ])
  | ((with_reducible refine p_isT ?_ ?_); (· rfl)) | ((with_reducible refine p_isF ?_ ?_); (· rfl))
  | ((with_reducible refine p_ex (x := ?_) ?_ ?_); rotate_left; (· rfl)))
local macro_rules | `(tactic| walk_at "3") => `(tactic| repeat walk_at "2")
open PyProof
theorem law_spec (ns : List Int) (hn : ns.length ≤ 63) : ∃ S, m_law [.lst (ns.map .int)] [] = .ok (.bl true) S := by
  have sl : 400000 ≤ sizeLine := by decide
  refine ⟨[], same_of (m_def ?_)⟩
  show (b_law [some (.lst (ns.map .int)), none, none, none, none, none, none, none, none, none, none, none] []).post _ _ _ _
  unfold b_law
  refine s_seq ?_
  refine s_for ?_
  refine p_enum ?_
  walk_at "3"
  refine p_cutL ?_
  walk_at "3"
  rw [cutD_map5]
  have cl12 := cutD_le5 ns none (some 12)
  generalize cutD ns none (some 12) = ms at cl12 ⊢
  walk_at "3"
  refine o_sumI ?_
  walk_at "3"
  refine p_lift (a := .lst ((ms ++ [ns.sum]).map .int)) ?_ ?_
  · show (if (ms.map D.int).length + 1 ≤ sizeLine then some (D.lst (ms.map D.int ++ [D.int ns.sum])) else none) = _
    rw [if_pos (by rw [List.length_map]; omega), List.map_append]
    rfl
  refine ⟨_, rfl, ?_⟩
  walk_at "3"
  have hmem : ∀ x ∈ enumD 0 ((ms ++ [ns.sum]).map D.int), ∃ (k : Nat) (i : Int), x = .tux [.int k, .int i] ∧ k ≤ 1000 := fun x hx => by
    obtain ⟨k, d, e1, e2, e3⟩ := enum_mem hx
    obtain ⟨i, _, rfl⟩ := List.mem_map.mp e3
    rw [List.length_map, List.length_append, List.length_singleton] at e2
    exact ⟨k, i, e1, by omega⟩
  refine s_forL (fun xs δ S => (∀ x ∈ xs, ∃ (k : Nat) (i : Int), x = .tux [.int k, .int i] ∧ k ≤ 1000) ∧ Sane S ∧ ∃ o1 o2 o3 o4 o5 o6 o7 o8 o9 o10 o11, δ = [some (.lst (ns.map .int)), o1, o2, o3, o4, o5, o6, o7, o8, o9, o10, o11]) ?_ ?_ _ _ _ ⟨hmem, rfl, _, _, _, _, _, _, _, _, _, _, _, rfl⟩
  · rintro x xs δ S ⟨hx, hS, o1, o2, o3, o4, o5, o6, o7, o8, o9, o10, o11, rfl⟩
    obtain ⟨k, i, rfl, hk⟩ := hx x List.mem_cons_self
    obtain ⟨l, s, ed, hg⟩ := ddraw_spec i k hk S hS
    have g0 : Gs S.length k (S ++ [sdD l s k]) := ⟨sane_app hS (sdD_closed _ _ _ _), l, s, k, get_app, hg⟩
    walk_at "3"
    refine Res.post.of_eq ed ?_
    walk_at "3"
    refine p_cutL ?_
    walk_at "3"
    refine digit_go g0 (by omega) (by decide) (by decide) fun v S1 v0 v1 d1 => ?_
    have g1 := g0.gr d1
    walk_at "3"
    rw [show cutD [D.str (Str.ofString "owl"), D.str (Str.ofString "b"), D.str (Str.ofString "zebra"), D.str (Str.ofString "ant"), D.str (Str.ofString "yak"), D.str (Str.ofString "c"), D.str (Str.ofString "hedgehog"), D.str (Str.ofString "x")] (some v) none = (N8.drop v.toNat).map D.str from n8_cut v0 v1]
    have hNl : 4 ≤ (N8.drop v.toNat).length ∧ (N8.drop v.toNat).length ≤ 8 := by rw [List.length_drop, show N8.length = 8 from rfl]; omega
    have hN : ∀ y ∈ N8.drop v.toNat, DL.nm y = true := fun y hy => n8_nm y (List.mem_of_mem_drop hy)
    generalize N8.drop v.toNat = N at hNl hN ⊢
    obtain ⟨a, ha⟩ : ∃ a, a ∈ N := ⟨N[0]'(by omega), List.getElem_mem _⟩
    refine digit_go g1 (by omega) (by decide) (by decide) fun w S2 w0 w1 d2 => ?_
    have g2 := g1.gr d2
    obtain ⟨most, hm12, em⟩ := most_at w0 w1
    refine o_ixL em ?_
    walk_at "3"
    refine (dpoly_spec g2 (by omega) ⟨by omega, by omega⟩ 6 most (by decide) hm12).mono ?_
    rintro _ S3 ⟨⟨p, rfl, hp⟩, d3⟩
    have g3 := g2.gr d3
    have hp12 : PolD N 12 p := ⟨hp.inc, hp.nz, hp.ok.le hm12, hp.num, hp.len⟩
    have hrow := rowF_of (N := N) ha (Nat.le_refl 12) hp12
    obtain ⟨ws1, told1⟩ := told_text hN hrow
    have hsh := shw_npol hN hrow.pol.ok hrow.pol.num hrow.pol.len
    have htok := polyS_ok hN hrow
    walk_at "3"
    refine Res.post.of_eq (law_text_spec05 hN hrow S3 g3.sn) ?_
    walk_at "3"
    refine (otherwise_spec05 g3 (by omega) hN hp12).mono ?_
    rintro _ S4 ⟨⟨ts, tne, tg, tl, te, rfl⟩, d4⟩
    have g4 := g3.gr d4
    have told2 := told_pol tne tg (by omega) hrow.pol te
    walk_at "3"
    refine Res.post.of_eq (poly_text_spec hN hrow S4 g4.sn) ?_
    refine o_neS htok htok ?_
    rw [beq_self_eq_true]
    walk_at "3"
    refine .inr (.inl ⟨([polyS (nets (termsOf p)), Str.join " + " (ts.map termS), polyS (nets (termsOf p))] : List Str).map D.str, rfl, ?_⟩)
    refine s_forT D.str (fun ys δ S5 => (∀ y ∈ ys, ∃ ws, ToldP y ws p) ∧ (∃ n, n + ys.length = 3 ∧ Gs S.length (k + 1 + 1 + 200 + 300 + n) S5) ∧ ∃ o8 o9 o10 o11, δ = [some (.lst (ns.map .int)), some (.int k), some (.int i), some (.ptr S.length), some (.lst (N.map .str)), some (toD p), some (.str (polyS (nets (termsOf p)))), some (.str (Str.join " + " (ts.map termS))), o8, o9, o10, o11]) ?_ ?_ _ _ _ ⟨?_, ⟨0, rfl, g4⟩, o8, o9, o10, o11, rfl⟩
    · rintro y ys δ S5 ⟨hy, ⟨n, hnn, g5⟩, o8, o9, o10, o11, rfl⟩
      rw [List.length_cons] at hnn
      obtain ⟨ws, told⟩ := hy y List.mem_cons_self
      have wl := told.wl
      walk_at "3"
      refine p_cutL ?_
      walk_at "3"
      refine digit_go g5 (by omega) (by decide) (by decide) fun v S6 v0 v1 d6 => ?_
      have g6 := g5.gr d6
      have h6s := g6.sn
      walk_at "3"
      rw [show cutD [D.str (Str.ofString "x"), D.str (Str.ofString "=")] none (some v) = (([("x" : Str), "="] : List Str).take v.toNat).map D.str from ahead5 v0 v1]
      have al : (([("x" : Str), "="] : List Str).take v.toNat).length ≤ 2 := by rw [List.length_take]; show min _ 2 ≤ 2; omega
      have aok : ∀ z ∈ ([("x" : Str), "="] : List Str).take v.toNat, PyData.strOk z = true := fun z hz => by
        have : ([("x" : Str), "="] : List Str).all (fun x => PyData.strOk x) = true := by decide +kernel
        exact List.all_eq_true.mp this z (List.mem_of_mem_take hz)
      generalize ([("x" : Str), "="] : List Str).take v.toNat = ah at al aok ⊢
      with_reducible refine p_splitQ ?_
      walk_at "3"
      refine ⟨_, _, rfl, rfl, ⟨by kernel_rfl, told.len⟩, ?_⟩
      rw [blank_eq, told.split]
      walk_at "3"
      refine o_catS (a := ah) (by omega) ?_
      walk_at "3"
      refine Res.post.of_eq (read_poly_spec told S6 h6s) ?_
      walk_at "3"
      rw [List.length_map]
      refine Res.post.of_eq (told.inn ah (by omega) 7 S6 h6s) ?_
      walk_at "3"
      refine .inr (.inl ⟨[p, p].map toD, rfl, ?_⟩)
      refine s_forT toD (fun zs δ S7 => (∀ z ∈ zs, z = p) ∧ S7 = S6 ∧ ∃ o11, δ = [some (.lst (ns.map .int)), some (.int k), some (.int i), some (.ptr S.length), some (.lst (N.map .str)), some (toD p), some (.str (polyS (nets (termsOf p)))), some (.str (Str.join " + " (ts.map termS))), some (.str y), some (.lst (ah.map .str)), some (.lst ((ah ++ ws).map .str)), o11]) ?_ ?_ _ _ _ ⟨?_, rfl, o11, rfl⟩
      · rintro z zs δ S7 ⟨hz, rfl, o11, rfl⟩
        have ez := hz z List.mem_cons_self
        subst ez
        walk_at "3"
        refine p_lift (a := D.bl true) rfl ?_
        walk_at "3"
        refine o_shw hsh ?_
        walk_at "3"
        refine o_shw hsh ?_
        refine o_neSame hsh ?_
        walk_at "3"
        exact ⟨fun q hq => hz q (List.mem_cons_of_mem _ hq), rfl, _, rfl⟩
      · rintro δ S7 ⟨hz, rfl, o11, rfl⟩
        walk_at "3"
        with_reducible refine p_splitQ ?_
        walk_at "3"
        refine ⟨_, _, rfl, rfl, ⟨by kernel_rfl, told.len⟩, ?_⟩
        rw [told.split]
        walk_at "3"
        refine o_catS (a := ah) (by omega) ?_
        walk_at "3"
        have oks : ∀ w ∈ ah ++ ws, PyData.strOk w = true := fun w hw => by
          rcases List.mem_append.mp hw with e | e
          · exact aok w e
          · exact told.ok w e
        refine o_neStrs oks oks ?_
        rw [decide_eq_true rfl]
        walk_at "3"
        exact ⟨fun q hq => hy q (List.mem_cons_of_mem _ hq), ⟨n + 1, by omega, g6.le (by omega)⟩, _, _, _, _, rfl⟩
      · intro z hz
        rcases List.mem_cons.mp hz with e | hz
        · exact e
        · exact List.mem_singleton.mp hz
    · rintro δ S5 ⟨hy, ⟨n, hnn, g5⟩, o8, o9, o10, o11, rfl⟩
      exact ⟨fun z hz => hx z (List.mem_cons_of_mem _ hz), g5.sn, _, _, _, _, _, _, _, _, _, _, _, rfl⟩
    · intro y hy
      rcases List.mem_cons.mp hy with rfl | hy
      · exact ⟨_, told1⟩
      rcases List.mem_cons.mp hy with rfl | hy
      · exact ⟨_, told2⟩
      · rw [List.mem_singleton.mp hy]
        exact ⟨_, told1⟩
  · rintro δ S ⟨_, hS, o1, o2, o3, o4, o5, o6, o7, o8, o9, o10, o11, rfl⟩
    have eb := by_hand_spec (4 + (ns.length : Int)) (by omega) S hS
    have hN1 : ∀ x ∈ N8, DL.nm x = true := n8_nm
    have hrow : RowF N8 ("x", []) := ⟨by decide, ⟨List.Pairwise.nil, (fun _ z => nomatch z), (fun _ z => nomatch z), (fun _ z => nomatch z), Nat.zero_le _⟩, (fun _ z => nomatch z)⟩
    have e1 := poly_text_spec hN1 hrow S hS
    have e0 : polyS (nets (termsOf ([] : Pol))) = ("0" : Str) := by rw [polyS_of, if_pos rfl]
    obtain ⟨ws, told⟩ := told_bb
    have e2 := read_poly_spec told S hS
    walk_at "3"
    rw [List.length_map]
    refine Res.post.of_eq eb ?_
    walk_at "3"
    refine Res.post.of_eq (show m_poly_text [.tup []] S = _ from e1) ?_
    rw [e0]
    walk_at "3"
    refine o_eqS zero_ok5 zero_ok5 ?_
    rw [beq_self_eq_true]
    walk_at "3"
    refine Res.post.of_eq e2 ?_
    walk_at "3"
    refine o_eqFit (κ := Pol) (a := []) (b := []) rfl rfl (by decide) ?_
    exact ⟨rfl, rfl, rfl⟩
end DL
open PySem PySem.W PyProof.Rows
theorem PySem.Challenge.cw_roundless_k05_polys_as_texts_holds : PySem.Challenge.rw_roundless_k05_polys_as_texts.Holds := by
  exact DL.holds_of fun ns h => DL.law_spec ns h
