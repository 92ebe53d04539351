import PyProof.Rows.All
import Wide.All
import OpenK.AllK
import Wide.FinOn
import HandS.ForMost
import HandS.ForExc
import HandS.Flow
import HandS.IsInst
import HandS.Wide
import KE.KeyNested
import HandS.TupAny
import HandS.Style
import HandS.NoneIn
import HandS.StrMore
import HandS.RaiseMore
import PyProof.ListStr
import HandS.More
import HandS.Conv
import HandS.HeadHook2
import HandS.HeadEnd
import HandS.Head0
import HandS.Head1
import HandS.Head2
import HandS.Ends
import KE.IntTextLaws
import PyProof.DictRoadsH
import KE.KDictPairs
import KE.KDictWalk
import KE.DataCmp
import KE.SortData
import HandS.DictTup
import HandS.SetTxt0
import HandS.SetFor
import HandS.TupSets
import KE.KRevSl
import HandS.Zip
import PyProof.Rows.Digits
import PyProof.ReprReads
import PyProof.StrLawsRepr
import PyProof.ReprText
import KE.KEqDict
import HandS.Finally
import HandS.SortInts
import KE.GoesEnum
import PyProof.Rows.SeqMore
import KE.GoesMore
import KE.GoesZip
import HandS.TupLen
import KE.KDictDisplayH
import HandS.TupMul
import HandS.ExcInit
import HandS.ExcOwn
import HandS.ExcIs
import HandS.ExcField
import HandS.ClsMeth
import HandS.WordsExc
import KE.KExcIs
import PySem.Challenge.RW_roundless_k32_one_form
import KE.KStateDown
import HandS.HeadHook1
set_option Elab.async false
set_option linter.all false
set_option maxRecDepth 100000
set_option maxHeartbeats 4000000
/-! Data layer, first part: data, results, mirrors of expressions and statements (plain Lean). -/
namespace DL
open PySem PySem.Spec PyProof.Rows L2
/-- a thing as data: what is never changed stands as a whole, what may be changed stands by its number in the store -/
inductive D where
  | non | bl (b : Bool) | int (i : Int) | str (x : Str)
  | tup (xs : List D) | lst (xs : List D) | dct (kvs : List (D × D)) | dcn (kvs : List (D × D))
  | ptr (k : Nat) | fn (x : Str) | ty (n : String) | lck (d : D) | tux (xs : List D) | exc (c : Str) (fs : List (D × D))
  deriving Inhabited
abbrev Sl := List (Option D)
abbrev Sto := List D
inductive Res (A : Type) where
  | ok (a : A) (S : Sto)
  | err (c : Str) (fs : List (Str × D)) (S : Sto)
  | stuck
abbrev RE := Sl → Sto → Res D
abbrev RB := Sl → Sto → Res Bool
abbrev RA := Sl → Sto → Res (List D)
abbrev RG := D → Sl → Sto → Res Sl
abbrev Mir := List D → Sto → Res D
inductive Out where
  | nx (δ : Sl) (S : Sto) | rt (d : D) (S : Sto) | bk (δ : Sl) (S : Sto) | ct (δ : Sl) (S : Sto)
  | err (c : Str) (fs : List (Str × D)) (δ : Sl) (S : Sto) | stuck
abbrev RS := Sl → Sto → Out
def Res.bind {A B : Type} (r : Res A) (f : A → Sto → Res B) : Res B := match r with
  | .ok a S => f a S
  | .err c fs S => .err c fs S
  | .stuck => .stuck
def Res.out (δ : Sl) {A : Type} (r : Res A) (f : A → Sto → Out) : Out := match r with
  | .ok a S => f a S
  | .err c fs S => .err c fs δ S
  | .stuck => .stuck
def Res.lift {A : Type} (o : Option A) (S : Sto) : Res A := match o with
  | some a => .ok a S
  | none => .stuck
def deref (S : Sto) : D → D
  | .ptr k => match S.getD k .non with
    | .non => .ptr k
    | .lck d => d
    | d => d
  | d => d
/-! expressions -/
def rVar (i : Nat) : RE := fun δ S => match δ[i]? with
  | some (some d) => .ok d S
  | _ => .stuck
def rC (d : D) : RE := fun _ S => .ok d S
def rUn (g : Sto → D → Option D) (a : RE) : RE := fun δ S => (a δ S).bind fun x S1 => .lift (g S1 x) S1
def rBin (g : Sto → D → D → Option D) (a b : RE) : RE := fun δ S => (a δ S).bind fun x S1 => (b δ S1).bind fun y S2 => .lift (g S2 x y) S2
def rAs (g : Sto → List D → Option D) (a : RA) : RE := fun δ S => (a δ S).bind fun x S1 => .lift (g S1 x) S1
def rNil : RA := fun _ S => .ok [] S
def rCons (a : RE) (b : RA) : RA := fun δ S => (a δ S).bind fun x S1 => (b δ S1).bind fun ys S2 => .ok (x :: ys) S2
def rCall (m : Mir) (a : RA) : RE := fun δ S => (a δ S).bind m
def rIf (c : RB) (a b : RE) : RE := fun δ S => (c δ S).bind fun k S1 => if k then a δ S1 else b δ S1
def rOwn (a : RE) : RE := fun δ S => (a δ S).bind fun d S1 => .ok (.ptr S1.length) (S1 ++ [d])
def rTup (a : RA) : RE := fun δ S => (a δ S).bind fun xs S1 => if xs.length ≤ sizeLine then .ok (.tup xs) S1 else .stuck
def rLst (a : RA) : RE := fun δ S => (a δ S).bind fun xs S1 => if xs.length ≤ sizeLine then .ok (.lst xs) S1 else .stuck
def truth (S : Sto) (d : D) : Option Bool := match deref S d with
  | .non => some false
  | .bl b => some b
  | .int i => some (i != 0)
  | .str y => if y.length ≤ sizeLine then some ((y.length : Int) != 0) else none
  | .tup xs => some (!xs.isEmpty)
  | .lst xs => some (!xs.isEmpty)
  | _ => none
/-! tests -/
def bTru (a : RE) : RB := fun δ S => (a δ S).bind fun x S1 => .lift (truth S1 x) S1
def bAnd (a b : RB) : RB := fun δ S => (a δ S).bind fun k S1 => if k then b δ S1 else .ok false S1
def bOr (a b : RB) : RB := fun δ S => (a δ S).bind fun k S1 => if k then .ok true S1 else b δ S1
def bNot (a : RB) : RB := fun δ S => (a δ S).bind fun k S1 => .ok (!k) S1
/-! and, or, not as values -/
def rAnd (a b : RE) : RE := fun δ S => (a δ S).bind fun x S1 => (Res.lift (truth S1 x) S1).bind fun k S2 => if k then b δ S2 else .ok x S2
def rOr (a b : RE) : RE := fun δ S => (a δ S).bind fun x S1 => (Res.lift (truth S1 x) S1).bind fun k S2 => if k then .ok x S2 else b δ S2
def rNot (a : RE) : RE := fun δ S => (a δ S).bind fun x S1 => (Res.lift (truth S1 x) S1).bind fun k S2 => .ok (.bl (!k)) S2
/-! targets -/
def gName (i : Nat) : RG := fun d δ S => if i < δ.length then .ok (δ.set i (some d)) S else .stuck
def gNil : List D → Sl → Sto → Res Sl := fun ds δ S => match ds with
  | [] => .ok δ S
  | _ => .stuck
def gCons (g : RG) (u : List D → Sl → Sto → Res Sl) : List D → Sl → Sto → Res Sl := fun ds δ S => match ds with
  | d :: r => (g d δ S).bind fun δ1 S1 => u r δ1 S1
  | [] => .stuck
def gTup (u : List D → Sl → Sto → Res Sl) : RG := fun d δ S => match deref S d with
  | .tup ds => u ds δ S
  | .tux ds => u ds δ S
  | _ => .stuck
/-! statements -/
def sNext : RS := fun δ S => .nx δ S
def sSeq (a b : RS) : RS := fun δ S => match a δ S with
  | .nx δ1 S1 => b δ1 S1
  | o => o
def sAsg (e : RE) (g : RG) : RS := fun δ S => (e δ S).out δ fun d S1 => (g d δ S1).out δ fun δ1 S2 => .nx δ1 S2
def sExpr (e : RE) : RS := fun δ S => (e δ S).out δ fun _ S1 => .nx δ S1
def sRet (e : RE) : RS := fun δ S => (e δ S).out δ fun d S1 => .rt d S1
def sIf (c : RB) (a b : RS) : RS := fun δ S => (c δ S).out δ fun k S1 => if k then a δ S1 else b δ S1
def sBreak : RS := fun δ S => .bk δ S
def sCont : RS := fun δ S => .ct δ S
def forL (g : RG) (b : RS) : List D → RS
  | [], δ, S => .nx δ S
  | x :: xs, δ, S => (g x δ S).out δ fun δ1 S1 => match b δ1 S1 with
    | .nx δ2 S2 => forL g b xs δ2 S2
    | .ct δ2 S2 => forL g b xs δ2 S2
    | .bk δ2 S2 => .nx δ2 S2
    | o => o
def sFor (it : RA) (g : RG) (b : RS) : RS := fun δ S => (it δ S).out δ fun xs S1 => forL g b xs δ S1
def whileL (c : RB) (b : RS) : Nat → RS
  | 0, _, _ => .stuck
  | n + 1, δ, S => (c δ S).out δ fun k S1 => if k then (match b δ S1 with
    | .nx δ2 S2 => whileL c b n δ2 S2
    | .ct δ2 S2 => whileL c b n δ2 S2
    | .bk δ2 S2 => .nx δ2 S2
    | o => o) else .nx δ S1
def sWhile (fuel : Sl → Sto → Nat) (c : RB) (b : RS) : RS := fun δ S => whileL c b (fuel δ S) δ S
/-- the turns of a list comprehension; δ: the slots without its own names -/
def lcL (g : RG) (t : RB) (e : RE) : List D → Sl → Sto → Res (List D)
  | [], _, S => .ok [] S
  | x :: xs, δ, S => (g x δ S).bind fun δ1 S1 => (t δ1 S1).bind fun k S2 =>
    if k then (e δ1 S2).bind fun y S3 => (lcL g t e xs δ S3).bind fun ys S4 => .ok (y :: ys) S4 else lcL g t e xs δ S2
def wipeD (δ : Sl) : List Nat → Sl
  | [] => δ
  | v :: vs => (wipeD δ vs).set v none
def noErr {A : Type} (r : Res A) : Res A := match r with
  | .err _ _ _ => .stuck
  | r => r
def bYes : RB := fun _ S => .ok true S
def rLc (it : RA) (g : RG) (vs : List Nat) (t : RB) (e : RE) : RE := fun δ S => (it δ S).bind fun xs S1 =>
  (noErr (lcL g t e xs (wipeD δ vs) S1)).bind fun ys S2 => if ys.length ≤ sizeLine then .ok (.lst ys) S2 else .stuck
/-! keys of any depth -/
mutual
def keyN : D → Option NestedKey
  | .non => some .none
  | .bl b => some (.num (if b = true then 1 else 0))
  | .int i => some (.num i)
  | .str x => some (.text x)
  | .tup xs => (keyNs xs).map .tup
  | _ => none
def keyNs : List D → Option (List NestedKey)
  | [] => some []
  | d :: r => match keyN d, keyNs r with
    | some k, some ks => some (k :: ks)
    | _, _ => none
end
/-- a tuple that may be a key -/
def isKeyN (d : D) : Bool := match d with
  | .tup _ => (match keyN d with
    | some k => decide (k.depth ≤ 8)
    | none => false)
  | _ => false
def eqN (a b : D) : Bool := match keyN a, keyN b with
  | some x, some y => NestedKey.beq x y
  | _, _ => false
def lookN : List (D × D) → D → Option D
  | [], _ => none
  | (k, v) :: r, q => if eqN k q then some v else lookN r q
def replN : List (D × D) → D → D → List (D × D)
  | [], _, _ => []
  | (k, v) :: r, q, y => if eqN k q then (k, y) :: replN r q y else (k, v) :: replN r q y
def putN (kvs : List (D × D)) (q y : D) : List (D × D) := if (lookN kvs q).isSome then replN kvs q y else kvs ++ [(q, y)]
def mergeN (kvs more : List (D × D)) : List (D × D) := more.foldl (fun acc kv => putN acc kv.1 kv.2) kvs
/-! ghost steps -/
/-- the object of slot i is changed no more -/
def sFreeze (i : Nat) : RS := fun δ S => match δ[i]? with
  | some (some (.ptr k)) => (match S[k]? with
    | some (.lst ds) => .nx (δ.set i (some (.lst ds))) (S.set k .non)
    | _ => .stuck)
  | _ => .stuck
mutual
/-- nothing in it stands in the store from n on -/
def D.closed (n : Nat) : D → Bool
  | .ptr k => decide (k < n)
  | .tup xs => closedL n xs
  | .lst xs => closedL n xs
  | .dct kvs => closedK n kvs
  | .dcn kvs => closedK n kvs
  | .lck d => D.closed n d
  | .tux xs => closedL n xs
  | .exc _ fs => closedK n fs
  | _ => true
def closedL (n : Nat) : List D → Bool
  | [] => true
  | d :: r => D.closed n d && closedL n r
def closedK (n : Nat) : List (D × D) → Bool
  | [] => true
  | (k, v) :: r => D.closed n k && D.closed n v && closedK n r
end
/-- a thing of the store that is neither gone nor locked -/
def D.open : D → Bool
  | .non => false
  | .lck _ => false
  | _ => true
def D.owned : D → Bool
  | .lst _ => true
  | .dct _ => true
  | .dcn _ => true
  | _ => false
/-- a thing that a def made and gives away, to be changed further -/
def giveD (n : Nat) (d : D) (S1 : Sto) : Res D := match d with
  | .ptr k => (match S1[k]? with
    | some u => if u.owned && D.closed n u && decide (n ≤ k) && closedL n (S1.take n) then .ok (.ptr n) (S1.take n ++ [u]) else .stuck
    | none => .stuck)
  | _ => .stuck
/-- a def: n slots, its body; what it made itself in the store goes -/
def mDef (n : Nat) (b : RS) : Mir := fun ds S => match b (ds.map some ++ List.replicate (n - ds.length) none) S with
  | .rt d S1 => if D.closed S.length d && closedL S.length (S1.take S.length) then .ok d (S1.take S.length) else giveD S.length d S1
  | .nx _ S1 => if closedL S.length (S1.take S.length) then .ok .non (S1.take S.length) else .stuck
  | .err c fs _ S1 => if closedL S.length (fs.map (·.2)) && closedL S.length (S1.take S.length) then .err c fs (S1.take S.length) else .stuck
  | _ => .stuck
end DL
set_option Elab.async false
set_option linter.all false
set_option maxRecDepth 100000
set_option maxHeartbeats 4000000
set_option autoImplicit false
/-! Data layer: tuples that are made, known to the object. -/
namespace DL
open PySem PySem.Spec PyProof.Rows L2
abbrev Fg := PySem.W.Frag
/-- a tuple without a dict of its own -/
def PlT (K : Fg) (F : Hp) (a : Addr) (xs : List V) : Prop := SqT K F a xs ∧ ((∃ o, F a = some (.frz o (.tup xs)) ∧ o.dict = none) ∨ ∃ o, K.lookup a = some o ∧ o.dict = none)
/-- a tuple that is made at a new place -/
def TLays (H : Hp) (xs : List V) (Q : VK) : Prop := ∀ p, H p = none → ∀ o : Obj, o.dict = none → Q (.ref p) (upd H p (.frz o (.tup xs)))
def tupObj (us : Array Value) : Obj := { cls := .type "tuple", data := .seq us }
theorem tup_frz {P : Program} {w : World} {H : Hp} {h : Heap} {us : List Value} {xs : List V} (z : xs.length ≤ sizeLine) (r : Vals xs us) : ObjOk P w H (h.push (tupObj us.toArray)) h.objs.size (.frz (tupObj us.toArray) (.tup xs)) :=
  ⟨Heap.get?_push_size _ rfl, z, us, r, ⟨_, Heap.get?_push_size _ rfl, rfl, _, rfl⟩⟩
section
variable {X : Cx} {es : List Expr} {pos : Pos} {t : TA}
def tTupP (t : TA) : TE := fun σ H Q => t σ H fun xs H1 => xs.length ≤ sizeLine ∧ TLays H1 xs Q
theorem pe_tupP {x1} (h : PA X es t) : PE X (.Tuple es x1 pos) (tTupP t) := by
  refine ⟨fun pins s σ H Q I hq => ?_⟩
  refine wpAny_Tuple_spliced (thn (h.run pos pins s σ H _ I hq) fun us s1 ⟨xs, H1, I1, r, z, q⟩ => ⟨by rw [← r.length]; exact z, ?_⟩)
  have hf : H1 s1.heap.objs.size = none := I1.hok.fresh (Nat.le_refl _)
  exact ⟨.ref s1.heap.objs.size, upd H1 s1.heap.objs.size (.frz (tupObj us.toArray) (.tup xs)), I1.laid (t' := s1.toks) (fun b u e => Heap.get?_push_of_some _ e) (Nat.le_refl _) (tup_frz z r), rfl, q _ hf _ rfl⟩
theorem call_tuple_ofP : CallR X (.type "tuple") (fun xs H Q => ∃ p ys, xs = [.ref p] ∧ ((SqL X.K H p ys ∧ TLays H ys Q) ∨ (SqT X.K H p ys ∧ Q (.ref p) H))) := by
  intro pins s σ H xs us Q I r h
  obtain ⟨p, ys, rfl, h⟩ := h
  obtain ⟨u, rfl, rx⟩ := vals1 r
  cases rx
  rcases h with ⟨hq, q⟩ | ⟨hq, q⟩
  · obtain ⟨its, r', pl, hz⟩ := I.list hq
    have hlen := r'.length
    refine call_tuple_list pl.isList (fun h' kp => ?_) (by simp only [List.size_toArray] <;> omega)
    have I1 : Inv X pins σ H { s with heap := h' } := I.kept (t' := s.toks) kp
    have I2 : Inv X pins σ (upd H h'.objs.size (.frz (tupObj its.toArray) (.tup ys))) { s with heap := h'.push { cls := .type "tuple", data := .seq its.toArray } } :=
      I1.laid (t' := s.toks) (fun b o e => Heap.get?_push_of_some _ e) (Nat.le_refl _) (tup_frz hz r')
    exact ⟨.ref h'.objs.size, _, I2, rfl, q _ (I1.hok.fresh (Nat.le_refl _)) _ rfl⟩
  · obtain ⟨its, r', pl, hz⟩ := I.tuple hq
    exact call_tuple_same pl ⟨.ref p, H, I, rfl, q⟩
/-- t + u -/
def rCatP (K : Fg) : R2 := fun x y H Q => ∃ a b xs ys, x = .ref a ∧ y = .ref b ∧ SqT K H a xs ∧ SqT K H b ys ∧ xs.length + ys.length ≤ sizeLine ∧
  (xs = [] → Q (.ref b) H) ∧ (xs ≠ [] → ys = [] → Q (.ref a) H) ∧ (xs ≠ [] → ys ≠ [] → TLays H (xs ++ ys) Q)
theorem op_catP : OpR X (binaryOp .Add) (rCatP X.K) := by
  intro pins s σ H x y v u Q I rx ry h
  obtain ⟨a, b, xs, ys, rfl, rfl, ha, hb, hz, q0, q1, q2⟩ := h
  cases rx
  cases ry
  obtain ⟨its, r1, p1, _⟩ := I.tuple ha
  obtain ⟨its2, r2, p2, _⟩ := I.tuple hb
  by_cases hx : xs = []
  · subst hx
    cases r1
    exact cat_tup0 p1 p2 ⟨.ref b, H, I, rfl, q0 rfl⟩
  · refine HT.cat_tup p1 p2 (fun z => hx (r1.nil_iff.mp z)) (fun z => ⟨.ref a, H, I, rfl, q1 hx (r2.nil_iff.mp z)⟩) (fun z => ?_) (by rw [← r1.length, ← r2.length]; exact hz)
    exact ⟨.ref s.heap.objs.size, _, I.laid (t' := s.toks) (o := .frz (tupObj (its ++ its2).toArray) (.tup (xs ++ ys))) (fun b ob q => Heap.get?_push_of_some _ q) (Nat.le_refl _) (tup_frz (by rw [List.length_append]; exact hz) (r1.append r2)), rfl, q2 hx (fun w => z (r2.nil_iff.mpr w)) _ (I.hok.fresh (Nat.le_refl _)) _ rfl⟩
/-- t[lo:hi]: the whole of it is t itself -/
def rSlP (K : Fg) : V → Option Int → Option Int → Hp → VK → Prop := fun x lo hi H Q => ∃ a xs, x = .ref a ∧ SqT K H a xs ∧
  (HT.sIx xs.length 0 lo = 0 ∧ HT.sIx xs.length xs.length hi = xs.length → Q (.ref a) H) ∧ (¬ (HT.sIx xs.length 0 lo = 0 ∧ HT.sIx xs.length xs.length hi = xs.length) → TLays H (cutV xs lo hi) Q)
theorem sl_tupP : SlR X (rSlP X.K) := by
  intro pins s σ H x v vl vu lo hi sl Q I rx hs pl pu h
  obtain ⟨a, xs, rfl, hx, q1, q2⟩ := h
  cases rx
  obtain ⟨its, r, ht, hz⟩ := I.tuple hx
  have hlen : its.toArray.size = xs.length := by rw [List.size_toArray]; exact r.length.symm
  refine ⟨"tuple", _, PyProof.Rows.slot_tuple_getitem.lookup, ht.typeIs, ?_⟩
  by_cases hw : HT.sIx xs.length 0 lo = 0 ∧ HT.sIx xs.length xs.length hi = xs.length
  · exact getItem_tuple_whole ht hs pl pu (by rw [hlen]; exact hw) ⟨.ref a, H, I, rfl, q1 hw⟩
  · refine HT.getItem_tuple_cut ht hs pl pu (by rw [hlen]; exact hw) ?_ (by rw [hlen]; exact hz)
    rw [hlen]
    exact ⟨.ref s.heap.objs.size, _, I.laid (t' := s.toks) (o := .frz (tupObj _) (.tup (cutV xs lo hi))) (fun b ob q => Heap.get?_push_of_some _ q) (Nat.le_refl _) (tup_frz (Nat.le_trans (cutV_length xs lo hi) hz) ((r.drop (HT.sIx xs.length 0 lo)).take (HT.sIx xs.length xs.length hi - HT.sIx xs.length 0 lo))), rfl, q2 hw _ (I.hok.fresh (Nat.le_refl _)) _ rfl⟩
end
end DL
set_option Elab.async false
set_option linter.all false
set_option maxRecDepth 100000
set_option maxHeartbeats 4000000
set_option autoImplicit false
/-! Data layer, second part: what data are in the heap; the judgements. -/
namespace DL
open PySem PySem.Spec PyProof.Rows L2
/-- an exception that was caught, at a: of the class cls, its dict -/
def exh (a : Addr) (cls : Value) (d : Option Addr) : HO := .ext fun h => ∃ (oe : Obj) (vs : Array Value), h.get? a = some oe ∧ Zc cls d oe ∧ oe.data = .fields vs
theorem exh_ok {P : Program} {w : World} {H : Hp} {h : Heap} {a : Addr} {cls : Value} {d : Option Addr} {oe : Obj} {vs : Array Value} (e : h.get? a = some oe) (z : Zc cls d oe) (q : oe.data = .fields vs) : ObjOk P w H h a (exh a cls d) :=
  ⟨⟨oe, vs, e, z, q⟩, ⟨oe, e⟩, fun _ _ ⟨o, v, q, r⟩ k => ⟨o, v, k o q, r⟩⟩
def ExFs (F : Hp) (d : Option Addr) (ws : List (Str × V)) : Prop := (d = none ∧ ws = []) ∨ ∃ dd, d = some dd ∧ F dd = some (.xd ws)
inductive DKs : List Key → List D → Prop
  | nil : DKs [] []
  | int {i : Int} {ks : List Key} {ds : List D} : DKs ks ds → DKs (.inl i :: ks) (.int i :: ds)
  | str {x : Str} {ks : List Key} {ds : List D} : DKs ks ds → DKs (.inr x :: ks) (.str x :: ds)
theorem DKs.length : ∀ {ks : List Key} {ds : List D}, DKs ks ds → ks.length = ds.length
  | _, _, .nil => rfl
  | _, _, .int t => by rw [List.length_cons, List.length_cons, DKs.length t]
  | _, _, .str t => by rw [List.length_cons, List.length_cons, DKs.length t]
mutual
inductive DV (wd : World) (K : Fg) (mg : Str → Option Value) (F : Hp) (α : List Addr) : V → D → Prop
  | non : DV wd K mg F α .non .non
  | bl (b : Bool) : DV wd K mg F α (.bl b) (.bl b)
  | int (i : Int) : DV wd K mg F α (.int i) (.int i)
  | str (x : Str) : DV wd K mg F α (.str x) (.str x)
  | tux {a : Addr} {xs : List V} {ds : List D} : SqT K F a xs → DVs wd K mg F α xs ds → DV wd K mg F α (.ref a) (.tux ds)
  | tup {a : Addr} {xs : List V} {ds : List D} : PlT K F a xs → DVs wd K mg F α xs ds → DV wd K mg F α (.ref a) (.tup ds)
  | lst {a : Addr} {xs : List V} {ds : List D} : SqL K F a xs → DVs wd K mg F α xs ds → DV wd K mg F α (.ref a) (.lst ds)
  | ptr {k : Nat} {a : Addr} : α[k]? = some a → DV wd K mg F α (.ref a) (.ptr k)
  | fn {x : Str} {a : Addr} : mg x = some (.ref a) → DV wd K mg F α (.ref a) (.fn x)
  | ty (n : String) : DV wd K mg F α (.ty n) (.ty n)
  | exc {c : Str} {C a : Addr} {d : Option Addr} {ws : List (Str × V)} {fs : List (D × D)} : mg c = some (.ref C) → F a = some (exh a (.ref C) d) → ExFs F d ws → fs.map (·.1) = ws.map (fun p => .str p.1) → DVs wd K mg F α (ws.map (·.2)) (fs.map (·.2)) → DV wd K mg F α (.ref a) (.exc c fs)
inductive DVs (wd : World) (K : Fg) (mg : Str → Option Value) (F : Hp) (α : List Addr) : List V → List D → Prop
  | nil : DVs wd K mg F α [] []
  | cons {v : V} {d : D} {vs : List V} {ds : List D} : DV wd K mg F α v d → DVs wd K mg F α vs ds → DVs wd K mg F α (v :: vs) (d :: ds)
end
/-- more stands for good -/
def Sub (F F' : Hp) : Prop := ∀ a o, F a = some o → F' a = some o
theorem Sub.refl (F : Hp) : Sub F F := fun _ _ h => h
theorem Sub.trans {F F1 F2 : Hp} (a : Sub F F1) (b : Sub F1 F2) : Sub F F2 := fun x o h => b x o (a x o h)
theorem Sub.sqL {K : Fg} {F F' : Hp} {a : Addr} {xs : List V} (s : Sub F F') (h : SqL K F a xs) : SqL K F' a xs := by
  rcases h with (h | ⟨o, h⟩) | h
  · exact .inl (.inl (s _ _ h))
  · exact .inl (.inr ⟨o, s _ _ h⟩)
  · exact .inr h
theorem Sub.sqT {K : Fg} {F F' : Hp} {a : Addr} {xs : List V} (s : Sub F F') (h : SqT K F a xs) : SqT K F' a xs := by
  rcases h with (h | ⟨o, h⟩) | h
  · exact .inl (.inl (s _ _ h))
  · exact .inl (.inr ⟨o, s _ _ h⟩)
  · exact .inr h
theorem Sub.plT {K : Fg} {F F' : Hp} {a : Addr} {xs : List V} (s : Sub F F') (h : PlT K F a xs) : PlT K F' a xs := ⟨s.sqT h.1, h.2.imp (fun ⟨o, e, q⟩ => ⟨o, s _ _ e, q⟩) id⟩
theorem Sub.new {F : Hp} {a : Addr} {o : HO} (h : F a = none) : Sub F (upd F a o) := fun b u e => by
  have : b ≠ a := fun z => by subst z; rw [h] at e; cases e
  rw [upd_ne this]; exact e
section
variable {wd : World} {K : Fg} {mg : Str → Option Value} {F F' : Hp} {α β : List Addr}
theorem at_app {A : Type} {l m : List A} {k : Nat} {a : A} (h : l[k]? = some a) : (l ++ m)[k]? = some a := by
  obtain ⟨hk, e⟩ := List.getElem?_eq_some_iff.mp h
  rw [List.getElem?_append_left hk]; exact h
mutual
theorem DV.mono {v : V} {d : D} (s : Sub F F') : DV wd K mg F α v d → DV wd K mg F' (α ++ β) v d
  | .non => .non
  | .bl b => .bl b
  | .int i => .int i
  | .str x => .str x
  | .tup h t => .tup (s.plT h) (DVs.mono s t)
  | .tux h t => .tux (s.sqT h) (DVs.mono s t)
  | .lst h t => .lst (s.sqL h) (DVs.mono s t)
  | .ptr h => .ptr (at_app h)
  | .fn h => .fn h
  | .ty n => .ty n
  | .exc h1 h2 h3 h4 h5 => .exc h1 (s _ _ h2) (h3.imp id fun ⟨dd, e, q⟩ => ⟨dd, e, s _ _ q⟩) h4 (DVs.mono s h5)
theorem DVs.mono {vs : List V} {ds : List D} (s : Sub F F') : DVs wd K mg F α vs ds → DVs wd K mg F' (α ++ β) vs ds
  | .nil => .nil
  | .cons h t => .cons (DV.mono s h) (DVs.mono s t)
end
theorem DVs.length : ∀ {vs : List V} {ds : List D}, DVs wd K mg F α vs ds → vs.length = ds.length
  | _, _, .nil => rfl
  | _, _, .cons _ t => by rw [List.length_cons, List.length_cons, DVs.length t]
theorem DVs.get : ∀ {vs : List V} {ds : List D} {i : Nat} {d : D}, DVs wd K mg F α vs ds → ds[i]? = some d → ∃ v, vs[i]? = some v ∧ DV wd K mg F α v d
  | _, _, _, _, .nil, e => by simp at e
  | _, _, 0, _, .cons h _, e => by simp at e; subst e; exact ⟨_, rfl, h⟩
  | _, _, i + 1, d, .cons _ t, e => by
    obtain ⟨v, h1, h2⟩ := DVs.get (i := i) (d := d) t (by simpa using e)
    exact ⟨v, by simpa using h1, h2⟩
theorem DVs.append : ∀ {vs ws : List V} {ds es : List D}, DVs wd K mg F α vs ds → DVs wd K mg F α ws es → DVs wd K mg F α (vs ++ ws) (ds ++ es)
  | _, _, _, _, .nil, s => s
  | _, _, _, _, .cons h t, s => .cons h (DVs.append t s)
theorem DVs.take : ∀ {vs : List V} {ds : List D} (n : Nat), DVs wd K mg F α vs ds → DVs wd K mg F α (vs.take n) (ds.take n)
  | _, _, 0, _ => .nil
  | _, _, _ + 1, .nil => .nil
  | _, _, n + 1, .cons h t => .cons h (DVs.take n t)
theorem DVs.drop : ∀ {vs : List V} {ds : List D} (n : Nat), DVs wd K mg F α vs ds → DVs wd K mg F α (vs.drop n) (ds.drop n)
  | _, _, 0, h => h
  | _, _, _ + 1, .nil => .nil
  | _, _, n + 1, .cons _ t => DVs.drop n t
theorem DVs.set {v : V} {d : D} (h : DV wd K mg F α v d) : ∀ {vs : List V} {ds : List D} (i : Nat), DVs wd K mg F α vs ds → DVs wd K mg F α (vs.set i v) (ds.set i d)
  | _, _, _, .nil => .nil
  | _, _, 0, .cons _ t => .cons h t
  | _, _, i + 1, .cons q t => .cons q (DVs.set h i t)
theorem DVs.reverse {vs : List V} {ds : List D} (h : DVs wd K mg F α vs ds) : DVs wd K mg F α vs.reverse ds.reverse := by
  induction vs generalizing ds with
  | nil => cases h; exact .nil
  | cons v r ih =>
    cases h with
    | cons h t =>
      rw [List.reverse_cons, List.reverse_cons]
      exact DVs.append (ih t) (.cons h .nil)
theorem DVs.ints : ∀ {vs : List V} {ns : List Int}, DVs wd K mg F α vs (ns.map .int) → vs = ns.map .int
  | _, [], h => by cases h; rfl
  | _, n :: r, h => by
    cases h with
    | cons h t => cases h; rw [DVs.ints t]; rfl
theorem DVs.bls : ∀ {vs : List V} {ns : List Bool}, DVs wd K mg F α vs (ns.map .bl) → vs = ns.map .bl
  | _, [], h => by cases h; rfl
  | _, n :: r, h => by
    cases h with
    | cons h t => cases h; rw [DVs.bls t]; rfl
theorem DVs.of_ints : ∀ ns : List Int, DVs wd K mg F α (ns.map .int) (ns.map .int)
  | [] => .nil
  | n :: r => .cons (.int n) (DVs.of_ints r)
theorem DVs.of_strs : ∀ ns : List Str, DVs wd K mg F α (ns.map .str) (ns.map .str)
  | [] => .nil
  | n :: r => .cons (.str n) (DVs.of_strs r)
end
/-- values beside values -/
def NV : List (NestedKey × Addr × V) → List (NestedKey × Addr × Value) → Prop := Paired fun p q => p.1 = q.1 ∧ p.2.1 = q.2.1 ∧ RelV p.2.2 q.2.2
/-- a dict whose keys are tuples -/
def dN (w : World) (a : Addr) (xs : List (NestedKey × Addr × V)) : HO := .ext fun h => (a == sysModules) = false ∧ xs.length ≤ sizeLine ∧ (xs.map (·.1)).Nodup ∧ ∃ vs, NV xs vs ∧ ∃ o es ep, h.get? a = some o ∧ o.ExactDict ∧ o.data = .dict es ep ∧ es.toList = vs.map (fun x => (⟨x.1.hash w, .ref x.2.1, x.2.2⟩ : DictEntry))
/-- its pairs -/
inductive NVs (wd : World) (K : Fg) (mg : Str → Option Value) (F : Hp) (α : List Addr) : List (NestedKey × Addr × V) → List (D × D) → Prop
  | nil : NVs wd K mg F α [] []
  | cons {nk : NestedKey} {b : Addr} {v : V} {q d : D} {xs : List (NestedKey × Addr × V)} {kvs : List (D × D)} : keyN q = some nk → nk.depth ≤ 8 → DV wd K mg F α (.ref b) q → (∃ ds, q = .tup ds) → DV wd K mg F α v d → NVs wd K mg F α xs kvs → NVs wd K mg F α ((nk, b, v) :: xs) ((q, d) :: kvs)
theorem NVs.mono {wd : World} {K : Fg} {mg : Str → Option Value} {F F' : Hp} {α β : List Addr} {xs : List (NestedKey × Addr × V)} {kvs : List (D × D)} (s : Sub F F') (h : NVs wd K mg F α xs kvs) : NVs wd K mg F' (α ++ β) xs kvs := by
  induction h with
  | nil => exact .nil
  | cons h1 h2 h3 h4 h6 _ ih => exact .cons h1 h2 (h3.mono s) h4 (h6.mono s) ih
/-- the store's object at a is d -/
def Own (wd : World) (K : Fg) (mg : Str → Option Value) (F : Hp) (α : List Addr) (H : Hp) (a : Addr) : D → Prop
  | .lst ds => ∃ xs, H a = some (.lst xs) ∧ DVs wd K mg F α xs ds
  | .dct kvs => ∃ ws : List (Key × V), H a = some (.dK ws) ∧ DKs (ws.map (·.1)) (kvs.map (·.1)) ∧ DVs wd K mg F α (ws.map (·.2)) (kvs.map (·.2))
  | .dcn kvs => ∃ xs, H a = some (dN wd a xs) ∧ NVs wd K mg F α xs kvs
  | .lck (.dct kvs) => ∃ o, ∃ ws : List (Key × V), F a = some (.frz o (.dK ws)) ∧ H a = some (.frz o (.dK ws)) ∧ DKs (ws.map (·.1)) (kvs.map (·.1)) ∧ DVs wd K mg F α (ws.map (·.2)) (kvs.map (·.2))
  | .lck (.dcn kvs) => ∃ o xs, F a = some (.frz o (dN wd a xs)) ∧ H a = some (.frz o (dN wd a xs)) ∧ NVs wd K mg F α xs kvs
  | .non => True
  | _ => False
structure Rel (wd : World) (K : Fg) (mg : Str → Option Value) (α : List Addr) (F H : Hp) (S : Sto) : Prop where
  sub : Sub F H
  len : α.length = S.length
  nd : α.Nodup
  here : ∀ a ∈ α, ∃ o, H a = some o
  own : ∀ (k : Nat) (a : Addr) (d : D), α[k]? = some a → S[k]? = some d → Own wd K mg F α H a d ∧ (d.open = true → F a = none)
/-- what stood and isn't the store's stands -/
structure Stp (α : List Addr) (F H : Hp) (β : List Addr) (F' H' : Hp) : Prop where
  new : ∀ b ∈ β, H b = none
  sub : Sub F F'
  frame : ∀ a o, a ∉ α → H a = some o → H' a = some o
  live : ∀ a, H' a = none → H a = none
  fnew : ∀ a, a ∉ α → F a = none → H a ≠ none → F' a = none
theorem Stp.refl {α : List Addr} {F H : Hp} : Stp α F H [] F H := ⟨(fun _ h => nomatch h), Sub.refl F, fun _ _ _ h => h, fun _ h => h, fun _ _ h _ => h⟩
theorem Stp.trans {α β γ : List Addr} {F H F1 H1 F2 H2 : Hp} (a : Stp α F H β F1 H1) (b : Stp (α ++ β) F1 H1 γ F2 H2) : Stp α F H (β ++ γ) F2 H2 := by
  have fr : ∀ x o, x ∉ α → H x = some o → H2 x = some o := fun x o n e => b.frame x o (fun z => by
    rcases List.mem_append.mp z with z | z
    · exact n z
    · rw [a.new x z] at e; cases e) (a.frame x o n e)
  refine ⟨fun x hx => ?_, a.sub.trans b.sub, fr, fun x h => a.live x (b.live x h), fun x h1 h2 h3 => b.fnew x (fun z => ?_) (a.fnew x h1 h2 h3) fun z => h3 (a.live x z)⟩
  rotate_left
  · rcases List.mem_append.mp z with z | z
    · exact h1 z
    · exact h3 (a.new x z)
  rcases List.mem_append.mp hx with z | z
  · exact a.new x z
  · exact a.live x (b.new x z)
section
variable {wd : World} {K : Fg} {mg : Str → Option Value} {α β : List Addr} {F F' H H' : Hp} {S S' : Sto}
theorem Own.mono {a : Addr} {d : D} (s : Sub F F') (e : H' a = H a) (h : Own wd K mg F α H a d) : Own wd K mg F' (α ++ β) H' a d := by
  cases d with
  | lst ds => obtain ⟨xs, h1, h2⟩ := h; exact ⟨xs, e.trans h1, h2.mono s⟩
  | dct kvs => obtain ⟨ws, h1, h2, h3⟩ := h; exact ⟨ws, e.trans h1, h2, h3.mono s⟩
  | dcn kvs => obtain ⟨ws, h1, h2⟩ := h; exact ⟨ws, e.trans h1, h2.mono s⟩
  | lck u =>
    cases u with
    | dct kvs => obtain ⟨o, ws, h0, h1, h2, h3⟩ := h; exact ⟨o, ws, s _ _ h0, e.trans h1, h2, h3.mono s⟩
    | dcn kvs => obtain ⟨o, ws, h0, h1, h2⟩ := h; exact ⟨o, ws, s _ _ h0, e.trans h1, h2.mono s⟩
    | _ => exact h.elim
  | non => trivial
  | _ => exact h.elim
theorem Rel.notF (r : Rel wd K mg α F H S) {p : Addr} (hp : H p = none) : F p = none := by
  cases e : F p with
  | none => rfl
  | some u => rw [r.sub _ _ e] at hp; cases hp
theorem Rel.notin (r : Rel wd K mg α F H S) {p : Addr} (hp : H p = none) : p ∉ α := fun h => by
  obtain ⟨o, e⟩ := r.here p h
  rw [hp] at e; cases e
theorem upd_some {H : Hp} {p a : Addr} {o u : HO} (hp : H p = none) (e : H a = some u) : upd H p o a = some u := by
  have z : a ≠ p := fun z => by subst z; rw [hp] at e; cases e
  rw [upd_ne z]; exact e
theorem upd_none {H : Hp} {p a : Addr} {o : HO} (h : upd H p o a = none) : H a = none := by
  by_cases z : a = p
  · subst z; rw [upd_same] at h; cases h
  · rw [upd_ne z] at h; exact h
theorem Sub.upd {F H : Hp} {p : Addr} {o : HO} (s : Sub F H) : Sub (upd F p o) (L2.upd H p o) := fun a u e => by
  by_cases z : a = p
  · subst z; rw [upd_same] at e ⊢; exact e
  · rw [upd_ne z] at e ⊢; exact s _ _ e
theorem Stp.ofNew {p : Addr} {o : HO} (hp : H p = none) (sb : Sub F F') (h : ∀ b ∈ β, b = p) (hf : ∀ a, a ≠ p → F a = none → F' a = none) : Stp α F H β F' (upd H p o) :=
  ⟨fun b hb => by rw [h b hb]; exact hp, sb, fun a u _ e => upd_some hp e, fun a e => upd_none e, fun a _ h2 h3 => hf a (fun z => h3 (z ▸ hp)) h2⟩
theorem Rel.other (r : Rel wd K mg α F H S) {p : Addr} {o : HO} (hp : p ∉ α) (hf : F p = none) : Rel wd K mg α F (upd H p o) S := by
  refine ⟨fun a u e => ?_, r.len, r.nd, fun a h => ?_, fun k a d h1 h2 => ?_⟩
  · have z : a ≠ p := fun z => by subst z; rw [hf] at e; cases e
    rw [upd_ne z]; exact r.sub _ _ e
  · have z : a ≠ p := fun z => hp (z ▸ h)
    obtain ⟨u, e⟩ := r.here a h
    exact ⟨u, by rw [upd_ne z]; exact e⟩
  · obtain ⟨h3, h4⟩ := r.own k a d h1 h2
    have z : a ≠ p := fun z => hp (z ▸ List.mem_of_getElem? h1)
    have h5 : Own wd K mg F (α ++ []) (upd H p o) a d := h3.mono (Sub.refl F) (upd_ne z)
    rw [List.append_nil] at h5
    exact ⟨h5, h4⟩
theorem Stp.other (s : Stp α F H β F' H') {p : Addr} {o : HO} (hp : H p = none) : Stp α F H β F' (upd H' p o) := by
  refine ⟨s.new, s.sub, fun a u h e => ?_, fun a e => s.live a (upd_none e), s.fnew⟩
  have z : a ≠ p := fun z => by subst z; rw [hp] at e; cases e
  rw [upd_ne z]; exact s.frame a u h e
/-- a new thing that stands for good -/
theorem Rel.newF (r : Rel wd K mg α F H S) {p : Addr} {o : HO} (hp : H p = none) : Rel wd K mg (α ++ []) (upd F p o) (upd H p o) S ∧ Stp α F H [] (upd F p o) (upd H p o) := by
  have hF := r.notF hp
  have sb : Sub F (upd F p o) := Sub.new hF
  refine ⟨⟨r.sub.upd, by rw [List.append_nil]; exact r.len, by rw [List.append_nil]; exact r.nd, fun a h => ?_, fun k a d h1 h2 => ?_⟩, Stp.ofNew hp sb (fun _ h => nomatch h) fun a z e => by rw [upd_ne z]; exact e⟩
  · rw [List.append_nil] at h
    obtain ⟨u, e⟩ := r.here a h
    exact ⟨u, upd_some hp e⟩
  · rw [List.append_nil] at h1
    obtain ⟨h3, h4⟩ := r.own k a d h1 h2
    have z : a ≠ p := fun z => r.notin hp (z ▸ List.mem_of_getElem? h1)
    exact ⟨h3.mono sb (upd_ne z), fun hd => by rw [upd_ne z]; exact h4 hd⟩
/-- the store's object k is changed -/
theorem Rel.setO (r : Rel wd K mg α F H S) {k : Nat} {a : Addr} {o : HO} {d e : D} (h1 : α[k]? = some a) (h2 : S[k]? = some e) (he : e.open = true) (hd : Own wd K mg F α (upd H a o) a d) :
    Rel wd K mg (α ++ []) F (upd H a o) (S.set k d) ∧ Stp α F H [] F (upd H a o) := by
  obtain ⟨_, q⟩ := r.own k a e h1 h2
  have hF := q he
  have hn := r.nd
  have ha : a ∈ α := List.mem_of_getElem? h1
  refine ⟨⟨fun b u e => ?_, by rw [List.append_nil, List.length_set]; exact r.len, by rw [List.append_nil]; exact r.nd, fun b h => ?_, fun j b u g1 g2 => ?_⟩, ⟨(fun _ h => nomatch h), Sub.refl F, fun b u hb e => ?_, fun b e => upd_none e, fun _ _ h _ => h⟩⟩
  · have z : b ≠ a := fun z => by subst z; rw [hF] at e; cases e
    rw [upd_ne z]; exact r.sub _ _ e
  · rw [List.append_nil] at h
    by_cases z : b = a
    · subst z; exact ⟨_, upd_same⟩
    · obtain ⟨u, e⟩ := r.here b h
      exact ⟨u, by rw [upd_ne z]; exact e⟩
  · rw [List.append_nil] at g1
    by_cases z : j = k
    · subst z
      rw [h1] at g1; cases g1
      rw [List.getElem?_set_self (List.getElem?_eq_some_iff.mp h2).1] at g2
      cases g2
      rw [List.append_nil]
      exact ⟨hd, fun _ => hF⟩
    · rw [List.getElem?_set_ne (Ne.symm z)] at g2
      obtain ⟨h3, h4⟩ := r.own j b u g1 g2
      have y : b ≠ a := fun y => by
        subst y
        exact z ((List.getElem_inj hn).mp ((List.getElem?_eq_some_iff.mp g1).2.trans (List.getElem?_eq_some_iff.mp h1).2.symm))
      exact ⟨h3.mono (Sub.refl F) (upd_ne y), h4⟩
  · have z : b ≠ a := fun z => hb (z ▸ ha)
    rw [upd_ne z]; exact e
end
section
variable {wd : World} {K : Fg} {mg : Str → Option Value} {α β : List Addr} {F F' H H' : Hp} {S S' : Sto}
/-- a thing that stands by itself becomes the store's -/
theorem Rel.adopt (r : Rel wd K mg α F H S) {p : Addr} {d : D} (hp : p ∉ α) (hf : F p = none) (hd : Own wd K mg F α H p d) (hn : d.open = true) : Rel wd K mg (α ++ [p]) F H (S ++ [d]) := by
  have ex : ∃ o, H p = some o := by
    cases d with
    | lst ds => obtain ⟨xs, e, _⟩ := hd; exact ⟨_, e⟩
    | dct kvs => obtain ⟨xs, e, _⟩ := hd; exact ⟨_, e⟩
    | dcn kvs => obtain ⟨xs, e, _⟩ := hd; exact ⟨_, e⟩
    | non => cases hn
    | lck _ => cases hn
    | _ => exact hd.elim
  refine ⟨r.sub, by rw [List.length_append, List.length_append, r.len]; rfl, ?_, fun a h => ?_, fun k a e h1 h2 => ?_⟩
  · refine List.nodup_append.mpr ⟨r.nd, by simp, fun a ha b hb z => ?_⟩
    have : b = p := by simpa using hb
    subst this; subst z
    exact hp ha
  · rcases List.mem_append.mp h with h | h
    · exact r.here a h
    · have : a = p := by simpa using h
      subst this
      exact ex
  · have hk : k < (α ++ [p]).length := (List.getElem?_eq_some_iff.mp h1).1
    by_cases q : k < α.length
    · rw [List.getElem?_append_left q] at h1
      rw [List.getElem?_append_left (by rw [← r.len]; exact q)] at h2
      obtain ⟨h3, h4⟩ := r.own k a e h1 h2
      exact ⟨h3.mono (Sub.refl F) rfl, h4⟩
    · have hk' : k = α.length := by rw [List.length_append] at hk; simp at hk; omega
      subst hk'
      rw [List.getElem?_append_right (Nat.le_refl _), Nat.sub_self] at h1
      rw [r.len, List.getElem?_append_right (Nat.le_refl _), Nat.sub_self] at h2
      simp at h1 h2
      subst h1; subst h2
      exact ⟨hd.mono (Sub.refl F) rfl, fun _ => hf⟩
/-- a thing that stands by itself stands for good -/
theorem Rel.freeze (r : Rel wd K mg α F H S) {p : Addr} {o : HO} (hp : p ∉ α) (hf : F p = none) (ho : H p = some o) : Rel wd K mg α (upd F p o) H S ∧ Sub F (upd F p o) := by
  have sb : Sub F (upd F p o) := Sub.new hf
  refine ⟨⟨fun a u e => ?_, r.len, r.nd, r.here, fun k a d h1 h2 => ?_⟩, sb⟩
  · by_cases z : a = p
    · subst z; rw [upd_same] at e; rw [ho]; exact e
    · rw [upd_ne z] at e; exact r.sub _ _ e
  · obtain ⟨h3, h4⟩ := r.own k a d h1 h2
    have z : a ≠ p := fun z => hp (z ▸ List.mem_of_getElem? h1)
    have h5 : Own wd K mg (upd F p o) (α ++ []) H a d := h3.mono sb rfl
    rw [List.append_nil] at h5
    exact ⟨h5, fun hd => by rw [upd_ne z]; exact h4 hd⟩
end
/-! ### what is wanted of a result -/
def ErrAt (wd : World) (K : Fg) (mg : Str → Option Value) (F : Hp) (α : List Addr) (c : Str) (fs : List (Str × D)) (cls : Value) (dd : Option Addr) (H : Hp) : Prop :=
  mg c = some cls ∧ ((fs = [] ∧ dd = none) ∨ ∃ d xs, dd = some d ∧ F d = some (.xd xs) ∧ xs.map (·.1) = fs.map (·.1) ∧ DVs wd K mg F α (xs.map (·.2)) (fs.map (·.2)))
abbrev RelT (B A : Type) := Hp → List Addr → B → A → Prop
def wp {A B : Type} (wd : World) (K : Fg) (mg : Str → Option Value) (α : List Addr) (F H : Hp) (rel : RelT B A) (r : Res A) (Q : B → Hp → Prop) (W : XK) : Prop := match r with
  | .ok a S' => ∀ b H' β F', Rel wd K mg (α ++ β) F' H' S' → Stp α F H β F' H' → rel F' (α ++ β) b a → Q b H'
  | .err c fs S' => ∀ cls dd H' β F', Rel wd K mg (α ++ β) F' H' S' → Stp α F H β F' H' → ErrAt wd K mg F' (α ++ β) c fs cls dd H' → W cls dd H'
  | .stuck => False
section
variable {A B A' B' : Type} {wd : World} {K : Fg} {mg : Str → Option Value} {α β : List Addr} {F F1 H H1 : Hp} {S : Sto} {rel : RelT B A} {rel' : RelT B' A'} {r : Res A} {Q Q1 : B → Hp → Prop} {Q' : B' → Hp → Prop} {W : XK}
theorem wp.step (st : Stp α F H β F1 H1) (h : wp wd K mg α F H rel r Q W) : wp wd K mg (α ++ β) F1 H1 rel r Q W := by
  cases r with
  | ok a S' => intro b H' γ F' hr hs hv; rw [List.append_assoc] at hr hv; exact h b H' (β ++ γ) F' hr (st.trans hs) hv
  | err c fs S' => intro cls dd H' γ F' hr hs hv; rw [List.append_assoc] at hr hv; exact h cls dd H' (β ++ γ) F' hr (st.trans hs) hv
  | stuck => exact h
theorem wp.bind {f : A → Sto → Res A'} (h : wp wd K mg α F H rel' (r.bind f) Q' W)
    (k : ∀ a S1, r = .ok a S1 → ∀ x H1 β F1, Rel wd K mg (α ++ β) F1 H1 S1 → Stp α F H β F1 H1 → rel F1 (α ++ β) x a → wp wd K mg (α ++ β) F1 H1 rel' (f a S1) Q' W → Q1 x H1) : wp wd K mg α F H rel r Q1 W := by
  cases r with
  | ok a S' => exact fun b H' β F' hr hs hv => k a S' rfl b H' β F' hr hs hv (wp.step hs h)
  | err c fs S' => exact h
  | stuck => exact h
theorem wp.imp (h : wp wd K mg α F H rel r Q W) (k : ∀ b H', Q b H' → Q1 b H') : wp wd K mg α F H rel r Q1 W := by
  cases r with
  | ok a S' => exact fun b H' β F' hr hs hv => k b H' (h b H' β F' hr hs hv)
  | err c fs S' => exact h
  | stuck => exact h
/-- a result that is at hand -/
theorem wp.now {a : A} (h : wp wd K mg α F H rel (.ok a S) Q W) (hr : Rel wd K mg α F H S) {b : B} (hv : rel F α b a) : Q b H := by
  have e : α ++ [] = α := List.append_nil α
  exact h b H [] F (by rw [e]; exact hr) Stp.refl (by rw [e]; exact hv)
theorem wp.lift {o : Option A} (h : wp wd K mg α F H rel (.lift o S) Q W) : ∃ a, o = some a ∧ wp wd K mg α F H rel (.ok a S) Q W := by
  cases o with
  | some a => exact ⟨a, rfl, h⟩
  | none => exact h.elim
end
def Slots (wd : World) (K : Fg) (mg : Str → Option Value) (F : Hp) (α : List Addr) (σ : L2.St) (δ : Sl) : Prop :=
  σ.length = δ.length ∧ ∀ (i : Nat) (d : D), δ[i]? = some (some d) → ∃ v, σ[i]? = some (some v) ∧ DV wd K mg F α v d
theorem Slots.mono {wd : World} {K : Fg} {mg : Str → Option Value} {F F' : Hp} {α β : List Addr} {σ : L2.St} {δ : Sl} (h : Slots wd K mg F α σ δ) (s : Sub F F') : Slots wd K mg F' (α ++ β) σ δ :=
  ⟨h.1, fun i d e => let ⟨v, h1, h2⟩ := h.2 i d e; ⟨v, h1, h2.mono s⟩⟩
theorem Slots.set {wd : World} {K : Fg} {mg : Str → Option Value} {F : Hp} {α : List Addr} {σ : L2.St} {δ : Sl} {i : Nat} {v : V} {d : D} (h : Slots wd K mg F α σ δ) (hv : DV wd K mg F α v d) : Slots wd K mg F α (σ.set i (some v)) (δ.set i (some d)) := by
  refine ⟨by rw [List.length_set, List.length_set]; exact h.1, fun j e g => ?_⟩
  by_cases z : j = i
  · subst z
    have hj : j < δ.length := by
      have := (List.getElem?_eq_some_iff.mp g).1
      rw [List.length_set] at this; exact this
    rw [List.getElem?_set_self hj] at g
    cases g
    exact ⟨v, List.getElem?_set_self (by rw [h.1]; exact hj), hv⟩
  · rw [List.getElem?_set_ne (Ne.symm z)] at g
    rw [List.getElem?_set_ne (Ne.symm z)]
    exact h.2 j e g
def relD (wd : World) (K : Fg) (mg : Str → Option Value) : RelT V D := fun F α v d => DV wd K mg F α v d
def relB : RelT Bool Bool := fun _ _ b a => b = a
def relA (wd : World) (K : Fg) (mg : Str → Option Value) : RelT (List V) (List D) := fun F α v d => DVs wd K mg F α v d
def SndE (wd : World) (K : Fg) (mg : Str → Option Value) (W : WX) (t : TE) (r : RE) : Prop := ∀ α F σ H δ S (Q : VK), Rel wd K mg α F H S → Slots wd K mg F α σ δ → wp wd K mg α F H (relD wd K mg) (r δ S) Q (fun c d H' => W c d σ H') → t σ H Q
def SndB (wd : World) (K : Fg) (mg : Str → Option Value) (W : WX) (t : TT) (r : RB) : Prop := ∀ α F σ H δ S (Q : Bool → Hp → Prop), Rel wd K mg α F H S → Slots wd K mg F α σ δ → wp wd K mg α F H relB (r δ S) Q (fun c d H' => W c d σ H') → t σ H Q
def SndA (wd : World) (K : Fg) (mg : Str → Option Value) (W : WX) (t : TA) (r : RA) : Prop := ∀ α F σ H δ S (Q : List V → Hp → Prop), Rel wd K mg α F H S → Slots wd K mg F α σ δ → wp wd K mg α F H (relA wd K mg) (r δ S) Q (fun c d H' => W c d σ H') → t σ H Q
/-- an expression, a test, arguments by their mirrors -/
structure PD (X : Cx) (W : WX) (e : Expr) (r : RE) : Prop where
  ex : ∃ t, PE X e t ∧ SndE X.w X.K X.mg W t r
structure PB (X : Cx) (W : WX) (e : Expr) (r : RB) : Prop where
  ex : ∃ t, PT X e t ∧ SndB X.w X.K X.mg W t r
structure PBw (X : Cx) (W : WX) (e : Expr) (r : RB) : Prop where
  ex : ∃ t, PW X e t ∧ SndB X.w X.K X.mg W t r
structure PDs (X : Cx) (W : WX) (es : List Expr) (r : RA) : Prop where
  ex : ∃ t, PA X es t ∧ SndA X.w X.K X.mg W t r
  len : ∀ δ S ds S', r δ S = .ok ds S' → ds.length = es.length
section
variable {X : Cx} {W : WX} {a b c e : Expr} {es rest : List Expr} {ra rb rc : RE} {ba bb : RB} {rs : RA} {pos p : Pos}
theorem pd_var (i : Nat) {x : Str} {pos : Pos} (hN : X.N[i]? = some x := by rfl) (hv : Vis X.env.scope x := by first | exact Or.inl rfl | exact Or.inr (Or.inl rfl) | exact Or.inr (Or.inr rfl)) (hd : (x == ("__debug__" : Str)) = false := by decide) (hcd : (x == ("__classdict__" : Str)) = false := by decide) : PD X W (.Name x pos) (rVar i) := by
  refine ⟨tVar i, pe_var hN hv hd hcd, fun α F σ H δ S Q hr hs h => ?_⟩
  unfold rVar at h
  split at h
  · rename_i d e
    obtain ⟨v, h1, h2⟩ := hs.2 i d e
    exact ⟨v, h1, h.now hr h2⟩
  · exact h.elim
theorem pd_c {d : D} {v : V} (h : PE X e (tC v)) (hv : ∀ F α, DV X.w X.K X.mg F α v d) : PD X W e (rC d) := ⟨tC v, h, fun α F σ H δ S Q hr hs h => h.now hr (hv F α)⟩
theorem pd_int {i : Int} {j : Nat} : PD X W (.Constant (.int i) j pos) (rC (.int i)) := pd_c pe_int fun _ _ => .int i
theorem pd_bl {i : Bool} {j : Nat} : PD X W (.Constant (.bool i) j pos) (rC (.bl i)) := pd_c pe_bl fun _ _ => .bl i
theorem pd_non {j : Nat} : PD X W (.Constant .none j pos) (rC .non) := pd_c pe_non fun _ _ => .non
theorem pd_str {x : Str} {j : Nat} : PD X W (.Constant (.str x) j pos) (rC (.str x)) := pd_c pe_str fun _ _ => .str x
/-- a module's constant: an int, a text -/
theorem pd_gi {x : Str} {i : Int} {t : Tok} (hm : X.mg x = some (.int i t)) (hg : Gl X x := by rfl) (hd : (x == ("__debug__" : Str)) = false := by decide) : PD X W (.Name x pos) (rC (.int i)) := pd_c (v := .int i) (pe_glob hg hm ⟨t, rfl⟩ hd) fun _ _ => .int i
/-! operators by values -/
def OkG (X : Cx) (r : R2) (g : Sto → D → D → Option D) : Prop := ∀ α F H S (x y : V) (d e z : D) (Q : VK), Rel X.w X.K X.mg α F H S → DV X.w X.K X.mg F α x d → DV X.w X.K X.mg F α y e → g S d e = some z →
  (∀ v H' β F', Rel X.w X.K X.mg (α ++ β) F' H' S → Stp α F H β F' H' → DV X.w X.K X.mg F' (α ++ β) v z → Q v H') → r x y H Q
structure OpG (X : Cx) (f : Value → Value → Sem Value) (g : Sto → D → D → Option D) : Prop where
  ex : ∃ r, OpR X f r ∧ OkG X r g
theorem SndE.bin {wd : World} {K : Fg} {mg : Str → Option Value} {ta tb : TE} {g : Sto → D → D → Option D} {k : V → V → Hp → VK → Prop} (sa : SndE wd K mg W ta ra) (sb : SndE wd K mg W tb rb)
    (hk : ∀ α F H S (x y : V) (d e z : D) (Q : VK), Rel wd K mg α F H S → DV wd K mg F α x d → DV wd K mg F α y e → g S d e = some z →
      (∀ v H' β F', Rel wd K mg (α ++ β) F' H' S → Stp α F H β F' H' → DV wd K mg F' (α ++ β) v z → Q v H') → k x y H Q) :
    SndE wd K mg W (fun σ H Q => ta σ H fun x H1 => tb σ H1 fun y H2 => k x y H2 Q) (rBin g ra rb) := by
  intro α F σ H δ S Q hr hs h
  refine sa α F σ H δ S _ hr hs (wp.bind h fun d S1 _ x H1 β F1 r1 s1 v1 h1 => ?_)
  refine sb (α ++ β) F1 σ H1 δ S1 _ r1 (hs.mono s1.sub) (wp.bind h1 fun e S2 _ y H2 γ F2 r2 s2 v2 h2 => ?_)
  obtain ⟨z, e1, h3⟩ := wp.lift h2
  exact hk (α ++ β ++ γ) F2 H2 S2 x y d e z Q r2 (v1.mono s2.sub) v2 e1 fun v H' ε F' r3 s3 v3 => h3 v H' ε F' r3 s3 v3
theorem pd_bin {op : Operator} {g : Sto → D → D → Option D} (ho : OpG X (binaryOp op) g) (ha : PD X W a ra) (hb : PD X W b rb) : PD X W (.BinOp a op b pos) (rBin g ra rb) := by
  obtain ⟨r, h1, h2⟩ := ho.ex
  obtain ⟨ta, pa, sa⟩ := ha.ex
  obtain ⟨tb, pb, sb⟩ := hb.ex
  exact ⟨_, pe_op h1 pa pb, sa.bin sb h2⟩
theorem pd_cmp {op : CmpOp} {g : Sto → D → D → Option D} (ho : OpG X (compareOp op) g) (ha : PD X W a ra) (hb : PD X W b rb) (hm : behindInMarks op b = false) : PD X W (.Compare a [op] [b] pos) (rBin g ra rb) := by
  obtain ⟨r, h1, h2⟩ := ho.ex
  obtain ⟨ta, pa, sa⟩ := ha.ex
  obtain ⟨tb, pb, sb⟩ := hb.ex
  exact ⟨_, pe_cmpR h1 pa pb hm, sa.bin sb h2⟩
/-- the truth of a True or False -/
def bVal (a : RE) : RB := fun δ S => (a δ S).bind fun x S1 => match x with
  | .bl b => .ok b S1
  | _ => .stuck
theorem SndE.val {wd : World} {K : Fg} {mg : Str → Option Value} {t : TE} (s : SndE wd K mg W t ra) : SndB wd K mg W (tTest t) (bVal ra) := by
  intro α F σ H δ S Q hr hs h
  refine s α F σ H δ S _ hr hs (wp.bind h fun d S1 _ x H1 β F1 r1 s1 v1 h1 => ?_)
  cases d with
  | bl b => cases v1; exact ⟨b, rfl, h1.now r1 rfl⟩
  | _ => exact h1.elim
theorem pb_cmp {op : CmpOp} {g : Sto → D → D → Option D} (ho : OpG X (compareOp op) g) (ha : PD X W a ra) (hb : PD X W b rb) (hm : behindInMarks op b = false) : PB X W (.Compare a [op] [b] pos) (bVal (rBin g ra rb)) := by
  obtain ⟨r, h1, h2⟩ := ho.ex
  obtain ⟨ta, pa, sa⟩ := ha.ex
  obtain ⟨tb, pb, sb⟩ := hb.ex
  exact ⟨_, pt_cmpR h1 pa pb hm, (sa.bin sb h2).val⟩
end
end DL
set_option Elab.async false
set_option linter.all false
set_option maxRecDepth 100000
set_option maxHeartbeats 4000000
set_option autoImplicit false
/-! Data layer, third part: calls, tests, statements, loops, comprehensions, defs. -/
namespace DL
open PySem PySem.Spec PyProof.Rows L2
section
variable {X : Cx} {W : WX} {a b c e : Expr} {es rest : List Expr} {ra rb rc : RE} {ba bb : RB} {rs : RA} {pos p : Pos} {wd : World} {K : Fg} {mg : Str → Option Value}
/-! ### one value -/
def OkU (X : Cx) (r : V → Hp → VK → Prop) (g : Sto → D → Option D) : Prop := ∀ α F H S (x : V) (d z : D) (Q : VK), Rel X.w X.K X.mg α F H S → DV X.w X.K X.mg F α x d → g S d = some z →
  (∀ v H' β F', Rel X.w X.K X.mg (α ++ β) F' H' S → Stp α F H β F' H' → DV X.w X.K X.mg F' (α ++ β) v z → Q v H') → r x H Q
theorem SndE.un {ta : TE} {g : Sto → D → Option D} {k : V → Hp → VK → Prop} (sa : SndE wd K mg W ta ra)
    (hk : ∀ α F H S (x : V) (d z : D) (Q : VK), Rel wd K mg α F H S → DV wd K mg F α x d → g S d = some z → (∀ v H' β F', Rel wd K mg (α ++ β) F' H' S → Stp α F H β F' H' → DV wd K mg F' (α ++ β) v z → Q v H') → k x H Q) :
    SndE wd K mg W (fun σ H Q => ta σ H fun x H1 => k x H1 Q) (rUn g ra) := by
  intro α F σ H δ S Q hr hs h
  refine sa α F σ H δ S _ hr hs (wp.bind h fun d S1 _ x H1 β F1 r1 s1 v1 h1 => ?_)
  obtain ⟨z, e1, h3⟩ := wp.lift h1
  exact hk (α ++ β) F1 H1 S1 x d z Q r1 v1 e1 fun v H' ε F' r3 s3 v3 => h3 v H' ε F' r3 s3 v3
theorem pd_un {op : UnaryOp} {r : V → Hp → VK → Prop} {g : Sto → D → Option D} (ho : UnR X (unaryOp op) r) (hg : OkU X r g) (ha : PD X W a ra) : PD X W (.UnaryOp op a pos) (rUn g ra) := by
  obtain ⟨ta, pa, sa⟩ := ha.ex
  exact ⟨_, pe_un ho pa, sa.un hg⟩
/-! ### arguments, displays -/
theorem pds_nil : PDs X W [] rNil := ⟨⟨tNil, pa_nil, fun α F σ H δ S Q hr hs h => h.now hr .nil⟩, fun δ S ds S' h => by cases h; rfl⟩
theorem SndE.cons {te : TE} {t : TA} (s1 : SndE wd K mg W te ra) (s2 : SndA wd K mg W t rs) : SndA wd K mg W (tCons te t) (rCons ra rs) := by
  intro α F σ H δ S Q hr hs h
  refine s1 α F σ H δ S _ hr hs (wp.bind h fun d S1 _ x H1 β F1 r1 q1 v1 h1 => ?_)
  refine s2 (α ++ β) F1 σ H1 δ S1 _ r1 (hs.mono q1.sub) (wp.bind h1 fun e S2 _ y H2 γ F2 r2 q2 v2 h2 => ?_)
  exact h2.now r2 (.cons (v1.mono q2.sub) v2)
theorem pds_cons (ha : PD X W e ra) (hr : PDs X W es rs) (hs : starEach (e :: es) X.env = (false, eval e X.env) :: starEach es X.env := by rfl) : PDs X W (e :: es) (rCons ra rs) := by
  obtain ⟨ta, pa, sa⟩ := ha.ex
  obtain ⟨t, pt, st⟩ := hr.ex
  refine ⟨⟨_, pa_cons pa pt hs, sa.cons st⟩, fun δ S ds S' h => ?_⟩
  unfold rCons at h
  cases q : ra δ S with
  | ok d S1 =>
    rw [q] at h
    have h' : (rs δ S1).bind (fun ys S2 => .ok (d :: ys) S2) = .ok ds S' := h
    cases q2 : rs δ S1 with
    | ok ys S2 =>
      rw [q2] at h'
      have h2 : Res.ok (d :: ys) S2 = .ok ds S' := h'
      cases h2
      rw [List.length_cons, List.length_cons, hr.len _ _ _ _ q2]
    | err c fs S2 => rw [q2] at h'; cases h'
    | stuck => rw [q2] at h'; cases h'
  | err c fs S1 => rw [q] at h; cases h
  | stuck => rw [q] at h; cases h
/-- a new tuple, a new list at p -/
theorem PlT.new {K : Fg} {F : Hp} {p : Addr} {xs : List V} {o : Obj} (h : o.dict = none) : PlT K (upd F p (.frz o (.tup xs))) p xs := ⟨.inl (.inr ⟨o, upd_same⟩), .inl ⟨o, upd_same, h⟩⟩
theorem Rel.tup {α : List Addr} {F H : Hp} {S : Sto} {xs : List V} {ds : List D} (hr : Rel wd K mg α F H S) (hv : DVs wd K mg F α xs ds) {p : Addr} {o : Obj} (hp : H p = none) (ho : o.dict = none) : Rel wd K mg (α ++ []) (upd F p (.frz o (.tup xs))) (upd H p (.frz o (.tup xs))) S ∧ Stp α F H [] (upd F p (.frz o (.tup xs))) (upd H p (.frz o (.tup xs))) ∧ DV wd K mg (upd F p (.frz o (.tup xs))) (α ++ []) (.ref p) (.tup ds) := by
  obtain ⟨h1, h2⟩ := hr.newF (o := .frz o (.tup xs)) hp
  exact ⟨h1, h2, .tup (PlT.new ho) (hv.mono h2.sub)⟩
theorem Rel.lst {α : List Addr} {F H : Hp} {S : Sto} {xs : List V} {ds : List D} (hr : Rel wd K mg α F H S) (hv : DVs wd K mg F α xs ds) {p : Addr} (hp : H p = none) : Rel wd K mg (α ++ []) (upd F p (.lst xs)) (upd H p (.lst xs)) S ∧ Stp α F H [] (upd F p (.lst xs)) (upd H p (.lst xs)) ∧ DV wd K mg (upd F p (.lst xs)) (α ++ []) (.ref p) (.lst ds) := by
  obtain ⟨h1, h2⟩ := hr.newF (o := .lst xs) hp
  exact ⟨h1, h2, .lst (.inl (Rd.of upd_same)) (hv.mono h2.sub)⟩
theorem pd_tup {x1 : Nat} (h : PDs X W es rs) : PD X W (.Tuple es x1 pos) (rTup rs) := by
  obtain ⟨t, pt, st⟩ := h.ex
  refine ⟨_, pe_tupP pt, fun α F σ H δ S Q hr hs h => ?_⟩
  refine st α F σ H δ S _ hr hs (wp.bind h fun ds S1 _ xs H1 β F1 r1 q1 v1 h1 => ?_)
  split at h1
  · rename_i hl
    refine ⟨by rw [v1.length]; exact hl, fun q hq o ho => ?_⟩
    obtain ⟨a1, a2, a3⟩ := r1.tup v1 hq ho
    exact h1 _ _ _ _ a1 a2 a3
  · exact h1.elim
/-- a thing that is made, at p: it may stand for good, or be the store's -/
def wpF (wd : World) (K : Fg) (mg : Str → Option Value) (α : List Addr) (F H : Hp) (r : Res D) (Q : VK) (W : XK) : Prop := match r with
  | .ok d S' => ∀ p H' β F', Rel wd K mg (α ++ β) F' H' S' → Stp α F H β F' H' → H p = none → p ∉ α ++ β → F' p = none → Own wd K mg F' (α ++ β) H' p d → d.open = true → Q (.ref p) H'
  | .err c fs S' => ∀ cls dd H' β F', Rel wd K mg (α ++ β) F' H' S' → Stp α F H β F' H' → ErrAt wd K mg F' (α ++ β) c fs cls dd H' → W cls dd H'
  | .stuck => False
theorem wpF.step {α β : List Addr} {F H F1 H1 : Hp} {r : Res D} {Q : VK} {W : XK} (st : Stp α F H β F1 H1) (h : wpF wd K mg α F H r Q W) : wpF wd K mg (α ++ β) F1 H1 r Q W := by
  cases r with
  | ok d S' =>
    intro p H' γ F' hr hs hp ha hf ho hd
    rw [List.append_assoc] at hr ha ho
    exact h p H' (β ++ γ) F' hr (st.trans hs) (st.live p hp) ha hf ho hd
  | err c fs S' => intro cls dd H' γ F' hr hs hv; rw [List.append_assoc] at hr hv; exact h cls dd H' (β ++ γ) F' hr (st.trans hs) hv
  | stuck => exact h
structure PF (X : Cx) (W : WX) (e : Expr) (r : RE) : Prop where
  ex : ∃ t, PE X e t ∧ ∀ α F σ H δ S (Q : VK), Rel X.w X.K X.mg α F H S → Slots X.w X.K X.mg F α σ δ → wpF X.w X.K X.mg α F H (r δ S) Q (fun c d H' => W c d σ H') → t σ H Q
theorem wpF.bind {A B : Type} {α : List Addr} {F H : Hp} {rel : RelT B A} {r : Res A} {f : A → Sto → Res D} {Q : VK} {Q1 : B → Hp → Prop} {W : XK} (h : wpF wd K mg α F H (r.bind f) Q W)
    (k : ∀ a S1, r = .ok a S1 → ∀ x H1 β F1, Rel wd K mg (α ++ β) F1 H1 S1 → Stp α F H β F1 H1 → rel F1 (α ++ β) x a → wpF wd K mg (α ++ β) F1 H1 (f a S1) Q W → Q1 x H1) : wp wd K mg α F H rel r Q1 W := by
  cases r with
  | ok a S' => exact fun b H' β F' hr hs hv => k a S' rfl b H' β F' hr hs hv (wpF.step hs h)
  | err c fs S' => exact h
  | stuck => exact h
/-- a new list, laid now -/
theorem wpF.lay {α : List Addr} {F H : Hp} {S : Sto} {Q : VK} {W : XK} {p : Addr} {o : HO} {d : D} (h : wpF wd K mg α F H (.ok d S) Q W) (hr : Rel wd K mg α F H S) (hp : H p = none) (ho : Own wd K mg F α (upd H p o) p d) (hd : d.open = true) : Q (.ref p) (upd H p o) := by
  have e : α ++ [] = α := List.append_nil α
  have n := hr.notin hp
  have f := hr.notF hp
  exact h p _ [] F (by rw [e]; exact hr.other n f) (Stp.refl.other hp) hp (by rw [e]; exact n) f (by rw [e]; exact ho) hd
theorem pd_own (h : PF X W e ra) : PD X W e (rOwn ra) := by
  obtain ⟨t, pt, st⟩ := h.ex
  refine ⟨t, pt, fun α F σ H δ S Q hr hs h => st α F σ H δ S Q hr hs ?_⟩
  unfold rOwn at h
  cases q : ra δ S with
  | ok d S' =>
    rw [q] at h
    intro p H' β F' r1 s1 hp ha hf ho hd
    have h2 : wp X.w X.K X.mg α F H (relD X.w X.K X.mg) (.ok (.ptr S'.length) (S' ++ [d])) Q _ := h
    refine h2 (.ref p) H' (β ++ [p]) F' ?_ ⟨fun b hb => ?_, s1.sub, s1.frame, s1.live, s1.fnew⟩ ?_
    · rw [← List.append_assoc]
      exact r1.adopt ha hf ho hd
    · rcases List.mem_append.mp hb with z | z
      · exact s1.new b z
      · have : b = p := by simpa using z
        rw [this]; exact hp
    · rw [← List.append_assoc]
      refine .ptr ?_
      rw [List.getElem?_append_right (by rw [r1.len]; exact Nat.le_refl _), r1.len, Nat.sub_self] <;> rfl
  | err c fs S' => rw [q] at h; exact h
  | stuck => rw [q] at h; exact h
/-- a list that stands for good -/
def rKeep (a : RE) : RE := fun δ S => (a δ S).bind fun d S1 => match d with
  | .lst ds => .ok (.lst ds) S1
  | _ => .stuck
theorem pd_keep (h : PF X W e ra) : PD X W e (rKeep ra) := by
  obtain ⟨t, pt, st⟩ := h.ex
  refine ⟨t, pt, fun α F σ H δ S Q hr hs h => st α F σ H δ S Q hr hs ?_⟩
  unfold rKeep at h
  cases q : ra δ S with
  | ok d S' =>
    rw [q] at h
    intro p H' β F' r1 s1 hp ha hf ho hd
    cases d with
    | lst ds =>
      have h2 : wp X.w X.K X.mg α F H (relD X.w X.K X.mg) (.ok (.lst ds) S') Q _ := h
      obtain ⟨xs, o1, o2⟩ := ho
      obtain ⟨a1, a2⟩ := r1.freeze (o := .lst xs) ha hf o1
      exact h2 (.ref p) H' β (upd F' p (.lst xs)) a1 ⟨s1.new, s1.sub.trans a2, s1.frame, s1.live, fun a g1 g2 g3 => by
        have z : a ≠ p := fun z => g3 (z ▸ hp)
        rw [upd_ne z]; exact s1.fnew a g1 g2 g3⟩ (.lst (.inl (Rd.of upd_same)) (by have := o2.mono (β := []) a2; rw [List.append_nil] at this; exact this))
    | _ => exact (show False from h).elim
  | err c fs S' => rw [q] at h; exact h
  | stuck => rw [q] at h; exact h
theorem pf_lst (h : PDs X W es rs) : PF X W (.List es pos) (rLst rs) := by
  obtain ⟨t, pt, st⟩ := h.ex
  refine ⟨_, pe_lst pt, fun α F σ H δ S Q hr hs h => ?_⟩
  refine st α F σ H δ S _ hr hs (wpF.bind h fun ds S1 _ xs H1 β F1 r1 q1 v1 h1 => ?_)
  split at h1
  · rename_i hl
    refine ⟨by rw [v1.length]; exact hl, fun p hp => h1.lay r1 hp ⟨xs, upd_same, v1⟩ rfl⟩
  · exact h1.elim
/-! ### calls -/
def spD (wd : World) (K : Fg) (mg : Str → Option Value) (n : Nat) (m : Mir) : Sp := fun vs H Q E => vs.length = n ∧ ∃ α F S ds, Rel wd K mg α F H S ∧ DVs wd K mg F α vs ds ∧ wp wd K mg α F H (relD wd K mg) (m ds S) Q E
/-- a def that keeps its promise where no repr is under way -/
structure FnG (P : Program) (w : World) (K : Fg) (mg : Str → Option Value) (base : Heap) (k : Nat) (f : Addr) (fd : FuncData) (ps : List Str) (sp : Sp) : Prop where
  len : ∀ vs H Q E, sp vs H Q E → vs.length = ps.length
  run : ∀ (A : Around) (outer : List Env) (s : Shared) (H : Hp) (args : Args) (us : List Value) (vs : List V) (Q : VK) (E : XK), Room k A → A.guards = some [] → Env0 P w K mg base A outer s H → BindsTo s fd args (ps.zip us) → Vals vs us → sp vs H Q E → codeAny (model P w) A (.call (.ref f) args) (CR (L2.CX P w) outer P w H s Q E) s
theorem FnG.call {k : Nat} {f : Addr} {fd : FuncData} {ps : List Str} {sp : Sp} {pins : List (Addr × Obj)} {σ : L2.St} {H : Hp} {s : Shared} {Q : VK} {us : List Value} {vs : List V} (F : FnG X.prog X.w X.K X.mg X.base k f fd ps sp) (hr : Room k X.A) (hG : X.A.guards = some []) (hb : Binds X.K fd ps []) (tk : Takes X W)
    (I : Inv X pins σ H s) (r : Vals vs us) (h : sp vs H Q (WE W σ)) : wpAny (model X.prog X.w) X.A (call (.ref f) us) (EP X pins σ Q) X.xe s := by
  have hl := r.length.symm.trans (F.len vs H Q _ h)
  have b : BindsTo s fd ⟨us, []⟩ (ps.zip us) := by simpa only [List.append_nil] using hb s us I.kIn (by simpa only [List.append_nil] using hl)
  refine wpAny_call (codeAny_mono (F.run _ _ s H _ us vs Q _ hr hG I.env0 b r h) ?_)
  intro res s' q
  cases res with
  | error e => exact passAt tk σ pins H s e s' I q
  | ok fl => cases fl with
    | ret u => exact I.after q
    | next => exact q.elim
    | brk => exact q.elim
    | cont => exact q.elim
theorem pd_call {x : Str} {m : Mir} {n k : Nat} {f : Addr} {fd : FuncData} {ps : List Str} (F : FnG X.prog X.w X.K X.mg X.base k f fd ps (spD X.w X.K X.mg n m)) (hr : Room k X.A) (hG : X.A.guards = some []) (hm : X.mg x = some (.ref f)) (hk : PySem.W.keepIn X.K (.ref f) = true)
    (hb : Binds X.K fd ps []) (tk : Takes X W) (ha : PDs X W (e :: es) rs) (hl : (e :: es).length = n := by rfl) (hg : Gl X x := by rfl) (hdb : (x == ("__debug__" : Str)) = false := by decide)
    (he : starEach (e :: es) X.env = (false, eval e X.env) :: starEach es X.env := by rfl) (hpl : (backTo pos (starEach es X.env)).any (·.1) = false := by rfl) :
    PD X W (.Call (.Name x p) (e :: es) [] pos) (rCall m rs) := by
  obtain ⟨t, pt, st⟩ := ha.ex
  refine ⟨tCallS (spD X.w X.K X.mg n m) (WE W) t, ⟨fun pins s σ H Q I h => wpAny_Call_Name_kw (ld_glob I hg hm ?_ hdb)⟩, fun α F σ H δ S Q hr hs h => ?_⟩
  · exact PySem.W.callWith_K (h₀ := X.base) I.ok.mod.kin hk (thn (pt.run pos pins s σ H _ I h) fun us s1 ⟨vs, H1, I1, r, q⟩ => ⟨I1.kIn, F.call hr hG hb tk I1 r q⟩) he hpl
  · refine st α F σ H δ S _ hr hs (wp.bind h fun ds S1 e1 xs H1 β F1 r1 q1 v1 h1 => ?_)
    exact ⟨by rw [v1.length, ha.len _ _ _ _ e1]; exact hl, α ++ β, F1, S1, ds, r1, v1, h1⟩
end
end DL
set_option Elab.async false
set_option linter.all false
set_option maxRecDepth 100000
set_option maxHeartbeats 4000000
set_option autoImplicit false
/-! Data layer, fourth part: tests, targets, statements, loops, comprehensions, defs. -/
namespace DL
open PySem PySem.Spec PyProof.Rows L2
section
variable {X : Cx} {W : WX} {a b c e : Expr} {es rest : List Expr} {ra rb rc : RE} {ba bb : RB} {rs : RA} {pos p : Pos} {wd : World} {K : Fg} {mg : Str → Option Value} {α β : List Addr} {F H : Hp} {S : Sto}
/-! ### built-in things by their values -/
def OkC (X : Cx) (r : List V → Hp → VK → Prop) (g : Sto → List D → Option D) : Prop := ∀ α F H S (xs : List V) (ds : List D) (z : D) (Q : VK), Rel X.w X.K X.mg α F H S → DVs X.w X.K X.mg F α xs ds → g S ds = some z →
  (∀ v H' β F', Rel X.w X.K X.mg (α ++ β) F' H' S → Stp α F H β F' H' → DV X.w X.K X.mg F' (α ++ β) v z → Q v H') → r xs H Q
theorem SndA.app {t : TA} {g : Sto → List D → Option D} {k : List V → Hp → VK → Prop} (sa : SndA wd K mg W t rs)
    (hk : ∀ α F H S (xs : List V) (ds : List D) (z : D) (Q : VK), Rel wd K mg α F H S → DVs wd K mg F α xs ds → g S ds = some z → (∀ v H' β F', Rel wd K mg (α ++ β) F' H' S → Stp α F H β F' H' → DV wd K mg F' (α ++ β) v z → Q v H') → k xs H Q) :
    SndE wd K mg W (fun σ H Q => t σ H fun xs H1 => k xs H1 Q) (rAs g rs) := by
  intro α F σ H δ S Q hr hs h
  refine sa α F σ H δ S _ hr hs (wp.bind h fun d S1 _ x H1 β F1 r1 s1 v1 h1 => ?_)
  obtain ⟨z, e1, h3⟩ := wp.lift h1
  exact hk (α ++ β) F1 H1 S1 x d z Q r1 v1 e1 fun v H' ε F' r3 s3 v3 => h3 v H' ε F' r3 s3 v3
/-- a built-in by its name, a class by its name -/
structure BiG (X : Cx) (f : Value) (g : Sto → List D → Option D) : Prop where
  ex : ∃ r, CallR X f r ∧ OkC X r g
theorem pd_callB {x : Str} {id : String} {g : Sto → List D → Option D} (hc : BiG X (.builtin id) g) (hm : X.mg x = none) (ha : PDs X W (e :: es) rs) (hg : Gl X x := by rfl) (hv : bootBuiltins x = some (.builtin id) := by decide +kernel) (hn : x ≠ "__name__" := by decide) (hdb : (x == ("__debug__" : Str)) = false := by decide)
    (he : starEach (e :: es) X.env = (false, eval e X.env) :: starEach es X.env := by rfl) (hpl : (backTo pos (starEach es X.env)).any (·.1) = false := by rfl) : PD X W (.Call (.Name x p) (e :: es) [] pos) (rAs g rs) := by
  obtain ⟨r, h1, h2⟩ := hc.ex
  obtain ⟨t, pt, st⟩ := ha.ex
  exact ⟨_, pe_callB h1 hg hm hv pt hn hdb he hpl, st.app h2⟩
theorem pd_callT {x : Str} {T : String} {g : Sto → List D → Option D} (hc : BiG X (.type T) g) (hm : X.mg x = none) (ha : PDs X W (e :: es) rs) (hg : Gl X x := by rfl) (hv : bootBuiltins x = some (.type T) := by decide +kernel) (hn : x ≠ "__name__" := by decide) (hdb : (x == ("__debug__" : Str)) = false := by decide)
    (he : starEach (e :: es) X.env = (false, eval e X.env) :: starEach es X.env := by rfl) (hpl : (backTo pos (starEach es X.env)).any (·.1) = false := by rfl) : PD X W (.Call (.Name x p) (e :: es) [] pos) (rAs g rs) := by
  obtain ⟨r, h1, h2⟩ := hc.ex
  obtain ⟨t, pt, st⟩ := ha.ex
  exact ⟨_, pe_callTy h1 hg hm hv pt hn hdb he hpl, st.app h2⟩
/-! ### what is seen through the store -/
/-- an owned thing, by what it holds -/
theorem Rel.owned (hr : Rel wd K mg α F H S) {k : Nat} {a : Addr} (h : α[k]? = some a) : S[k]? = some (S.getD k .non) ∧ Own wd K mg F α H a (S.getD k .non) ∧ ((S.getD k .non).open = true → F a = none) := by
  have hk : k < S.length := by rw [← hr.len]; exact (List.getElem?_eq_some_iff.mp h).1
  have e2 : S[k]? = some (S.getD k .non) := by rw [List.getD_eq_getElem?_getD]; simp [hk]
  exact ⟨e2, hr.own k a _ h e2⟩
inductive Seen (wd : World) (K : Fg) (mg : Str → Option Value) (F : Hp) (α : List Addr) (H : Hp) : V → D → Prop
  | at {v : V} {d : D} : DV wd K mg F α v d → (∀ k, d ≠ .ptr k) → Seen wd K mg F α H v d
  | dead {v : V} {k : Nat} : Seen wd K mg F α H v (.ptr k)
  | lst {a : Addr} {xs : List V} {ds : List D} : H a = some (.lst xs) → DVs wd K mg F α xs ds → Seen wd K mg F α H (.ref a) (.lst ds)
  | dct {a : Addr} {ws : List (Key × V)} {kvs : List (D × D)} : Rd H a (.dK ws) → DKs (ws.map (·.1)) (kvs.map (·.1)) → DVs wd K mg F α (ws.map (·.2)) (kvs.map (·.2)) → Seen wd K mg F α H (.ref a) (.dct kvs)
  | dcn {a : Addr} {xs : List (NestedKey × Addr × V)} {kvs : List (D × D)} : Rd H a (dN wd a xs) → NVs wd K mg F α xs kvs → Seen wd K mg F α H (.ref a) (.dcn kvs)
theorem Rel.see (hr : Rel wd K mg α F H S) {v : V} {d : D} (h : DV wd K mg F α v d) : Seen wd K mg F α H v (deref S d) := by
  cases d with
  | ptr k =>
    cases h with
    | ptr h =>
      obtain ⟨_, o, _⟩ := hr.owned h
      unfold deref
      dsimp only
      generalize hd : S.getD k .non = d at o
      cases d with
      | lst ds => obtain ⟨xs, h1, h2⟩ := o; exact .lst h1 h2
      | dct kvs => obtain ⟨ws, h1, h2, h3⟩ := o; exact .dct (.inl h1) h2 h3
      | dcn kvs => obtain ⟨ws, h1, h2⟩ := o; exact .dcn (.inl h1) h2
      | lck u =>
        cases u with
        | dct kvs => obtain ⟨o, ws, h0, h1, h2, h3⟩ := o; exact .dct (.inr ⟨o, h1⟩) h2 h3
        | dcn kvs => obtain ⟨o, ws, h0, h1, h2⟩ := o; exact .dcn (.inr ⟨o, h1⟩) h2
        | _ => exact o.elim
      | non => exact .dead
      | _ => exact o.elim
  | _ => exact .at h (fun k e => by cases e)
theorem Rel.viewL (hr : Rel wd K mg α F H S) {v : V} {d : D} {ds : List D} (h : DV wd K mg F α v d) (e : deref S d = .lst ds) : ∃ a xs, v = .ref a ∧ SqL K H a xs ∧ DVs wd K mg F α xs ds := by
  have s := hr.see h
  rw [e] at s
  cases s with
  | «at» h _ => cases h with | lst q t => exact ⟨_, _, rfl, hr.sub.sqL q, t⟩
  | lst q t => exact ⟨_, _, rfl, .inl (Rd.of q), t⟩
theorem Rel.viewT (hr : Rel wd K mg α F H S) {v : V} {d : D} {ds : List D} (h : DV wd K mg F α v d) (e : deref S d = .tup ds) : ∃ a xs, v = .ref a ∧ SqT K H a xs ∧ DVs wd K mg F α xs ds := by
  have s := hr.see h
  rw [e] at s
  cases s with
  | «at» h _ => cases h with | tup q t => exact ⟨_, _, rfl, hr.sub.sqT q.1, t⟩
theorem Rel.viewX (hr : Rel wd K mg α F H S) {v : V} {d : D} {ds : List D} (h : DV wd K mg F α v d) (e : deref S d = .tux ds) : ∃ a xs, v = .ref a ∧ SqT K H a xs ∧ DVs wd K mg F α xs ds := by
  have s := hr.see h
  rw [e] at s
  cases s with
  | «at» h _ => cases h with | tux q t => exact ⟨_, _, rfl, hr.sub.sqT q, t⟩
theorem Rel.viewI (hr : Rel wd K mg α F H S) {v : V} {d : D} {i : Int} (h : DV wd K mg F α v d) (e : deref S d = .int i) : v = .int i := by
  have s := hr.see h
  rw [e] at s
  cases s with
  | «at» h _ => cases h; rfl
theorem Rel.viewS (hr : Rel wd K mg α F H S) {v : V} {d : D} {i : Str} (h : DV wd K mg F α v d) (e : deref S d = .str i) : v = .str i := by
  have s := hr.see h
  rw [e] at s
  cases s with
  | «at» h _ => cases h; rfl
theorem DVs.isEmpty {xs : List V} {ds : List D} (h : DVs wd K mg F α xs ds) : ds.isEmpty = xs.isEmpty := by cases h <;> rfl
theorem Rel.truV (hr : Rel wd K mg α F H S) {v : V} {d : D} {k : Bool} (h : DV wd K mg F α v d) (e : truth S d = some k) : TruV K v H k := by
  have s := hr.see h
  unfold truth at e
  generalize deref S d = dd at e s
  cases s with
  | «at» h hp =>
    cases h with
    | non => cases e; rfl
    | bl b => cases e; rfl
    | int i => cases e; rfl
    | str x =>
      dsimp only at e
      split at e
      · rename_i hl; cases e; exact ⟨hl, rfl⟩
      · cases e
    | tup q t => cases e; exact .inr (.inl ⟨_, hr.sub.sqT q.1, by rw [t.isEmpty]⟩)
    | tux q t => cases e
    | lst q t => cases e; exact .inl ⟨_, hr.sub.sqL q, by rw [t.isEmpty]⟩
    | ptr _ => exact absurd rfl (hp _)
    | fn _ => cases e
    | ty _ => cases e
    | exc _ _ _ _ _ => cases e
  | dead => cases e
  | lst q t => cases e; exact .inl ⟨_, SqL.of q, by rw [t.isEmpty]⟩
  | dct h k t => cases e
  | dcn h t => cases e
/-! ### tests -/
theorem pb_tru (ha : PD X W a ra) (he : ∀ whole, isTrue a X.env whole = (do let v ← whole; standAt a.pos; holding [v] (truthy v)) := by intro _; rfl) : PB X W a (bTru ra) := by
  obtain ⟨ta, pa, sa⟩ := ha.ex
  refine ⟨_, pt_truth pa he, fun α F σ H δ S Q hr hs h => ?_⟩
  refine sa α F σ H δ S _ hr hs (wp.bind h fun d S1 _ x H1 β F1 r1 s1 v1 h1 => ?_)
  obtain ⟨k, e1, h2⟩ := wp.lift h1
  exact ⟨k, r1.truV v1 e1, h2.now r1 rfl⟩
theorem SndB.and {t u : TT} (s1 : SndB wd K mg W t ba) (s2 : SndB wd K mg W u bb) : SndB wd K mg W (tAnd t u) (bAnd ba bb) := by
  intro α F σ H δ S Q hr hs h
  refine s1 α F σ H δ S _ hr hs (wp.bind h fun d S1 _ x H1 β F1 r1 q1 v1 h1 => ?_)
  have e : x = d := v1
  subst e
  cases x with
  | true => exact s2 (α ++ β) F1 σ H1 δ S1 Q r1 (hs.mono q1.sub) h1
  | false => exact h1.now r1 rfl
theorem SndB.or {t u : TT} (s1 : SndB wd K mg W t ba) (s2 : SndB wd K mg W u bb) : SndB wd K mg W (tOr t u) (bOr ba bb) := by
  intro α F σ H δ S Q hr hs h
  refine s1 α F σ H δ S _ hr hs (wp.bind h fun d S1 _ x H1 β F1 r1 q1 v1 h1 => ?_)
  have e : x = d := v1
  subst e
  cases x with
  | false => exact s2 (α ++ β) F1 σ H1 δ S1 Q r1 (hs.mono q1.sub) h1
  | true => exact h1.now r1 rfl
theorem pw_or1D (ha : PB X W a ba) : PBw X W (.BoolOp .Or [a] pos) ba := let ⟨t, h, s⟩ := ha.ex; ⟨t, pw_or1 h, s⟩
theorem pw_orD (ha : PB X W a ba) (hb : PBw X W (.BoolOp .Or (b :: rest) pos) bb) : PBw X W (.BoolOp .Or (a :: b :: rest) pos) (bOr ba bb) := by
  obtain ⟨t, h1, s1⟩ := ha.ex
  obtain ⟨u, h2, s2⟩ := hb.ex
  exact ⟨_, pw_or h1 h2, s1.or s2⟩
theorem pb_w (h : PBw X W a ba) : PB X W a ba := let ⟨t, p, s⟩ := h.ex; ⟨t, p.pt, s⟩
theorem pb_not (ha : PB X W a ba) : PB X W (.UnaryOp .Not a pos) (bNot ba) := by
  obtain ⟨t, h, s⟩ := ha.ex
  refine ⟨_, pt_not h, fun α F σ H δ S Q hr hs h => ?_⟩
  refine s α F σ H δ S _ hr hs (wp.bind h fun d S1 _ x H1 β F1 r1 q1 v1 h1 => ?_)
  have e : x = d := v1
  subst e
  exact h1.now r1 rfl
/-- a < b <= c -/
def rChain (g g' : Sto → D → D → Option D) (ra rb rc : RE) : RE := fun δ S => (ra δ S).bind fun x S1 => (rb δ S1).bind fun y S2 => (Res.lift (g S2 x y) S2).bind fun z S3 => match z with
  | .bl true => (rc δ S3).bind fun u S4 => .lift (g' S4 y u) S4
  | .bl false => .ok (.bl false) S3
  | _ => .stuck
theorem pd_chain2 {op op' : CmpOp} {g g' : Sto → D → D → Option D} (ho : OpG X (compareOp op) g) (ho' : OpG X (compareOp op') g') (ha : PD X W a ra) (hb : PD X W b rb) (hc : PD X W c rc) (hm : lastMarks [op, op'] [b, c] = false := by with_unfolding_all rfl) :
    PD X W (.Compare a [op, op'] [b, c] pos) (rChain g g' ra rb rc) ∧ PB X W (.Compare a [op, op'] [b, c] pos) (bVal (rChain g g' ra rb rc)) := by
  obtain ⟨r, h1, h2⟩ := ho.ex
  obtain ⟨r', h1', h2'⟩ := ho'.ex
  obtain ⟨ta, pa, sa⟩ := ha.ex
  obtain ⟨tb, pb, sb⟩ := hb.ex
  obtain ⟨tc, pc, sc⟩ := hc.ex
  suffices q : SndE X.w X.K X.mg W (tChain r r' ta tb tc) (rChain g g' ra rb rc) from ⟨⟨_, pe_chain h1 h1' pa pb pc hm, q⟩, ⟨_, pt_chain h1 h1' pa pb pc hm, q.val⟩⟩
  intro α F σ H δ S Q hr hs h
  refine sa α F σ H δ S _ hr hs (wp.bind h fun d S1 _ x H1 β F1 r1 s1 v1 q1 => ?_)
  refine sb (α ++ β) F1 σ H1 δ S1 _ r1 (hs.mono s1.sub) (wp.bind q1 fun e S2 _ y H2 γ F2 r2 s2 v2 q2 => ?_)
  cases eg : g S2 d e with
  | none => rw [eg] at q2; exact q2.elim
  | some z =>
    rw [eg] at q2
    refine h2 (α ++ β ++ γ) F2 H2 S2 x y d e z _ r2 (v1.mono s2.sub) v2 eg fun v H3 ε F3 r3 s3 v3 => ?_
    have q3 := wp.step s3 q2
    cases z with
    | bl k =>
      cases v3
      refine ⟨k, rfl, ?_⟩
      cases k with
      | false => exact q3.now r3 (.bl false)
      | true =>
        refine sc (α ++ β ++ γ ++ ε) F3 σ H3 δ S2 _ r3 (((hs.mono s1.sub).mono s2.sub).mono s3.sub) (wp.bind q3 fun u S4 _ w H4 ζ F4 r4 s4 v4 q4 => ?_)
        obtain ⟨z', e', q5⟩ := wp.lift q4
        exact h2' _ F4 H4 S4 y w e u z' Q r4 ((v2.mono s3.sub).mono s4.sub) v4 e' fun v H' ε F' r3 s3 v3 => q5 v H' ε F' r3 s3 v3
    | _ => exact q3.elim
/-! ### and, or, not, if as values -/
theorem pd_if (hc : PB X W c ba) (ha : PD X W a ra) (hb : PD X W b rb) : PD X W (.IfExp c a b pos) (rIf ba ra rb) := by
  obtain ⟨tc, pc, sc⟩ := hc.ex
  obtain ⟨ta, pa, sa⟩ := ha.ex
  obtain ⟨tb, pb, sb⟩ := hb.ex
  refine ⟨_, pe_ifExp pc pa pb, fun α F σ H δ S Q hr hs h => ?_⟩
  refine sc α F σ H δ S _ hr hs (wp.bind h fun d S1 _ x H1 β F1 r1 q1 v1 h1 => ?_)
  have e : x = d := v1
  subst e
  cases x with
  | true => exact sa (α ++ β) F1 σ H1 δ S1 Q r1 (hs.mono q1.sub) h1
  | false => exact sb (α ++ β) F1 σ H1 δ S1 Q r1 (hs.mono q1.sub) h1
theorem pd_one {op : BoolOp} (ha : PD X W a ra) : PD X W (.BoolOp op [a] pos) ra := let ⟨t, h, s⟩ := ha.ex; ⟨t, pe_one h, s⟩
theorem pd_or (ha : PD X W a ra) (hb : PD X W (.BoolOp .Or (b :: rest) pos) rb) : PD X W (.BoolOp .Or (a :: b :: rest) pos) (rOr ra rb) := by
  obtain ⟨ta, pa, sa⟩ := ha.ex
  obtain ⟨tb, pb, sb⟩ := hb.ex
  refine ⟨_, pe_orT pa pb, fun α F σ H δ S Q hr hs h => ?_⟩
  refine sa α F σ H δ S _ hr hs (wp.bind h fun d S1 _ x H1 β F1 r1 q1 v1 h1 => ?_)
  cases e : truth S1 d with
  | none => rw [e] at h1; exact h1.elim
  | some k =>
    rw [e] at h1
    refine ⟨k, r1.truV v1 e, ?_⟩
    cases k with
    | true => exact h1.now r1 v1
    | false => exact sb (α ++ β) F1 σ H1 δ S1 Q r1 (hs.mono q1.sub) h1
theorem pd_and (ha : PD X W a ra) (hb : PD X W (.BoolOp .And (b :: rest) pos) rb) : PD X W (.BoolOp .And (a :: b :: rest) pos) (rAnd ra rb) := by
  obtain ⟨ta, pa, sa⟩ := ha.ex
  obtain ⟨tb, pb, sb⟩ := hb.ex
  refine ⟨_, pe_andT pa pb, fun α F σ H δ S Q hr hs h => ?_⟩
  refine sa α F σ H δ S _ hr hs (wp.bind h fun d S1 _ x H1 β F1 r1 q1 v1 h1 => ?_)
  cases e : truth S1 d with
  | none => rw [e] at h1; exact h1.elim
  | some k =>
    rw [e] at h1
    refine ⟨k, r1.truV v1 e, ?_⟩
    cases k with
    | false => exact h1.now r1 v1
    | true => exact sb (α ++ β) F1 σ H1 δ S1 Q r1 (hs.mono q1.sub) h1
theorem pd_not (ha : PD X W a ra) : PD X W (.UnaryOp .Not a pos) (rNot ra) := by
  obtain ⟨ta, pa, sa⟩ := ha.ex
  refine ⟨_, pe_notT pa, fun α F σ H δ S Q hr hs h => ?_⟩
  refine sa α F σ H δ S _ hr hs (wp.bind h fun d S1 _ x H1 β F1 r1 q1 v1 h1 => ?_)
  cases e : truth S1 d with
  | none => rw [e] at h1; exact h1.elim
  | some k =>
    rw [e] at h1
    exact ⟨k, r1.truV v1 e, h1.now r1 (.bl _)⟩
end
end DL
set_option Elab.async false
set_option linter.all false
set_option maxRecDepth 100000
set_option maxHeartbeats 4000000
set_option autoImplicit false
/-! Data layer, fifth part: targets, statements, loops, comprehensions, defs. -/
namespace DL
open PySem PySem.Spec PyProof.Rows L2
def relS (wd : World) (K : Fg) (mg : Str → Option Value) : RelT L2.St Sl := fun F α σ δ => Slots wd K mg F α σ δ
def SndG (wd : World) (K : Fg) (mg : Str → Option Value) (W : WX) (t : TG) (g : RG) : Prop := ∀ α F σ H δ S v d (Q : L2.St → Hp → Prop), Rel wd K mg α F H S → Slots wd K mg F α σ δ → DV wd K mg F α v d → wp wd K mg α F H (relS wd K mg) (g d δ S) Q (fun c d H' => W c d σ H') → t v σ H Q
def SndGs (wd : World) (K : Fg) (mg : Str → Option Value) (W : WX) (t : TGs) (g : List D → Sl → Sto → Res Sl) : Prop := ∀ α F σ H δ S v d (Q : L2.St → Hp → Prop), Rel wd K mg α F H S → Slots wd K mg F α σ δ → DVs wd K mg F α v d → wp wd K mg α F H (relS wd K mg) (g d δ S) Q (fun c d H' => W c d σ H') → t v σ H Q
structure PGd (X : Cx) (W : WX) (tg : Expr) (g : RG) : Prop where
  ex : ∃ t, PG X tg t ∧ SndG X.w X.K X.mg W t g
/-- .. that raises nothing -/
structure PGn (X : Cx) (W : WX) (tg : Expr) (g : RG) : Prop where
  pg : PGd X W tg g
  ne : ∀ d δ S c fs S', g d δ S ≠ .err c fs S'
structure PGds (X : Cx) (W : WX) (tg : List Expr) (g : List D → Sl → Sto → Res Sl) : Prop where
  ex : ∃ t, PGs X tg t ∧ SndGs X.w X.K X.mg W t g
  ne : ∀ d δ S c fs S', g d δ S ≠ .err c fs S'
  len : ∀ ds δ S δ' S', g ds δ S = .ok δ' S' → ds.length = tg.length
def wpS (wd : World) (K : Fg) (mg : Str → Option Value) (α : List Addr) (F H : Hp) (o : Out) (E : Ends) (W : WX) : Prop := match o with
  | .nx δ S => ∀ σ' H' β F', Rel wd K mg (α ++ β) F' H' S → Stp α F H β F' H' → Slots wd K mg F' (α ++ β) σ' δ → E.nx σ' H'
  | .rt d S => ∀ v H' β F', Rel wd K mg (α ++ β) F' H' S → Stp α F H β F' H' → DV wd K mg F' (α ++ β) v d → E.rt v H'
  | .bk δ S => ∀ σ' H' β F', Rel wd K mg (α ++ β) F' H' S → Stp α F H β F' H' → Slots wd K mg F' (α ++ β) σ' δ → E.bk σ' H'
  | .ct δ S => ∀ σ' H' β F', Rel wd K mg (α ++ β) F' H' S → Stp α F H β F' H' → Slots wd K mg F' (α ++ β) σ' δ → E.ct σ' H'
  | .err c fs δ S => ∀ cls dd σ' H' β F', Rel wd K mg (α ++ β) F' H' S → Stp α F H β F' H' → Slots wd K mg F' (α ++ β) σ' δ → ErrAt wd K mg F' (α ++ β) c fs cls dd H' → W cls dd σ' H'
  | .stuck => False
def SndS (wd : World) (K : Fg) (mg : Str → Option Value) (W : WX) (t : TS) (r : RS) : Prop := ∀ α F σ H δ S (E : Ends), Rel wd K mg α F H S → Slots wd K mg F α σ δ → wpS wd K mg α F H (r δ S) E W → t E σ H
structure PSd (X : Cx) (W : WX) (st : Stmt) (r : RS) : Prop where
  ex : ∃ t, PS X st t ∧ SndS X.w X.K X.mg W t r
structure PSds (X : Cx) (W : WX) (st : List Stmt) (r : RS) : Prop where
  ex : ∃ t, PSs X st t ∧ SndS X.w X.K X.mg W t r
section
variable {X : Cx} {W : WX} {a b c e : Expr} {es rest : List Expr} {ra rb rc : RE} {ba bb : RB} {rs : RA} {pos p : Pos} {wd : World} {K : Fg} {mg : Str → Option Value} {α β : List Addr} {F F1 H H1 : Hp} {S : Sto}
theorem wpS.step {o : Out} {E : Ends} (st : Stp α F H β F1 H1) (h : wpS wd K mg α F H o E W) : wpS wd K mg (α ++ β) F1 H1 o E W := by
  cases o with
  | nx δ S => intro σ' H' γ F' hr hs hv; rw [List.append_assoc] at hr hv; exact h σ' H' (β ++ γ) F' hr (st.trans hs) hv
  | rt d S => intro σ' H' γ F' hr hs hv; rw [List.append_assoc] at hr hv; exact h σ' H' (β ++ γ) F' hr (st.trans hs) hv
  | bk δ S => intro σ' H' γ F' hr hs hv; rw [List.append_assoc] at hr hv; exact h σ' H' (β ++ γ) F' hr (st.trans hs) hv
  | ct δ S => intro σ' H' γ F' hr hs hv; rw [List.append_assoc] at hr hv; exact h σ' H' (β ++ γ) F' hr (st.trans hs) hv
  | err c fs δ S => intro cls dd σ' H' γ F' hr hs hv q; rw [List.append_assoc] at hr hv q; exact h cls dd σ' H' (β ++ γ) F' hr (st.trans hs) hv q
  | stuck => exact h
theorem wpS.out {A B : Type} {rel : RelT B A} {r : Res A} {δ : Sl} {f : A → Sto → Out} {E : Ends} {Q : B → Hp → Prop} {σ : L2.St} (h : wpS wd K mg α F H (r.out δ f) E W) (hs : Slots wd K mg F α σ δ)
    (k : ∀ a S1, r = .ok a S1 → ∀ x H1 β F1, Rel wd K mg (α ++ β) F1 H1 S1 → Stp α F H β F1 H1 → rel F1 (α ++ β) x a → wpS wd K mg (α ++ β) F1 H1 (f a S1) E W → Q x H1) : wp wd K mg α F H rel r Q (fun c d H' => W c d σ H') := by
  cases r with
  | ok a S' => exact fun b H' β F' hr st hv => k a S' rfl b H' β F' hr st hv (wpS.step st h)
  | err c fs S' => exact fun cls dd H' β F' hr st q => h cls dd σ H' β F' hr st (hs.mono st.sub) q
  | stuck => exact h
theorem wpS.nx {δ : Sl} {E : Ends} {σ : L2.St} (h : wpS wd K mg α F H (.nx δ S) E W) (hr : Rel wd K mg α F H S) (hs : Slots wd K mg F α σ δ) : E.nx σ H := by
  have e : α ++ [] = α := List.append_nil α
  exact h σ H [] F (by rw [e]; exact hr) Stp.refl (by rw [e]; exact hs)
theorem wpS.rt {d : D} {E : Ends} {v : V} (h : wpS wd K mg α F H (.rt d S) E W) (hr : Rel wd K mg α F H S) (hv : DV wd K mg F α v d) : E.rt v H := by
  have e : α ++ [] = α := List.append_nil α
  exact h v H [] F (by rw [e]; exact hr) Stp.refl (by rw [e]; exact hv)
theorem wpS.bk {δ : Sl} {E : Ends} {σ : L2.St} (h : wpS wd K mg α F H (.bk δ S) E W) (hr : Rel wd K mg α F H S) (hs : Slots wd K mg F α σ δ) : E.bk σ H := by
  have e : α ++ [] = α := List.append_nil α
  exact h σ H [] F (by rw [e]; exact hr) Stp.refl (by rw [e]; exact hs)
theorem wpS.ct {δ : Sl} {E : Ends} {σ : L2.St} (h : wpS wd K mg α F H (.ct δ S) E W) (hr : Rel wd K mg α F H S) (hs : Slots wd K mg F α σ δ) : E.ct σ H := by
  have e : α ++ [] = α := List.append_nil α
  exact h σ H [] F (by rw [e]; exact hr) Stp.refl (by rw [e]; exact hs)
/-! ### targets -/
theorem pgd_name (i : Nat) {x : Str} (hN : X.N.Nodup) (hi : X.N[i]? = some x := by rfl) (hx : Loc X.env.scope x := by first | exact Or.inl rfl | exact Or.inr rfl) (hf : X.fn x = true ∨ X.env.scope.names.lookup x = some .local := by first | exact .inl rfl | exact .inr rfl | assumption) : PGn X W (.Name x pos) (gName i) := by
  refine ⟨⟨_, pg_name hN hi hx hf, fun α F σ H δ S v d Q hr hs hv h => ?_⟩, fun d δ S c fs S' h => by unfold gName at h; split at h <;> cases h⟩
  unfold gName at h
  split at h
  · exact h.now hr (hs.set hv)
  · exact h.elim
theorem pgds_nil : PGds X W [] gNil := by
  refine ⟨⟨_, pgs_nil, fun α F σ H δ S v d Q hr hs hv h => ?_⟩, fun d δ S c fs S' h => ?_, fun ds δ S δ' S' h => ?_⟩
  · cases hv with
    | nil => exact ⟨rfl, h.now hr hs⟩
    | cons _ _ => exact h.elim
  · cases d <;> cases h
  · cases ds with
    | nil => rfl
    | cons _ _ => cases h
theorem pgds_cons {g : RG} {u : List D → Sl → Sto → Res Sl} (h1 : PGn X W e g) (h2 : PGds X W es u) (hsy : (assignEach (e :: es) X.env).map (·.2) = assign e X.env :: (assignEach es X.env).map (·.2) := by rfl) : PGds X W (e :: es) (gCons g u) := by
  obtain ⟨t, p1, s1⟩ := h1.pg.ex
  obtain ⟨t', p2, s2⟩ := h2.ex
  refine ⟨⟨_, pgs_cons p1 p2 hsy, fun α F σ H δ S v d Q hr hs hv h => ?_⟩, fun d δ S c fs S' h => ?_, fun ds δ S δ' S' h => ?_⟩
  · cases hv with
    | nil => exact h.elim
    | cons hv ht =>
      rename_i v d vs ds
      refine ⟨v, vs, rfl, s1 α F σ H δ S v d _ hr hs hv (wp.bind h fun δ1 S1 _ σ1 H1 β F1 r1 q1 hs1 h1 => ?_)⟩
      refine s2 (α ++ β) F1 σ1 H1 δ1 S1 vs ds Q r1 hs1 (ht.mono q1.sub) ?_
      cases q : u ds δ1 S1 with
      | ok a S' => rw [q] at h1; exact h1
      | err c fs S' => exact absurd q (h2.ne _ _ _ _ _ _)
      | stuck => rw [q] at h1; exact h1
  · cases d with
    | nil => cases h
    | cons d r =>
      have h' : (g d δ S).bind (fun δ1 S1 => u r δ1 S1) = .err c fs S' := h
      cases q : g d δ S with
      | ok a S1 => rw [q] at h'; exact h2.ne _ _ _ _ _ _ h'
      | err c fs S1 => exact h1.ne _ _ _ _ _ _ q
      | stuck => rw [q] at h'; cases h'
  · cases ds with
    | nil => cases h
    | cons d r =>
      have h' : (g d δ S).bind (fun δ1 S1 => u r δ1 S1) = .ok δ' S' := h
      cases q : g d δ S with
      | ok a S1 => rw [q] at h'; rw [List.length_cons, List.length_cons, h2.len _ _ _ _ _ h']
      | err c fs S1 => rw [q] at h'; cases h'
      | stuck => rw [q] at h'; cases h'
theorem pgn_tup {k : Nat} {u : List D → Sl → Sto → Res Sl} (hc : X.calm = true) (h : PGds X W es u) (hn : (assignEach es X.env).length = es.length := by rfl) (hst : (assignEach es X.env).findIdx? (·.1) = none := by rfl) : PGn X W (.Tuple es k pos) (gTup u) := by
  obtain ⟨t, p1, s1⟩ := h.ex
  refine ⟨⟨_, pg_tup hc p1 hn hst, fun α F σ H δ S v d Q hr hs hv h0 => ?_⟩, fun d δ S c fs S' h0 => ?_⟩
  · unfold gTup at h0
    cases q : deref S d with
    | tup ds =>
      rw [q] at h0
      dsimp only at h0
      obtain ⟨a, xs, e1, e2, e3⟩ := hr.viewT hv q
      have len : ds.length = es.length := by
        cases q2 : u ds δ S with
        | ok δ' S' => exact h.len _ _ _ _ _ q2
        | err c fs S' => exact absurd q2 (h.ne _ _ _ _ _ _)
        | stuck => rw [q2] at h0; exact h0.elim
      exact ⟨a, xs, e1, e2, by rw [e3.length]; exact len, s1 α F σ H δ S xs ds Q hr hs e3 h0⟩
    | tux ds =>
      rw [q] at h0
      dsimp only at h0
      obtain ⟨a, xs, e1, e2, e3⟩ := hr.viewX hv q
      have len : ds.length = es.length := by
        cases q2 : u ds δ S with
        | ok δ' S' => exact h.len _ _ _ _ _ q2
        | err c fs S' => exact absurd q2 (h.ne _ _ _ _ _ _)
        | stuck => rw [q2] at h0; exact h0.elim
      exact ⟨a, xs, e1, e2, by rw [e3.length]; exact len, s1 α F σ H δ S xs ds Q hr hs e3 h0⟩
    | _ => rw [q] at h0; exact h0.elim
  · unfold gTup at h0
    cases q : deref S d with
    | tup ds => rw [q] at h0; exact h.ne _ _ _ _ _ _ h0
    | tux ds => rw [q] at h0; exact h.ne _ _ _ _ _ _ h0
    | _ => rw [q] at h0; cases h0
/-! ### statements -/
theorem psds_nil : PSds X W [] sNext := ⟨_, pss_nil, fun α F σ H δ S E hr hs h => h.nx hr hs⟩
theorem psds_cons {st : Stmt} {sts : List Stmt} {r u : RS} (h1 : PSd X W st r) (h2 : PSds X W sts u) : PSds X W (st :: sts) (sSeq r u) := by
  obtain ⟨t, p1, s1⟩ := h1.ex
  obtain ⟨t', p2, s2⟩ := h2.ex
  refine ⟨_, pss_cons p1 p2, fun α F σ H δ S E hr hs h => ?_⟩
  refine s1 α F σ H δ S _ hr hs ?_
  unfold sSeq at h
  cases q : r δ S with
  | nx δ1 S1 =>
    rw [q] at h
    exact fun σ' H' β F' r1 q1 hs1 => s2 (α ++ β) F' σ' H' δ1 S1 E r1 hs1 (wpS.step q1 h)
  | rt d S1 => rw [q] at h; exact h
  | bk δ S1 => rw [q] at h; exact h
  | ct δ S1 => rw [q] at h; exact h
  | err c fs δ S1 => rw [q] at h; exact h
  | stuck => rw [q] at h; exact h
theorem psds_one {st : Stmt} {r : RS} (h1 : PSd X W st r) : PSds X W [st] r := let ⟨t, p, s⟩ := h1.ex; ⟨t, pss_one p, s⟩
theorem psd_cont : PSd X W (.Continue pos) sCont := ⟨_, ps_continue, fun α F σ H δ S E hr hs h => h.ct hr hs⟩
theorem psd_expr (ha : PD X W e ra) (hsw : swapsWith e none pos.line X.env = pure false := by rfl) : PSd X W (.Expr e pos) (sExpr ra) := by
  obtain ⟨t, p1, s1⟩ := ha.ex
  refine ⟨_, ps_expr p1 hsw, fun α F σ H δ S E hr hs h => ?_⟩
  exact s1 α F σ H δ S _ hr hs (wpS.out h hs fun d S1 _ x H1 β F1 r1 q1 v1 h1 => h1.nx r1 (hs.mono q1.sub))
theorem psd_ret (ha : PD X W e ra) : PSd X W (.Return (some e) pos) (sRet ra) := by
  obtain ⟨t, p1, s1⟩ := ha.ex
  refine ⟨_, ps_ret p1, fun α F σ H δ S E hr hs h => ?_⟩
  exact s1 α F σ H δ S _ hr hs (wpS.out h hs fun d S1 _ x H1 β F1 r1 q1 v1 h1 => h1.rt r1 v1)
theorem psd_if {p q : List Stmt} {t u : RS} (hc : PB X W c ba) (ha : PSds X W p t) (hb : PSds X W q u) : PSd X W (.If c p q pos) (sIf ba t u) := by
  obtain ⟨tc, p0, s0⟩ := hc.ex
  obtain ⟨t', p1, s1⟩ := ha.ex
  obtain ⟨u', p2, s2⟩ := hb.ex
  refine ⟨_, ps_if p0 p1 p2, fun α F σ H δ S E hr hs h => ?_⟩
  refine s0 α F σ H δ S _ hr hs (wpS.out h hs fun d S1 _ x H1 β F1 r1 q1 v1 h1 => ?_)
  have e : x = d := v1
  subst e
  cases x with
  | true => exact s1 (α ++ β) F1 σ H1 δ S1 E r1 (hs.mono q1.sub) h1
  | false => exact s2 (α ++ β) F1 σ H1 δ S1 E r1 (hs.mono q1.sub) h1
theorem psd_asg {tg : Expr} {g : RG} (he : PD X W e ra) (hg : PGd X W tg g) (hsw : swapsWithSole [tg] e pos.line X.env = pure false := by rfl) (hw : swappedStores [tg] e X.env = pure none := by rfl) (h1 : (assignEach [tg] X.env).map (·.2) = [assign tg X.env] := by rfl) : PSd X W (.Assign [tg] e pos) (sAsg ra g) := by
  obtain ⟨t, p1, s1⟩ := he.ex
  obtain ⟨tg', p2, s2⟩ := hg.ex
  refine ⟨_, ps_asg p1 p2 hsw hw h1, fun α F σ H δ S E hr hs h => ?_⟩
  refine s1 α F σ H δ S _ hr hs (wpS.out h hs fun d S1 _ x H1 β F1 r1 q1 v1 h1 => ?_)
  refine s2 (α ++ β) F1 σ H1 δ S1 x d _ r1 (hs.mono q1.sub) v1 (wpS.out h1 (hs.mono q1.sub) fun δ1 S2 _ σ1 H2 γ F2 r2 q2 v2 h2 => ?_)
  exact h2.nx r2 v2
/-! ### loops -/
/-- J walks ds, whatever else is laid -/
structure ItOk (wd : World) (K : Fg) (mg : Str → Option Value) (F : Hp) (α : List Addr) (J : It) (ds : List D) : Prop where
  go : ∀ (F' H' : Hp) (i : Nat), Sub F F' → Sub F' H' → i < ds.length → J.go i H'
  stop : ∀ (F' H' : Hp), Sub F F' → Sub F' H' → J.stop ds.length H'
  yld : ∀ (F' H' H2 : Hp) (i : Nat) (x : V) (d : D), Sub F F' → Sub F' H' → ds[i]? = some d → J.yld i H' x H2 → (H2 = H' ∧ DV wd K mg F' α x d) ∨ ∃ T o, H' T = none ∧ H2 = upd H' T o ∧ DV wd K mg (upd F' T o) α x d
theorem ItOk.mono {J : It} {ds : List D} (h : ItOk wd K mg F α J ds) (s : Sub F F1) : ItOk wd K mg F1 (α ++ β) J ds where
  go := fun F' H' i a b => h.go F' H' i (s.trans a) b
  stop := fun F' H' a b => h.stop F' H' (s.trans a) b
  yld := fun F' H' H2 i x d a b c q => (h.yld F' H' H2 i x d (s.trans a) b c q).imp (fun ⟨z, y⟩ => ⟨z, y.mono (Sub.refl _)⟩) fun ⟨T, o, z1, z2, y⟩ => ⟨T, o, z1, z2, y.mono (Sub.refl _)⟩
def relI (wd : World) (K : Fg) (mg : Str → Option Value) : RelT It (List D) := fun F α J ds => ItOk wd K mg F α J ds
def SndI (wd : World) (K : Fg) (mg : Str → Option Value) (W : WX) (t : TI) (r : RA) : Prop := ∀ α F σ H δ S (Q : It → Hp → Prop), Rel wd K mg α F H S → Slots wd K mg F α σ δ → wp wd K mg α F H (relI wd K mg) (r δ S) Q (fun c d H' => W c d σ H') → t σ H Q
structure PId (X : Cx) (W : WX) (tg iter : Expr) (r : RA) : Prop where
  ex : ∃ t, PI X tg iter t ∧ SndI X.w X.K X.mg W t r
/-- the item that came -/
theorem ItOk.came {J : It} {ds : List D} {H2 : Hp} {i : Nat} {x : V} {d : D} (h : ItOk wd K mg F α J ds) (hr : Rel wd K mg α F H S) (hd : ds[i]? = some d) (q : J.yld i H x H2) :
    ∃ F2, Rel wd K mg (α ++ []) F2 H2 S ∧ Stp α F H [] F2 H2 ∧ DV wd K mg F2 (α ++ []) x d := by
  rcases h.yld F H H2 i x d (Sub.refl F) hr.sub hd q with ⟨e, v⟩ | ⟨T, o, e1, e2, v⟩
  · subst e
    refine ⟨F, ?_, Stp.refl, v.mono (Sub.refl F)⟩
    rw [List.append_nil]; exact hr
  · subst e2
    obtain ⟨a1, a2⟩ := hr.newF (o := o) e1
    exact ⟨_, a1, a2, v.mono (Sub.refl _)⟩
theorem drop_cons {A : Type} {l : List A} {i : Nat} {d : A} (h : l[i]? = some d) : l.drop i = d :: l.drop (i + 1) := by
  obtain ⟨hi, e⟩ := List.getElem?_eq_some_iff.mp h
  rw [List.drop_eq_getElem_cons hi, e]
theorem psd_for {tg iter : Expr} {body : List Stmt} {ri : RA} {g : RG} {r : RS} (hp : PassesOwn (model X.prog X.w) X.A X.env X.xe) (hc : X.calm = true) (hi : PId X W tg iter ri) (hg : PGd X W tg g) (hb : PSds X W body r) (hsx : ∀ x, foldedSetIterable iter X.env x = pure x := by intro _; rfl) : PSd X W (.For tg iter body [] pos) (sFor ri g r) := by
  obtain ⟨ti, p1, s1⟩ := hi.ex
  obtain ⟨tg', p2, s2⟩ := hg.ex
  obtain ⟨tb, p3, s3⟩ := hb.ex
  refine ⟨_, ps_for hp hc p1 p2 p3 hsx, fun α F σ H δ S E hr hs h => ?_⟩
  refine s1 α F σ H δ S _ hr hs (wpS.out h hs fun ds S1 _ J H1 β F1 r1 q1 v1 h1 => ?_)
  have v1 : ItOk X.w X.K X.mg F1 (α ++ β) J ds := v1
  refine ⟨fun i m σ' H' => i + m = ds.length ∧ ∃ γ F' δ' S', Rel X.w X.K X.mg (α ++ β ++ γ) F' H' S' ∧ Sub F1 F' ∧ Slots X.w X.K X.mg F' (α ++ β ++ γ) σ' δ' ∧ wpS X.w X.K X.mg (α ++ β ++ γ) F' H' (forL g r (ds.drop i) δ' S') E W, ⟨ds.length, by omega, [], F1, δ, S1, ?_⟩, fun i m σ' H' ⟨hm, γ, F', δ', S', r2, sb, hs2, h2⟩ => ?_⟩
  · rw [List.append_nil]
    exact ⟨r1, Sub.refl _, hs.mono q1.sub, h1⟩
  · have v2 : ItOk X.w X.K X.mg F' (α ++ β ++ γ) J ds := v1.mono sb
    by_cases hlt : i < ds.length
    · obtain ⟨d, hd⟩ : ∃ d, ds[i]? = some d := ⟨_, List.getElem?_eq_getElem hlt⟩
      refine .inr ⟨v2.go F' H' i (Sub.refl _) r2.sub hlt, fun σ2 H2 => ∃ γ F' δ' S', Rel X.w X.K X.mg (α ++ β ++ γ) F' H2 S' ∧ Sub F1 F' ∧ Slots X.w X.K X.mg F' (α ++ β ++ γ) σ2 δ' ∧ wpS X.w X.K X.mg (α ++ β ++ γ) F' H2 (forL g r (ds.drop (i + 1)) δ' S') E W, fun σ2 H2 z => ⟨m - 1, by omega, by omega, z⟩, fun x H2 hy => ?_⟩
      obtain ⟨F2, r3, q3, v3⟩ := v2.came r2 hd hy
      rw [drop_cons hd] at h2
      have h3 := wpS.step q3 h2
      refine s2 (α ++ β ++ γ ++ []) F2 σ' H2 δ' S' x d _ r3 (hs2.mono q3.sub) v3 (wpS.out h3 (hs2.mono q3.sub) fun δ1 S2 _ σ1 H3 ε F3 r4 q4 v4 h4 => ?_)
      refine s3 (α ++ β ++ γ ++ [] ++ ε) F3 σ1 H3 δ1 S2 _ r4 v4 ?_
      have sb3 : Sub F1 F3 := (sb.trans q3.sub).trans q4.sub
      have ass : ∀ ζ : List Addr, α ++ β ++ γ ++ [] ++ ε ++ ζ = α ++ β ++ (γ ++ ε ++ ζ) := fun ζ => by simp [List.append_assoc]
      cases q : r δ1 S2 with
      | nx δ2 S3 =>
        rw [q] at h4
        intro σ4 H4 ζ F4 r5 q5 v5
        have h5 := wpS.step q5 h4
        rw [ass] at r5 v5 h5
        exact ⟨_, F4, δ2, S3, r5, sb3.trans q5.sub, v5, h5⟩
      | ct δ2 S3 =>
        rw [q] at h4
        intro σ4 H4 ζ F4 r5 q5 v5
        have h5 := wpS.step q5 h4
        rw [ass] at r5 v5 h5
        exact ⟨_, F4, δ2, S3, r5, sb3.trans q5.sub, v5, h5⟩
      | bk δ2 S3 => rw [q] at h4; exact h4
      | rt d S3 => rw [q] at h4; exact h4
      | err c fs δ2 S3 => rw [q] at h4; exact h4
      | stuck => rw [q] at h4; exact h4
    · have e : i = ds.length := by omega
      subst e
      refine .inl ⟨v2.stop F' H' (Sub.refl _) r2.sub, ?_⟩
      rw [List.drop_length] at h2
      exact wpS.nx h2 r2 hs2
theorem psd_while {c : Expr} {body : List Stmt} {r : RS} (fuel : Sl → Sto → Nat) (hp : PassesOwn (model X.prog X.w) X.A X.env X.xe) (hcd : PB X W c ba) (hb : PSds X W body r) : PSd X W (.While c body [] pos) (sWhile fuel ba r) := by
  obtain ⟨tc, p1, s1⟩ := hcd.ex
  obtain ⟨tb, p3, s3⟩ := hb.ex
  refine ⟨_, ps_while hp p1 p3, fun α F σ H δ S E hr hs h => ?_⟩
  refine ⟨fun m σ' H' => ∃ γ F' δ' S', Rel X.w X.K X.mg (α ++ γ) F' H' S' ∧ Slots X.w X.K X.mg F' (α ++ γ) σ' δ' ∧ wpS X.w X.K X.mg (α ++ γ) F' H' (whileL ba r m δ' S') E W, ⟨fuel δ S, [], F, δ, S, ?_⟩, fun m σ' H' ⟨γ, F', δ', S', r2, hs2, h2⟩ => ?_⟩
  · rw [List.append_nil]
    exact ⟨hr, hs, h⟩
  · cases m with
    | zero => exact h2.elim
    | succ m =>
      refine s1 (α ++ γ) F' σ' H' δ' S' _ r2 hs2 (wpS.out h2 hs2 fun k S2 _ x H3 ε F3 r4 q4 v4 h4 => ?_)
      have e : x = k := v4
      subst e
      cases x with
      | false => exact wpS.nx h4 r4 (hs2.mono q4.sub)
      | true =>
        refine ⟨fun σ2 H2 => ∃ γ F' δ' S', Rel X.w X.K X.mg (α ++ γ) F' H2 S' ∧ Slots X.w X.K X.mg F' (α ++ γ) σ2 δ' ∧ wpS X.w X.K X.mg (α ++ γ) F' H2 (whileL ba r m δ' S') E W, fun σ2 H2 z => ⟨m, Nat.lt_succ_self m, z⟩, ?_⟩
        refine s3 (α ++ γ ++ ε) F3 σ' H3 δ' S2 _ r4 (hs2.mono q4.sub) ?_
        have ass : ∀ ζ : List Addr, α ++ γ ++ ε ++ ζ = α ++ (γ ++ ε ++ ζ) := fun ζ => by simp [List.append_assoc]
        rw [if_pos rfl] at h4
        cases q : r δ' S2 with
        | nx δ2 S3 =>
          rw [q] at h4
          intro σ4 H4 ζ F4 r5 q5 v5
          have h5 := wpS.step q5 h4
          rw [ass] at r5 v5 h5
          exact ⟨_, F4, δ2, S3, r5, v5, h5⟩
        | ct δ2 S3 =>
          rw [q] at h4
          intro σ4 H4 ζ F4 r5 q5 v5
          have h5 := wpS.step q5 h4
          rw [ass] at r5 v5 h5
          exact ⟨_, F4, δ2, S3, r5, v5, h5⟩
        | bk δ2 S3 => rw [q] at h4; exact h4
        | rt d S3 => rw [q] at h4; exact h4
        | err c fs δ2 S3 => rw [q] at h4; exact h4
        | stuck => rw [q] at h4; exact h4
end
end DL
set_option Elab.async false
set_option linter.all false
set_option maxRecDepth 100000
set_option maxHeartbeats 4000000
set_option autoImplicit false
/-! Data layer, sixth part: list comprehensions, defs. -/
namespace DL
open PySem PySem.Spec PyProof.Rows L2
abbrev W0 : WX := fun _ _ _ _ => False
section
variable {X : Cx} {W : WX} {a b c e : Expr} {es rest : List Expr} {ra rb rc : RE} {ba bb : RB} {rs : RA} {pos p : Pos} {wd : World} {K : Fg} {mg : Str → Option Value} {α β : List Addr} {F F1 H H1 : Hp} {S : Sto}
/-- an expression's reading by its mirror alone -/
def tCanE (wd : World) (K : Fg) (mg : Str → Option Value) (W : WX) (r : RE) : TE := fun σ H Q => ∃ α F δ S, Rel wd K mg α F H S ∧ Slots wd K mg F α σ δ ∧ wp wd K mg α F H (relD wd K mg) (r δ S) Q (fun c d H' => W c d σ H')
def tCanB (wd : World) (K : Fg) (mg : Str → Option Value) (W : WX) (r : RB) : TT := fun σ H Q => ∃ α F δ S, Rel wd K mg α F H S ∧ Slots wd K mg F α σ δ ∧ wp wd K mg α F H relB (r δ S) Q (fun c d H' => W c d σ H')
theorem PD.can (h : PD X W a ra) : PE X a (tCanE X.w X.K X.mg W ra) := by
  obtain ⟨t, p, s⟩ := h.ex
  exact ⟨fun pins sh σ H Q I ⟨α, F, δ, S, h1, h2, h3⟩ => p.run pins sh σ H Q I (s α F σ H δ S Q h1 h2 h3)⟩
theorem PB.can (h : PB X W a ba) : PT X a (tCanB X.w X.K X.mg W ba) := by
  obtain ⟨t, p, s⟩ := h.ex
  exact ⟨fun pins sh σ H Q I ⟨α, F, δ, S, h1, h2, h3⟩ => p.run pins sh σ H Q I (s α F σ H δ S Q h1 h2 h3)⟩
/-! ### a comprehension's own targets -/
theorem wipe_set {σ : L2.St} {i : Nat} {x : Option V} : ∀ {vs : List Nat}, wipe (σ.set i x) vs = if i ∈ vs then wipe σ vs else (wipe σ vs).set i x
  | [] => rfl
  | v :: vs => by
    unfold wipe
    rw [wipe_set]
    by_cases h : i ∈ vs
    · rw [if_pos h, if_pos (List.mem_cons_of_mem _ h)]
    · rw [if_neg h]
      by_cases z : i = v
      · subst z
        rw [if_pos List.mem_cons_self, List.set_set]
      · rw [if_neg (by intro q; rcases List.mem_cons.mp q with q | q; exact z q; exact h q)]
        exact List.set_comm _ _ z
structure PGx (X : Cx) (vs : List Nat) (tg : Expr) (t : TG) (g : RG) : Prop where
  pg : PG X tg t
  snd : ∀ α F σ H δ S v d (Q : L2.St → Hp → Prop), Rel X.w X.K X.mg α F H S → Slots X.w X.K X.mg F α σ δ → DV X.w X.K X.mg F α v d → wp X.w X.K X.mg α F H (fun F α σ' δ' => Slots X.w X.K X.mg F α σ' δ' ∧ wipe σ' vs = wipe σ vs) (g d δ S) Q (fun _ _ _ => False) → t v σ H Q
  ne : ∀ d δ S c fs S', g d δ S ≠ .err c fs S'
structure PGxs (X : Cx) (vs : List Nat) (tg : List Expr) (t : TGs) (g : List D → Sl → Sto → Res Sl) : Prop where
  pg : PGs X tg t
  snd : ∀ α F σ H δ S v d (Q : L2.St → Hp → Prop), Rel X.w X.K X.mg α F H S → Slots X.w X.K X.mg F α σ δ → DVs X.w X.K X.mg F α v d → wp X.w X.K X.mg α F H (fun F α σ' δ' => Slots X.w X.K X.mg F α σ' δ' ∧ wipe σ' vs = wipe σ vs) (g d δ S) Q (fun _ _ _ => False) → t v σ H Q
  ne : ∀ d δ S c fs S', g d δ S ≠ .err c fs S'
  len : ∀ ds δ S δ' S', g ds δ S = .ok δ' S' → ds.length = tg.length
theorem pgx_name {vs : List Nat} (i : Nat) {x : Str} (hN : X.N.Nodup) (hv : i ∈ vs := by decide) (hi : X.N[i]? = some x := by rfl) (hx : Loc X.env.scope x := by first | exact Or.inl rfl | exact Or.inr rfl) (hf : X.fn x = true ∨ X.env.scope.names.lookup x = some .local := by first | exact .inl rfl | exact .inr rfl | assumption) : PGx X vs (.Name x pos) (L2.gName i) (gName i) := by
  refine ⟨pg_name hN hi hx hf, fun α F σ H δ S v d Q hr hs hd h => ?_, fun d δ S c fs S' h => by unfold gName at h; split at h <;> cases h⟩
  unfold gName at h
  split at h
  · exact h.now hr ⟨hs.set hd, by rw [wipe_set, if_pos hv]⟩
  · exact h.elim
theorem pgxs_nil {vs : List Nat} : PGxs X vs [] L2.gNil gNil := by
  refine ⟨pgs_nil, fun α F σ H δ S v d Q hr hs hv h => ?_, fun d δ S c fs S' h => ?_, fun ds δ S δ' S' h => ?_⟩
  · cases hv with
    | nil => exact ⟨rfl, h.now hr ⟨hs, rfl⟩⟩
    | cons _ _ => exact h.elim
  · cases d <;> cases h
  · cases ds with
    | nil => rfl
    | cons _ _ => cases h
theorem pgxs_cons {vs : List Nat} {t : TG} {t' : TGs} {g : RG} {u : List D → Sl → Sto → Res Sl} (h1 : PGx X vs e t g) (h2 : PGxs X vs es t' u) (hsy : (assignEach (e :: es) X.env).map (·.2) = assign e X.env :: (assignEach es X.env).map (·.2) := by rfl) : PGxs X vs (e :: es) (L2.gCons t t') (gCons g u) := by
  refine ⟨pgs_cons h1.pg h2.pg hsy, fun α F σ H δ S v d Q hr hs hv h => ?_, fun d δ S c fs S' h => ?_, fun ds δ S δ' S' h => ?_⟩
  · cases hv with
    | nil => exact h.elim
    | cons hv ht =>
      rename_i v d vs' ds
      refine ⟨v, vs', rfl, h1.snd α F σ H δ S v d _ hr hs hv (wp.bind h fun δ1 S1 _ σ1 H1 β F1 r1 q1 hs1 q => ?_)⟩
      refine h2.snd (α ++ β) F1 σ1 H1 δ1 S1 vs' ds Q r1 hs1.1 (ht.mono q1.sub) ?_
      rw [hs1.2]
      exact q
  · cases d with
    | nil => cases h
    | cons d r =>
      have h' : (g d δ S).bind (fun δ1 S1 => u r δ1 S1) = .err c fs S' := h
      cases q : g d δ S with
      | ok a S1 => rw [q] at h'; exact h2.ne _ _ _ _ _ _ h'
      | err c fs S1 => exact h1.ne _ _ _ _ _ _ q
      | stuck => rw [q] at h'; cases h'
  · cases ds with
    | nil => cases h
    | cons d r =>
      have h' : (g d δ S).bind (fun δ1 S1 => u r δ1 S1) = .ok δ' S' := h
      cases q : g d δ S with
      | ok a S1 => rw [q] at h'; rw [List.length_cons, List.length_cons, h2.len _ _ _ _ _ h']
      | err c fs S1 => rw [q] at h'; cases h'
      | stuck => rw [q] at h'; cases h'
theorem pgx_tup {vs : List Nat} {k : Nat} {t : TGs} {u : List D → Sl → Sto → Res Sl} (hc : X.calm = true) (h : PGxs X vs es t u) (hn : (assignEach es X.env).length = es.length := by rfl) (hst : (assignEach es X.env).findIdx? (·.1) = none := by rfl) : PGx X vs (.Tuple es k pos) (L2.gTup X.K es.length t) (gTup u) := by
  refine ⟨pg_tup hc h.pg hn hst, fun α F σ H δ S v d Q hr hs hv h0 => ?_, fun d δ S c fs S' h0 => ?_⟩
  · unfold gTup at h0
    cases q : deref S d with
    | tup ds =>
      rw [q] at h0
      dsimp only at h0
      obtain ⟨a, xs, e1, e2, e3⟩ := hr.viewT hv q
      have len : ds.length = es.length := by
        cases q2 : u ds δ S with
        | ok δ' S' => exact h.len _ _ _ _ _ q2
        | err c fs S' => exact absurd q2 (h.ne _ _ _ _ _ _)
        | stuck => rw [q2] at h0; exact h0.elim
      exact ⟨a, xs, e1, e2, by rw [e3.length]; exact len, h.snd α F σ H δ S xs ds Q hr hs e3 h0⟩
    | tux ds =>
      rw [q] at h0
      dsimp only at h0
      obtain ⟨a, xs, e1, e2, e3⟩ := hr.viewX hv q
      have len : ds.length = es.length := by
        cases q2 : u ds δ S with
        | ok δ' S' => exact h.len _ _ _ _ _ q2
        | err c fs S' => exact absurd q2 (h.ne _ _ _ _ _ _)
        | stuck => rw [q2] at h0; exact h0.elim
      exact ⟨a, xs, e1, e2, by rw [e3.length]; exact len, h.snd α F σ H δ S xs ds Q hr hs e3 h0⟩
    | _ => rw [q] at h0; exact h0.elim
  · unfold gTup at h0
    cases q : deref S d with
    | tup ds => rw [q] at h0; exact h.ne _ _ _ _ _ _ h0
    | tux ds => rw [q] at h0; exact h.ne _ _ _ _ _ _ h0
    | _ => rw [q] at h0; cases h0
theorem Slots.wipe {σ : L2.St} {δ : Sl} (h : Slots wd K mg F α σ δ) : ∀ vs : List Nat, Slots wd K mg F α (L2.wipe σ vs) (wipeD δ vs)
  | [] => h
  | v :: vs => by
    have ih := Slots.wipe h vs
    refine ⟨by show ((L2.wipe σ vs).set v none).length = ((wipeD δ vs).set v none).length; rw [List.length_set, List.length_set]; exact ih.1, fun j d e => ?_⟩
    have e' : ((wipeD δ vs).set v none)[j]? = some (some d) := e
    show ∃ w, ((L2.wipe σ vs).set v none)[j]? = some (some w) ∧ _
    by_cases z : v = j
    · subst z
      have hl : v < (wipeD δ vs).length := by
        have := (List.getElem?_eq_some_iff.mp e').1
        rw [List.length_set] at this; exact this
      rw [List.getElem?_set_self hl] at e'
      cases e'
    · rw [List.getElem?_set_ne z] at e' ⊢
      exact ih.2 j d e'
/-- what walks a comprehension: read within its block -/
structure PLc (X : Cx) (vs : List Nat) (scope : Scope) (tg elt : Expr) (ifs : List Expr) (t : TG) (tt : TT) (g : RG) (rt : RB) (re : RE) : Prop where
  g : ∀ (s : Shared) (H : Hp) (C : Addr) (cl : List (Str × Addr)) (fp : List Addr), PGx (X.blk s H scope (compEnvC scope cl C X.env) fp) vs tg t g
  t : ∀ (s : Shared) (H : Hp) (C : Addr) (cl : List (Str × Addr)) (fp : List Addr), PTs (X.blk s H scope (compEnvC scope cl C X.env) fp) ifs tt
  ts : ∀ α F σ H δ S (Q : Bool → Hp → Prop), Rel X.w X.K X.mg α F H S → Slots X.w X.K X.mg F α σ δ → wp X.w X.K X.mg α F H relB (rt δ S) Q (fun _ _ _ => False) → tt σ H Q
  e : ∀ (s : Shared) (H : Hp) (C : Addr) (cl : List (Str × Addr)) (fp : List Addr), PD (X.blk s H scope (compEnvC scope cl C X.env) fp) W0 elt re
theorem plc_no {vs : List Nat} {scope : Scope} {tg elt : Expr} {t : TG} {g : RG} {re : RE} (hg : ∀ (s : Shared) (H : Hp) (C : Addr) (cl : List (Str × Addr)) (fp : List Addr), PGx (X.blk s H scope (compEnvC scope cl C X.env) fp) vs tg t g)
    (he : ∀ (s : Shared) (H : Hp) (C : Addr) (cl : List (Str × Addr)) (fp : List Addr), PD (X.blk s H scope (compEnvC scope cl C X.env) fp) W0 elt re) : PLc X vs scope tg elt [] t tYes g bYes re :=
  ⟨hg, fun _ _ _ _ _ => pts_nil, fun α F σ H δ S Q hr _ h => wp.now (b := true) h hr rfl, he⟩
theorem plc_if {vs : List Nat} {scope : Scope} {tg elt c : Expr} {t : TG} {g : RG} {bc : RB} {re : RE} (hg : ∀ (s : Shared) (H : Hp) (C : Addr) (cl : List (Str × Addr)) (fp : List Addr), PGx (X.blk s H scope (compEnvC scope cl C X.env) fp) vs tg t g)
    (hc : ∀ (s : Shared) (H : Hp) (C : Addr) (cl : List (Str × Addr)) (fp : List Addr), PB (X.blk s H scope (compEnvC scope cl C X.env) fp) W0 c bc) (he : ∀ (s : Shared) (H : Hp) (C : Addr) (cl : List (Str × Addr)) (fp : List Addr), PD (X.blk s H scope (compEnvC scope cl C X.env) fp) W0 elt re) :
    PLc X vs scope tg elt [c] t (tCanB X.w X.K X.mg W0 bc) g bc re :=
  ⟨hg, fun s H C cl fp => pts_one (hc s H C cl fp).can, fun α F σ H δ S Q hr hs h => ⟨α, F, δ, S, hr, hs, h⟩, he⟩
theorem bind_ok {A B : Type} {r : Res A} {f : A → Sto → Res B} {b : B} {S' : Sto} (h : r.bind f = .ok b S') : ∃ a S1, r = .ok a S1 ∧ f a S1 = .ok b S' := by
  cases r with
  | ok a S1 => exact ⟨a, S1, rfl, h⟩
  | err c fs S1 => cases h
  | stuck => cases h
theorem wipe_idem (σ : L2.St) : ∀ vs : List Nat, L2.wipe (L2.wipe σ vs) vs = L2.wipe σ vs
  | [] => rfl
  | v :: vs => by
    show (L2.wipe ((L2.wipe σ vs).set v none) vs).set v none = (L2.wipe σ vs).set v none
    rw [wipe_set, wipe_idem σ vs]
    split
    · rfl
    · rw [List.set_set]
structure Stay (wd : World) (K : Fg) (mg : Str → Option Value) (α : List Addr) (F H : Hp) (ad : Addr) (acc : List V) (accD : List D) (γ : List Addr) (F' H' : Hp) (S' : Sto) : Prop where
  rel : Rel wd K mg (α ++ γ) F' H' S'
  stp : Stp α F H γ F' H'
  nin : ad ∉ α ++ γ
  nF : F' ad = none
  at' : H' ad = some (.lst acc)
  dvs : DVs wd K mg F' (α ++ γ) acc accD
theorem Stay.step {ad : Addr} {acc : List V} {accD : List D} {γ ε : List Addr} {F' H' F2 H2 : Hp} {S' S2 : Sto} (st : Stay wd K mg α F H ad acc accD γ F' H' S') (r : Rel wd K mg (α ++ γ ++ ε) F2 H2 S2) (q : Stp (α ++ γ) F' H' ε F2 H2) : Stay wd K mg α F H ad acc accD (γ ++ ε) F2 H2 S2 := by
  have hn : H' ad ≠ none := by rw [st.at']; exact fun z => nomatch z
  refine ⟨by rw [← List.append_assoc]; exact r, st.stp.trans q, ?_, q.fnew ad st.nin st.nF hn, q.frame ad _ st.nin st.at', by rw [← List.append_assoc]; exact st.dvs.mono q.sub⟩
  rw [← List.append_assoc]
  intro z
  rcases List.mem_append.mp z with z | z
  · exact st.nin z
  · exact hn (q.new ad z)
/-- the loop of a comprehension -/
theorem lc_all {scope : Scope} {vs : List Nat} {tg elt : Expr} {ifs : List Expr} {t : TG} {tt : TT} {g : RG} {rt : RB} {re : RE} (L : PLc X vs scope tg elt ifs t tt g rt re) {σ : L2.St} {δ : Sl} {S1 S2 : Sto} {ds zs : List D} {J : It} {ad : Addr} {Qd : Hp → Prop}
    (hr : Rel X.w X.K X.mg α F H S1) (hs : Slots X.w X.K X.mg F α σ δ) (hJ : ItOk X.w X.K X.mg F α J ds) (hD : H ad = none) (hz : lcL g rt re ds (wipeD δ vs) S1 = .ok zs S2) (hl : zs.length ≤ sizeLine)
    (hq : ∀ H' β F', Rel X.w X.K X.mg (α ++ β) F' H' S2 → Stp α F H β F' H' → ad ∉ α ++ β → F' ad = none → Own X.w X.K X.mg F' (α ++ β) H' ad (.lst zs) → Qd H') :
    ∃ Wl : Nat → Nat → Hp → Prop, (∃ m, Wl 0 m (upd H ad (.lst []))) ∧ ∀ i m H, Wl i m H → (J.stop i H ∧ Qd H) ∨ (J.go i H ∧ ∃ Nx : Hp → Prop, (∀ H', Nx H' → ∃ m', m' < m ∧ Wl (i + 1) m' H') ∧ ∀ x H', J.yld i H x H' → t x (L2.wipe σ vs) H' fun σ2 H2 => L2.wipe σ2 vs = L2.wipe σ vs ∧ tt σ2 H2 fun b H3 =>
      if b = true then tCanE X.w X.K X.mg W0 re σ2 H3 fun y H4 => ∃ acc, H4 ad = some (.lst acc) ∧ acc.length < sizeLine ∧ Nx (upd H4 ad (.lst (acc ++ [y]))) else Nx H3) := by
  refine ⟨fun i m H' => i + m = ds.length ∧ ∃ γ F' S' acc accD, Stay X.w X.K X.mg α F H ad acc accD γ F' H' S' ∧
    (lcL g rt re (ds.drop i) (wipeD δ vs) S').bind (fun ys S3 => .ok (accD ++ ys) S3) = .ok zs S2, ⟨ds.length, by omega, [], F, S1, [], [], ?_, ?_⟩, fun i m H' ⟨hm, γ, F', S', acc, accD, st, eq⟩ => ?_⟩
  · have n := hr.notin hD
    have f := hr.notF hD
    refine ⟨?_, Stp.refl.other hD, ?_, f, upd_same, .nil⟩
    · rw [List.append_nil]; exact hr.other n f
    · rw [List.append_nil]; exact n
  · rw [List.drop_zero, hz]
    rfl
  · have v2 : ItOk X.w X.K X.mg F' (α ++ γ) J ds := hJ.mono st.stp.sub
    by_cases hlt : i < ds.length
    · obtain ⟨d, hd⟩ : ∃ d, ds[i]? = some d := ⟨_, List.getElem?_eq_getElem hlt⟩
      refine .inr ⟨v2.go F' H' i (Sub.refl _) st.rel.sub hlt, fun H4 => ∃ γ F' S' acc accD, Stay X.w X.K X.mg α F H ad acc accD γ F' H4 S' ∧
        (lcL g rt re (ds.drop (i + 1)) (wipeD δ vs) S').bind (fun ys S3 => .ok (accD ++ ys) S3) = .ok zs S2, fun H4 z => ⟨m - 1, by omega, by omega, z⟩, fun x H2 hy => ?_⟩
      obtain ⟨F2, r3, q3, v3⟩ := v2.came st.rel hd hy
      have st3 := st.step r3 q3
      rw [drop_cons hd] at eq
      obtain ⟨ys, S3, eq1, eq2⟩ := bind_ok eq
      cases eq2
      unfold lcL at eq1
      obtain ⟨δ1, S4, eg, eq1⟩ := bind_ok eq1
      obtain ⟨k, S5, et, eq1⟩ := bind_ok eq1
      have hs3 : Slots X.w X.K X.mg F2 (α ++ γ ++ []) (L2.wipe σ vs) (wipeD δ vs) := (((hs.mono st.stp.sub).mono q3.sub).wipe vs)
      refine (L.g X.s_0 H 0 [] []).snd (α ++ γ ++ []) F2 (L2.wipe σ vs) H2 (wipeD δ vs) S' x d _ r3 hs3 v3 ?_
      rw [eg]
      intro σ1 H5 ε F5 r5 q5 ⟨hs5, hw⟩
      rw [List.append_assoc α γ []] at q5 r5 hs5
      have st5 := st3.step r5 q5
      refine ⟨hw.trans (wipe_idem σ vs), ?_⟩
      refine L.ts _ F5 σ1 H5 δ1 S4 _ r5 hs5 ?_
      rw [et]
      intro b H6 ζ F6 r6 q6 eb
      have eb : b = k := eb
      subst eb
      rw [List.append_assoc α (γ ++ []) ε] at q6 r6
      have st6 := st5.step r6 q6
      cases b with
      | false =>
        rw [if_neg (by decide)]
        rw [if_neg (by decide)] at eq1
        exact ⟨_, F6, S5, acc, accD, st6, by rw [eq1]; rfl⟩
      | true =>
        rw [if_pos rfl]
        rw [if_pos rfl] at eq1
        obtain ⟨y, S6, ey, eq1⟩ := bind_ok eq1
        obtain ⟨ys', S7, er, eq1⟩ := bind_ok eq1
        cases eq1
        have hs6 := hs5.mono (β := ζ) q6.sub
        rw [List.append_assoc α (γ ++ []) ε] at hs6
        refine ⟨_, F6, δ1, S5, r6, hs6, ?_⟩
        rw [ey]
        intro v H7 η F7 r7 q7 v7
        rw [List.append_assoc α (γ ++ [] ++ ε) ζ] at q7 r7 v7
        have st7 := st6.step r7 q7
        have hlen : acc.length < sizeLine := by
          have e1 := st.dvs.length
          rw [List.length_append, List.length_cons] at hl
          omega
        have v7 : DV X.w X.K X.mg F7 _ v y := v7
        refine ⟨acc, st7.at', hlen, _, F7, S6, acc ++ [v], accD ++ [y], ⟨st7.rel.other st7.nin st7.nF, ?_, st7.nin, st7.nF, upd_same, st7.dvs.append (.cons ?_ .nil)⟩, ?_⟩
        · exact st7.stp.other hD
        · simpa only [List.append_assoc] using v7
        · rw [er]
          show Res.ok (accD ++ [y] ++ ys') _ = _
          rw [List.append_assoc] <;> rfl
    · have e : i = ds.length := by omega
      subst e
      rw [List.drop_length] at eq
      have eq' : Res.ok (accD ++ []) S' = Res.ok zs S2 := eq
      rw [List.append_nil] at eq'
      cases eq'
      exact .inl ⟨v2.stop F' H' (Sub.refl _) st.rel.sub, hq H' γ F' st.rel st.stp st.nin st.nF ⟨acc, st.at', st.dvs⟩⟩
/-- a mirror that came to a list that fits -/
theorem lc_fits {g : RG} {rt : RB} {re : RE} {vs : List Nat} {δ : Sl} {S1 : Sto} {ds : List D} {Q : VK} {W : XK} (h : wpF wd K mg α F H ((noErr (lcL g rt re ds (wipeD δ vs) S1)).bind fun ys S2 => if ys.length ≤ sizeLine then .ok (.lst ys) S2 else .stuck) Q W) :
    ∃ zs S2, lcL g rt re ds (wipeD δ vs) S1 = .ok zs S2 ∧ zs.length ≤ sizeLine ∧ wpF wd K mg α F H (.ok (.lst zs) S2) Q W := by
  cases q : lcL g rt re ds (wipeD δ vs) S1 with
  | ok zs S2 =>
    rw [q] at h
    have h' : wpF wd K mg α F H (if zs.length ≤ sizeLine then .ok (.lst zs) S2 else .stuck) Q W := h
    split at h'
    · rename_i hl; exact ⟨zs, S2, rfl, hl, h'⟩
    · exact h'.elim
  | err c fs S2 => rw [q] at h; exact h.elim
  | stuck => rw [q] at h; exact h.elim
theorem lc_snd {ri : RA} {wi : TI} {scope : Scope} {vs : List Nat} {tg elt : Expr} {ifs : List Expr} {t : TG} {tt : TT} {g : RG} {rt : RB} {re : RE} (si : SndI X.w X.K X.mg W wi ri) (L : PLc X vs scope tg elt ifs t tt g rt re) {σ : L2.St} {δ : Sl} {Q : VK}
    (hr : Rel X.w X.K X.mg α F H S) (hs : Slots X.w X.K X.mg F α σ δ) (h : wpF X.w X.K X.mg α F H (rLc ri g vs rt re δ S) Q (fun c d H' => W c d σ H')) : tLc wi t tt (tCanE X.w X.K X.mg W0 re) vs σ H Q := by
  refine si α F σ H δ S _ hr hs (wpF.bind h fun ds S1 _ J H1 β F1 r1 q1 v1 h1 => ?_)
  intro ad hD
  obtain ⟨zs, S2, e1, e2, h2⟩ := lc_fits h1
  refine lc_all (Qd := fun H' => Q (.ref ad) H') L r1 (hs.mono q1.sub) v1 hD e1 e2 fun H' γ F' r2 q2 n f o => ?_
  exact h2 ad H' γ F' r2 q2 hD n f o rfl
theorem pf_lc {tg iter elt : Expr} {ifs : List Expr} {scope : Scope} {own : List (Str × Nat)} {t : TG} {tt : TT} {ri : RA} {g : RG} {rt : RB} {re : RE} (hc : X.calm = true) (hN : X.N.Nodup) (hi : PId X W tg iter ri) (ok : BlkOk X.N X.env.scope scope own) (L : PLc X (own.map (·.2)) scope tg elt ifs t tt g rt re)
    (hsx : ∀ x, foldedSetIterable iter X.env x = pure x := by intro _; rfl) : PF X W (.ListComp elt [⟨tg, iter, ifs, 0⟩] scope pos) (rLc ri g (own.map (·.2)) rt re) := by
  obtain ⟨wi, p1, s1⟩ := hi.ex
  exact ⟨_, pe_lc hc hN p1 ok (fun s H C cl fp => (L.g s H C cl fp).pg) L.t (fun s H C cl fp => (L.e s H C cl fp).can) hsx, fun α F σ H δ S Q hr hs h => lc_snd s1 L hr hs h⟩
/-- what is done with a made list: it is the store's, or stands for good -/
theorem wpF.keep {r : Res D} {σ : L2.St} {Q : VK} (h : wp wd K mg α F H (relD wd K mg) (r.bind fun d S1 => match d with | .lst ds => .ok (.lst ds) S1 | _ => .stuck) Q (fun c d H' => W c d σ H')) : wpF wd K mg α F H r Q (fun c d H' => W c d σ H') := by
  cases r with
  | ok d S' =>
    intro p H' β F' r1 s1 hp ha hf ho hd
    cases d with
    | lst ds =>
      have h2 : wp wd K mg α F H (relD wd K mg) (.ok (.lst ds) S') Q _ := h
      obtain ⟨xs, o1, o2⟩ := ho
      obtain ⟨a1, a2⟩ := r1.freeze (o := .lst xs) ha hf o1
      exact h2 (.ref p) H' β (upd F' p (.lst xs)) a1 ⟨s1.new, s1.sub.trans a2, s1.frame, s1.live, fun a g1 g2 g3 => by
        have z : a ≠ p := fun z => g3 (z ▸ hp)
        rw [upd_ne z]; exact s1.fnew a g1 g2 g3⟩ (.lst (.inl (Rd.of upd_same)) (by have := o2.mono (β := []) a2; rw [List.append_nil] at this; exact this))
    | _ => exact (show False from h).elim
  | err c fs S' => exact h
  | stuck => exact h
theorem wpF.ownd {r : Res D} {σ : L2.St} {Q : VK} (h : wp wd K mg α F H (relD wd K mg) (r.bind fun d S1 => .ok (.ptr S1.length) (S1 ++ [d])) Q (fun c d H' => W c d σ H')) : wpF wd K mg α F H r Q (fun c d H' => W c d σ H') := by
  cases r with
  | ok d S' =>
    intro p H' β F' r1 s1 hp ha hf ho hd
    have h2 : wp wd K mg α F H (relD wd K mg) (.ok (.ptr S'.length) (S' ++ [d])) Q _ := h
    refine h2 (.ref p) H' (β ++ [p]) F' ?_ ⟨fun b hb => ?_, s1.sub, s1.frame, s1.live, s1.fnew⟩ ?_
    · rw [← List.append_assoc]
      exact r1.adopt ha hf ho hd
    · rcases List.mem_append.mp hb with z | z
      · exact s1.new b z
      · have : b = p := by simpa using z
        rw [this]; exact hp
    · rw [← List.append_assoc]
      refine .ptr ?_
      rw [List.getElem?_append_right (by rw [r1.len]; exact Nat.le_refl _), r1.len, Nat.sub_self] <;> rfl
  | err c fs S' => exact h
  | stuck => exact h
/-- name = [..] on one line -/
theorem psd_setLc {i : Nat} {y : Str} {py pos' : Pos} {tg iter elt : Expr} {ifs : List Expr} {scope : Scope} {own : List (Str × Nat)} {t : TG} {tt : TT} {ri : RA} {g : RG} {rt : RB} {re : RE} (hc : X.calm = true) (hN : X.N.Nodup) (hi : PId X W tg iter ri) (ok : BlkOk X.N X.env.scope scope own) (L : PLc X (own.map (·.2)) scope tg elt ifs t tt g rt re)
    (hsw : swapsWith (.ListComp elt [⟨tg, iter, ifs, 0⟩] scope pos) (some (.Name y py)) pos'.line X.env = pure true) (hy : X.N[i]? = some y := by rfl) (hyl : X.env.scope.names.lookup y = some .local := by rfl) (hsx : ∀ x, foldedSetIterable iter X.env x = pure x := by intro _; rfl) :
    PSd X W (.Assign [.Name y py] (.ListComp elt [⟨tg, iter, ifs, 0⟩] scope pos) pos') (sAsg (rKeep (rLc ri g (own.map (·.2)) rt re)) (gName i)) ∧ PSd X W (.Assign [.Name y py] (.ListComp elt [⟨tg, iter, ifs, 0⟩] scope pos) pos') (sAsg (rOwn (rLc ri g (own.map (·.2)) rt re)) (gName i)) := by
  obtain ⟨wi, p1, s1⟩ := hi.ex
  have P := ps_setLc (te := tCanE X.w X.K X.mg W0 re) (i := i) hc hN hy hyl hsw p1 ok (fun s H C cl fp => (L.g s H C cl fp).pg) L.t (fun s H C cl fp => (L.e s H C cl fp).can) hsx
  have nm : ∀ {α β : List Addr} {F F1 H H1 : Hp} {S1 : Sto} {σ : L2.St} {δ : Sl} {E : Ends} {d : D} {v : V}, Slots X.w X.K X.mg F α σ δ → Rel X.w X.K X.mg (α ++ β) F1 H1 S1 → Stp α F H β F1 H1 → DV X.w X.K X.mg F1 (α ++ β) v d → wpS X.w X.K X.mg (α ++ β) F1 H1 ((gName i d δ S1).out δ fun δ1 S2 => .nx δ1 S2) E W → E.nx (σ.set i (some v)) H1 := by
    intro α β F F1 H H1 S1 σ δ E d v hs hr st hv h
    unfold gName at h
    split at h
    · exact wpS.nx h hr ((hs.mono st.sub).set hv)
    · exact h.elim
  refine ⟨⟨_, P, fun α F σ H δ S E hr hs h => ?_⟩, ⟨_, P, fun α F σ H δ S E hr hs h => ?_⟩⟩
  · exact lc_snd s1 L hr hs (wpF.keep (wpS.out h hs fun d S1 _ x H1 β F1 r1 q1 v1 h1 => nm hs r1 q1 v1 h1))
  · exact lc_snd s1 L hr hs (wpF.ownd (wpS.out h hs fun d S1 _ x H1 β F1 r1 q1 v1 h1 => nm hs r1 q1 v1 h1))
/-! ### defs -/
theorem closedK_snd {n : Nat} : ∀ {kvs : List (D × D)}, closedK n kvs = true → closedL n (kvs.map (·.2)) = true
  | [], _ => rfl
  | (k, v) :: r, h => by
    unfold closedK at h
    rw [Bool.and_eq_true, Bool.and_eq_true] at h
    show (D.closed n v && closedL n (r.map (·.2))) = true
    rw [h.1.2, closedK_snd h.2]
    rfl
mutual
theorem DV.shrink {v : V} {d : D} : D.closed α.length d = true → DV wd K mg F (α ++ β) v d → DV wd K mg F α v d
  | _, .non => .non
  | _, .bl b => .bl b
  | _, .int i => .int i
  | _, .str x => .str x
  | h, .tup a t => .tup a (DVs.shrink (by simpa [D.closed] using h) t)
  | h, .tux a t => .tux a (DVs.shrink (by simpa [D.closed] using h) t)
  | h, .lst a t => .lst a (DVs.shrink (by simpa [D.closed] using h) t)
  | h, .ptr e => by
    rename_i k a
    have hk : k < α.length := by simpa [D.closed] using h
    rw [List.getElem?_append_left hk] at e
    exact .ptr e
  | _, .fn e => .fn e
  | _, .ty n => .ty n
  | h, .exc h1 h2 h3 h4 h5 => .exc h1 h2 h3 h4 (DVs.shrink (closedK_snd (by simpa [D.closed] using h)) h5)
theorem DVs.shrink {vs : List V} {ds : List D} : closedL α.length ds = true → DVs wd K mg F (α ++ β) vs ds → DVs wd K mg F α vs ds
  | _, .nil => .nil
  | h, .cons a t => by
    unfold closedL at h
    rw [Bool.and_eq_true] at h
    exact .cons (DV.shrink h.1 a) (DVs.shrink h.2 t)
end
theorem NVs.shrink {xs : List (NestedKey × Addr × V)} : ∀ {kvs : List (D × D)}, closedK α.length kvs = true → NVs wd K mg F (α ++ β) xs kvs → NVs wd K mg F α xs kvs := fun {kvs} h q => by
  induction q with
  | nil => exact .nil
  | cons h1 h2 h3 h4 h6 _ ih =>
    unfold closedK at h
    rw [Bool.and_eq_true, Bool.and_eq_true] at h
    exact .cons h1 h2 (h3.shrink h.1.1) h4 (h6.shrink h.1.2) (ih h.2)
theorem Own.shrink {a : Addr} {d : D} (o : Own wd K mg F (α ++ β) H a d) (hc : D.closed α.length d = true) : Own wd K mg F α H a d := by
  cases d with
  | lst ds => obtain ⟨xs, e1, e2⟩ := o; exact ⟨xs, e1, e2.shrink (by simpa [D.closed] using hc)⟩
  | dct kvs => obtain ⟨ws, e1, e2, e3⟩ := o; exact ⟨ws, e1, e2, e3.shrink (closedK_snd (by simpa [D.closed] using hc))⟩
  | dcn kvs => obtain ⟨ws, e1, e2⟩ := o; exact ⟨ws, e1, e2.shrink (by simpa [D.closed] using hc)⟩
  | lck u =>
    cases u with
    | dct kvs => obtain ⟨o, ws, e0, e1, e2, e3⟩ := o; exact ⟨o, ws, e0, e1, e2, e3.shrink (closedK_snd (by simpa [D.closed] using hc))⟩
    | dcn kvs => obtain ⟨o, ws, e0, e1, e2⟩ := o; exact ⟨o, ws, e0, e1, e2.shrink (by simpa [D.closed] using hc)⟩
    | _ => exact o.elim
  | non => trivial
  | _ => exact o.elim
theorem closedL_get {n : Nat} : ∀ {ds : List D} {k : Nat} {d : D}, closedL n ds = true → ds[k]? = some d → D.closed n d = true
  | [], _, _, _, e => by simp at e
  | d :: r, 0, _, h, e => by
    unfold closedL at h
    rw [Bool.and_eq_true] at h
    simp at e; subst e
    exact h.1
  | d :: r, k + 1, _, h, e => by
    unfold closedL at h
    rw [Bool.and_eq_true] at h
    exact closedL_get (k := k) h.2 (by simpa using e)
theorem Rel.trunc (r : Rel wd K mg (α ++ β) F H S) (h : closedL α.length (S.take α.length) = true) : Rel wd K mg α F H (S.take α.length) := by
  have hl := r.len
  rw [List.length_append] at hl
  refine ⟨r.sub, by rw [List.length_take]; omega, (List.nodup_append.mp r.nd).1, fun a ha => r.here a (List.mem_append_left _ ha), fun k a d h1 h2 => ?_⟩
  have hk : k < α.length := (List.getElem?_eq_some_iff.mp h1).1
  have hc := closedL_get h h2
  rw [List.getElem?_take, if_pos hk] at h2
  obtain ⟨o, q⟩ := r.own k a d (by rw [List.getElem?_append_left hk]; exact h1) h2
  exact ⟨o.shrink hc, q⟩
theorem Rel.give {k : Nat} {a : Addr} {u : D} (r : Rel wd K mg (α ++ β) F H S) (hc : closedL α.length (S.take α.length) = true) (ha : (α ++ β)[k]? = some a) (hk : α.length ≤ k) (hu : S[k]? = some u) (ho : u.owned = true) (hd : D.closed α.length u = true) : a ∈ β ∧ Rel wd K mg (α ++ [a]) F H (S.take α.length ++ [u]) := by
  have r0 := Rel.trunc r hc
  have hb : a ∈ β := by
    rw [List.getElem?_append_right hk] at ha
    exact List.mem_of_getElem? ha
  have hn : a ∉ α := fun h => (List.nodup_append.mp r.nd).2.2 a h a hb rfl
  have hz : u.open = true := by cases u <;> first | rfl | cases ho
  obtain ⟨o1, o2⟩ := r.own k a u ha hu
  exact ⟨hb, r0.adopt hn (o2 hz) (o1.shrink hd) hz⟩
theorem Stp.one {F' H' : Hp} {a : Addr} (s : Stp α F H β F' H') (h : a ∈ β) : Stp α F H [a] F' H' := ⟨fun b hb => by rw [List.mem_singleton.mp hb]; exact s.new a h, s.sub, s.frame, s.live, s.fnew⟩
theorem Stp.drop {F' H' : Hp} (s : Stp α F H β F' H') : Stp α F H [] F' H' := ⟨(fun _ h => nomatch h), s.sub, s.frame, s.live, s.fnew⟩
theorem slots_start {N : List Str} {vs : List V} {ds : List D} (hv : DVs wd K mg F α vs ds) : Slots wd K mg F α (L2.start N vs) (ds.map some ++ List.replicate (N.length - ds.length) none) := by
  have hl := hv.length
  refine ⟨by unfold L2.start; simp [hl], fun i d e => ?_⟩
  unfold L2.start
  by_cases h : i < ds.length
  · rw [List.getElem?_append_left (by simpa using h), List.getElem?_map] at e
    obtain ⟨d', e1⟩ : ∃ d', ds[i]? = some d' := ⟨_, List.getElem?_eq_getElem h⟩
    rw [e1] at e
    have : d' = d := by simpa using e
    subst this
    obtain ⟨v, e2, e3⟩ := hv.get e1
    refine ⟨v, ?_, e3⟩
    rw [List.getElem?_append_left (by rw [List.length_map, hl]; exact h), List.getElem?_map, e2] <;> rfl
  · rw [List.getElem?_append_right (by simpa using h), List.getElem?_replicate] at e
    split at e <;> cases e
theorem fn_G {P : Program} {w : World} {base : Heap} {x qual : Str} {st : Stmt} {f : Addr} {fd : FuncData} {N ps : List Str} {k : Nat} {sp : Sp} (Fu : Fun K x qual st f fd) (Sc : FnScope N ps (defScope st)) (len : ∀ vs H Q E, sp vs H Q E → vs.length = ps.length)
    (hbody : ∀ (cdv : Value) (A : Around) (outer : List Env) (s : Shared) (H : Hp) (vs : List V) (Q : VK) (E : XK), Room k (A.deeper (envOfC qual (defScope st) s.heap.objs.size f cdv)) → A.guards = some [] → sp vs H Q E →
      ∃ t, PSs (cxOf (L2.CX P w) P w K mg base N qual (defScope st) f cdv A outer s H E) (defBody st) t ∧ t ⟨fun _ H' => Q .non H', Q, fun _ _ => False, fun _ _ => False⟩ (L2.start N vs) H) : FnG P w K mg base (k + 1) f fd ps sp := by
  obtain ⟨oc, od, kV, doc, pm, an, cdv, ct, osl, rfl, lk, hcd⟩ := Fu.ex
  refine ⟨len, fun A outer s H args us vs Q E room hG e0 hb rv hsp => ?_⟩
  have kin : K.In s.heap := e0.mod.kin.keeps fun b o e => (e0.bs b o e).1
  have names : ∀ y ∈ ps.zip us, (defScope st).names.lookup y.1 = some .local ∨ ((defScope st).names.lookup y.1 = some .cell ∧ ((cellsFrom (s.heap.objs.size + 1) (defScope st).names []).lookup y.1).isSome = true) := fun y hy =>
    (Sc.par y.1 (List.of_mem_zip hy).1).imp id fun q => ⟨q, PySem.W.cellsFrom_some _ _ _ (.inl q)⟩
  refine codeAny_call_function room.depth (kin _ _ lk) rfl Sc.co Sc.gen rfl (PySem.W.codeRec_of kin hcd) (hb _ _ _ _ (wpAny_newFunctionEnv_cells Sc.kind names fun env he s1 x => ?_))
  subst he
  refine ⟨(e0.mod.nolimit.keeps fun b o e => (e0.bs b o e).1).keeps x.toInCall.keep, codeAny_func ?_⟩
  obtain ⟨t, ht, hq⟩ := hbody cdv A outer s H vs Q E (room.deeper _) hG hsp
  refine wpAny_mono (ht.run [] s1 (L2.start N vs) H _ (inv_start Sc room.hd e0 (len _ _ _ _ hsp) rv x) hq) ?_ fun _ _ hs => hs
  intro fl s' hs
  cases fl with
  | ret u =>
    obtain ⟨v, _, H', J, r, q⟩ := hs
    exact ⟨v, H', J.os, J.bare, J.base, J.hok, r, q⟩
  | next =>
    obtain ⟨_, H', J, q⟩ := hs
    exact ⟨V.non, H', J.os, J.bare, J.base, J.hok, rfl, q⟩
  | brk => obtain ⟨_, _, _, q⟩ := hs; exact q.elim
  | cont => obtain ⟨_, _, _, q⟩ := hs; exact q.elim
theorem fn_okD {P : Program} {w : World} {base : Heap} {x qual : Str} {st : Stmt} {f : Addr} {fd : FuncData} {N ps : List Str} {k : Nat} {r : RS} (Fu : Fun K x qual st f fd) (Sc : FnScope N ps (defScope st))
    (hbody : ∀ (cdv : Value) (A : Around) (outer : List Env) (s : Shared) (H : Hp) (E : XK), Room k (A.deeper (envOfC qual (defScope st) s.heap.objs.size f cdv)) → A.guards = some [] → PSds (cxOf (L2.CX P w) P w K mg base N qual (defScope st) f cdv A outer s H E) (fun cls d _ H => E cls d H) (defBody st) r) :
    FnG P w K mg base (k + 1) f fd ps (spD w K mg ps.length (mDef N.length r)) := by
  refine fn_G Fu Sc (fun vs H Q E h => h.1) fun cdv A outer s H vs Q E hr hG h => ?_
  obtain ⟨hl, α, F, S, ds, h1, h2, h3⟩ := h
  obtain ⟨t, pt, st⟩ := (hbody cdv A outer s H E hr hG).ex
  refine ⟨t, pt, st α F _ H _ S _ h1 (slots_start h2) ?_⟩
  have h3 : wp w K mg α F H (relD w K mg) (mDef N.length r ds S) Q E := h3
  have hl : α.length = S.length := h1.len
  unfold mDef at h3
  rw [← hl] at h3
  have an : α ++ [] = α := List.append_nil α
  cases q : r (ds.map some ++ List.replicate (N.length - ds.length) none) S with
  | nx δ S1 =>
    rw [q] at h3
    dsimp only at h3
    split at h3
    · rename_i hc
      intro σ' H' β F' r1 s1 _
      exact h3 .non H' [] F' (by rw [an]; exact Rel.trunc r1 hc) s1.drop .non
    · exact h3.elim
  | rt d S1 =>
    rw [q] at h3
    dsimp only at h3
    split at h3
    · rename_i hc
      rw [Bool.and_eq_true] at hc
      intro v H' β F' r1 s1 hv
      exact h3 v H' [] F' (by rw [an]; exact Rel.trunc r1 hc.2) s1.drop (by rw [an]; exact DV.shrink hc.1 hv)
    · unfold giveD at h3
      cases d with
      | ptr k =>
        dsimp only at h3
        cases q2 : S1[k]? with
        | none => rw [q2] at h3; exact h3.elim
        | some u =>
          rw [q2] at h3
          dsimp only at h3
          split at h3
          · rename_i hc
            rw [Bool.and_eq_true, Bool.and_eq_true, Bool.and_eq_true, decide_eq_true_eq] at hc
            intro v H' β F' r1 s1 hv
            cases hv with
            | ptr ea =>
              rename_i a
              obtain ⟨g1, g2⟩ := Rel.give r1 hc.2 ea hc.1.2 q2 hc.1.1.1 hc.1.1.2
              exact h3 (.ref a) H' [a] F' g2 (s1.one g1) (.ptr (by rw [List.getElem?_append_right (Nat.le_refl _), Nat.sub_self]; rfl))
          · exact h3.elim
      | _ => exact h3.elim
  | err c fs δ S1 =>
    rw [q] at h3
    dsimp only at h3
    split at h3
    · rename_i hc
      rw [Bool.and_eq_true] at hc
      intro cls dd σ' H' β F' r1 s1 _ he
      refine h3 cls dd H' [] F' (by rw [an]; exact Rel.trunc r1 hc.2) s1.drop ?_
      rw [an]
      refine ⟨he.1, he.2.imp id fun ⟨d, xs, e1, e2, e3, e4⟩ => ⟨d, xs, e1, e2, e3, DVs.shrink hc.1 e4⟩⟩
    · exact h3.elim
  | bk δ S1 => rw [q] at h3; exact h3.elim
  | ct δ S1 => rw [q] at h3; exact h3.elim
  | stuck => rw [q] at h3; exact h3.elim
/-! ### ghost steps -/
theorem psds_freeze {sts : List Stmt} {i : Nat} {r : RS} (h : PSds X W sts r) : PSds X W sts (sSeq (sFreeze i) r) := by
  obtain ⟨t, pt, st⟩ := h.ex
  refine ⟨t, pt, fun α F σ H δ S E hr hs h => ?_⟩
  unfold sSeq sFreeze at h
  cases q : δ[i]? with
  | none => rw [q] at h; exact h.elim
  | some o =>
    rw [q] at h
    cases o with
    | none => exact h.elim
    | some d =>
      cases d with
      | ptr k =>
        cases q2 : S[k]? with
        | none => simp only [q2] at h; exact h.elim
        | some u =>
          cases u with
          | lst ds =>
            simp only [q2] at h
            obtain ⟨v, e1, e2⟩ := hs.2 i _ q
            cases e2 with
            | ptr ea =>
              rename_i a
              obtain ⟨o1, o2⟩ := hr.own k a _ ea q2
              obtain ⟨xs, o3, o4⟩ := o1
              have hf := o2 rfl
              have sb : Sub F (upd F a (.lst xs)) := Sub.new hf
              have an : α ++ [] = α := List.append_nil α
              have st1 : Stp α F H [] (upd F a (.lst xs)) H := ⟨(fun _ h => nomatch h), sb, fun _ _ _ h => h, fun _ h => h, fun b h1 h2 _ => by
                have z : b ≠ a := fun z => h1 (z ▸ List.mem_of_getElem? ea)
                rw [upd_ne z]; exact h2⟩
              have rl : Rel X.w X.K X.mg α (upd F a (.lst xs)) H (S.set k .non) := by
                refine ⟨fun b u e => ?_, by rw [List.length_set]; exact hr.len, hr.nd, hr.here, fun j b u g1 g2 => ?_⟩
                · by_cases z : b = a
                  · subst z; rw [upd_same] at e; rw [o3]; exact e
                  · rw [upd_ne z] at e; exact hr.sub _ _ e
                · by_cases z : j = k
                  · subst z
                    rw [List.getElem?_set_self (List.getElem?_eq_some_iff.mp q2).1] at g2
                    cases g2
                    exact ⟨trivial, fun z => (nomatch z)⟩
                  · rw [List.getElem?_set_ne (Ne.symm z)] at g2
                    obtain ⟨h3, h4⟩ := hr.own j b u g1 g2
                    have y : b ≠ a := fun y => by
                      subst y
                      exact z ((List.getElem_inj hr.nd).mp ((List.getElem?_eq_some_iff.mp g1).2.trans (List.getElem?_eq_some_iff.mp ea).2.symm))
                    have h5 : Own X.w X.K X.mg (upd F a (.lst xs)) (α ++ []) H b u := h3.mono sb rfl
                    rw [an] at h5
                    exact ⟨h5, fun hd => by rw [upd_ne y]; exact h4 hd⟩
              have hs1 : Slots X.w X.K X.mg (upd F a (.lst xs)) α σ δ := by have := hs.mono (β := []) sb; rw [an] at this; exact this
              have hs2 : Slots X.w X.K X.mg (upd F a (.lst xs)) α σ (δ.set i (some (.lst ds))) := by
                refine ⟨by rw [List.length_set]; exact hs1.1, fun j d g => ?_⟩
                by_cases z : j = i
                · subst z
                  rw [List.getElem?_set_self (List.getElem?_eq_some_iff.mp q).1] at g
                  cases g
                  exact ⟨_, e1, .lst (.inl (Rd.of upd_same)) (by have := o4.mono (β := []) sb; rw [an] at this; exact this)⟩
                · rw [List.getElem?_set_ne (Ne.symm z)] at g
                  exact hs1.2 j d g
              have h2 := wpS.step st1 h
              rw [an] at h2
              exact st α _ σ H _ _ E rl hs2 h2
          | _ => simp only [q2] at h; exact h.elim
      | _ => exact h.elim
end
end DL
set_option Elab.async false
set_option linter.all false
set_option maxRecDepth 100000
set_option maxHeartbeats 4000000
set_option autoImplicit false
/-! Data layer, seventh part: operators on data. -/
namespace DL
open PySem PySem.Spec PyProof.Rows L2
/-! ### what they come to -/
def gAdd : Sto → D → D → Option D := fun S d e => match deref S d, deref S e with
  | .int i, .int j => some (.int (i + j))
  | .str x, .str y => if x.length + y.length ≤ sizeLine then some (.str (x ++ y)) else none
  | .tup xs, .tup ys => if xs.length + ys.length ≤ sizeLine then some (.tup (xs ++ ys)) else none
  | _, _ => none
def gCat : Sto → D → D → Option D := fun S d e => match deref S d, deref S e with
  | .lst xs, .lst ys => if xs.length + ys.length ≤ sizeLine then some (.lst (xs ++ ys)) else none
  | _, _ => none
def gSub : Sto → D → D → Option D := fun _ d e => match d, e with
  | .int i, .int j => some (.int (i - j))
  | _, _ => none
/-- the sizes of two factors -/
def mulFits (i j : Int) : Bool := decide (i.natAbs.log2 + j.natAbs.log2 < 1000000) || (decide (i.natAbs < 2 ^ 64) || decide (j.natAbs < 2 ^ 64))
def gMul : Sto → D → D → Option D := fun _ d e => match d, e with
  | .int i, .int j => if mulFits i j then some (.int (i * j)) else none
  | _, _ => none
def gDiv : Sto → D → D → Option D := fun _ d e => match d, e with
  | .int i, .int j => if j ≠ 0 ∧ j.natAbs.log2 < 9000 then some (.int (i.fdiv j)) else none
  | _, _ => none
def gMod : Sto → D → D → Option D := fun _ d e => match d, e with
  | .int i, .int j => if j ≠ 0 then some (.int (i.fmod j)) else none
  | _, _ => none
def gPow : Sto → D → D → Option D := fun _ d e => match d, e with
  | .int i, .int j => if 0 ≤ j ∧ ((j ≤ 1000000 ∧ i.natAbs < 2 ^ 64) ∨ (Builtin.Int.intBits i : Int) * j ≤ 2 ^ 27) then some (.int (i ^ j.toNat)) else none
  | _, _ => none
def gNeg : Sto → D → Option D := fun _ d => match d with
  | .int i => some (.int (-i))
  | _ => none
def gLt : Sto → D → D → Option D := fun _ d e => match d, e with
  | .int i, .int j => some (.bl (decide (i < j)))
  | _, _ => none
def gLe : Sto → D → D → Option D := fun _ d e => match d, e with
  | .int i, .int j => some (.bl (decide (i ≤ j)))
  | _, _ => none
def gGt : Sto → D → D → Option D := fun _ d e => match d, e with
  | .int i, .int j => some (.bl (decide (j < i)))
  | _, _ => none
def gGe : Sto → D → D → Option D := fun _ d e => match d, e with
  | .int i, .int j => some (.bl (decide (j ≤ i)))
  | _, _ => none
mutual
/-- as the model's data -/
def toPy (S : Sto) : D → Option PyData
  | .non => some .none
  | .bl b => some (.bool b)
  | .int i => some (.int i)
  | .str x => some (.str x)
  | .tup xs => (toPys S xs).map .tuple
  | .lst xs => (toPys S xs).map .list
  | _ => none
def toPys (S : Sto) : List D → Option (List PyData)
  | [] => some []
  | d :: r => match toPy S d, toPys S r with
    | some x, some xs => some (x :: xs)
    | _, _ => none
end
def eqD (S : Sto) (d e : D) : Option Bool := match toPy S (deref S d), toPy S (deref S e) with
  | some x, some y => if SeqAt.shaped x && SeqAt.shaped y then some (PyData.eqv x y) else none
  | _, _ => none
def gEq : Sto → D → D → Option D := fun S d e => (eqD S d e).map .bl
def gNe : Sto → D → D → Option D := fun S d e => (eqD S d e).map fun b => .bl (!b)
section
variable {X : Cx} {W : WX} {a b c e : Expr} {es rest : List Expr} {ra rb rc : RE} {ba bb : RB} {rs : RA} {pos p : Pos} {wd : World} {K : Fg} {mg : Str → Option Value} {α β : List Addr} {F F1 H H1 : Hp} {S : Sto}
/-- two ints by a rule -/
theorem opg_int {f : Value → Value → Sem Value} {C : Int → Int → Prop} {h : Int → Int → Int} {g : Sto → D → D → Option D} (ho : OpR X f (rI C fun i j => .int (h i j)))
    (hg : ∀ S d e z, g S d e = some z → ∃ i j, d = .int i ∧ e = .int j ∧ C i j ∧ z = .int (h i j)) : OpG X f g := by
  refine ⟨_, ho, fun α F H S x y d e z Q hr hx hy hz q => ?_⟩
  obtain ⟨i, j, rfl, rfl, hc, rfl⟩ := hg S d e z hz
  cases hx; cases hy
  have an : α ++ [] = α := List.append_nil α
  exact ⟨i, j, rfl, rfl, hc, q _ H [] F (by rw [an]; exact hr) Stp.refl (.int _)⟩
theorem g_sub : OpG X (binaryOp .Sub) gSub := by
  refine ⟨_, op_sub, fun α F H S x y d e z Q hr hx hy hz q => ?_⟩
  unfold gSub at hz
  split at hz
  · cases hz; cases hx; cases hy
    have an : α ++ [] = α := List.append_nil α
    exact ⟨_, _, rfl, rfl, q _ H [] F (by rw [an]; exact hr) Stp.refl (.int _)⟩
  · cases hz
theorem mulFits_ok {i j : Int} (h : mulFits i j = true) : IntMulOk i j := by
  unfold mulFits at h
  rw [Bool.or_eq_true, Bool.or_eq_true] at h
  rcases h with h | h | h
  · exact CMulW.ok (show _ < _ from of_decide_eq_true h)
  · have := of_decide_eq_true h
    exact CMul.ok (.inl ⟨by omega, by omega⟩)
  · have := of_decide_eq_true h
    exact CMul.ok (.inr ⟨by omega, by omega⟩)
theorem op_mulX : OpR X (binaryOp .Mult) (rI (fun i j => mulFits i j = true) fun i j => .int (i * j)) := opI fun _ _ _ _ _ _ _ hc q => mul_int q (mulFits_ok hc)
theorem g_mul : OpG X (binaryOp .Mult) gMul := opg_int op_mulX fun S d e z h => by
  unfold gMul at h
  split at h
  · split at h
    · rename_i q
      cases h
      exact ⟨_, _, rfl, rfl, q, rfl⟩
    · cases h
  · cases h
theorem op_fdivA : OpR X (binaryOp .FloorDiv) (rI (fun _ j => j ≠ 0 ∧ j.natAbs.log2 < 9000) fun i j => .int (i.fdiv j)) := opI fun i j _ _ _ _ _ hc q => floordiv_int hc.1 q (.inl (PyProof.noPylong_of_log2 hc.2))
theorem g_div : OpG X (binaryOp .FloorDiv) gDiv := opg_int op_fdivA fun S d e z h => by
  unfold gDiv at h
  split at h
  · split at h
    · rename_i q
      cases h
      exact ⟨_, _, rfl, rfl, q, rfl⟩
    · cases h
  · cases h
theorem g_mod : OpG X (binaryOp .Mod) gMod := opg_int op_modN fun S d e z h => by
  unfold gMod at h
  split at h
  · split at h
    · rename_i q
      cases h
      exact ⟨_, _, rfl, rfl, q, rfl⟩
    · cases h
  · cases h
def CPowW (i j : Int) : Prop := 0 ≤ j ∧ ((j ≤ 1000000 ∧ i.natAbs < 2 ^ 64) ∨ (Builtin.Int.intBits i : Int) * j ≤ 2 ^ 27)
theorem op_powW : OpR X (binaryOp .Pow) (rI CPowW fun i j => .int (i ^ j.toNat)) := opI fun _ _ _ _ _ _ _ hc q => by
  rcases hc with ⟨h0, ⟨h1, h2⟩ | h1⟩
  · exact pow_int_small h0 h1 h2 q
  · exact PyProof.Rows.pow_int h0 h1 q
theorem g_pow : OpG X (binaryOp .Pow) gPow := by
  refine ⟨_, op_powW, fun α F H S x y d e z Q hr hx hy hz q => ?_⟩
  unfold gPow at hz
  split at hz
  · split at hz
    · rename_i hc
      cases hz; cases hx; cases hy
      have an : α ++ [] = α := List.append_nil α
      exact ⟨_, _, rfl, rfl, hc, q _ H [] F (by rw [an]; exact hr) Stp.refl (.int _)⟩
    · cases hz
  · cases hz
theorem u_neg : OkU X (rU fun i => .int (-i)) gNeg := by
  intro α F H S x d z Q hr hx hz q
  unfold gNeg at hz
  split at hz
  · cases hz; cases hx
    have an : α ++ [] = α := List.append_nil α
    exact ⟨_, rfl, q _ H [] F (by rw [an]; exact hr) Stp.refl (.int _)⟩
  · cases hz
theorem pd_neg (ha : PD X W a ra) : PD X W (.UnaryOp .USub a pos) (rUn gNeg ra) := pd_un un_neg u_neg ha
/-! ### ==, != -/
mutual
theorem DV.dp {v : V} : ∀ {d : D} {x : PyData}, DV wd K mg F α v d → toPy S d = some x → Sub F H → Dp K H v x
  | _, _, .non, e, _ => by cases e; exact .non
  | _, _, .bl b, e, _ => by cases e; exact .bl b
  | _, _, .int i, e, _ => by cases e; exact .int i
  | _, _, .str y, e, _ => by cases e; exact .str y
  | _, _, .tup h t, e, s => by
    rename_i ds
    unfold toPy at e
    cases q : toPys S ds with
    | none => rw [q] at e; cases e
    | some ys => rw [q] at e; cases e; exact .tup (s.sqT h.1) (DVs.dp t q s)
  | _, _, .lst h t, e, s => by
    rename_i ds
    unfold toPy at e
    cases q : toPys S ds with
    | none => rw [q] at e; cases e
    | some ys => rw [q] at e; cases e; exact .lst (s.sqL h) (DVs.dp t q s)
  | _, _, .tux _ _, e, _ => by cases e
  | _, _, .ptr _, e, _ => by cases e
  | _, _, .fn _, e, _ => by cases e
  | _, _, .ty _, e, _ => by cases e
theorem DVs.dp {vs : List V} : ∀ {ds : List D} {xs : List PyData}, DVs wd K mg F α vs ds → toPys S ds = some xs → Sub F H → DpAll K H vs xs
  | _, _, .nil, e, _ => by cases e; exact .nil
  | _, _, .cons h t, e, s => by
    rename_i d _ ds
    unfold toPys at e
    cases q1 : toPy S d with
    | none => rw [q1] at e; cases e
    | some x =>
      cases q2 : toPys S ds with
      | none => rw [q1, q2] at e; cases e
      | some xs => rw [q1, q2] at e; cases e; exact .cons (DV.dp h q1 s) (DVs.dp t q2 s)
end
theorem Rel.dp (hr : Rel wd K mg α F H S) {v : V} {d : D} {x : PyData} (h : DV wd K mg F α v d) (e : toPy S (deref S d) = some x) : Dp K H v x := by
  have s := hr.see h
  generalize deref S d = dd at e s
  cases s with
  | «at» h _ => exact h.dp e hr.sub
  | dead => cases e
  | lst q t =>
    rename_i ds
    unfold toPy at e
    cases q2 : toPys S ds with
    | none => rw [q2] at e; cases e
    | some ys => rw [q2] at e; cases e; exact .lst (SqL.of q) (t.dp q2 hr.sub)
  | dct _ _ _ => cases e
  | dcn _ _ => cases e
theorem Rel.eqD (hr : Rel wd K mg α F H S) {v u : V} {d e : D} {k : Bool} (h1 : DV wd K mg F α v d) (h2 : DV wd K mg F α u e) (q : DL.eqD S d e = some k) : ∃ x y, Dp K H v x ∧ Dp K H u y ∧ SeqAt.shaped x = true ∧ SeqAt.shaped y = true ∧ k = PyData.eqv x y := by
  unfold DL.eqD at q
  split at q
  · rename_i x y e1 e2
    split at q
    · rename_i hc
      rw [Bool.and_eq_true] at hc
      cases q
      exact ⟨x, y, hr.dp h1 e1, hr.dp h2 e2, hc.1, hc.2, rfl⟩
    · cases q
  · cases q
theorem g_eq (hu : X.A.units + 64 < cLine) : OpG X (compareOp .Eq) gEq := by
  refine ⟨_, op_eqD hu, fun α F H S x y d e z Q hr hx hy hz q => ?_⟩
  unfold gEq at hz
  cases q1 : DL.eqD S d e with
  | none => rw [q1] at hz; cases hz
  | some k =>
    rw [q1] at hz; cases hz
    obtain ⟨x', y', a1, a2, a3, a4, rfl⟩ := hr.eqD hx hy q1
    have an : α ++ [] = α := List.append_nil α
    exact ⟨x', y', a1, a2, a3, a4, q _ H [] F (by rw [an]; exact hr) Stp.refl (.bl _)⟩
theorem g_ne (hu : X.A.units + 64 < cLine) : OpG X (compareOp .NotEq) gNe := by
  refine ⟨_, op_neD hu, fun α F H S x y d e z Q hr hx hy hz q => ?_⟩
  unfold gNe at hz
  cases q1 : DL.eqD S d e with
  | none => rw [q1] at hz; cases hz
  | some k =>
    rw [q1] at hz; cases hz
    obtain ⟨x', y', a1, a2, a3, a4, rfl⟩ := hr.eqD hx hy q1
    have an : α ++ [] = α := List.append_nil α
    exact ⟨x', y', a1, a2, a3, a4, q _ H [] F (by rw [an]; exact hr) Stp.refl (.bl _)⟩
/-! ### is -/
end
end DL
set_option Elab.async false
set_option linter.all false
set_option maxRecDepth 100000
set_option maxHeartbeats 4000000
set_option autoImplicit false
/-! Data layer, eighth part: built-in functions, methods of texts, items, slices. -/
namespace DL
open PySem PySem.Spec PyProof.Rows L2
def tyName (S : Sto) (d : D) : Option String := match deref S d with
  | .non => some "NoneType"
  | .bl _ => some "bool"
  | .int _ => some "int"
  | .str _ => some "str"
  | .tup _ => some "tuple"
  | .lst _ => some "list"
  | .dct _ => some "dict"
  | _ => none
def gIsi : Sto → List D → Option D := fun S ds => match ds with
  | [d, .ty T] => (tyName S d).bind fun t => (kitB t T).map .bl
  | _ => none
def gLen : Sto → List D → Option D := fun S ds => match ds with
  | [d] => (match deref S d with
    | .str y => if y.length ≤ sizeLine then some (.int y.length) else none
    | .tup xs => some (.int xs.length)
    | .lst xs => some (.int xs.length)
    | _ => none)
  | _ => none
def gAbs : Sto → List D → Option D := fun _ ds => match ds with
  | [.int i] => some (.int (if i < 0 then -i else i))
  | _ => none
def gInt : Sto → List D → Option D := fun _ ds => match ds with
  | [.int i] => some (.int i)
  | [.bl k] => some (.int (if k then 1 else 0))
  | [.str a] => (match intText? a with
    | some n => if a.length ≤ 640 then some (.int n) else none
    | none => none)
  | _ => none
def asBls : List D → Option (List Bool)
  | [] => some []
  | .bl b :: r => (asBls r).map (b :: ·)
  | _ => none
def asInts : List D → Option (List Int)
  | [] => some []
  | .int b :: r => (asInts r).map (b :: ·)
  | _ => none
def gAll : Sto → List D → Option D := fun S ds => match ds with
  | [d] => (match deref S d with
    | .lst xs => (asBls xs).map fun bs => .bl (bs.all id)
    | _ => none)
  | _ => none
def gSum : Sto → List D → Option D := fun S ds => match ds with
  | [d] => (match deref S d with
    | .lst xs => (asInts xs).map fun bs => .int bs.sum
    | _ => none)
  | _ => none
section
variable {X : Cx} {W : WX} {a b c e : Expr} {es rest : List Expr} {ra rb rc : RE} {ba bb : RB} {rs : RA} {pos p : Pos} {wd : World} {K : Fg} {mg : Str → Option Value} {α β : List Addr} {F F1 H H1 : Hp} {S : Sto}
theorem asBls_eq : ∀ {xs : List D} {bs : List Bool}, asBls xs = some bs → xs = bs.map .bl
  | [], _, h => by cases h; rfl
  | .bl b :: r, _, h => by
    unfold asBls at h
    cases q : asBls r with
    | none => rw [q] at h; cases h
    | some ys => rw [q] at h; cases h; rw [asBls_eq q]; rfl
theorem asInts_eq : ∀ {xs : List D} {bs : List Int}, asInts xs = some bs → xs = bs.map .int
  | [], _, h => by cases h; rfl
  | .int b :: r, _, h => by
    unfold asInts at h
    cases q : asInts r with
    | none => rw [q] at h; cases h
    | some ys => rw [q] at h; cases h; rw [asInts_eq q]; rfl
/-- the end of a rule that changes nothing -/
theorem fin_now {v : V} {z : D} {Q : VK} (hr : Rel wd K mg α F H S) (hv : DV wd K mg F α v z) (q : ∀ v H' β F', Rel wd K mg (α ++ β) F' H' S → Stp α F H β F' H' → DV wd K mg F' (α ++ β) v z → Q v H') : Q v H := by
  have an : α ++ [] = α := List.append_nil α
  exact q v H [] F (by rw [an]; exact hr) Stp.refl (by rw [an]; exact hv)
theorem pd_ty {x : Str} {n : String} (hm : X.mg x = none) (hg : Gl X x := by rfl) (hv : bootBuiltins x = some (.type n) := by decide +kernel) (hn : x ≠ "__name__" := by decide) (hd : (x == ("__debug__" : Str)) = false := by decide) : PD X W (.Name x pos) (rC (.ty n)) :=
  pd_c (v := .ty n) (pe_bltn hg hm hv rfl hn hd) fun _ _ => .ty n
theorem Rel.tyX (hr : Rel wd K mg α F H S) {v : V} {d : D} {t : String} (h : DV wd K mg F α v d) (e : tyName S d = some t) : TyX K H v (.type t) := by
  have s := hr.see h
  unfold tyName at e
  generalize deref S d = dd at e s
  cases s with
  | «at» h hp =>
    cases h with
    | non => cases e; exact .base .non
    | bl b => cases e; exact .base (.bl b)
    | int i => cases e; exact .base (.int i)
    | str x => cases e; exact .base (.str x)
    | tup q t =>
      cases e
      rcases hr.sub.sqT q.1 with (q | ⟨o, q⟩) | ⟨o, its, n, q, c, _⟩
      · exact .base (.tup q)
      · exact .fTuple q
      · exact .kTuple q c
    | lst q t =>
      cases e
      rcases hr.sub.sqL q with (q | ⟨o, q⟩) | ⟨o, its, n, q, c, _⟩
      · exact .base (.lst q)
      · exact .base (.frz q)
      · exact .kList q c
    | tux q t => cases e
    | ptr _ => exact absurd rfl (hp _)
    | fn _ => cases e
    | ty _ => cases e
    | exc _ _ _ _ _ => cases e
  | dead => cases e
  | lst q t => cases e; exact .base (.lst q)
  | dct q k t =>
    cases e
    rcases q with q | ⟨o, q⟩
    · exact .base (.dK q)
    · exact .fDict q
  | dcn _ _ => cases e
theorem b_isi : BiG X (.builtin "isinstance") gIsi := by
  refine ⟨_, call_isi, fun α F H S xs ds z Q hr hv hz q => ?_⟩
  unfold gIsi at hz
  split at hz
  · rename_i d T
    cases hv with
    | cons h1 h2 =>
      cases h2 with
      | cons h2 h3 =>
        cases h3
        cases h2
        rename_i v
        cases e1 : tyName S d with
        | none => rw [e1] at hz; cases hz
        | some t =>
          rw [e1] at hz
          cases e2 : kitB t T with
          | none => rw [Option.bind_some, e2] at hz; cases hz
          | some k =>
            rw [Option.bind_some, e2] at hz
            cases hz
            exact ⟨v, .ty T, .type t, .type T, k, rfl, .ty T, hr.tyX h1 e1, kit_ty e2, fin_now hr (.bl _) q⟩
  · cases hz
theorem b_len : BiG X (.builtin "len") gLen := by
  refine ⟨_, call_len, fun α F H S xs ds z Q hr hv hz q => ?_⟩
  unfold gLen at hz
  split at hz
  · rename_i d
    cases hv with
    | cons h1 h2 =>
      cases h2
      rename_i v
      split at hz
      · rename_i y e
        split at hz
        · rename_i hl
          cases hz
          have := hr.viewS h1 e
          subst this
          exact ⟨_, y.length, rfl, ⟨hl, rfl⟩, fin_now hr (.int _) q⟩
        · cases hz
      · rename_i ys e
        cases hz
        obtain ⟨a, us, rfl, h3, h4⟩ := hr.viewT h1 e
        exact ⟨_, us.length, rfl, .inr ⟨us, h3, rfl⟩, by rw [h4.length]; exact fin_now hr (.int _) q⟩
      · rename_i ys e
        cases hz
        obtain ⟨a, us, rfl, h3, h4⟩ := hr.viewL h1 e
        exact ⟨_, us.length, rfl, .inl ⟨us, h3, rfl⟩, by rw [h4.length]; exact fin_now hr (.int _) q⟩
      · cases hz
  · cases hz
theorem b_abs : BiG X (.builtin "abs") gAbs := by
  refine ⟨_, call_abs, fun α F H S xs ds z Q hr hv hz q => ?_⟩
  unfold gAbs at hz
  split at hz
  · cases hz
    cases hv with
    | cons h1 h2 => cases h2; cases h1; exact ⟨_, rfl, fin_now hr (.int _) q⟩
  · cases hz
theorem b_int : BiG X (.type "int") gInt := by
  refine ⟨_, call_int1.or call_int_str, fun α F H S xs ds z Q hr hv hz q => ?_⟩
  unfold gInt at hz
  split at hz
  · cases hz
    cases hv with
    | cons h1 h2 => cases h2; cases h1; exact .inl (.inl ⟨_, rfl, fin_now hr (.int _) q⟩)
  · cases hz
    cases hv with
    | cons h1 h2 => cases h2; cases h1; exact .inl (.inr ⟨_, rfl, fin_now hr (.int _) q⟩)
  · cases hv with
    | cons h1 h2 =>
      cases h2; cases h1
      split at hz
      · rename_i n e
        split at hz
        · rename_i hl
          cases hz
          exact .inr ⟨_, n, rfl, e, hl, fin_now hr (.int _) q⟩
        · cases hz
      · cases hz
  · cases hz
theorem b_all (hc : X.calm = true) : BiG X (.builtin "all") gAll := by
  refine ⟨_, cr_all hc, fun α F H S xs ds z Q hr hv hz q => ?_⟩
  unfold gAll at hz
  split at hz
  · rename_i d
    cases hv with
    | cons h1 h2 =>
      cases h2
      split at hz
      · rename_i ys e
        cases e2 : asBls ys with
        | none => rw [e2] at hz; cases hz
        | some bs =>
          rw [e2] at hz; cases hz
          obtain ⟨a, us, rfl, h3, h4⟩ := hr.viewL h1 e
          rw [asBls_eq e2] at h4
          rw [h4.bls] at h3
          exact ⟨a, bs, rfl, h3, fin_now hr (.bl _) q⟩
      · cases hz
  · cases hz
theorem b_sum (hc : X.calm = true) : BiG X (.builtin "sum") gSum := by
  refine ⟨_, cr_sum hc, fun α F H S xs ds z Q hr hv hz q => ?_⟩
  unfold gSum at hz
  split at hz
  · rename_i d
    cases hv with
    | cons h1 h2 =>
      cases h2
      split at hz
      · rename_i ys e
        cases e2 : asInts ys with
        | none => rw [e2] at hz; cases hz
        | some bs =>
          rw [e2] at hz; cases hz
          obtain ⟨a, us, rfl, h3, h4⟩ := hr.viewL h1 e
          rw [asInts_eq e2] at h4
          rw [h4.ints] at h3
          exact ⟨a, bs, rfl, h3, fin_now hr (.int _) q⟩
      · cases hz
  · cases hz
end
end DL
set_option Elab.async false
set_option linter.all false
set_option maxRecDepth 100000
set_option maxHeartbeats 4000000
set_option autoImplicit false
/-! Data layer, ninth part: repr, methods, texts, items, slices, lists that are made. -/
namespace DL
open PySem PySem.Spec PyProof.Rows L2
section
variable {X : Cx} {W : WX} {a b c e : Expr} {es rest : List Expr} {ra rb rc : RE} {ba bb : RB} {rs : RA} {pos p : Pos} {wd : World} {K : Fg} {mg : Str → Option Value} {α β : List Addr} {F F1 H H1 : Hp} {S : Sto}
instance (x : Str) (n : Int) : Decidable (MulOk x n) := by unfold MulOk; infer_instance
theorem g_add : OpG X (binaryOp .Add) gAdd := by
  refine ⟨_, (op_add.or op_add_str).or op_catP, fun α F H S x y d e z Q hr hx hy hz q => ?_⟩
  unfold gAdd at hz
  split at hz
  · rename_i e1 e2
    cases hz
    have := hr.viewI hx e1
    have := hr.viewI hy e2
    subst x; subst y
    exact .inl (.inl ⟨_, _, rfl, rfl, fin_now hr (.int _) q⟩)
  · rename_i e1 e2
    split at hz
    · rename_i hl
      cases hz
      have := hr.viewS hx e1
      have := hr.viewS hy e2
      subst x; subst y
      exact .inl (.inr ⟨_, _, rfl, rfl, hl, fin_now hr (.str _) q⟩)
    · cases hz
  · rename_i xs ys e1 e2
    split at hz
    · rename_i hl
      cases hz
      obtain ⟨a, us, rfl, a1, a2⟩ := hr.viewT hx e1
      obtain ⟨b, ws, rfl, b1, b2⟩ := hr.viewT hy e2
      refine .inr ⟨a, b, us, ws, rfl, rfl, a1, b1, by rw [a2.length, b2.length]; exact hl, fun en => ?_, fun _ en => ?_, fun n1 n2 p hp o ho => ?_⟩
      · subst en
        have en : xs = [] := by cases a2; rfl
        subst en
        have sy := hr.see hy
        rw [e2] at sy
        cases sy with
        | «at» h _ => exact fin_now hr h q
      · subst en
        have en : ys = [] := by cases b2; rfl
        subst en
        rw [List.append_nil] at q
        have sx := hr.see hx
        rw [e1] at sx
        cases sx with
        | «at» h _ => exact fin_now hr h q
      · obtain ⟨c1, c2, c3⟩ := hr.tup (a2.append b2) hp ho
        exact q _ _ _ _ c1 c2 c3
    · cases hz
  · cases hz
/-! ### repr -/
end
end DL
set_option Elab.async false
set_option linter.all false
set_option maxRecDepth 100000
set_option maxHeartbeats 4000000
set_option autoImplicit false
/-! Data layer, tenth part: methods, lists that are made, items, slices. -/
namespace DL
open PySem PySem.Spec PyProof.Rows L2
/-! ### what they come to -/
/-- the type by whose method it goes -/
def isTy (T : String) (S : Sto) (d : D) : Bool := match deref S d with
  | .str _ => T == "str"
  | .lst _ => T == "list"
  | .dct _ => T == "dict"
  | _ => false
/-- a method: the receiver's type is looked at ahead of the arguments -/
def rMeth (T : String) (g : Sto → D → List D → Option (D × Sto)) (a : RE) (as : RA) : RE := fun δ S => (a δ S).bind fun x S1 => if isTy T S1 x then (as δ S1).bind fun ys S2 => match g S2 x ys with
  | some (z, S3) => .ok z S3
  | none => .stuck else .stuck
def mAppend : Sto → D → List D → Option (D × Sto) := fun S d ds => match d, ds with
  | .ptr k, [y] => (match S[k]? with
    | some (.lst xs) => if xs.length < sizeLine then some (.non, S.set k (.lst (xs ++ [y]))) else none
    | _ => none)
  | _, _ => none
/-- an item of a list, a tuple, a text -/
def gIx : Sto → D → D → Option D := fun S d e => match deref S d, e with
  | .lst xs, .int i => atI xs i
  | .tup xs, .int i => atI xs i
  | .str z, .int i => if z.length ≤ sizeLine then (atI z.cps.toList i).map fun c => .str ⟨#[c]⟩ else none
  | _, _ => none
/-- a part: from, to -/
def cutD {A : Type} (xs : List A) (lo hi : Option Int) : List A := (xs.drop (HT.sIx xs.length 0 lo)).take (HT.sIx xs.length xs.length hi - HT.sIx xs.length 0 lo)
abbrev RO := Sl → Sto → Res (Option Int)
def oNone : RO := fun _ S => .ok none S
def oSome (a : RE) : RO := fun δ S => (a δ S).bind fun x S1 => match x with
  | .int i => .ok (some i) S1
  | _ => .stuck
def rCut (a : RE) (l h : RO) : RE := fun δ S => (a δ S).bind fun x S1 => (l δ S1).bind fun i S2 => (h δ S2).bind fun j S3 => match deref S3 x with
  | .lst xs => .ok (.lst (cutD xs i j)) S3
  | .tup xs => .ok (.tup (cutD xs i j)) S3
  | .str z => if z.length ≤ sizeLine then .ok (.str (cutS z i j)) S3 else .stuck
  | _ => .stuck
section
variable {X : Cx} {W : WX} {a b c e : Expr} {es rest : List Expr} {ra rb rc : RE} {ba bb : RB} {rs : RA} {pos p : Pos} {wd : World} {K : Fg} {mg : Str → Option Value} {α β : List Addr} {F F1 H H1 : Hp} {S : Sto}
theorem isTy_ok (hr : Rel wd K mg α F H S) {v : V} {d : D} {T : String} (h : DV wd K mg F α v d) (e : isTy T S d = true) (hT : T ≠ "dict") : tyV K T v H := by
  have s := hr.see h
  unfold isTy at e
  generalize deref S d = dd at e s
  cases s with
  | «at» h hp =>
    cases h with
    | str x => exact beq_iff_eq.mp e
    | lst q t => exact .inl ⟨beq_iff_eq.mp e, _, hr.sub.sqL q⟩
    | ptr _ => exact absurd rfl (hp _)
    | _ => cases e
  | dead => cases e
  | lst q t => exact .inl ⟨beq_iff_eq.mp e, _, SqL.of q⟩
  | dct q k t => exact absurd (beq_iff_eq.mp e) hT
  | dcn q t => cases e
def OkM (X : Cx) (r : V → List V → Hp → VK → Prop) (g : Sto → D → List D → Option (D × Sto)) : Prop := ∀ α F H S (x : V) (xs : List V) (d : D) (ds : List D) (z : D) (S' : Sto) (Q : VK), Rel X.w X.K X.mg α F H S → DV X.w X.K X.mg F α x d → DVs X.w X.K X.mg F α xs ds → g S d ds = some (z, S') →
  (∀ v H' β F', Rel X.w X.K X.mg (α ++ β) F' H' S' → Stp α F H β F' H' → DV X.w X.K X.mg F' (α ++ β) v z → Q v H') → r x xs H Q
structure MdG (X : Cx) (id : String) (g : Sto → D → List D → Option (D × Sto)) : Prop where
  ex : ∃ r, MtR X id r ∧ OkM X r g
theorem pd_meth {o : Expr} {name : Str} {T id : String} {g : Sto → D → List D → Option (D × Sto)} {apos cpos : Pos} {ro : RE} (hm : MdG X id g) (pa : PlainAttrs T) (slot : Slot T name id) (hty : typeOf (.builtin id) = pure (.type "method_descriptor")) (ho : PD X W o ro) (ha : PDs X W (e :: es) rs) (hT : T ≠ "dict" := by decide)
    (hbase : attributeBase o name X.env (eval o X.env) = eval o X.env := by rfl)
    (hfew : ((backTo cpos (starEach (e :: es) X.env)).all (fun x => !x.1) && (backToKw cpos (keywordEach [] X.env)).all (fun x => x.1.isSome) && decide ((e :: es).length + ([] : List Keyword).length + (if ([] : List Keyword).isEmpty then 0 else 1) < 30)) = true := by rfl)
    (hline : (apos.endLine == cpos.line) = true := by rfl) (hs : starEach (e :: es) X.env = (false, eval e X.env) :: starEach es X.env := by rfl) (hplain : (backTo cpos (starEach es X.env)).any (·.1) = false := by rfl) :
    PD X W (.Call (.Attribute o name apos) (e :: es) [] cpos) (rMeth T g ro rs) := by
  obtain ⟨r, h1, h2⟩ := hm.ex
  obtain ⟨to, po, so⟩ := ho.ex
  obtain ⟨t, pt, st⟩ := ha.ex
  refine ⟨_, pe_bm pa slot hty h1 po pt hbase hfew hline hs hplain, fun α F σ H δ S Q hr hs h => ?_⟩
  refine so α F σ H δ S _ hr hs (wp.bind h fun d S1 _ x H1 β F1 r1 q1 v1 h1 => ?_)
  split at h1
  · rename_i ety
    refine ⟨isTy_ok r1 v1 ety hT, ?_⟩
    refine st (α ++ β) F1 σ H1 δ S1 _ r1 (hs.mono q1.sub) (wp.bind h1 fun ds S2 _ xs H2 γ F2 r2 q2 v2 h3 => ?_)
    cases eg : g S2 d ds with
    | none => rw [eg] at h3; exact h3.elim
    | some zs =>
      obtain ⟨z, S3⟩ := zs
      rw [eg] at h3
      exact h2 _ F2 H2 S2 x xs d ds z S3 Q r2 (v1.mono q2.sub) v2 eg fun v H' ε F' r3 s3 v3 => h3 v H' ε F' r3 s3 v3
  · exact h1.elim
theorem m_append : MdG X "list.append" mAppend := by
  refine ⟨rAppend, mt_append, fun α F H S x xs d ds z S' Q hr hx hv hz q => ?_⟩
  unfold mAppend at hz
  split at hz
  · rename_i k y
    split at hz
    · rename_i zs e
      split at hz
      · rename_i hl
        cases hz
        cases hx with
        | ptr ha =>
          obtain ⟨o, _⟩ := hr.own k _ _ ha e
          obtain ⟨us, o1, o2⟩ := o
          cases hv with
          | cons h1 h2 =>
            cases h2
            obtain ⟨a1, a2⟩ := hr.setO (o := .lst (us ++ [_])) (d := .lst (zs ++ [y])) ha e rfl ⟨_, upd_same, o2.append (.cons h1 .nil)⟩
            exact ⟨_, us, _, rfl, rfl, o1, by rw [o2.length]; exact hl, q _ _ _ _ a1 a2 .non⟩
      · cases hz
    · cases hz
  · cases hz
/-! ### items -/
theorem atI_DV {xs : List D} {us : List V} {i : Int} {d : D} (h : DVs wd K mg F α us xs) (e : atI xs i = some d) : ∃ v, atI us i = some v ∧ DV wd K mg F α v d := by
  unfold atI at e ⊢
  rw [h.length]
  cases q : ixN xs.length i with
  | none => rw [q] at e; cases e
  | some j => rw [q] at e; exact h.get e
theorem pd_ix (ha : PD X W a ra) (hb : PD X W b rb) (hs : PlainIx b := by intro _ _; rfl) : PD X W (.Subscript a b pos) (rBin gIx ra rb) := by
  obtain ⟨ta, pa, sa⟩ := ha.ex
  obtain ⟨tb, pb, sb⟩ := hb.ex
  refine ⟨_, pe_ix ix_seq pa pb hs, sa.bin sb fun α F H S x y d e z Q hr hx hy hz q => ?_⟩
  unfold gIx at hz
  split at hz
  · rename_i xs i e1
    cases hy
    obtain ⟨l, us, rfl, a1, a2⟩ := hr.viewL hx e1
    obtain ⟨v, e3, e4⟩ := atI_DV a2 hz
    exact .inl ⟨l, us, i, v, rfl, rfl, a1, e3, fin_now hr e4 q⟩
  · rename_i xs i e1
    cases hy
    obtain ⟨l, us, rfl, a1, a2⟩ := hr.viewT hx e1
    obtain ⟨v, e3, e4⟩ := atI_DV a2 hz
    exact .inr (.inl ⟨l, us, i, v, rfl, rfl, a1, e3, fin_now hr e4 q⟩)
  · rename_i zz i e1
    split at hz
    · rename_i hl
      cases hy
      have := hr.viewS hx e1
      subst this
      cases e3 : atI zz.cps.toList i with
      | none => rw [e3] at hz; cases hz
      | some c => rw [e3] at hz; cases hz; exact .inr (.inr ⟨zz, i, c, rfl, rfl, hl, e3, fin_now hr (.str _) q⟩)
    · cases hz
  · cases hz
end
end DL
set_option Elab.async false
set_option linter.all false
set_option maxRecDepth 100000
set_option maxHeartbeats 4000000
set_option autoImplicit false
/-! Data layer, eleventh part: slices, what is walked, targets, lists that are made, dicts. -/
namespace DL
open PySem PySem.Spec PyProof.Rows L2
def rSeq (a : RE) : RA := fun δ S => (a δ S).bind fun x S1 => match x with
  | .lst ds => .ok ds S1
  | .tup ds => .ok ds S1
  | .str z => .ok (z.cps.toList.map fun c => .str ⟨#[c]⟩) S1
  | _ => .stuck
def rangeD (lo hi : Int) : List D := (List.range (hi - lo).toNat).map fun (i : Nat) => .int (lo + i)
def rRange (a : RA) : RA := fun δ S => (a δ S).bind fun xs S1 => match xs with
  | [.int j] => if -(2 ^ 62) ≤ j ∧ j < 2 ^ 62 then .ok (rangeD 0 j) S1 else .stuck
  | [.int i, .int j] => if -(2 ^ 62) ≤ i ∧ i < 2 ^ 62 ∧ -(2 ^ 62) ≤ j ∧ j < 2 ^ 62 then .ok (rangeD i j) S1 else .stuck
  | _ => .stuck
def enumD : Nat → List D → List D
  | _, [] => []
  | n, d :: r => .tux [.int n, d] :: enumD (n + 1) r
def rEnum (a : RA) : RA := fun δ S => (a δ S).bind fun xs S1 => match xs with
  | [.lst ds] => .ok (enumD 0 ds) S1
  | _ => .stuck
/-- a, b = x, y -/
def sPar (i j : Nat) (a : RA) : RS := fun δ S => (a δ S).out δ fun xs S1 => match xs with
  | [x, y] => if i < δ.length ∧ j < δ.length then .nx ((δ.set i (some x)).set j (some y)) S1 else .stuck
  | _ => .stuck
section
variable {X : Cx} {W : WX} {a b c e tg : Expr} {es rest : List Expr} {ra rb rc : RE} {ba bb : RB} {rs : RA} {pos p : Pos} {wd : World} {K : Fg} {mg : Str → Option Value} {α β : List Addr} {F F1 H H1 : Hp} {S : Sto}
/-! ### slices -/
def SndO (wd : World) (K : Fg) (mg : Str → Option Value) (W : WX) (t : TO) (r : RO) : Prop := ∀ α F σ H δ S (Q : Option Int → Hp → Prop), Rel wd K mg α F H S → Slots wd K mg F α σ δ → wp wd K mg α F H (fun _ _ (b a : Option Int) => b = a) (r δ S) Q (fun c d H' => W c d σ H') → t σ H Q
structure POd (X : Cx) (W : WX) (e : Option Expr) (r : RO) : Prop where
  ex : ∃ t, PO X e t ∧ SndO X.w X.K X.mg W t r
theorem pod_none : POd X W none oNone := ⟨_, po_none, fun α F σ H δ S Q hr hs h => h.now hr rfl⟩
theorem pod_some (ha : PD X W a ra) : POd X W (some a) (oSome ra) := by
  obtain ⟨t, p1, s1⟩ := ha.ex
  refine ⟨_, po_some p1, fun α F σ H δ S Q hr hs h => ?_⟩
  refine s1 α F σ H δ S _ hr hs (wp.bind h fun d S1 _ x H1 β F1 r1 q1 v1 h1 => ?_)
  cases d with
  | int i => cases v1; exact ⟨i, rfl, h1.now r1 rfl⟩
  | _ => exact h1.elim
theorem cut_DVs {xs : List D} {us : List V} (lo hi : Option Int) (h : DVs wd K mg F α us xs) : DVs wd K mg F α (cutV us lo hi) (cutD xs lo hi) := by
  unfold cutV cutD
  rw [h.length]
  exact (h.drop _).take _
theorem pd_cut {lo hi : Option Expr} {p2 : Pos} {ol oh : RO} (ha : PD X W a ra) (hl : POd X W lo ol) (hh : POd X W hi oh) : PD X W (.Subscript a (.Slice lo hi none p2) pos) (rCut ra ol oh) := by
  obtain ⟨ta, pa, sa⟩ := ha.ex
  obtain ⟨tl, pl, sl⟩ := hl.ex
  obtain ⟨th, ph, sh⟩ := hh.ex
  refine ⟨_, pe_slice ((sl_list.or sl_tupP).or sl_str) pa pl ph, fun α F σ H δ S Q hr hs h => ?_⟩
  refine sa α F σ H δ S _ hr hs (wp.bind h fun d S1 _ x H1 β F1 r1 q1 v1 h1 => ?_)
  refine sl (α ++ β) F1 σ H1 δ S1 _ r1 (hs.mono q1.sub) (wp.bind h1 fun i S2 _ i' H2 γ F2 r2 q2 v2 h2 => ?_)
  have v2 : i' = i := v2
  subst v2
  refine sh (α ++ β ++ γ) F2 σ H2 δ S2 _ r2 ((hs.mono q1.sub).mono q2.sub) (wp.bind h2 fun j S3 _ j' H3 ε F3 r3 q3 v3 h3 => ?_)
  have v3 : j' = j := v3
  subst v3
  have vx := (v1.mono (β := γ) q2.sub).mono (β := ε) q3.sub
  split at h3
  · rename_i xs e1
    obtain ⟨l, us, rfl, a1, a2⟩ := r3.viewL vx e1
    refine .inl (.inl ⟨l, us, rfl, a1, fun p hp => ?_⟩)
    obtain ⟨c1, c2, c3⟩ := r3.lst (cut_DVs _ _ a2) hp
    exact h3 _ _ _ _ c1 c2 c3
  · rename_i xs e1
    obtain ⟨l, us, rfl, a1, a2⟩ := r3.viewT vx e1
    refine .inl (.inr ⟨l, us, rfl, a1, fun hw => ?_, fun _ p hp o ho => ?_⟩)
    · have ew : cutD xs i' j' = xs := by
        unfold cutD
        rw [a2.length] at hw
        rw [hw.1, hw.2, List.drop_zero, Nat.sub_zero, List.take_length]
      rw [ew] at h3
      have sx := r3.see vx
      rw [e1] at sx
      cases sx with
      | «at» h _ => exact h3.now r3 h
    · obtain ⟨c1, c2, c3⟩ := r3.tup (cut_DVs _ _ a2) hp ho
      exact h3 _ _ _ _ c1 c2 c3
  · rename_i zz e1
    split at h3
    · rename_i hl
      have := r3.viewS vx e1
      subst this
      exact .inr ⟨zz, rfl, hl, h3.now r3 (.str _)⟩
    · exact h3.elim
  · exact h3.elim
/-! ### in -/
/-! ### what is walked -/
theorem pi_or {wi wi' : TI} (h : PI X tg e wi) (h' : PI X tg e wi') : PI X tg e (fun σ H R => wi σ H R ∨ wi' σ H R) :=
  ⟨fun pins s σ H R I q => q.elim (h.run pins s σ H R I) (h'.run pins s σ H R I)⟩
theorem it_list {l : Addr} {us : List V} {ds : List D} (h : SqL K F l us) (hv : DVs wd K mg F α us ds) : ItOk wd K mg F α (Itl K l) ds where
  go := fun F' H' i a b hi => by
    obtain ⟨v, e1, _⟩ := hv.get (List.getElem?_eq_getElem hi)
    exact ⟨us, v, (a.trans b).sqL h, e1⟩
  stop := fun F' H' a b => ⟨us, (a.trans b).sqL h, by rw [hv.length]; exact Nat.le_refl _⟩
  yld := fun F' H' H2 i x d a b hd ⟨e1, e2⟩ => by
    refine .inl ⟨e1, ?_⟩
    have e3 := e2 us ((a.trans b).sqL h)
    obtain ⟨v, e4, e5⟩ := hv.get hd
    rw [e3] at e4; cases e4
    have := e5.mono (β := []) a
    rw [List.append_nil] at this; exact this
theorem it_tup {l : Addr} {us : List V} {ds : List D} (h : SqT K F l us) (hv : DVs wd K mg F α us ds) : ItOk wd K mg F α (Itt K l) ds where
  go := fun F' H' i a b hi => by
    obtain ⟨v, e1, _⟩ := hv.get (List.getElem?_eq_getElem hi)
    exact ⟨us, v, (a.trans b).sqT h, e1⟩
  stop := fun F' H' a b => ⟨us, (a.trans b).sqT h, by rw [hv.length]; exact Nat.le_refl _⟩
  yld := fun F' H' H2 i x d a b hd ⟨e1, e2⟩ => by
    refine .inl ⟨e1, ?_⟩
    have e3 := e2 us ((a.trans b).sqT h)
    obtain ⟨v, e4, e5⟩ := hv.get hd
    rw [e3] at e4; cases e4
    have := e5.mono (β := []) a
    rw [List.append_nil] at this; exact this
theorem it_str (z : Str) : ItOk wd K mg F α (Its z) (z.cps.toList.map fun c => .str ⟨#[c]⟩) where
  go := fun F' H' i a b hi => by show i < z.cps.size; simpa using hi
  stop := fun F' H' a b => by show z.cps.size ≤ _; simp
  yld := fun F' H' H2 i x d a b hd ⟨e1, c, e2, e3⟩ => by
    subst e3
    refine .inl ⟨e1, ?_⟩
    rw [List.getElem?_map, Array.getElem?_toList, e2] at hd
    cases hd
    exact .str _
theorem it_range (lo hi : Int) : ItOk wd K mg F α (Itr lo (hi - lo).toNat) (rangeD lo hi) where
  go := fun F' H' i a b h => by show i < (hi - lo).toNat; simpa [rangeD] using h
  stop := fun F' H' a b => by show _ ≤ (rangeD lo hi).length; simp [rangeD]
  yld := fun F' H' H2 i x d a b hd ⟨e1, e2⟩ => by
    subst e2
    refine .inl ⟨e1, ?_⟩
    unfold rangeD at hd
    rw [List.getElem?_map] at hd
    cases q : (List.range (hi - lo).toNat)[i]? with
    | none => rw [q] at hd; cases hd
    | some j =>
      rw [q] at hd; cases hd
      have : j = i := by
        obtain ⟨_, e⟩ := List.getElem?_eq_some_iff.mp q
        simpa using e.symm
      subst this
      exact .int _
theorem pid_seq (ha : PD X W e ra) : PId X W tg e (rSeq ra) := by
  obtain ⟨t, p1, s1⟩ := ha.ex
  refine ⟨_, pi_or (pi_or (pi_list p1) (pi_tup p1)) (pi_str p1), fun α F σ H δ S Q hr hs h => ?_⟩
  unfold rSeq at h
  cases q : ra δ S with
  | err c fs S1 =>
    rw [q] at h
    refine .inl (.inl (s1 α F σ H δ S _ hr hs ?_))
    rw [q]; exact h
  | stuck => rw [q] at h; exact h.elim
  | ok d S1 =>
    rw [q] at h
    cases d with
    | lst ds =>
      refine .inl (.inl (s1 α F σ H δ S _ hr hs ?_))
      rw [q]
      intro v H' β F' r1 st v1
      cases v1 with
      | lst h1 h2 => exact ⟨_, rfl, ⟨_, r1.sub.sqL h1⟩, h _ H' β F' r1 st (it_list h1 h2)⟩
    | tup ds =>
      refine .inl (.inr (s1 α F σ H δ S _ hr hs ?_))
      rw [q]
      intro v H' β F' r1 st v1
      cases v1 with
      | tup h1 h2 => exact ⟨_, rfl, ⟨_, r1.sub.sqT h1.1⟩, h _ H' β F' r1 st (it_tup h1.1 h2)⟩
    | str z =>
      refine .inr (s1 α F σ H δ S _ hr hs ?_)
      rw [q]
      intro v H' β F' r1 st v1
      cases v1
      exact ⟨z, rfl, h _ H' β F' r1 st (it_str z)⟩
    | _ => exact (show False from h).elim
theorem pid_range1 (hm : X.mg "range" = none) (ha : PDs X W [a] rs) (hg : Gl X "range" := by rfl) (hs : starEach [a] X.env = [(false, eval a X.env)] := by rfl) : PId X W tg (.Call (.Name "range" p) [a] [] pos) (rRange rs) := by
  obtain ⟨t, p1, s1⟩ := ha.ex
  refine ⟨_, pi_range1 hg hm p1 hs, fun α F σ H δ S Q hr hs h => ?_⟩
  refine s1 α F σ H δ S _ hr hs (wp.bind h fun ds S1 e1 xs H1 β F1 r1 q1 v1 h1 => ?_)
  have hl := ha.len _ _ _ _ e1
  match ds, hl with
  | [d], _ =>
    cases v1 with
    | cons v1 vn =>
      cases vn
      cases d with
      | int j =>
        cases v1
        dsimp only at h1
        split at h1
        · rename_i hc
          refine ⟨j, rfl, hc.1, hc.2, ?_⟩
          have := it_range (wd := X.w) (K := X.K) (mg := X.mg) (F := F1) (α := α ++ β) 0 j
          rw [Int.sub_zero] at this
          exact h1.now r1 this
        · exact h1.elim
      | _ => exact h1.elim
theorem enumD_get : ∀ {ds : List D} {n i : Nat} {d : D}, (enumD n ds)[i]? = some d → ∃ e, ds[i]? = some e ∧ d = .tux [.int ((n + i : Nat) : Int), e]
  | [], _, _, _, h => by simp [enumD] at h
  | e :: r, n, 0, d, h => by simp [enumD] at h; exact ⟨e, rfl, by rw [← h]; rfl⟩
  | e :: r, n, i + 1, d, h => by
    obtain ⟨e', h1, h2⟩ := enumD_get (ds := r) (n := n + 1) (i := i) (d := d) (by simpa [enumD] using h)
    exact ⟨e', by simpa using h1, by rw [h2]; congr 4; omega⟩
theorem enumD_len : ∀ (n : Nat) (ds : List D), (enumD n ds).length = ds.length
  | _, [] => rfl
  | n, _ :: r => by rw [enumD, List.length_cons, List.length_cons, enumD_len]
theorem it_enum {l : Addr} {us : List V} {ds : List D} (h : SqL K F l us) (hv : DVs wd K mg F α us ds) : ItOk wd K mg F α (Ite K l) (enumD 0 ds) where
  go := fun F' H' i a b hi => by
    rw [enumD_len] at hi
    obtain ⟨v, e1, _⟩ := hv.get (List.getElem?_eq_getElem hi)
    exact ⟨us, v, (a.trans b).sqL h, e1⟩
  stop := fun F' H' a b => ⟨us, (a.trans b).sqL h, by rw [hv.length, enumD_len]; exact Nat.le_refl _⟩
  yld := fun F' H' H2 i x d a b hd ⟨T, y, e1, e2, e3, e4⟩ => by
    have e5 := e4 us ((a.trans b).sqL h)
    obtain ⟨e, e6, rfl⟩ := enumD_get hd
    obtain ⟨v, e7, e8⟩ := hv.get e6
    rw [e5] at e7; cases e7
    subst e1
    have nF : F' T = none := by
      cases z : F' T with
      | none => rfl
      | some u => rw [b _ _ z] at e2; cases e2
    refine .inr ⟨T, _, e2, e3, .tux (SqT.of upd_same) (.cons ?_ (.cons ?_ .nil))⟩
    · rw [Nat.zero_add]; exact .int _
    · have := e8.mono (β := []) (a.trans (Sub.new (o := .tup [.int (i : Nat), y]) nF))
      rw [List.append_nil] at this; exact this
theorem pid_enum {elts : List Expr} {kk : Nat} {tpos : Pos} (hm : X.mg "enumerate" = none) (ha : PDs X W [e] rs) (hg : Gl X "enumerate" := by rfl) (hs : starEach [e] X.env = [(false, eval e X.env)] := by rfl) : PId X W (.Tuple elts kk tpos) (.Call (.Name "enumerate" p) [e] [] pos) (rEnum rs) := by
  obtain ⟨t, p1, s1⟩ := ha.ex
  refine ⟨_, pi_enum hg hm p1 hs, fun α F σ H δ S Q hr hs h => ?_⟩
  refine s1 α F σ H δ S _ hr hs (wp.bind h fun ds S1 e1 xs H1 β F1 r1 q1 v1 h1 => ?_)
  have hl := ha.len _ _ _ _ e1
  match ds, hl with
  | [d], _ =>
    cases v1 with
    | cons v1 vn =>
      cases vn
      cases d with
      | lst ys =>
        cases v1 with
        | lst a1 a2 => exact ⟨_, _, rfl, r1.sub.sqL a1, h1.now r1 (it_enum a1 a2)⟩
      | _ => exact h1.elim
/-! ### targets from a list, two names at once -/
theorem psd_par {i j : Nat} {x y : Str} {px py pt : Pos} {kt k2 : Nat} {pt2 : Pos} (hc : X.calm = true) (hN : X.N.Nodup) (ha : PDs X W [a, b] rs) (hij : i ≠ j := by decide) (hi : X.N[i]? = some x := by rfl) (hj : X.N[j]? = some y := by rfl) (hx : X.env.scope.names.lookup x = some .local := by rfl) (hy : X.env.scope.names.lookup y = some .local := by rfl)
    (hw : swappedStores [.Tuple [.Name x px, .Name y py] kt pt] (.Tuple [a, b] k2 pt2) X.env = pure (some [x, y]) := by rfl) : PSd X W (.Assign [.Tuple [.Name x px, .Name y py] kt pt] (.Tuple [a, b] k2 pt2) pos) (sPar i j rs) := by
  obtain ⟨t, p1, s1⟩ := ha.ex
  refine ⟨_, ps_par hc hN hi hj hij hx hy p1 hw, fun α F σ H δ S E hr hs h => ?_⟩
  refine s1 α F σ H δ S _ hr hs (wpS.out h hs fun ds S1 e1 xs H1 β F1 r1 q1 v1 h1 => ?_)
  have hl := ha.len _ _ _ _ e1
  match ds, hl with
  | [d, d'], _ =>
    cases v1 with
    | cons v1 vn =>
      cases vn with
      | cons v2 vn =>
        cases vn
        dsimp only at h1
        split at h1
        · exact ⟨_, _, rfl, h1.nx r1 (((hs.mono q1.sub).set v1).set v2)⟩
        · exact h1.elim
end
end DL
set_option Elab.async false
set_option linter.all false
set_option maxRecDepth 100000
set_option maxHeartbeats 4000000
set_option autoImplicit false
/-! Data layer, twelfth part: lists that are made, dicts. -/
namespace DL
open PySem PySem.Spec PyProof.Rows L2
def keyEq : D → D → Bool
  | .int i, .int j => i == j
  | .str x, .str y => decide (x = y)
  | _, _ => false
def lookD : List (D × D) → D → Option D
  | [], _ => none
  | (k, v) :: r, q => if keyEq k q then some v else lookD r q
def replD : List (D × D) → D → D → List (D × D)
  | [], _, _ => []
  | (k, v) :: r, q, y => if keyEq k q then (k, y) :: replD r q y else (k, v) :: replD r q y
def putD (kvs : List (D × D)) (q y : D) : List (D × D) := if (lookD kvs q).isSome then replD kvs q y else kvs ++ [(q, y)]
def mergeD (kvs more : List (D × D)) : List (D × D) := more.foldl (fun acc kv => putD acc kv.1 kv.2) kvs
def isKey : D → Bool
  | .int _ => true
  | .str _ => true
  | _ => false
/-- pairs of a display, from the left -/
def rPairs : List (RE × RE) → Sl → Sto → Res (List (D × D))
  | [], _, S => .ok [] S
  | (k, v) :: r, δ, S => (k δ S).bind fun x S1 => (v δ S1).bind fun y S2 => (rPairs r δ S2).bind fun ps S3 => .ok ((x, y) :: ps) S3
def rDisp (ps : List (RE × RE)) : RE := fun δ S => (rPairs ps δ S).bind fun kvs S1 => if kvs.all (fun p => isKey p.1) && decide (kvs.length ≤ 15) then .ok (.dct (mergeD [] kvs)) S1 else .stuck
def gList : Sto → List D → Option D := fun S ds => match ds with
  | [d] => (match deref S d with
    | .lst xs => some (.lst xs)
    | .tup xs => some (.lst xs)
    | .str z => if z.cps.size ≤ sizeLine then some (.lst (z.cps.toList.map fun c => .str ⟨#[c]⟩)) else none
    | _ => none)
  | _ => none
def gTuple : Sto → List D → Option D := fun S ds => match ds with
  | [d] => (match deref S d with
    | .lst xs => some (.tup xs)
    | .tup xs => some (.tup xs)
    | _ => none)
  | _ => none
section
variable {X : Cx} {W : WX} {a b c e tg : Expr} {es rest : List Expr} {ra rb rc : RE} {ba bb : RB} {rs : RA} {pos p : Pos} {wd : World} {K : Fg} {mg : Str → Option Value} {α β : List Addr} {F F1 H H1 : Hp} {S : Sto}
/-! ### made by operators, calls, methods -/
theorem wpF.now {d : D} {Q : VK} {W : XK} {ad : Addr} {o : HO} (h : wpF wd K mg α F H (.ok d S) Q W) (hr : Rel wd K mg α F H S) (hp : H ad = none) (ho : Own wd K mg F α (upd H ad o) ad d) (hd : d.open = true) : Q (.ref ad) (upd H ad o) := h.lay hr hp ho hd
/-- by a list that is laid at a new place -/
def Lays (H : Hp) (xs : List V) (Q : VK) : Prop := ∀ p, H p = none → Q (.ref p) (upd H p (.lst xs))
theorem pf_bin {op : Operator} {g : Sto → D → D → Option D} {r : R2} (ho : OpR X (binaryOp op) r) (hg : ∀ α F H S x y d e z Q, Rel X.w X.K X.mg α F H S → DV X.w X.K X.mg F α x d → DV X.w X.K X.mg F α y e → g S d e = some z → ∃ ds xs, z = .lst ds ∧ DVs X.w X.K X.mg F α xs ds ∧ (Lays H xs Q → r x y H Q)) (ha : PD X W a ra) (hb : PD X W b rb) :
    PF X W (.BinOp a op b pos) (rBin g ra rb) := by
  obtain ⟨ta, pa, sa⟩ := ha.ex
  obtain ⟨tb, pb, sb⟩ := hb.ex
  refine ⟨_, pe_op ho pa pb, fun α F σ H δ S Q hr hs h => ?_⟩
  refine sa α F σ H δ S _ hr hs (wpF.bind h fun d S1 _ x H1 β F1 r1 s1 v1 h1 => ?_)
  refine sb (α ++ β) F1 σ H1 δ S1 _ r1 (hs.mono s1.sub) (wpF.bind h1 fun e S2 _ y H2 γ F2 r2 s2 v2 h2 => ?_)
  cases eg : g S2 d e with
  | none => rw [eg] at h2; exact h2.elim
  | some z =>
    rw [eg] at h2
    obtain ⟨ds, xs, rfl, e1, e2⟩ := hg _ F2 H2 S2 x y d e z Q r2 (v1.mono s2.sub) v2 eg
    exact e2 fun p hp => wpF.lay h2 r2 hp ⟨xs, upd_same, e1⟩ rfl
theorem op_catR : OpR X (binaryOp .Add) (fun x y H Q => ∃ l m xs zs, x = .ref l ∧ y = .ref m ∧ SqL X.K H l xs ∧ SqL X.K H m zs ∧ xs.length + zs.length ≤ sizeLine ∧ Lays H (xs ++ zs) Q) := by
  intro pins s σ H x y v u Q I rx ry h
  obtain ⟨l, m, xs, zs, rfl, rfl, h1, h2, hz, q⟩ := h
  cases rx; cases ry
  obtain ⟨its, r, ⟨o1, n1, g1, c1, _, w1⟩, _⟩ := I.list h1
  obtain ⟨its2, r2, ⟨o2, n2, g2, c2, _, w2⟩, _⟩ := I.list h2
  obtain ⟨k1, dd1, dt1, sl1⟩ := o1
  obtain ⟨k2, dd2, dt2, sl2⟩ := o2
  simp only at c1 c2 w1 w2
  subst c1 c2 w1 w2
  have l1 := r.length
  have l2 := r2.length
  have sz : its.toArray.size + its2.toArray.size ≤ sizeLine := by rw [List.size_toArray, List.size_toArray]; omega
  refine concat_meets ⟨_, g1, rfl⟩ ⟨_, g2, rfl⟩ noFill_list_add seq_list_add PySem.F.slot_list_add PySem.F.entry_list_add (PySem.F.args_list_add_2 _ _) (list_addW l m its.toArray its2.toArray n1 n2 dd1 dd2 sl1 sl2 sz) ⟨g1, g2, ?_⟩
  rw [show its.toArray ++ its2.toArray = (its ++ its2).toArray by simp]
  exact ⟨.ref s.heap.objs.size, _, I.lnew (t' := s.toks) (r.append r2) (by simp; omega), rfl, q _ I.fresh⟩
theorem pf_cat (ha : PD X W a ra) (hb : PD X W b rb) : PF X W (.BinOp a .Add b pos) (rBin gCat ra rb) := pf_bin op_catR (fun α F H S x y d e z Q hr hx hy hz => by
  unfold gCat at hz
  split at hz
  · rename_i xs ys e1 e2
    split at hz
    · rename_i hl
      cases hz
      obtain ⟨l, us, rfl, a1, a2⟩ := hr.viewL hx e1
      obtain ⟨m, ws, rfl, b1, b2⟩ := hr.viewL hy e2
      exact ⟨_, us ++ ws, rfl, a2.append b2, fun q => ⟨l, m, us, ws, rfl, rfl, a1, b1, by rw [a2.length, b2.length]; exact hl, q⟩⟩
    · cases hz
  · cases hz) ha hb
/-- by a call of a built-in class, by a method -/
theorem pf_callT {x : Str} {T : String} {g : Sto → List D → Option D} {r : List V → Hp → VK → Prop} (hc : CallR X (.type T) r) (hgk : ∀ α F H S xs ds z Q, Rel X.w X.K X.mg α F H S → DVs X.w X.K X.mg F α xs ds → g S ds = some z → ∃ es us, z = .lst es ∧ DVs X.w X.K X.mg F α us es ∧ (Lays H us Q → r xs H Q))
    (hm : X.mg x = none) (ha : PDs X W (e :: es) rs) (hg : Gl X x := by rfl) (hv : bootBuiltins x = some (.type T) := by decide +kernel) (hn : x ≠ "__name__" := by decide) (hdb : (x == ("__debug__" : Str)) = false := by decide)
    (he : starEach (e :: es) X.env = (false, eval e X.env) :: starEach es X.env := by rfl) (hpl : (backTo pos (starEach es X.env)).any (·.1) = false := by rfl) : PF X W (.Call (.Name x p) (e :: es) [] pos) (rAs g rs) := by
  obtain ⟨t, pt, st⟩ := ha.ex
  refine ⟨_, pe_callTy hc hg hm hv pt hn hdb he hpl, fun α F σ H δ S Q hr hs h => ?_⟩
  refine st α F σ H δ S _ hr hs (wpF.bind h fun ds S1 _ xs H1 β F1 r1 q1 v1 h1 => ?_)
  cases eg : g S1 ds with
  | none => rw [eg] at h1; exact h1.elim
  | some z =>
    rw [eg] at h1
    obtain ⟨es', us, rfl, e1, e2⟩ := hgk _ F1 H1 S1 xs ds z Q r1 v1 eg
    exact e2 fun p hp => wpF.lay h1 r1 hp ⟨us, upd_same, e1⟩ rfl
theorem call_listS (hc : X.calm = true) : CallR X (.type "list") (fun xs H Q => ∃ z, xs = [.str z] ∧ z.cps.size ≤ sizeLine ∧ Lays H (z.cps.toList.map fun c => .str ⟨#[c]⟩) Q) := by
  intro pins s σ H xs us Q I rv h
  obtain ⟨z, rfl, hz, q⟩ := h
  obtain ⟨u, rfl, ru⟩ := vals1 rv
  obtain ⟨t, rfl⟩ := ru
  refine call_list_str (I.ok.hd hc) z t (fun h' tk acc c k e it => ?_) hz
  have hv : Vals (z.cps.toList.map fun c => V.str ⟨#[c]⟩) acc.toList := by
    refine vals_of_at (by simp [it.1]) fun j x u h1 h2 => ?_
    rw [Array.getElem?_toList] at h2
    obtain ⟨c, t', e1, e2⟩ := it.2 j u h2
    rw [List.getElem?_map, Array.getElem?_toList, e1] at h1
    cases h1
    exact ⟨t', e2⟩
  have nw : ObjOk X.prog X.w (upd H s.heap.objs.size (.lst (z.cps.toList.map fun c => V.str ⟨#[c]⟩))) h' s.heap.objs.size (.lst (z.cps.toList.map fun c => V.str ⟨#[c]⟩)) := ⟨by simpa using hz, acc.toList, c, hv, by simpa using e⟩
  exact ⟨.ref s.heap.objs.size, _, I.laid (t' := tk) k (Nat.le_refl _) nw, rfl, q _ I.fresh⟩
theorem pf_list (hc : X.calm = true) (hm : X.mg "list" = none) (ha : PDs X W (e :: es) rs) (hg : Gl X "list" := by rfl) (he : starEach (e :: es) X.env = (false, eval e X.env) :: starEach es X.env := by rfl) (hpl : (backTo pos (starEach es X.env)).any (·.1) = false := by rfl) :
    PF X W (.Call (.Name "list" p) (e :: es) [] pos) (rAs gList rs) := pf_callT (call_list_of.or (call_listS hc)) (fun α F H S xs ds z Q hr hv hz => by
  unfold gList at hz
  split at hz
  · cases hv with
    | cons h1 h2 =>
      cases h2
      split at hz
      · rename_i ys e1
        cases hz
        obtain ⟨l, us, rfl, a1, a2⟩ := hr.viewL h1 e1
        exact ⟨_, us, rfl, a2, fun q => .inl ⟨l, us, rfl, .inl a1, q⟩⟩
      · rename_i ys e1
        cases hz
        obtain ⟨l, us, rfl, a1, a2⟩ := hr.viewT h1 e1
        exact ⟨_, us, rfl, a2, fun q => .inl ⟨l, us, rfl, .inr a1, q⟩⟩
      · rename_i zz e1
        split at hz
        · rename_i hl
          cases hz
          have := hr.viewS h1 e1
          subst this
          refine ⟨_, zz.cps.toList.map fun c => .str ⟨#[c]⟩, rfl, ?_, fun q => .inr ⟨zz, rfl, hl, q⟩⟩
          have := DVs.of_strs (wd := X.w) (K := X.K) (mg := X.mg) (F := F) (α := α) (zz.cps.toList.map fun c => (⟨#[c]⟩ : Str))
          rw [List.map_map, List.map_map] at this
          exact this
        · cases hz
      · cases hz
  · cases hz) hm ha hg (by decide +kernel) (by decide) (by decide) he hpl
theorem b_tuple : BiG X (.type "tuple") gTuple := by
  refine ⟨_, call_tuple_ofP, fun α F H S xs ds z Q hr hv hz q => ?_⟩
  unfold gTuple at hz
  split at hz
  · cases hv with
    | cons h1 h2 =>
      cases h2
      split at hz
      · rename_i ys e1
        cases hz
        obtain ⟨l, us, rfl, a1, a2⟩ := hr.viewL h1 e1
        refine ⟨l, us, rfl, .inl ⟨a1, fun p hp o ho => ?_⟩⟩
        obtain ⟨c1, c2, c3⟩ := hr.tup a2 hp ho
        exact q _ _ _ _ c1 c2 c3
      · rename_i ys e1
        cases hz
        obtain ⟨l, us, rfl, a1, a2⟩ := hr.viewT h1 e1
        have sx := hr.see h1
        rw [e1] at sx
        cases sx with
        | «at» h _ => exact ⟨l, us, rfl, .inr ⟨a1, fin_now hr h q⟩⟩
      · cases hz
  · cases hz
end
end DL
set_option Elab.async false
set_option linter.all false
set_option maxRecDepth 100000
set_option maxHeartbeats 4000000
set_option autoImplicit false
/-! Data layer, thirteenth part: dicts by numbers and texts; an item stored. -/
namespace DL
open PySem PySem.Spec PyProof.Rows L2
def kD : Key → D
  | .inl i => .int i
  | .inr x => .str x
theorem isKey_kD {d : D} (h : isKey d = true) : ∃ k, d = kD k := by
  cases d with
  | int i => exact ⟨.inl i, rfl⟩
  | str x => exact ⟨.inr x, rfl⟩
  | _ => cases h
theorem keyEq_kD (a b : Key) : keyEq (kD a) (kD b) = decide (a = b) := by
  cases a with
  | inl i => cases b with
    | inl j => show (i == j) = _; rw [key_ll]
    | inr y => show false = _; rw [key_lr]
  | inr x => cases b with
    | inl j => show false = _; rw [key_rl]
    | inr y => show decide (x = y) = _; rw [key_rr]
section
variable {X : Cx} {W : WX} {a b c e tg : Expr} {es rest : List Expr} {ra rb rc : RE} {ba bb : RB} {rs : RA} {pos p : Pos} {wd : World} {K : Fg} {mg : Str → Option Value} {α β : List Addr} {F F1 H H1 : Hp} {S : Sto}
theorem kD_DV {k : Key} {v : V} (h : DV wd K mg F α v (kD k)) : v = kV k := by cases k <;> cases h <;> rfl
/-- a dict's pairs -/
inductive KVs (wd : World) (K : Fg) (mg : Str → Option Value) (F : Hp) (α : List Addr) : List (Key × V) → List (D × D) → Prop
  | nil : KVs wd K mg F α [] []
  | cons {k : Key} {v : V} {d : D} {ws : List (Key × V)} {kvs : List (D × D)} : DV wd K mg F α v d → KVs wd K mg F α ws kvs → KVs wd K mg F α ((k, v) :: ws) ((kD k, d) :: kvs)
theorem KVs.of : ∀ {ws : List (Key × V)} {kvs : List (D × D)}, DKs (ws.map (·.1)) (kvs.map (·.1)) → DVs wd K mg F α (ws.map (·.2)) (kvs.map (·.2)) → KVs wd K mg F α ws kvs
  | [], [], _, _ => .nil
  | [], _ :: _, h, _ => by have := h.length; simp at this
  | _ :: _, [], h, _ => by have := h.length; simp at this
  | (k, v) :: ws, (q, d) :: kvs, h, g => by
    have h' : DKs (k :: ws.map (·.1)) (q :: kvs.map (·.1)) := h
    have g' : DVs wd K mg F α (v :: ws.map (·.2)) (d :: kvs.map (·.2)) := g
    cases g' with
    | cons g1 g2 =>
      cases h' with
      | int h2 => exact .cons (k := .inl _) g1 (KVs.of h2 g2)
      | str h2 => exact .cons (k := .inr _) g1 (KVs.of h2 g2)
theorem KVs.keys {ws : List (Key × V)} {kvs : List (D × D)} (h : KVs wd K mg F α ws kvs) : DKs (ws.map (·.1)) (kvs.map (·.1)) := by
  induction h with
  | nil => exact .nil
  | @cons k v d ws kvs _ _ ih => cases k with
    | inl i => exact .int ih
    | inr x => exact .str ih
theorem KVs.vals {ws : List (Key × V)} {kvs : List (D × D)} (h : KVs wd K mg F α ws kvs) : DVs wd K mg F α (ws.map (·.2)) (kvs.map (·.2)) := by
  induction h with
  | nil => exact .nil
  | cons h _ ih => exact .cons h ih
theorem KVs.length {ws : List (Key × V)} {kvs : List (D × D)} (h : KVs wd K mg F α ws kvs) : ws.length = kvs.length := by
  have := h.vals.length
  simpa using this
theorem KVs.look {ws : List (Key × V)} {kvs : List (D × D)} (h : KVs wd K mg F α ws kvs) (k : Key) : (∀ d, lookD kvs (kD k) = some d → ∃ v, valV ws k = some v ∧ DV wd K mg F α v d) ∧ (lookD kvs (kD k) = none → valV ws k = none) := by
  induction h with
  | nil => exact ⟨(fun d e => by cases e), fun _ => rfl⟩
  | @cons j v d ws kvs h _ ih =>
    unfold lookD
    rw [keyEq_kD]
    by_cases q : j = k
    · subst q
      rw [decide_eq_true rfl, if_pos rfl, valV_pos (p := (j, v)) rfl]
      exact ⟨(fun e z => by cases z; exact ⟨v, rfl, h⟩), fun z => by cases z⟩
    · rw [decide_eq_false q, if_neg (by decide), valV_neg (p := (j, v)) q]
      exact ih
theorem KVs.isSome {ws : List (Key × V)} {kvs : List (D × D)} (h : KVs wd K mg F α ws kvs) (k : Key) : (lookD kvs (kD k)).isSome = (valV ws k).isSome := by
  obtain ⟨h1, h2⟩ := h.look k
  cases e : lookD kvs (kD k) with
  | none => rw [h2 e]; rfl
  | some d => obtain ⟨v, e1, _⟩ := h1 d e; rw [e1]; rfl
theorem KVs.append {ws ws' : List (Key × V)} {kvs kvs' : List (D × D)} (h : KVs wd K mg F α ws kvs) (g : KVs wd K mg F α ws' kvs') : KVs wd K mg F α (ws ++ ws') (kvs ++ kvs') := by
  induction h with
  | nil => exact g
  | cons h _ ih => exact .cons h ih
theorem KVs.put {ws : List (Key × V)} {kvs : List (D × D)} (h : KVs wd K mg F α ws kvs) (k : Key) {v : V} {d : D} (hv : DV wd K mg F α v d) : KVs wd K mg F α (putK ws k v) (putD kvs (kD k) d) := by
  unfold putK putD
  rw [h.isSome k, valV_any]
  by_cases q : (valV ws k).isSome = true
  · rw [if_pos q, if_pos q]
    clear q
    induction h with
    | nil => exact .nil
    | @cons j u e ws kvs h1 _ ih =>
      rw [List.map_cons]
      unfold replD
      rw [keyEq_kD]
      by_cases z : j = k
      · subst z
        rw [decide_eq_true rfl, if_pos rfl, if_pos rfl]
        exact .cons hv ih
      · rw [if_neg (show ¬ (j, u).1 = k from z), decide_eq_false z, if_neg (show ¬ false = true by decide)]
        exact .cons h1 ih
  · rw [if_neg q, if_neg q]
    exact h.append (.cons hv .nil)
theorem KVs.merge {more : List (Key × V)} {mk : List (D × D)} (g : KVs wd K mg F α more mk) : ∀ {ws : List (Key × V)} {kvs : List (D × D)}, KVs wd K mg F α ws kvs → KVs wd K mg F α (mergeK ws more) (mergeD kvs mk) := by
  induction g with
  | nil => exact fun h => h
  | cons h1 _ ih => exact fun h => ih (h.put _ h1)
theorem Own.dctK {ad : Addr} {kvs : List (D × D)} : Own wd K mg F α H ad (.dct kvs) ↔ ∃ ws, H ad = some (.dK ws) ∧ KVs wd K mg F α ws kvs :=
  ⟨fun ⟨ws, h1, h2, h3⟩ => ⟨ws, h1, .of h2 h3⟩, fun ⟨ws, h1, h2⟩ => ⟨ws, h1, h2.keys, h2.vals⟩⟩
theorem Rel.viewD (hr : Rel wd K mg α F H S) {v : V} {d : D} {kvs : List (D × D)} (h : DV wd K mg F α v d) (e : deref S d = .dct kvs) : ∃ a ws, v = .ref a ∧ Rd H a (.dK ws) ∧ KVs wd K mg F α ws kvs := by
  have s := hr.see h
  rw [e] at s
  cases s with
  | «at» h _ => cases h
  | dct q k t => exact ⟨_, _, rfl, q, .of k t⟩
/-! ### displays -/
structure PPd (X : Cx) (W : WX) (pos : Pos) (ks : List (Option Expr)) (vs : List Expr) (ps : List (RE × RE)) : Prop where
  ex : ∃ trs, PPs X pos ks vs trs ∧ ∀ α F σ H δ S (Q : List (V × V) → Hp → Prop), Rel X.w X.K X.mg α F H S → Slots X.w X.K X.mg F α σ δ →
    wp X.w X.K X.mg α F H (fun F α (b : List (V × V)) (a : List (D × D)) => DVs X.w X.K X.mg F α (b.map (·.1)) (a.map (·.1)) ∧ DVs X.w X.K X.mg F α (b.map (·.2)) (a.map (·.2))) (rPairs ps δ S) Q (fun c d H' => W c d σ H') → tPairs trs σ H Q
theorem ppd_nil : PPd X W pos [] [] [] := ⟨[], pps_nil, fun α F σ H δ S Q hr hs h => h.now hr ⟨.nil, .nil⟩⟩
theorem ppd_cons {k v : Expr} {ks : List (Option Expr)} {vs : List Expr} {rk rv : RE} {ps : List (RE × RE)} (hk : PD X W k rk) (hv : PD X W v rv) (h : PPd X W pos ks vs ps) : PPd X W pos (some k :: ks) (v :: vs) ((rk, rv) :: ps) := by
  obtain ⟨tk, p1, s1⟩ := hk.ex
  obtain ⟨tv, p2, s2⟩ := hv.ex
  obtain ⟨trs, p3, s3⟩ := h.ex
  refine ⟨(tk, tv) :: trs, pps_cons p1 p2 p3, fun α F σ H δ S Q hr hs h => ?_⟩
  refine s1 α F σ H δ S _ hr hs (wp.bind h fun x S1 _ xv H1 β F1 r1 q1 v1 h1 => ?_)
  refine s2 (α ++ β) F1 σ H1 δ S1 _ r1 (hs.mono q1.sub) (wp.bind h1 fun y S2 _ yv H2 γ F2 r2 q2 v2 h2 => ?_)
  refine s3 (α ++ β ++ γ) F2 σ H2 δ S2 _ r2 ((hs.mono q1.sub).mono q2.sub) (wp.bind h2 fun zs S3 _ zv H3 ε F3 r3 q3 v3 h3 => ?_)
  exact h3.now r3 ⟨.cons ((v1.mono q2.sub).mono q3.sub) v3.1, .cons (v2.mono q3.sub) v3.2⟩
theorem keysOf : ∀ {kvs : List (D × D)} {ps : List (V × V)}, kvs.all (fun p => isKey p.1) = true → DVs wd K mg F α (ps.map (·.1)) (kvs.map (·.1)) → DVs wd K mg F α (ps.map (·.2)) (kvs.map (·.2)) → ∃ ws : List (Key × V), ps = ws.map (fun kv => (kV kv.1, kv.2)) ∧ KVs wd K mg F α ws kvs
  | [], [], _, _, _ => ⟨[], rfl, .nil⟩
  | [], _ :: _, _, h, _ => by have := h.length; simp at this
  | _ :: _, [], _, h, _ => by have := h.length; simp at this
  | (q, d) :: kvs, (x, y) :: ps, hk, h, g => by
    rw [List.all_cons, Bool.and_eq_true] at hk
    have h' : DVs wd K mg F α (x :: ps.map (·.1)) (q :: kvs.map (·.1)) := h
    have g' : DVs wd K mg F α (y :: ps.map (·.2)) (d :: kvs.map (·.2)) := g
    cases h' with
    | cons h1 h2 =>
      cases g' with
      | cons g1 g2 =>
        obtain ⟨ws, e1, e2⟩ := keysOf hk.2 h2 g2
        obtain ⟨k, ek⟩ := isKey_kD hk.1
        have ek : q = kD k := ek
        subst ek
        have := kD_DV h1
        subst this
        exact ⟨(k, y) :: ws, by rw [e1]; rfl, .cons g1 e2⟩
theorem pf_disp {ks : List (Option Expr)} {vs : List Expr} {ps : List (RE × RE)} (h : PPd X W pos ks vs ps) (hall : ks.all (·.isSome) = true := by rfl) (hl : ks.length = vs.length := by rfl) (h0 : ks ≠ [] := by intro z; cases z) (h15 : ks.length ≤ 15 := by decide) : PF X W (.Dict ks vs pos) (rDisp ps) := by
  obtain ⟨trs, p1, s1⟩ := h.ex
  refine ⟨_, pe_disp p1 hall hl h0 h15, fun α F σ H δ S Q hr hs h => fun ad had => ?_⟩
  have n := hr.notin had
  have f := hr.notF had
  unfold rDisp at h
  have hr' := hr.other (o := .dK []) n f
  refine s1 α F σ (upd H ad (.dK [])) δ S _ hr' hs ?_
  have stt : Stp α F H [] F (upd H ad (.dK [])) := Stp.refl.other had
  cases q : rPairs ps δ S with
  | err c fs S1 =>
    rw [q] at h
    intro cls dd H' β F' r1 st er
    have := stt.trans (β := []) (γ := β) (by rw [List.append_nil]; exact st)
    exact h cls dd H' β F' r1 this er
  | stuck => rw [q] at h; exact h.elim
  | ok kvs S1 =>
    rw [q] at h
    have h1 : wpF X.w X.K X.mg α F H (if kvs.all (fun p => isKey p.1) && decide (kvs.length ≤ 15) then .ok (.dct (mergeD [] kvs)) S1 else .stuck) Q _ := h
    split at h1
    · rename_i hc
      rw [Bool.and_eq_true] at hc
      intro pv H' β F' r1 st ⟨g1, g2⟩
      obtain ⟨ws, e1, e2⟩ := keysOf hc.1 g1 g2
      have st' := stt.trans (β := []) (γ := β) (by rw [List.append_nil]; exact st)
      rw [List.nil_append] at st'
      have hD : H' ad = some (.dK []) := st.frame ad _ n upd_same
      have fD : F' ad = none := st.fnew ad n f (by rw [upd_same]; exact fun z => nomatch z)
      have nD : ad ∉ α ++ β := by
        intro z
        rcases List.mem_append.mp z with z | z
        · exact n z
        · have := st.new ad z
          rw [upd_same] at this; cases this
      refine ⟨hD, ws, e1, by rw [e2.length]; exact of_decide_eq_true hc.2, ?_⟩
      exact h1 ad _ β F' (r1.other nD fD) (st'.other had) had nD fD (Own.dctK.mpr ⟨_, upd_same, KVs.merge e2 .nil⟩) rfl
    · exact h1.elim
theorem pf_dnew : PF X W (.Dict [] [] pos) (rC (.dct [])) := ⟨_, pe_dnewK, fun α F σ H δ S Q hr hs h => fun ad had => wpF.lay h hr had (Own.dctK.mpr ⟨[], upd_same, .nil⟩) rfl⟩
end
end DL
set_option Elab.async false
set_option linter.all false
set_option maxRecDepth 100000
set_option maxHeartbeats 4000000
set_option autoImplicit false
/-! Data layer, last part: defs by their names, the law's end. -/
namespace DL
open PySem PySem.Spec PyProof.Rows L2
/-- the text of a def stands under its name -/
structure Fd (K : Fg) (mg : Str → Option Value) (x : Str) (st : Stmt) (ps : List Str) : Prop where
  ex : ∃ (f : Addr) (fd : FuncData), Fun K x x st f fd ∧ mg x = some (.ref f) ∧ Binds K fd ps []
/-- a def keeps to its mirror -/
structure Fn (P : Program) (w : World) (K : Fg) (mg : Str → Option Value) (base : Heap) (x : Str) (n k : Nat) (m : Mir) : Prop where
  ex : ∃ (f : Addr) (fd : FuncData) (ps : List Str), mg x = some (.ref f) ∧ PySem.W.keepIn K (.ref f) = true ∧ Binds K fd ps [] ∧ FnG P w K mg base k f fd ps (spD w K mg n m)
section
variable {X : Cx} {W : WX} {a b c e tg : Expr} {es rest : List Expr} {ra rb rc : RE} {ba bb : RB} {rs : RA} {pos p : Pos} {wd : World} {K : Fg} {mg : Str → Option Value} {α β : List Addr} {F F1 H H1 : Hp} {S : Sto}
theorem pd_fn {x : Str} {m : Mir} {n k : Nat} (F : Fn X.prog X.w X.K X.mg X.base x n k m) (hr : Room k X.A) (hG : X.A.guards = some []) (tk : Takes X W) (ha : PDs X W (e :: es) rs) (hl : (e :: es).length = n := by rfl) (hg : Gl X x := by rfl) (hdb : (x == ("__debug__" : Str)) = false := by decide)
    (he : starEach (e :: es) X.env = (false, eval e X.env) :: starEach es X.env := by rfl) (hpl : (backTo pos (starEach es X.env)).any (·.1) = false := by rfl) : PD X W (.Call (.Name x p) (e :: es) [] pos) (rCall m rs) := by
  obtain ⟨f, fd, ps, h1, h2, h3, h4⟩ := F.ex
  exact pd_call h4 hr hG h1 h2 h3 tk ha hl hg hdb he hpl
theorem pd_giE {x : Str} {i : Int} (hm : ∃ t, X.mg x = some (.int i t)) (hg : Gl X x := by rfl) (hd : (x == ("__debug__" : Str)) = false := by decide) : PD X W (.Name x pos) (rC (.int i)) := let ⟨_, h⟩ := hm; pd_gi h hg hd
theorem fun_of {x qual : Str} {st : Stmt} {f : Addr} {fd : FuncData} (F : FunD K x qual (defArgs st) (defBody st) (defScope st) [] [] f fd) : Fun K x qual st f fd := by
  obtain ⟨oc, od, dV, kV, doc, pm, an, cdv, ct, osl, e, lk, hcd, hD, _⟩ := F.ex
  rcases hD with ⟨_, rfl⟩ | ⟨z, _⟩
  · exact ⟨⟨oc, od, kV, doc, pm, an, cdv, ct, osl, e, lk, hcd⟩, F.kp⟩
  · exact absurd rfl z
/-- what a body's derivation is given -/
structure Env1 (X : Cx) (k : Nat) : Prop where
  room : Room k X.A
  gu : X.A.guards = some []
  hp : PassesOwn (model X.prog X.w) X.A X.env X.xe
theorem Env1.u64 {k : Nat} (h : Env1 X k) : X.A.units + 64 < cLine := by have := h.room.un; omega
theorem fn_mk {P : Program} {w : World} {base : Heap} {x : Str} {st : Stmt} {N ps : List Str} {k : Nat} {r : RS} (Fu : Fd K mg x st ps) (Sc : FnScope N ps (defScope st))
    (hbody : ∀ (f : Addr) (cdv : Value) (A : Around) (outer : List Env) (s : Shared) (H : Hp) (E : XK), Env1 (cxOf (L2.CX P w) P w K mg base N x (defScope st) f cdv A outer s H E) k → Takes (cxOf (L2.CX P w) P w K mg base N x (defScope st) f cdv A outer s H E) (fun cls d _ H => E cls d H) →
      PSds (cxOf (L2.CX P w) P w K mg base N x (defScope st) f cdv A outer s H E) (fun cls d _ H => E cls d H) (defBody st) r) : Fn P w K mg base x ps.length (k + 1) (mDef N.length r) := by
  obtain ⟨f, fd, h1, h2, h3⟩ := Fu.ex
  exact ⟨f, fd, ps, h2, h1.kp, h3, fn_okD h1 Sc fun cdv A outer s H E hr hG => hbody f cdv A outer s H E ⟨hr, hG, passes_of rfl⟩ (takes_of rfl rfl rfl rfl)⟩
end
end DL
set_option Elab.async false
set_option linter.all false
set_option maxRecDepth 100000
set_option maxHeartbeats 4000000
set_option autoImplicit false
/-! Data layer: the law's call. -/
namespace DL
open PySem PySem.Spec PyProof.Rows L2
section
variable {P : Program} {w : World} {K : Fg} {mg mb : Str → Option Value} {k : Nat} {fa a : Addr} {fd : FuncData} {x : Str} {m : Mir} {S1 : Shared} {us : List Value} {ns : List Int} {H : Hp}
theorem bv_len : bootBuiltins "len" = some (.builtin "len") := by decide +kernel
theorem bv_abs : bootBuiltins "abs" = some (.builtin "abs") := by decide +kernel
theorem bv_isinstance : bootBuiltins "isinstance" = some (.builtin "isinstance") := by decide +kernel
theorem bv_all : bootBuiltins "all" = some (.builtin "all") := by decide +kernel
theorem bv_sum : bootBuiltins "sum" = some (.builtin "sum") := by decide +kernel
theorem bv_max : bootBuiltins "max" = some (.builtin "max") := by decide +kernel
theorem bv_int : bootBuiltins "int" = some (.type "int") := by decide +kernel
theorem bv_tuple : bootBuiltins "tuple" = some (.type "tuple") := by decide +kernel
def natAt (δ : Sl) (i : Nat) : Nat := match δ[i]? with
  | some (some (D.int j)) => j.natAbs
  | _ => 0
/-- what the tracked heap of a law's beginning may hold: the script alone, known to its object -/
structure Lone (K : Fg) (H : Hp) (a : Addr) : Prop where
  at_ : ∀ b, H b ≠ none → b = a
  notK : H a ≠ none → K.lookup a = none
  frz : ∀ b u, H b = some u → ∃ o xs, u = .frz o (.lst xs)
theorem Lone.off (L : Lone K H a) {b : Addr} (h : b ≠ a) : H b = none := by
  cases q : H b with
  | none => rfl
  | some u => exact absurd (L.at_ b (by rw [q]; simp)) h
abbrev lsObj (us : List Value) : Obj := { cls := .type "list", data := .seq us.toArray }
theorem Lone.space (L : Lone K H a) (ha : S1.heap.get? a = some (lsObj us)) {b : Addr} {f : Str → Option Value} (h : S1.heap.Ns b f) : (hidT S1.heap H).Ns b f := by
  obtain ⟨o, es, ep, g, d, r⟩ := h
  have hb : b ≠ a := fun z => by
    subst z
    have e : lsObj us = o := Option.some.inj (ha.symm.trans g)
    subst e
    exact nomatch d
  exact ⟨o, es, ep, hidT_get g (L.off hb), d, r⟩
theorem Lone.frag (L : Lone K H a) (KX : K.In S1.heap) : K.In (hidT S1.heap H) := fun b o e => hidT_get (KX b o e) (by
  by_cases z : b = a
  · subst z
    cases q : H b with
    | none => rfl
    | some u => exact absurd ((L.notK (by rw [q]; simp)).symm.trans e) (by simp)
  · exact L.off z)
abbrev Ended (h : Heap) (os : OsState) : Result → Shared → Prop := fun r z => r = .ok (.ret (.bool true)) ∧ OldK h z.heap ∧ z.os = os ∧ AllBare z.gens
theorem law_lone (L : Lone K H a) (KX : K.In S1.heap) (n1 : S1.heap.Ns mainGlobals mg) (n2 : S1.heap.Ns builtinsNs mb) (nb : ∀ y : Str, y ≠ "__name__" → mb y = bootBuiltins y) (n3 : S1.heap.NoLimit)
    (g0 : S1.gens = #[]) (ha : S1.heap.get? a = some (lsObj us)) (hok : HOk P w H S1.heap) (hS : SqL K H a (ns.map V.int)) (room : Room k callerA)
    (F : ∀ base : Heap, K.In base → base.Ns mainGlobals mg → Fn P w K mg base x 1 k m) (bd : mg x = some (.ref fa))
    (hm : ∃ S, m [.lst (ns.map .int)] [] = .ok (.bl true) S) : codeAny (model P w) callerA (.call (.ref fa) ⟨[.ref a], []⟩) (Ended S1.heap S1.os) S1 := by
  obtain ⟨c, i1, i2⟩ := n3
  have M : Mod K mg (hidT S1.heap H) := ⟨L.frag KX, L.space ha n1, ⟨mb, L.space ha n2, nb⟩, ⟨c, L.space ha i1, i2⟩⟩
  have e0 : Env0 P w K mg (hidT S1.heap H) callerA [] S1 H := ⟨rfl, M, fun _ _ e => of_hidT e, Nat.le_of_eq (hidT_size _ _), trivial, fun _ q => (nomatch q), hok, .of_eq g0⟩
  have sp : spD w K mg 1 m [V.ref a] H (fun v _ => v = .bl true) (fun _ _ _ => False) := by
    refine ⟨rfl, [], H, [], [.lst (ns.map .int)], ⟨Sub.refl _, rfl, List.nodup_nil, fun _ q => (nomatch q), fun j b d q => (by simp at q)⟩, .cons (.lst hS (DVs.of_ints ns)) .nil, ?_⟩
    obtain ⟨S, e⟩ := hm
    rw [e]
    intro b H' β F' _ _ hv
    cases hv
    rfl
  obtain ⟨f', fd, ps, q1, _, q2, q3⟩ := (F _ M.kin (L.space ha n1)).ex
  obtain rfl : f' = fa := by rw [q1] at bd; cases bd; rfl
  have bt : BindsTo S1 fd ⟨[.ref a], []⟩ (ps.zip [.ref a]) := q2 S1 [.ref a] KX (q3.len _ _ _ _ sp)
  refine codeAny_mono (q3.run callerA [] S1 H ⟨[.ref a], []⟩ [.ref a] [V.ref a] (fun v _ => v = .bl true) _ room rfl e0 bt (.cons rfl .nil) sp) fun r z q => ?_
  match r, q with
  | .error _, ⟨_, _, _, _, _, _, _, _, _, _, _, q⟩ => exact q.2.elim
  | .ok (.ret u), ⟨v, H', os, bare, un, hok', r', q⟩ =>
    have q : v = .bl true := q
    subst q
    have r' : u = Value.bool true := r'
    subst r'
    refine ⟨rfl, OldK.of_keep fun b o e => ?_, os, bare⟩
    by_cases z : H b = none
    · exact un.keep b o e z (fun y => nomatch y) (fun y => nomatch y)
    · obtain ⟨y, hy⟩ : ∃ y, H b = some y := by
        cases q : H b with
        | none => exact absurd q z
        | some y => exact ⟨y, rfl⟩
      obtain ⟨ob, xs, rfl⟩ := L.frz b y hy
      have o1 := (hok b _ hy).1
      have o2 := (hok' b _ (un.frzs b ob _ hy)).1
      rw [e] at o1
      exact o2.trans o1.symm
  | .ok .next, q => exact q.elim
  | .ok .brk, q => exact q.elim
  | .ok .cont, q => exact q.elim
theorem law_mir (KX : K.In S1.heap) (n1 : S1.heap.Ns mainGlobals mg) (n2 : S1.heap.Ns builtinsNs mb) (nb : ∀ y : Str, y ≠ "__name__" → mb y = bootBuiltins y) (n3 : S1.heap.NoLimit) (g0 : S1.gens = #[]) (ha : S1.heap.get? a = some (lsObj us))
    (hi : IntsAre us ns) (hl : ns.length ≤ sizeLine) (room : Room k callerA) (F : ∀ base : Heap, K.In base → base.Ns mainGlobals mg → Fn P w K mg base x 1 k m) (bd : mg x = some (.ref fa))
    (hm : ∃ S, m [.lst (ns.map .int)] [] = .ok (.bl true) S) : codeAny (model P w) callerA (.call (.ref fa) ⟨[.ref a], []⟩) (Ended S1.heap S1.os) S1 := by
  have rv := vals_ints hi
  cases hk : K.lookup a with
  | some o =>
    have e := (KX a o hk).symm.trans ha
    cases e
    exact law_lone (H := fun _ => none) ⟨fun _ q => absurd rfl q, fun q => absurd rfl q, fun _ _ q => nomatch q⟩ KX n1 n2 nb n3 g0 ha (fun _ _ q => nomatch q)
      (.inr ⟨_, us.toArray, _, hk, rfl, rfl, rfl, by rw [List.size_toArray, hi.length]; exact hl, by simpa using rv⟩) room F bd hm
  | none =>
    refine law_lone (H := upd (fun _ => none) a (.frz (lsObj us) (.lst (ns.map V.int)))) ⟨fun b q => ?_, fun _ => hk, fun b u q => ?_⟩ KX n1 n2 nb n3 g0 ha (fun b u q => ?_) (.inl (.inr ⟨_, upd_same⟩)) room F bd hm
    · by_cases z : b = a
      · exact z
      · rw [upd_ne z] at q; exact absurd rfl q
    · by_cases z : b = a
      · subst z; rw [upd_same] at q; cases q; exact ⟨_, _, rfl⟩
      · rw [upd_ne z] at q; cases q
    · by_cases z : b = a
      · subst z; rw [upd_same] at q; cases q
        exact ⟨ha, by rw [List.length_map]; exact hl, us, _, rv, ha⟩
      · rw [upd_ne z] at q; cases q
end
/-- a law's end: what is given by the head, the mirror's answer -/
theorem walkG {l : PySem.W.OpenLaw} {n k : Nat} {q : Program} {loose : List Str} {XP : (Str → Option Value) → Heap → Prop} {YP : World → Heap → Prop} {d : DefRec} {m : Mir} (hn : l.most = some n) (hs : n ≤ sizeLine) (hd : d.params.defaults = []) (hr : Room k callerA)
    (F : ∀ (w : World) (mg : Str → Option Value) (h : Heap), YP w h → h.Ns mainGlobals mg → ∃ K : Fg, K.In h ∧ ∀ base : Heap, K.In base → base.Ns mainGlobals mg → Fn l.prog w K mg base d.name 1 k m)
    (hm : ∀ ns : List Int, ns.length ≤ n → ∃ S, m [.lst (ns.map .int)] [] = .ok (.bl true) S) : PySem.W.WalkO q loose XP YP l.row.toRowW d [] (fun f vs => PySem.call f vs) :=
  Att.attach_call hn hd fun w _ z mg mb fa _ _ _ _ a us ns G Y _ _ _ hmg ha hi hl hg => by
    obtain ⟨K, KX, hF⟩ := F w mg _ Y G.T.g
    exact law_mir KX G.T.g G.T.b G.T.builtins G.T.nolimit hg ha hi (Nat.le_trans hl hs) hr hF hmg (hm ns hl)
end DL
set_option Elab.async false
set_option linter.all false
set_option maxRecDepth 100000
set_option maxHeartbeats 4000000
set_option autoImplicit false
/-! Plain part: what a mirror answers, told by what must hold of its answer. -/
namespace DL
open PySem L2
def Res.post {A : Type} (r : Res A) (Q : A → Sto → Prop) : Prop := match r with
  | .ok a S => Q a S
  | _ => False
def Out.post (o : Out) (nx : Sl → Sto → Prop) (rt : D → Sto → Prop) (bk ct : Sl → Sto → Prop) : Prop := match o with
  | .nx δ S => nx δ S
  | .rt d S => rt d S
  | .bk δ S => bk δ S
  | .ct δ S => ct δ S
  | _ => False
abbrev NoS : Sl → Sto → Prop := fun _ _ => False
section
variable {A A' : Type} {r : Res A} {f : A → Sto → Res A'} {Q : A → Sto → Prop} {Q' : A' → Sto → Prop} {δ : Sl} {S : Sto} {QD : D → Sto → Prop} {QL : List D → Sto → Prop} {QB : Bool → Sto → Prop} {QS : Sl → Sto → Prop} {N B C : Sl → Sto → Prop} {T : D → Sto → Prop}
theorem Res.post.ok {a : A} (h : Q a S) : (Res.ok a S).post Q := h
theorem Res.post.ex (h : r.post Q) : ∃ a S, r = .ok a S ∧ Q a S := by
  cases r with
  | ok a S => exact ⟨a, S, rfl, h⟩
  | err => exact h.elim
  | stuck => exact h.elim
theorem Res.post.mono {Q1 : A → Sto → Prop} (h : r.post Q1) (k : ∀ a S, Q1 a S → Q a S) : r.post Q := by
  cases r with
  | ok a S => exact k a S h
  | err => exact h.elim
  | stuck => exact h.elim
theorem Res.post.of_eq {a : A} (h : r = .ok a S) (q : Q a S) : r.post Q := by rw [h]; exact q
theorem Out.post.mono {o : Out} {N1 B1 C1 : Sl → Sto → Prop} {T1 : D → Sto → Prop} (h : o.post N1 T1 B1 C1) (k1 : ∀ δ S, N1 δ S → N δ S) (k2 : ∀ d S, T1 d S → T d S) (k3 : ∀ δ S, B1 δ S → B δ S) (k4 : ∀ δ S, C1 δ S → C δ S) : o.post N T B C := by
  cases o with
  | nx δ S => exact k1 _ _ h
  | rt δ S => exact k2 _ _ h
  | bk δ S => exact k3 _ _ h
  | ct δ S => exact k4 _ _ h
  | err => exact h.elim
  | stuck => exact h.elim
theorem p_bind (h : r.post fun a S1 => (f a S1).post Q') : (r.bind f).post Q' := by
  cases r with
  | ok a S => exact h
  | err => exact h.elim
  | stuck => exact h.elim
theorem p_lift {o : Option A} {a : A} (h : o = some a) (q : Q a S) : (Res.lift o S).post Q := by rw [h]; exact q
theorem p_out {g : A → Sto → Out} (h : r.post fun a S1 => (g a S1).post N T B C) : (r.out δ g).post N T B C := by
  cases r with
  | ok a S => exact h
  | err => exact h.elim
  | stuck => exact h.elim
/-! expressions -/
theorem p_var {i : Nat} {d : D} (e : δ[i]? = some (some d)) (h : QD d S) : (rVar i δ S).post QD := by unfold rVar; rw [e]; exact h
theorem p_c {d : D} (h : QD d S) : (rC d δ S).post QD := h
theorem p_un {g : Sto → D → Option D} {a : RE} (h : (a δ S).post fun x S1 => (Res.lift (g S1 x) S1).post QD) : (rUn g a δ S).post QD := p_bind h
theorem p_bin {g : Sto → D → D → Option D} {a b : RE} (h : (a δ S).post fun x S1 => (b δ S1).post fun y S2 => (Res.lift (g S2 x y) S2).post QD) : (rBin g a b δ S).post QD := p_bind (h.mono fun _ _ q => p_bind q)
theorem p_as {g : Sto → List D → Option D} {a : RA} (h : (a δ S).post fun x S1 => (Res.lift (g S1 x) S1).post QD) : (rAs g a δ S).post QD := p_bind h
theorem p_nil (h : QL [] S) : (rNil δ S).post QL := h
theorem p_cons {a : RE} {b : RA} (h : (a δ S).post fun x S1 => (b δ S1).post fun ys S2 => QL (x :: ys) S2) : (rCons a b δ S).post QL := p_bind (h.mono fun _ _ q => p_bind (q.mono fun _ _ q => q))
theorem p_call {m : Mir} {a : RA} (h : (a δ S).post fun xs S1 => (m xs S1).post QD) : (rCall m a δ S).post QD := p_bind h
theorem p_if {c : RB} {a b : RE} (h : (c δ S).post fun k S1 => (k = true → (a δ S1).post QD) ∧ (k = false → (b δ S1).post QD)) : (rIf c a b δ S).post QD := p_bind (h.mono fun k _ q => by
  cases k with
  | true => exact q.1 rfl
  | false => exact q.2 rfl)
theorem p_own {a : RE} (h : (a δ S).post fun d S1 => QD (.ptr S1.length) (S1 ++ [d])) : (rOwn a δ S).post QD := p_bind (h.mono fun _ _ q => q)
theorem p_tup {a : RA} (h : (a δ S).post fun xs S1 => xs.length ≤ sizeLine ∧ QD (.tup xs) S1) : (rTup a δ S).post QD := p_bind (h.mono fun _ _ q => by rw [if_pos q.1]; exact q.2)
theorem p_lst {a : RA} (h : (a δ S).post fun xs S1 => xs.length ≤ sizeLine ∧ QD (.lst xs) S1) : (rLst a δ S).post QD := p_bind (h.mono fun _ _ q => by rw [if_pos q.1]; exact q.2)
theorem p_keep {a : RE} (h : (a δ S).post fun d S1 => ∃ ds, d = .lst ds ∧ QD (.lst ds) S1) : (rKeep a δ S).post QD := p_bind (h.mono fun d _ ⟨ds, e, q⟩ => by subst e; exact q)
theorem p_tru {a : RE} (h : (a δ S).post fun d S1 => (Res.lift (truth S1 d) S1).post QB) : (bTru a δ S).post QB := p_bind h
theorem p_and {a b : RB} (h : (a δ S).post fun k S1 => (k = true → (b δ S1).post QB) ∧ (k = false → QB false S1)) : (bAnd a b δ S).post QB := p_bind (h.mono fun k _ q => by
  cases k with
  | true => exact q.1 rfl
  | false => exact q.2 rfl)
theorem p_or {a b : RB} (h : (a δ S).post fun k S1 => (k = true → QB true S1) ∧ (k = false → (b δ S1).post QB)) : (bOr a b δ S).post QB := p_bind (h.mono fun k _ q => by
  cases k with
  | true => exact q.1 rfl
  | false => exact q.2 rfl)
theorem p_not {a : RB} (h : (a δ S).post fun k S1 => QB (!k) S1) : (bNot a δ S).post QB := p_bind (h.mono fun _ _ q => q)
theorem p_val {a : RE} (h : (a δ S).post fun d S1 => ∃ k, d = .bl k ∧ QB k S1) : (bVal a δ S).post QB := p_bind (h.mono fun _ _ ⟨k, e, q⟩ => by subst e; exact q)
theorem p_rand {a b : RE} (h : (a δ S).post fun x S1 => ∃ k, truth S1 x = some k ∧ (k = true → (b δ S1).post QD) ∧ (k = false → QD x S1)) : (rAnd a b δ S).post QD := p_bind (h.mono fun x S1 ⟨k, e, q⟩ => p_bind (p_lift e (by
  cases k with
  | true => exact q.1 rfl
  | false => exact q.2 rfl)))
theorem p_ror {a b : RE} (h : (a δ S).post fun x S1 => ∃ k, truth S1 x = some k ∧ (k = true → QD x S1) ∧ (k = false → (b δ S1).post QD)) : (rOr a b δ S).post QD := p_bind (h.mono fun x S1 ⟨k, e, q⟩ => p_bind (p_lift e (by
  cases k with
  | true => exact q.1 rfl
  | false => exact q.2 rfl)))
theorem p_rnot {a : RE} (h : (a δ S).post fun x S1 => ∃ k, truth S1 x = some k ∧ QD (.bl (!k)) S1) : (rNot a δ S).post QD := p_bind (h.mono fun x S1 ⟨k, e, q⟩ => p_bind (p_lift e q))
theorem p_chain {g g' : Sto → D → D → Option D} {a b c : RE} (h : (a δ S).post fun x S1 => (b δ S1).post fun y S2 => ∃ k, g S2 x y = some (.bl k) ∧ (k = true → (c δ S2).post fun u S4 => (Res.lift (g' S4 y u) S4).post QD) ∧ (k = false → QD (.bl false) S2)) : (rChain g g' a b c δ S).post QD :=
  p_bind (h.mono fun x S1 q => p_bind (q.mono fun y S2 ⟨k, e, q⟩ => p_bind (p_lift e (by
    cases k with
    | true => exact p_bind (q.1 rfl)
    | false => exact q.2 rfl))))
theorem p_meth {T : String} {g : Sto → D → List D → Option (D × Sto)} {a : RE} {as : RA} (h : (a δ S).post fun x S1 => isTy T S1 x = true ∧ (as δ S1).post fun ys S2 => ∃ z S3, g S2 x ys = some (z, S3) ∧ QD z S3) : (rMeth T g a as δ S).post QD :=
  p_bind (h.mono fun x S1 ⟨e, q⟩ => by rw [if_pos e]; exact p_bind (q.mono fun ys S2 ⟨z, S3, e, q⟩ => by rw [e]; exact q))
/-! statements -/
theorem s_next (h : N δ S) : (sNext δ S).post N T B C := h
theorem s_seq {a b : RS} (h : (a δ S).post (fun δ1 S1 => (b δ1 S1).post N T B C) T B C) : (sSeq a b δ S).post N T B C := by
  unfold sSeq
  cases q : a δ S with
  | nx δ1 S1 => rw [q] at h; exact h
  | _ => rw [q] at h; exact h
theorem s_asg {e : RE} {g : RG} (h : (e δ S).post fun d S1 => (g d δ S1).post fun δ1 S2 => N δ1 S2) : (sAsg e g δ S).post N T B C := p_out (h.mono fun _ _ q => p_out (q.mono fun _ _ q => q))
theorem s_name {i : Nat} {d : D} (hi : i < δ.length) (h : QS (δ.set i (some d)) S) : (gName i d δ S).post QS := by unfold gName; rw [if_pos hi]; exact h
theorem s_gtup {u : List D → Sl → Sto → Res Sl} {d : D} {ds : List D} (e : deref S d = .tup ds) (h : (u ds δ S).post QS) : (gTup u d δ S).post QS := by unfold gTup; rw [e]; exact h
theorem s_gnil (h : QS δ S) : (gNil [] δ S).post QS := h
theorem s_gcons {g : RG} {u : List D → Sl → Sto → Res Sl} {d : D} {r : List D} (h : (g d δ S).post fun δ1 S1 => (u r δ1 S1).post QS) : (gCons g u (d :: r) δ S).post QS := p_bind h
theorem s_expr {e : RE} (h : (e δ S).post fun _ S1 => N δ S1) : (sExpr e δ S).post N T B C := p_out (h.mono fun _ _ q => q)
theorem s_ret {e : RE} (h : (e δ S).post fun d S1 => T d S1) : (sRet e δ S).post N T B C := p_out (h.mono fun _ _ q => q)
theorem s_if {c : RB} {a b : RS} (h : (c δ S).post fun k S1 => (k = true → (a δ S1).post N T B C) ∧ (k = false → (b δ S1).post N T B C)) : (sIf c a b δ S).post N T B C := p_out (h.mono fun k _ q => by
  cases k with
  | true => exact q.1 rfl
  | false => exact q.2 rfl)
theorem s_brk (h : B δ S) : (sBreak δ S).post N T B C := h
theorem s_cont (h : C δ S) : (sCont δ S).post N T B C := h
theorem s_par {i j : Nat} {a : RA} (h : (a δ S).post fun xs S1 => ∃ x y, xs = [x, y] ∧ i < δ.length ∧ j < δ.length ∧ N ((δ.set i (some x)).set j (some y)) S1) : (sPar i j a δ S).post N T B C :=
  p_out (h.mono fun xs S1 ⟨x, y, e, h1, h2, q⟩ => by subst e; dsimp only; rw [if_pos ⟨h1, h2⟩]; exact q)
theorem s_for {it : RA} {g : RG} {b : RS} (h : (it δ S).post fun xs S1 => (forL g b xs δ S1).post N T B C) : (sFor it g b δ S).post N T B C := p_out h
/-- the loop's law: I holds ahead of each turn -/
theorem s_forL {g : RG} {b : RS} (I : List D → Sl → Sto → Prop) (step : ∀ x xs δ S, I (x :: xs) δ S → (g x δ S).post fun δ1 S1 => (b δ1 S1).post (fun δ2 S2 => I xs δ2 S2) T N fun δ2 S2 => I xs δ2 S2) (fin : ∀ δ S, I [] δ S → N δ S) :
    ∀ (xs : List D) (δ : Sl) (S : Sto), I xs δ S → (forL g b xs δ S).post N T B C
  | [], δ, S, h => fin δ S h
  | x :: xs, δ, S, h => by
    unfold forL
    refine p_out ((step x xs δ S h).mono fun δ1 S1 q => ?_)
    cases e : b δ1 S1 with
    | nx δ2 S2 => rw [e] at q; exact s_forL I step fin xs δ2 S2 q
    | ct δ2 S2 => rw [e] at q; exact s_forL I step fin xs δ2 S2 q
    | bk δ2 S2 => rw [e] at q; exact q
    | rt d S2 => rw [e] at q; exact q
    | err => rw [e] at q; exact q.elim
    | stuck => rw [e] at q; exact q.elim
theorem s_while {fuel : Sl → Sto → Nat} {c : RB} {b : RS} (h : (whileL c b (fuel δ S) δ S).post N T B C) : (sWhile fuel c b δ S).post N T B C := h
/-- I n: at most n turns are left -/
theorem s_whileL {c : RB} {b : RS} (I : Nat → Sl → Sto → Prop) (step : ∀ n δ S, I n δ S → (c δ S).post fun k S1 => (k = true → ∃ m, n = m + 1 ∧ (b δ S1).post (fun δ2 S2 => I m δ2 S2) T N fun δ2 S2 => I m δ2 S2) ∧ (k = false → N δ S1)) :
    ∀ (n m : Nat) (δ : Sl) (S : Sto), I n δ S → n < m → (whileL c b m δ S).post N T B C
  | _, 0, _, _, _, hm => absurd hm (Nat.not_lt_zero _)
  | n, m + 1, δ, S, h, hm => by
    unfold whileL
    refine p_out ((step n δ S h).mono fun k S1 q => ?_)
    cases k with
    | false => exact q.2 rfl
    | true =>
      obtain ⟨n', rfl, q'⟩ := q.1 rfl
      clear q
      rw [if_pos rfl]
      cases e : b δ S1 with
      | nx δ2 S2 => rw [e] at q'; exact s_whileL I step n' m δ2 S2 q' (by omega)
      | ct δ2 S2 => rw [e] at q'; exact s_whileL I step n' m δ2 S2 q' (by omega)
      | bk δ2 S2 => rw [e] at q'; exact q'
      | rt d S2 => rw [e] at q'; exact q'
      | err => rw [e] at q'; exact q'.elim
      | stuck => rw [e] at q'; exact q'.elim
/-! walks -/
theorem p_seq {a : RE} (h : (a δ S).post fun x S1 => (∃ ds, x = .lst ds ∧ QL ds S1) ∨ (∃ ds, x = .tup ds ∧ QL ds S1) ∨ ∃ z, x = .str z ∧ QL (z.cps.toList.map fun c => .str ⟨#[c]⟩) S1) : (rSeq a δ S).post QL :=
  p_bind (h.mono fun x S1 q => by rcases q with ⟨ds, e, q⟩ | ⟨ds, e, q⟩ | ⟨z, e, q⟩ <;> subst e <;> exact q)
theorem p_enum {a : RA} (h : (a δ S).post fun xs S1 => ∃ ds, xs = [.lst ds] ∧ QL (enumD 0 ds) S1) : (rEnum a δ S).post QL := p_bind (h.mono fun _ _ ⟨ds, e, q⟩ => by subst e; exact q)
theorem p_range1 {a : RA} (h : (a δ S).post fun xs S1 => ∃ j, xs = [.int j] ∧ -(2 ^ 62) ≤ j ∧ j < 2 ^ 62 ∧ QL (rangeD 0 j) S1) : (rRange a δ S).post QL := p_bind (h.mono fun _ _ ⟨j, e, h1, h2, q⟩ => by subst e; dsimp only; rw [if_pos ⟨h1, h2⟩]; exact q)
/-- the loop's law of a comprehension: I left done -/
theorem p_lcL {g : RG} {t : RB} {e : RE} (I : List D → List D → Sto → Prop) (step : ∀ x xs acc S, I (x :: xs) acc S → (g x δ S).post fun δ1 S1 => (t δ1 S1).post fun k S2 => (k = true → (e δ1 S2).post fun y S3 => I xs (acc ++ [y]) S3) ∧ (k = false → I xs acc S2)) :
    ∀ (xs acc : List D) (S : Sto), I xs acc S → (lcL g t e xs δ S).post fun ys S' => I [] (acc ++ ys) S'
  | [], acc, S, h => by
    show I [] (acc ++ []) S
    rw [List.append_nil]; exact h
  | x :: xs, acc, S, h => by
    unfold lcL
    refine p_bind ((step x xs acc S h).mono fun δ1 S1 q => p_bind (q.mono fun k S2 q => ?_))
    cases k with
    | true =>
      rw [if_pos rfl]
      refine p_bind ((q.1 rfl).mono fun y S3 q => p_bind ((p_lcL I step xs (acc ++ [y]) S3 q).mono fun ys S4 q => ?_))
      show I [] (acc ++ y :: ys) S4
      rw [List.append_assoc] at q
      exact q
    | false => exact p_lcL I step xs acc S2 (q.2 rfl)
theorem p_lc {it : RA} {g : RG} {vs : List Nat} {t : RB} {e : RE} (h : (it δ S).post fun xs S1 => (lcL g t e xs (wipeD δ vs) S1).post fun ys S2 => ys.length ≤ sizeLine ∧ QD (.lst ys) S2) : (rLc it g vs t e δ S).post QD :=
  p_bind (h.mono fun xs S1 q => p_bind (by
    obtain ⟨ys, S2, e1, e2⟩ := q.ex
    rw [e1]
    show (if ys.length ≤ sizeLine then Res.ok (D.lst ys) S2 else .stuck).post QD
    rw [if_pos e2.1]; exact e2.2))
theorem p_yes (h : QB true S) : (bYes δ S).post QB := h
/-! a def -/
theorem m_def {n : Nat} {b : RS} {ds : List D} (h : (b (ds.map some ++ List.replicate (n - ds.length) none) S).post
    (fun _ S1 => closedL S.length (S1.take S.length) = true ∧ QD .non (S1.take S.length)) (fun d S1 => (D.closed S.length d && closedL S.length (S1.take S.length)) = true ∧ QD d (S1.take S.length)) NoS NoS) : (mDef n b ds S).post QD := by
  unfold mDef
  cases q : b (ds.map some ++ List.replicate (n - ds.length) none) S with
  | nx δ S1 => rw [q] at h; dsimp only; rw [if_pos h.1]; exact h.2
  | rt d S1 => rw [q] at h; dsimp only; rw [if_pos h.1]; exact h.2
  | _ => rw [q] at h; exact h.elim
end
end DL
set_option Elab.async false
set_option linter.all false
set_option maxRecDepth 100000
set_option maxHeartbeats 4000000
set_option autoImplicit false
/-! Plain part: operations on what is known. -/
namespace DL
open PySem L2
section
variable {S : Sto} {i j : Int} {x y : Str} {b c : Bool} {Q : D → Sto → Prop} {QB : Bool → Sto → Prop}
theorem o_add (h : Q (.int (i + j)) S) : (Res.lift (gAdd S (.int i) (.int j)) S).post Q := h
theorem o_sub (h : Q (.int (i - j)) S) : (Res.lift (gSub S (.int i) (.int j)) S).post Q := h
theorem o_mul (f : mulFits i j = true) (h : Q (.int (i * j)) S) : (Res.lift (gMul S (.int i) (.int j)) S).post Q := p_lift (by unfold gMul; dsimp only; rw [if_pos f]) h
theorem o_mod (f : j ≠ 0) (h : Q (.int (i.fmod j)) S) : (Res.lift (gMod S (.int i) (.int j)) S).post Q := p_lift (by unfold gMod; dsimp only; rw [if_pos f]) h
theorem o_div (f : j ≠ 0 ∧ j.natAbs.log2 < 9000) (h : Q (.int (i.fdiv j)) S) : (Res.lift (gDiv S (.int i) (.int j)) S).post Q := p_lift (by unfold gDiv; dsimp only; rw [if_pos f]) h
theorem o_pow (f : 0 ≤ j ∧ j ≤ 1000000 ∧ i.natAbs < 2 ^ 64) (h : Q (.int (i ^ j.toNat)) S) : (Res.lift (gPow S (.int i) (.int j)) S).post Q := p_lift (by unfold gPow; dsimp only; rw [if_pos ⟨f.1, .inl f.2⟩]) h
theorem o_neg (h : Q (.int (-i)) S) : (Res.lift (gNeg S (.int i)) S).post Q := h
theorem o_lt (h : Q (.bl (decide (i < j))) S) : (Res.lift (gLt S (.int i) (.int j)) S).post Q := h
theorem o_le (h : Q (.bl (decide (i ≤ j))) S) : (Res.lift (gLe S (.int i) (.int j)) S).post Q := h
theorem o_gt (h : Q (.bl (decide (j < i))) S) : (Res.lift (gGt S (.int i) (.int j)) S).post Q := h
theorem o_ge (h : Q (.bl (decide (j ≤ i))) S) : (Res.lift (gGe S (.int i) (.int j)) S).post Q := h
theorem o_eqg {d e : D} {u v : PyData} (h1 : toPy S (deref S d) = some u) (h2 : toPy S (deref S e) = some v) (h3 : SeqAt.shaped u = true) (h4 : SeqAt.shaped v = true) (h : Q (.bl (PyData.eqv u v)) S) : (Res.lift (gEq S d e) S).post Q :=
  p_lift (by unfold gEq eqD; rw [h1, h2]; dsimp only; rw [h3, h4]; rfl) h
theorem o_neg_ {d e : D} {u v : PyData} (h1 : toPy S (deref S d) = some u) (h2 : toPy S (deref S e) = some v) (h3 : SeqAt.shaped u = true) (h4 : SeqAt.shaped v = true) (h : Q (.bl (!PyData.eqv u v)) S) : (Res.lift (gNe S d e) S).post Q :=
  p_lift (by unfold gNe eqD; rw [h1, h2]; dsimp only; rw [h3, h4]; rfl) h
theorem shaped_int : SeqAt.shaped (.int i) = true := by unfold SeqAt.shaped; simp [PyData.canLay0, PyData.depth]
theorem o_eqI (h : Q (.bl (i == j)) S) : (Res.lift (gEq S (.int i) (.int j)) S).post Q := o_eqg rfl rfl shaped_int shaped_int (by simpa [PyData.eqv] using h)
theorem o_neI (h : Q (.bl (!(i == j))) S) : (Res.lift (gNe S (.int i) (.int j)) S).post Q := o_neg_ rfl rfl shaped_int shaped_int (by simpa [PyData.eqv] using h)
theorem o_abs (h : Q (.int i.natAbs) S) : (Res.lift (gAbs S [.int i]) S).post Q := p_lift (a := .int i.natAbs) (by unfold gAbs; dsimp only; congr 2; omega) h
theorem o_tru (h : QB b S) : (Res.lift (truth S (.bl b)) S).post QB := h
theorem o_ixT {xs : List D} {d : D} (e : atI xs i = some d) (h : Q d S) : (Res.lift (gIx S (.tup xs) (.int i)) S).post Q := p_lift e h
theorem o_ixL {xs : List D} {d : D} (e : atI xs i = some d) (h : Q d S) : (Res.lift (gIx S (.lst xs) (.int i)) S).post Q := p_lift e h
theorem p_true {A B : Prop} (h : A) : (true = true → A) ∧ (true = false → B) := ⟨fun _ => h, fun z => nomatch z⟩
theorem p_false {A B : Prop} (h : B) : (false = true → A) ∧ (false = false → B) := ⟨fun z => (nomatch z), fun _ => h⟩
theorem p_ex {A : Type} {x : A} {R T : A → Prop} (e : R x) (h : T x) : ∃ x, R x ∧ T x := ⟨x, e, h⟩
theorem p_ex2 {A B : Type} {x : A} {y : B} {R T : A → B → Prop} (e : R x y) (h : T x y) : ∃ x y, R x y ∧ T x y := ⟨x, y, e, h⟩
theorem p_var2 {i : Nat} {δ : Sl} (h : ∃ d, δ[i]? = some (some d) ∧ Q d S) : (rVar i δ S).post Q := let ⟨_, e, q⟩ := h; p_var e q
theorem p_isT {k : Bool} {A B : Prop} (e : k = true) (h : A) : (k = true → A) ∧ (k = false → B) := by subst e; exact p_true h
theorem p_isF {k : Bool} {A B : Prop} (e : k = false) (h : B) : (k = true → A) ∧ (k = false → B) := by subst e; exact p_false h
end
local macro_rules | `(tactic| walk_at "1") => `(tactic| with_reducible first
  | refine s_seq ?_ | refine s_asg ?_ | refine s_ret ?_ | refine s_if ?_ | refine s_expr ?_ | refine s_next ?_ | refine s_brk ?_ | refine s_cont ?_ | refine s_for ?_ | refine s_while ?_
  | refine p_c ?_ | refine p_bin ?_ | refine p_as ?_ | refine p_cons ?_ | refine p_nil ?_ | refine p_un ?_ | refine p_call ?_ | refine p_if ?_ | refine p_own ?_
  | refine p_keep ?_ | refine p_tru ?_ | refine p_and ?_ | refine p_or ?_ | refine p_not ?_ | refine p_val ?_ | refine p_rand ?_ | refine p_ror ?_ | refine p_rnot ?_ | refine p_chain ?_
  | refine o_add ?_ | refine o_sub ?_ | refine o_lt ?_ | refine o_le ?_ | refine o_gt ?_ | refine o_ge ?_ | refine o_neg ?_ | refine o_eqI ?_ | refine o_neI ?_ | refine o_abs ?_ | refine o_tru ?_ | refine p_true ?_ | refine p_false ?_
  | refine s_par ?_ | refine p_yes ?_ | refine p_lc ?_ | refine p_seq ?_ | refine s_gnil ?_ | refine s_gcons ?_)
local macro_rules | `(tactic| walk_at "2") => `(tactic| first
  | walk_at "1"
  | (with_reducible refine p_var2 ?_)
  | ((with_reducible refine s_name ?_ ?_); (· exact Nat.le_of_ble_eq_true rfl); dsimp only [List.set_cons_zero, List.set_cons_succ])
  | (with_reducible refine p_tup ?_) | ((with_reducible refine ⟨?_, ?_⟩); (· exact Nat.le_of_ble_eq_true rfl))
  | ((with_reducible refine p_ex2 (x := ?_) (y := ?_) ?_ ?_); rotate_left; rotate_left; (· rfl); refine ⟨?_, ?_, ?_⟩; (· exact Nat.le_of_ble_eq_true rfl); (· exact Nat.le_of_ble_eq_true rfl); dsimp only [List.set_cons_zero, List.set_cons_succ])
  | ((with_reducible refine p_isT ?_ ?_); (· rfl)) | ((with_reducible refine p_isF ?_ ?_); (· rfl))
  | ((with_reducible refine p_ex (x := ?_) ?_ ?_); rotate_left; (· rfl)))
/-! a trial: the greatest common divisor -/
end DL
set_option Elab.async false
set_option linter.all false
set_option maxRecDepth 100000
set_option maxHeartbeats 4000000
set_option autoImplicit false
/-! Plain part: comprehensions that leave the store, answers that leave it. -/
namespace DL
open PySem L2
/-- an answer that leaves the store as it is -/
theorem same_of {m : Mir} {ds : List D} {d : D} {S : Sto} (h : (m ds S).post fun z S' => z = d ∧ S' = S) : m ds S = .ok d S := by
  obtain ⟨a, S1, e, rfl, rfl⟩ := h.ex
  exact e
theorem exact_of {A : Type} {r : Res A} {a : A} {S : Sto} (h : r.post fun z S' => z = a ∧ S' = S) : r = .ok a S := by
  obtain ⟨a, S1, e, rfl, rfl⟩ := h.ex
  exact e
/-- a store in which nothing that is made now is told -/
def Sane (S : Sto) : Prop := closedL S.length S = true
theorem m_defS {n : Nat} {b : RS} {ds : List D} {S : Sto} {d : D} (hS : Sane S) (hd : D.closed S.length d = true) (h : (b (ds.map some ++ List.replicate (n - ds.length) none) S).post NoS (fun z S1 => z = d ∧ S1 = S) NoS NoS) : mDef n b ds S = .ok d S :=
  same_of (m_def (h.mono (fun _ _ z => z.elim) (fun z S1 ⟨e1, e2⟩ => by
    subst e1 e2
    rw [List.take_length, hd, show closedL S1.length S1 = true from hS]
    exact ⟨rfl, rfl, rfl⟩) (fun _ _ z => z) (fun _ _ z => z)))
theorem m_defQ {n : Nat} {b : RS} {ds : List D} {S : Sto} {Q : D → Prop} (hS : Sane S) (hd : ∀ d, Q d → D.closed S.length d = true) (h : (b (ds.map some ++ List.replicate (n - ds.length) none) S).post NoS (fun z S1 => Q z ∧ S1 = S) NoS NoS) : (mDef n b ds S).post fun d S' => Q d ∧ S' = S :=
  m_def (h.mono (fun _ _ z => z.elim) (fun z S1 ⟨e1, e2⟩ => by
    subst e2
    rw [List.take_length, hd z e1, show closedL S1.length S1 = true from hS]
    exact ⟨rfl, e1, rfl⟩) (fun _ _ z => z) (fun _ _ z => z))
theorem fits_of {i j : Int} {a b : Nat} (h1 : i.natAbs < 2 ^ a) (h2 : j.natAbs < 2 ^ b) (h : a + b ≤ 1000000) : mulFits i j = true := by
  have lg : ∀ {n k : Nat}, n < 2 ^ k → n.log2 ≤ k := fun {n k} hn => by
    by_cases z : n = 0
    · subst z; simp
    · exact Nat.le_of_lt ((Nat.log2_lt z).mpr hn)
  have l1 := lg h1
  have l2 := lg h2
  unfold mulFits
  rw [Bool.or_eq_true]
  refine .inl ?_
  by_cases e : a + b < 1000000
  · exact decide_eq_true (by omega)
  · refine decide_eq_true ?_
    by_cases z : i.natAbs = 0
    · rw [z]
      by_cases y : b = 0
      · subst y
        have : j.natAbs.log2 = 0 := by omega
        simp [this]
      · by_cases w : j.natAbs = 0
        · rw [w]; decide
        · have := (Nat.log2_lt w).mpr h2
          simp only [Nat.log2_zero]; omega
    · have := (Nat.log2_lt z).mpr h1
      omega
theorem fits_l {i j : Int} (h : i.natAbs < 2 ^ 64) : mulFits i j = true := by
  unfold mulFits
  rw [decide_eq_true h, Bool.true_or, Bool.or_true]
theorem fits_r {i j : Int} (h : j.natAbs < 2 ^ 64) : mulFits i j = true := by
  unfold mulFits
  rw [decide_eq_true h, Bool.or_true, Bool.or_true]
theorem log_of {j : Int} {b : Nat} (h : j.natAbs < 2 ^ b) (hb : b < 9000) : j.natAbs.log2 < 9000 := by
  by_cases z : j.natAbs = 0
  · rw [z]; decide
  · have := (Nat.log2_lt z).mpr h
    omega
theorem lay_ints : ∀ ns : List Int, PyData.canLayAll0 (ns.map .int) = true ∧ PyData.depthAll (ns.map .int) = 0
  | [] => ⟨by simp [PyData.canLayAll0], by simp [PyData.depthAll]⟩
  | a :: r => by
    obtain ⟨h1, h2⟩ := lay_ints r
    exact ⟨by simp [PyData.canLayAll0, PyData.canLay0, h1], by simp [PyData.depthAll, PyData.depth, h2]⟩
theorem shaped_ints (ns : List Int) : SeqAt.shaped (.list (ns.map .int)) = true ∧ SeqAt.shaped (.tuple (ns.map .int)) = true := by
  obtain ⟨h1, h2⟩ := lay_ints ns
  constructor <;> · unfold SeqAt.shaped; simp [PyData.canLay0, PyData.depth, h1, h2]
theorem rangeD_nat (j : Nat) : rangeD 0 j = (List.range j).map fun (i : Nat) => D.int i := by
  unfold rangeD
  rw [show ((j : Int) - 0).toNat = j by omega]
  refine List.map_congr_left fun i _ => ?_
  rw [Int.zero_add]
theorem rangeD_len (j : Nat) : (rangeD 0 j).length = j := by rw [rangeD_nat, List.length_map, List.length_range]
theorem range_cons {j i : Nat} {x : D} {xs : List D} (e : x :: xs = (rangeD 0 j).drop i) : x = .int i ∧ i < j ∧ xs = (rangeD 0 j).drop (i + 1) := by
  have hlt : i < (rangeD 0 j).length := by
    rcases Nat.lt_or_ge i (rangeD 0 j).length with q | q
    · exact q
    · rw [List.drop_eq_nil_of_le q] at e; cases e
  rw [List.drop_eq_getElem_cons hlt] at e
  rw [rangeD_len] at hlt
  refine ⟨?_, hlt, (List.cons.inj e).2⟩
  have h := (List.cons.inj e).1
  rw [h]
  have : (rangeD 0 j)[i]? = some (.int i) := by rw [rangeD_nat, List.getElem?_map, List.getElem?_range hlt]; rfl
  rw [List.getElem?_eq_getElem (by rw [rangeD_len]; exact hlt)] at this
  exact Option.some.inj this
theorem range_nil {j i : Nat} (e : [] = (rangeD 0 j).drop i) : j ≤ i := by
  have := congrArg List.length e
  rw [List.length_drop, rangeD_len] at this
  have h0 : ([] : List D).length = 0 := rfl
  omega
end DL
set_option Elab.async false
set_option linter.all false
set_option maxRecDepth 100000
set_option maxHeartbeats 4000000
set_option autoImplicit false
/-! Plain part: dicts in the store, what a def gives away. -/
namespace DL
open PySem L2
theorem closedL_set {n : Nat} : ∀ {S : Sto} {k : Nat} {d : D}, closedL n S = true → D.closed n d = true → closedL n (S.set k d) = true
  | [], _, _, h, _ => h
  | a :: r, 0, d, h, hd => by
    unfold closedL at h
    rw [Bool.and_eq_true] at h
    show closedL n (d :: r) = true
    unfold closedL
    rw [hd, h.2]; rfl
  | a :: r, k + 1, d, h, hd => by
    unfold closedL at h
    rw [Bool.and_eq_true] at h
    show closedL n (a :: r.set k d) = true
    unfold closedL
    rw [h.1, closedL_set h.2 hd]; rfl
theorem sane_set {S : Sto} {k : Nat} {d : D} (h : Sane S) (hd : D.closed S.length d = true) : Sane (S.set k d) := by
  unfold Sane
  rw [List.length_set]
  exact closedL_set h hd
mutual
theorem closed_mono {n m : Nat} (h : n ≤ m) : ∀ {d : D}, D.closed n d = true → D.closed m d = true
  | .ptr k, e => by
    unfold D.closed at e ⊢
    exact decide_eq_true (Nat.lt_of_lt_of_le (of_decide_eq_true e) h)
  | .tup xs, e => by unfold D.closed at e ⊢; exact closedL_mono h e
  | .lst xs, e => by unfold D.closed at e ⊢; exact closedL_mono h e
  | .dct xs, e => by unfold D.closed at e ⊢; exact closedK_mono h e
  | .dcn xs, e => by unfold D.closed at e ⊢; exact closedK_mono h e
  | .lck d, e => by unfold D.closed at e ⊢; exact closed_mono h e
  | .tux xs, e => by unfold D.closed at e ⊢; exact closedL_mono h e
  | .exc _ xs, e => by unfold D.closed at e ⊢; exact closedK_mono h e
  | .non, _ => rfl
  | .bl _, _ => rfl
  | .int _, _ => rfl
  | .str _, _ => rfl
  | .fn _, _ => rfl
  | .ty _, _ => rfl
theorem closedL_mono {n m : Nat} (h : n ≤ m) : ∀ {d : List D}, closedL n d = true → closedL m d = true
  | [], _ => rfl
  | a :: r, e => by
    unfold closedL at e ⊢
    rw [Bool.and_eq_true] at e ⊢
    exact ⟨closed_mono h e.1, closedL_mono h e.2⟩
theorem closedK_mono {n m : Nat} (h : n ≤ m) : ∀ {d : List (D × D)}, closedK n d = true → closedK m d = true
  | [], _ => rfl
  | (a, b) :: r, e => by
    unfold closedK at e ⊢
    rw [Bool.and_eq_true, Bool.and_eq_true] at e ⊢
    exact ⟨⟨closed_mono h e.1.1, closed_mono h e.1.2⟩, closedK_mono h e.2⟩
end
theorem closedL_app {n : Nat} : ∀ {a b : List D}, closedL n a = true → closedL n b = true → closedL n (a ++ b) = true
  | [], b, _, h => h
  | x :: a, b, e, h => by
    unfold closedL at e
    rw [Bool.and_eq_true] at e
    show closedL n (x :: (a ++ b)) = true
    unfold closedL
    rw [e.1, closedL_app e.2 h]; rfl
theorem sane_app {S : Sto} {d : D} (h : Sane S) (hd : D.closed (S.length + 1) d = true) : Sane (S ++ [d]) := by
  unfold Sane
  rw [List.length_append]
  refine closedL_app (closedL_mono (Nat.le_add_right _ _) h) ?_
  show closedL (S.length + 1) [d] = true
  unfold closedL closedL
  rw [hd]; rfl
section
variable {S : Sto} {δ : Sl} {QD : D → Sto → Prop} {N B C : Sl → Sto → Prop} {T : D → Sto → Prop}
theorem p_pairs_nil {Q : List (D × D) → Sto → Prop} (h : Q [] S) : (rPairs [] δ S).post Q := h
theorem p_pairs {k v : RE} {r : List (RE × RE)} {Q : List (D × D) → Sto → Prop} (h : (k δ S).post fun x S1 => (v δ S1).post fun y S2 => (rPairs r δ S2).post fun ps S3 => Q ((x, y) :: ps) S3) : (rPairs ((k, v) :: r) δ S).post Q := by
  unfold rPairs
  exact p_bind (h.mono fun x S1 q => p_bind (q.mono fun y S2 q => p_bind (q.mono fun ps S3 q => q)))
theorem p_disp {ps : List (RE × RE)} (h : (rPairs ps δ S).post fun kvs S1 => (kvs.all (fun p => isKey p.1) && decide (kvs.length ≤ 15)) = true ∧ QD (.dct (mergeD [] kvs)) S1) : (rDisp ps δ S).post QD := p_bind (h.mono fun kvs S1 q => by rw [if_pos q.1]; exact q.2)
end
/-- S' is S but at k -/
structure But (k : Nat) (S S' : Sto) : Prop where
  len : S'.length = S.length
  at_ : ∀ j, j ≠ k → S'[j]? = S[j]?
  sane : Sane S'
theorem But.trans {k : Nat} {S S1 S2 : Sto} (a : But k S S1) (b : But k S1 S2) : But k S S2 := ⟨b.len.trans a.len, fun j hj => (b.at_ j hj).trans (a.at_ j hj), b.sane⟩
end DL
set_option Elab.async false
set_option linter.all false
set_option maxRecDepth 100000
set_option maxHeartbeats 4000000
set_option autoImplicit false
/-! Plain part: texts by their signs. -/
namespace DL
open PySem L2
/-- the text of these signs -/
def mk (cs : List Nat) : Str := ⟨cs.toArray⟩
/-- signs that a text may have -/
def Fine (cs : List Nat) : Prop := ∀ c ∈ cs, c < 128
theorem Fine.ok {cs : List Nat} (h : Fine cs) : PyData.strOk (mk cs) = true := by
  unfold PyData.strOk mk
  rw [Array.all_eq_true']
  intro c hc
  have := h c (by simpa using hc)
  exact decide_eq_true (by omega)
theorem Fine.drop {cs : List Nat} (h : Fine cs) (n : Nat) : Fine (cs.drop n) := fun c hc => h c (List.mem_of_mem_drop hc)
theorem Fine.take {cs : List Nat} (h : Fine cs) (n : Nat) : Fine (cs.take n) := fun c hc => h c (List.mem_of_mem_take hc)
section
variable {δ : Sl} {S : Sto} {QD : D → Sto → Prop} {QO : Option Int → Sto → Prop} {a : RE} {l h : RO}
theorem p_onone (q : QO none S) : (oNone δ S).post QO := q
theorem p_osome (q : (a δ S).post fun x S1 => ∃ i, x = .int i ∧ QO (some i) S1) : (oSome a δ S).post QO := p_bind (q.mono fun x S1 ⟨i, e, q'⟩ => by subst e; exact q')
theorem p_cutL (q : (a δ S).post fun x S1 => (l δ S1).post fun i S2 => (h δ S2).post fun j S3 => ∃ z, x = .lst z ∧ QD (.lst (cutD z i j)) S3) : (rCut a l h δ S).post QD :=
  p_bind (q.mono fun x S1 q => p_bind (q.mono fun i S2 q => p_bind (q.mono fun j S3 ⟨z, e, q'⟩ => by
    subst e
    exact q')))
end
theorem asBls_map : ∀ bs : List Bool, asBls (bs.map .bl) = some bs
  | [] => rfl
  | b :: r => by unfold List.map asBls; rw [asBls_map r]; rfl
theorem o_all {S : Sto} {bs : List Bool} {Q : D → Sto → Prop} (h : Q (.bl (bs.all id)) S) : (Res.lift (gAll S [.lst (bs.map .bl)]) S).post Q := p_lift (by unfold gAll deref; dsimp only; rw [asBls_map]; rfl) h
end DL
set_option Elab.async false
set_option linter.all false
set_option maxRecDepth 100000
set_option maxHeartbeats 4000000
set_option autoImplicit false
/-! Data layer: dicts whatever their keys: get, in, store. -/
namespace DL
open PySem PySem.Spec PyProof.Rows L2
/-! ### keys -/
mutual
inductive NK (K : Fg) (H : Hp) : NestedKey → V → Prop
  | non : NK K H .none .non
  | bl (b : Bool) : NK K H (.num (if b = true then 1 else 0)) (.bl b)
  | int (i : Int) : NK K H (.num i) (.int i)
  | str (x : Str) : NK K H (.text x) (.str x)
  | tup {a : Addr} {vs : List V} {ks : List NestedKey} : SqT K H a vs → NKs K H ks vs → NK K H (.tup ks) (.ref a)
inductive NKs (K : Fg) (H : Hp) : List NestedKey → List V → Prop
  | nil : NKs K H [] []
  | cons {k : NestedKey} {v : V} {ks : List NestedKey} {vs : List V} : NK K H k v → NKs K H ks vs → NKs K H (k :: ks) (v :: vs)
end
section
variable {wd : World} {K : Fg} {mg : Str → Option Value} {F H : Hp} {α : List Addr} {S : Sto}
mutual
theorem DV.nk {v : V} : ∀ {d : D} {k : NestedKey}, DV wd K mg F α v d → keyN d = some k → Sub F H → NK K H k v
  | _, _, .non, e, _ => by cases e; exact .non
  | _, _, .bl b, e, _ => by cases e; exact .bl b
  | _, _, .int i, e, _ => by cases e; exact .int i
  | _, _, .str x, e, _ => by cases e; exact .str x
  | _, _, .tup h t, e, s => by
    rename_i ds
    unfold keyN at e
    cases q : keyNs ds with
    | none => rw [q] at e; cases e
    | some ys => rw [q] at e; cases e; exact .tup (s.sqT h.1) (DVs.nk t q s)
  | _, _, .lst _ _, e, _ => by cases e
  | _, _, .tux _ _, e, _ => by cases e
  | _, _, .ptr _, e, _ => by cases e
  | _, _, .fn _, e, _ => by cases e
  | _, _, .ty _, e, _ => by cases e
theorem DVs.nk {vs : List V} : ∀ {ds : List D} {ks : List NestedKey}, DVs wd K mg F α vs ds → keyNs ds = some ks → Sub F H → NKs K H ks vs
  | _, _, .nil, e, _ => by cases e; exact .nil
  | _, _, .cons h t, e, s => by
    rename_i d _ ds
    unfold keyNs at e
    cases q1 : keyN d with
    | none => rw [q1] at e; cases e
    | some x =>
      cases q2 : keyNs ds with
      | none => rw [q1, q2] at e; cases e
      | some xs => rw [q1, q2] at e; cases e; exact .cons (DV.nk h q1 s) (DVs.nk t q2 s)
end
end
section
variable {X : Cx} {pins : List (Addr × Obj)} {σ : L2.St} {H : Hp} {s : Shared}
mutual
theorem NK.is (I : Inv X pins σ H s) : ∀ {k : NestedKey} {v : V} {u : Value}, NK X.K H k v → RelV v u → NestedIs s.heap k u
  | _, _, u, .non, r => by have : u = Value.none := r; subst this; exact .none
  | _, _, u, .bl b, r => by have : u = Value.bool b := r; subst this; exact .bool rfl
  | _, _, u, .int i, r => by obtain ⟨t, e⟩ := (show ∃ t, u = Value.int i t from r); subst e; exact .int _ _
  | _, _, u, .str x, r => by obtain ⟨t, e⟩ := (show ∃ t, u = Value.str x t from r); subst e; exact .text _ _
  | _, _, u, .tup (a := a) h t, r => by
    have : u = Value.ref a := r
    subst this
    obtain ⟨its, rv, ⟨o, ho, hc, n, hd⟩, _⟩ := I.tuple h
    exact .tup ho hc hd (by simpa using NKs.are I t rv)
theorem NKs.are (I : Inv X pins σ H s) : ∀ {ks : List NestedKey} {vs : List V} {us : List Value}, NKs X.K H ks vs → Vals vs us → NestedAll s.heap ks us
  | _, _, _, .nil, r => by cases r; exact .nil
  | _, _, _, .cons h t, r => by
    cases r with
    | cons r1 r2 => exact .cons (NK.is I h r1) (NKs.are I t r2)
end
end
/-! ### what a dict holds, by values -/
def lookV (xs : List (NestedKey × Addr × V)) (k : NestedKey) : Option V := (xs.find? fun x => decide (x.1 = k)).map (·.2.2)
def putV1 (k : NestedKey) (v : V) (x : NestedKey × Addr × V) : NestedKey × Addr × V := if x.1 = k then (x.1, x.2.1, v) else x
def putV (xs : List (NestedKey × Addr × V)) (k : NestedKey) (a : Addr) (v : V) : List (NestedKey × Addr × V) := if (lookV xs k).isSome then xs.map (putV1 k v) else xs ++ [(k, a, v)]
theorem NV.look {xs : List (NestedKey × Addr × V)} {vs : List (NestedKey × Addr × Value)} (h : NV xs vs) (k : NestedKey) : RelO (lookV xs k) ((atKey vs k).map (·.2)) := by
  unfold NV at h
  induction h with
  | nil => trivial
  | @cons a b l₁ l₂ r t ih =>
    unfold lookV atKey at ih ⊢
    rw [List.find?_cons, List.find?_cons, ← r.1]
    by_cases q : a.1 = k
    · rw [decide_eq_true q]
      exact r.2.2
    · rw [decide_eq_false q]
      exact ih
theorem NV.isSome {xs : List (NestedKey × Addr × V)} {vs : List (NestedKey × Addr × Value)} (h : NV xs vs) (k : NestedKey) : (lookV xs k).isSome = (atKey vs k).isSome := by
  have := (h.look k).isSome_eq
  rw [Option.isSome_map] at this
  exact this
theorem NV.put {xs : List (NestedKey × Addr × V)} {vs : List (NestedKey × Addr × Value)} (h : NV xs vs) (k : NestedKey) (a : Addr) {v : V} {u : Value} (r : RelV v u) : NV (putV xs k a v) (storedH vs k a u) := by
  have e := h.isSome k
  unfold putV storedH
  rw [e]
  by_cases q : (atKey vs k).isSome = true
  · rw [if_pos q, if_pos q]
    clear q e
    unfold NV at h ⊢
    induction h with
    | nil => exact .nil
    | @cons x y l₁ l₂ z t ih =>
      refine .cons ?_ ih
      unfold putV1 putAt
      rw [← z.1]
      by_cases c : x.1 = k
      · rw [if_pos c, if_pos c]; exact ⟨rfl, z.2.1, r⟩
      · rw [if_neg c, if_neg c]; exact z
  · rw [if_neg q, if_neg q]
    exact Paired.snoc h ⟨rfl, rfl, r⟩
theorem NV.length {xs : List (NestedKey × Addr × V)} {vs : List (NestedKey × Addr × Value)} (h : NV xs vs) : xs.length = vs.length := Paired.length h
theorem NV.keys {xs : List (NestedKey × Addr × V)} {vs : List (NestedKey × Addr × Value)} (h : NV xs vs) : xs.map (·.1) = vs.map (·.1) := by
  unfold NV at h
  induction h with
  | nil => rfl
  | cons r _ ih => rw [List.map_cons, List.map_cons, ih, r.1]
theorem putV_length (xs : List (NestedKey × Addr × V)) (k : NestedKey) (a : Addr) (v : V) : (putV xs k a v).length ≤ xs.length + 1 := by
  unfold putV
  split
  · rw [List.length_map]; omega
  · rw [List.length_append]; exact Nat.le_refl _
/-- every key is a key -/
def NKeys (K : Fg) (H : Hp) (xs : List (NestedKey × Addr × V)) : Prop := ∀ x ∈ xs, NK K H x.1 (.ref x.2.1) ∧ x.1.depth ≤ 8
/-- at a stands a dict xs of tuple keys; the empty one is any -/
def NAt (w : World) (H : Hp) (a : Addr) (xs : List (NestedKey × Addr × V)) : Prop := Rd H a (dN w a xs) ∨ (xs = [] ∧ Rd H a (.dK []))
/-- .. that may be written -/
def NWr (w : World) (H : Hp) (a : Addr) (xs : List (NestedKey × Addr × V)) : Prop := H a = some (dN w a xs) ∨ (xs = [] ∧ H a = some (.dK []))
theorem NWr.at {w : World} {H : Hp} {a : Addr} {xs : List (NestedKey × Addr × V)} (h : NWr w H a xs) : NAt w H a xs := h.imp .inl fun ⟨e, q⟩ => ⟨e, .inl q⟩
theorem n_at {X : Cx} {pins : List (Addr × Obj)} {σ : L2.St} {H : Hp} {s : Shared} {a : Addr} {xs : List (NestedKey × Addr × V)} (I : Inv X pins σ H s) (e : NAt X.w H a xs) (hk : NKeys X.K H xs) :
    xs.length ≤ sizeLine ∧ (a == sysModules) = false ∧ ∃ vs, NV xs vs ∧ s.heap.DictOfH (nestedKind X.prog X.w) a vs := by
  rcases e with e | ⟨rfl, e⟩
  · obtain ⟨⟨h1, h2, h3, vs, h4, o, es, ep, h5, h6, h7, h8⟩, _⟩ := (show ObjOk X.prog X.w H s.heap a (dN X.w a xs) from e.ok I.hok)
    refine ⟨h2, h1, vs, h4, o, es, ep, h5, h6, h7, h8, fun x hx => ?_, by rw [← h4.keys]; exact h3⟩
    obtain ⟨i, hi⟩ := List.mem_iff_getElem?.mp hx
    have hl := h4.length
    obtain ⟨y, hy⟩ : ∃ y, xs[i]? = some y := ⟨_, List.getElem?_eq_getElem (by rw [hl]; exact (List.getElem?_eq_some_iff.mp hi).1)⟩
    obtain ⟨z, hz, q1, q2, _⟩ := paired_get h4 hy
    rw [hi] at hz
    cases hz
    obtain ⟨k1, k2⟩ := hk y (List.mem_of_getElem? hy)
    rw [← q1, ← q2]
    exact ⟨NK.is I k1 rfl, k2⟩
  · obtain ⟨h1, h2, vs, kv, o, es, ep, h3, h4, h5, h6⟩ := dk_rd I.hok e
    refine ⟨Nat.zero_le _, h2, [], .nil, o, es, ep, h3, h4, h5, ?_, (fun _ h => (nomatch h)), List.nodup_nil⟩
    have l1 := h6.2.1.length
    have l2 : ([] : List (Key × V)).length = vs.length := Paired.length kv
    rw [← l2] at l1
    exact List.eq_nil_of_length_eq_zero l1
section
variable {X : Cx} {pins : List (Addr × Obj)} {σ : L2.St} {H : Hp} {s : Shared} {a b : Addr} {xs : List (NestedKey × Addr × V)} {k : NestedKey} {v d : V} {u r : Value} {A : Around} {E : Value → Shared → Prop}
theorem room8 (hu : A.units + 10 < cLine) : (nestedKind X.prog X.w).room A.in1 := by
  show A.units + 1 + 8 < cLine
  omega
theorem n_getItem {Q : Value → Shared → Prop} (hu : A.units + 10 < cLine) (I : Inv X pins σ H s) (e : NAt X.w H a xs) (hk : NKeys X.K H xs) (kk : NK X.K H k (.ref b)) (hd : k.depth ≤ 8) (l : lookV xs k = some v) (h : ∀ w' s', Inv X pins σ H s' → RelV v w' → Q w' s') :
    wpAny (model X.prog X.w) A (getItem (.ref a) (.ref b)) Q E s := by
  obtain ⟨_, h2, vs, rel, dd⟩ := n_at I e hk
  obtain ⟨w', hw, rw'⟩ := RelO.some_of (v := v) (o := (atKey vs k).map (·.2)) (by rw [← l]; exact rel.look k)
  obtain ⟨p, hp, hp2⟩ := Option.map_eq_some_iff.mp hw
  refine wpAny_getItem_heap (knd := nestedKind X.prog X.w) (room8 hu) (k := k) ⟨NK.is I kk rfl, hd⟩ dd hp ?_
  rw [hp2]
  exact h w' _ (I.tok _) rw'
theorem n_get2 {Q : Value → Shared → Prop} (hu : A.units + 10 < cLine) (I : Inv X pins σ H s) (e : NAt X.w H a xs) (hk : NKeys X.K H xs) (kk : NK X.K H k (.ref b)) (hd : k.depth ≤ 8) (rd : RelV d r) (h : ∀ w' s', Inv X pins σ H s' → RelV ((lookV xs k).getD d) w' → Q w' s') :
    wpAny (model X.prog X.w) A (call (.builtin "dict.get") [.ref a, .ref b, r]) Q E s := by
  obtain ⟨_, h2, vs, rel, dd⟩ := n_at I e hk
  exact call_meetsIn PySem.F.slot_dict_get dd.typeIs PySem.F.entry_dict_get (PySem.F.args_dict_get_3 _ _ _) (meetsH_dict_get_default (nestedKind X.prog X.w) a b h2 r) ⟨room8 hu, k, vs, ⟨NK.is I kk rfl, hd⟩, dd, h _ _ (I.tok _) ((rel.look k).getD rd)⟩
theorem n_setItem {Q : Unit → Shared → Prop} (hu : A.units + 10 < cLine) (I : Inv X pins σ H s) (e : NWr X.w H a xs) (hk : NKeys X.K H xs) (hz : xs.length < sizeLine) (kk : NK X.K H k (.ref b)) (hd : k.depth ≤ 8) (rv : RelV v r) (h : ∀ s', Inv X pins σ (upd H a (dN X.w a (putV xs k b v))) s' → Q () s') :
    wpAny (model X.prog X.w) A (setItem (.ref a) (.ref b) r) Q E s := by
  obtain ⟨h1, h2, vs, rel, dd⟩ := n_at I e.at hk
  have hz' : vs.length ≤ sizeLine := by rw [← rel.length]; exact h1
  refine wpAny_setItem_heap (knd := nestedKind X.prog X.w) (hsz := hz') (room8 hu) (k := k) ⟨NK.is I kk rfl, hd⟩ dd fun h' dd' hs => h _ ?_
  obtain ⟨q, es, ep, hq, g2, g3, g4, _, g5⟩ := dd'
  refine d_write I (by rcases e with e | ⟨_, e⟩ <;> rw [e] <;> exact True.intro) hs ⟨q, hq⟩ ?_
  have rel' := rel.put k b rv
  refine ⟨⟨h2, by have := putV_length xs k b v; omega, by rw [rel'.keys]; exact g5, _, rel', q, es, ep, hq, g2, g3, g4⟩, ⟨q, hq⟩, fun z1 z2 ⟨p1, p2, p3, vs', p4, o', es', ep', p5, p6⟩ st => ⟨p1, p2, p3, vs', p4, o', es', ep', st _ p5, p6⟩⟩
end
/-- what the dict at a holds at y, whatever its keys -/
def UGet (w : World) (K : Fg) (H : Hp) (a : Addr) (y : V) (o : Option V) : Prop := DGet H a y o ∨ ∃ xs k b, NAt w H a xs ∧ NKeys K H xs ∧ y = .ref b ∧ NK K H k (.ref b) ∧ k.depth ≤ 8 ∧ o = lookV xs k
/-- the heap behind a[y] = v -/
def UPut (w : World) (K : Fg) (H : Hp) (a : Addr) (y v : V) (H' : Hp) : Prop := DPut H a y v H' ∨ ∃ xs k b, NWr w H a xs ∧ NKeys K H xs ∧ y = .ref b ∧ NK K H k (.ref b) ∧ k.depth ≤ 8 ∧ xs.length < sizeLine ∧ H' = upd H a (dN w a (putV xs k b v))
section
variable {X : Cx} {pins : List (Addr × Obj)} {σ : L2.St} {H : Hp} {s : Shared} {a : Addr} {y v d : V} {u r : Value} {o : Option V} {A : Around} {E : Value → Shared → Prop}
theorem u_typeIs (I : Inv X pins σ H s) (g : UGet X.w X.K H a y o) : s.TypeIs (.ref a) "dict" ∧ (∀ b, Value.ref a = .ref b → ∃ ob, s.heap.get? b = some ob ∧ ob.dict = none) := by
  rcases g with g | ⟨xs, k, b, e, hk, _⟩
  · exact ⟨dict_typeIs I g, dict_noDict I g⟩
  · obtain ⟨_, _, vs, _, dd⟩ := n_at I e hk
    refine ⟨dd.typeIs, fun b q => ?_⟩
    cases q
    obtain ⟨ob, _, _, h1, h2, _⟩ := dd
    exact ⟨ob, h1, h2.2.1⟩
theorem u_getItem {Q : Value → Shared → Prop} (hu : A.units + 10 < cLine) (I : Inv X pins σ H s) (g : UGet X.w X.K H a y (some v)) (ry : RelV y u) (h : ∀ w' s', Inv X pins σ H s' → RelV v w' → Q w' s') :
    wpAny (model X.prog X.w) A (getItem (.ref a) u) Q E s := by
  rcases g with g | ⟨xs, k, b, e, hk, rfl, kk, hd, l⟩
  · exact d_getItem (by omega) I g ry h
  · cases (show u = Value.ref b from ry)
    exact n_getItem hu I e hk kk hd l.symm h
theorem u_get2 {Q : Value → Shared → Prop} (hu : A.units + 10 < cLine) (I : Inv X pins σ H s) (g : UGet X.w X.K H a y o) (ry : RelV y u) (rd : RelV d r) (h : ∀ w' s', Inv X pins σ H s' → RelV (o.getD d) w' → Q w' s') :
    wpAny (model X.prog X.w) A (call (.builtin "dict.get") [.ref a, u, r]) Q E s := by
  rcases g with g | ⟨xs, k, b, e, hk, rfl, kk, hd, l⟩
  · exact d_get2 (by omega) I g ry rd h
  · cases (show u = Value.ref b from ry)
    subst l
    exact n_get2 hu I e hk kk hd rd h
theorem u_setItem {H' : Hp} {Q : Unit → Shared → Prop} (hu : A.units + 10 < cLine) (I : Inv X pins σ H s) (g : UPut X.w X.K H a y v H') (ry : RelV y u) (rv : RelV v r) (h : ∀ s', Inv X pins σ H' s' → Q () s') :
    wpAny (model X.prog X.w) A (setItem (.ref a) u r) Q E s := by
  rcases g with g | ⟨xs, k, b, e, hk, rfl, kk, hd, hz, rfl⟩
  · exact d_setItem (by omega) I g ry rv h
  · cases (show u = Value.ref b from ry)
    exact n_setItem hu I e hk hz kk hd rv h
end
def tUGet (X : Cx) (td ty : TE) : TE := fun σ H Q => td σ H fun x H1 => ty σ H1 fun y H2 => ∃ a v, x = .ref a ∧ UGet X.w X.K H2 a y (some v) ∧ Q v H2
def sUPut (X : Cx) (td ty tv : TE) : TS := fun D σ H => tv σ H fun v H1 => td σ H1 fun x H2 => ty σ H2 fun y H3 => ∃ a H4, x = .ref a ∧ UPut X.w X.K H3 a y v H4 ∧ D.nx σ H4
/-- a is a dict -/
def UsD (w : World) (K : Fg) (H : Hp) (a : Addr) : Prop := IsD H a ∨ ∃ xs, NAt w H a xs ∧ NKeys K H xs
def tUGet2 (X : Cx) (td ty tx : TE) : TE := fun σ H Q => td σ H fun x H1 => ∃ a, x = .ref a ∧ UsD X.w X.K H1 a ∧ ty σ H1 fun y H2 => tx σ H2 fun z H3 => ∃ o, UGet X.w X.K H3 a y o ∧ Q (o.getD z) H3
section
variable {X : Cx} {o i e f value : Expr} {pos pos' tpos apos cpos : Pos} {td ty tv tx : TE}
theorem usd_at {pins : List (Addr × Obj)} {σ : L2.St} {H : Hp} {s : Shared} {a : Addr} (I : Inv X pins σ H s) (d : UsD X.w X.K H a) :
    s.TypeIs (.ref a) "dict" ∧ (∀ b, Value.ref a = .ref b → ∃ ob, s.heap.get? b = some ob ∧ ob.dict = none) := by
  rcases d with d | ⟨xs, e, hk⟩
  · obtain ⟨h1, h2, _⟩ := isD_at I d
    exact ⟨h1, h2⟩
  · obtain ⟨_, _, vs, _, dd⟩ := n_at I e hk
    refine ⟨dd.typeIs, fun b q => ?_⟩
    cases q
    obtain ⟨ob, _, _, h1, h2, _⟩ := dd
    exact ⟨ob, h1, h2.2.1⟩
theorem pe_uget (hu : X.A.units + 10 < cLine) (ho : PE X o td) (hi : PE X i ty) (hs : NoSl i) : PE X (.Subscript o i pos) (tUGet X td ty) := by
  refine ⟨fun pins s σ H Q I h => ?_⟩
  refine subD_of PySem.F.slot_dict_getitem.lookup hs (thn (ho.run pins s σ H _ I h) fun u s1 ⟨x, H1, I1, rx, q1⟩ => thn (hi.run pins s1 σ H1 _ I1 q1) fun iv s2 ⟨y, H2, I2, ry, a, v, ex, g, q2⟩ => ?_)
  subst ex
  obtain rfl : u = Value.ref a := rx
  exact ⟨(u_typeIs I2 g).1, u_getItem hu I2 g ry fun w' s3 I3 rw' => ⟨v, H2, I3, rw', q2⟩⟩
theorem ps_uput (hu : X.A.units + 10 < cLine) (ho : PE X o td) (hi : PE X i ty) (hv : PE X value tv) (hs : swapsWith value (some (.Subscript o i pos')) pos.line X.env = pure false) :
    PS X (.Assign [.Subscript o i pos'] value pos) (sUPut X td ty tv) := by
  refine ⟨fun pins s σ H D I h => ?_⟩
  refine wpAny_Assign_Subscript (thn (hv.run pins s σ H _ I h) fun r s1 ⟨v, H1, I1, rv, q1⟩ => thn (ho.run pins s1 σ H1 _ I1 q1) fun u s2 ⟨x, H2, I2, rx, q2⟩ => thn (hi.run pins s2 σ H2 _ I2 q2) fun iv s3 ⟨y, H3, I3, ry, a, H4, ex, g, q3⟩ => ?_) hs
  subst ex
  obtain rfl : u = Value.ref a := rx
  exact u_setItem hu I3 g ry rv fun s4 I4 => ⟨σ, H4, I4, q3⟩
theorem pe_uget2 (hu : X.A.units + 10 < cLine) (ho : PE X o td) (he : PE X e ty) (hf : PE X f tx) (m : M2 X o "get" apos e f cpos) : PE X (.Call (.Attribute o "get" apos) [e, f] [] cpos) (tUGet2 X td ty tx) := by
  refine ⟨fun pins s σ H Q I h => ?_⟩
  refine wpAny_Call_method m.base m.few m.line PySem.F.plainAttrs_dict PySem.F.slot_dict_get PySem.F.type_dict_get (thn (ho.run pins s σ H _ I h) fun u s1 ⟨x, H1, I1, rx, a, ex, d, q1⟩ => ?_)
  subst ex
  obtain rfl : u = Value.ref a := rx
  obtain ⟨t1, t2⟩ := usd_at I1 d
  refine ⟨t1, t2, ?_⟩
  rw [m.trees]
  refine Calls.callWith_builtin rfl (Calls.evalArgs_plain (Calls.spliced_cons (thn (he.run pins s1 σ H1 _ I1 q1) fun iv s2 ⟨y, H2, I2, ry, q2⟩ =>
    Calls.spliced_cons (thn (hf.run pins s2 σ H2 _ I2 q2) fun fv s3 ⟨z, H3, I3, rz, ov, g, q3⟩ => Calls.spliced_nil ?_))))
  exact u_get2 hu I3 g ry rz fun w' s4 I4 rw' => ⟨_, H3, I4, rw', q3⟩
end
end DL
set_option Elab.async false
set_option linter.all false
set_option maxRecDepth 100000
set_option maxHeartbeats 4000000
set_option autoImplicit false
/-! Data layer: dicts whatever their keys, by data. -/
namespace DL
open PySem PySem.Spec PyProof.Rows L2
def lookU (S : Sto) (d q : D) : Option (Option D) := match deref S d with
  | .dct kvs => if isKey q then some (lookD kvs q) else if kvs.isEmpty && isKeyN q then some none else none
  | .dcn kvs => if isKeyN q then some (lookN kvs q) else none
  | _ => none
def gGetU : Sto → D → D → Option D := fun S d q => match lookU S d q with
  | some (some v) => some v
  | _ => none
def isDct (S : Sto) (d : D) : Bool := match deref S d with
  | .dct _ => true
  | .dcn _ => true
  | _ => false
/-- d.get(k, x) -/
def rGet2 (a k x : RE) : RE := fun δ S => (a δ S).bind fun d S1 => if isDct S1 d then (k δ S1).bind fun q S2 => (x δ S2).bind fun z S3 => .lift ((lookU S3 d q).map (·.getD z)) S3 else .stuck
/-- d[k] = v -/
def putU (u y z : D) : Option D := match u with
  | .dct kvs => if isKey y then (if kvs.length < sizeLine then some (.dct (putD kvs y z)) else none) else if kvs.isEmpty && isKeyN y then some (.dcn [(y, z)]) else none
  | .dcn kvs => if isKeyN y && decide (kvs.length < sizeLine) then some (.dcn (putN kvs y z)) else none
  | _ => none
def sPutU (d k v : RE) : RS := fun δ S => (v δ S).out δ fun z S1 => (d δ S1).out δ fun x S2 => (k δ S2).out δ fun y S3 => match x with
  | .ptr n => (match S3[n]? with
    | some u => (match putU u y z with
      | some u' => .nx δ (S3.set n u')
      | none => .stuck)
    | none => .stuck)
  | _ => .stuck
section
variable {wd : World} {K : Fg} {mg : Str → Option Value} {α β : List Addr} {F F1 H H1 : Hp} {S : Sto}
theorem isKeyN_ex {q : D} (h : isKeyN q = true) : ∃ ds nk, q = .tup ds ∧ keyN q = some nk ∧ nk.depth ≤ 8 := by
  cases q with
  | tup ds =>
    unfold isKeyN at h
    dsimp only at h
    split at h
    · rename_i k e
      exact ⟨ds, k, rfl, e, of_decide_eq_true h⟩
    · cases h
  | _ => cases h
theorem eqN_dec {a b : D} {x y : NestedKey} (h1 : keyN a = some x) (h2 : keyN b = some y) : eqN a b = decide (x = y) := by
  unfold eqN
  rw [h1, h2, NestedKey.decide_eq]
theorem NVs.keys {xs : List (NestedKey × Addr × V)} {kvs : List (D × D)} (h : NVs wd K mg F α xs kvs) (s : Sub F H) : NKeys K H xs := by
  induction h with
  | nil => intro x hx; cases hx
  | cons h1 h2 h3 _ _ _ ih =>
    intro x hx
    rcases List.mem_cons.mp hx with rfl | hx
    · exact ⟨h3.nk h1 s, h2⟩
    · exact ih x hx
theorem NVs.length {xs : List (NestedKey × Addr × V)} {kvs : List (D × D)} (h : NVs wd K mg F α xs kvs) : xs.length = kvs.length := by
  induction h with
  | nil => rfl
  | cons _ _ _ _ _ _ ih => rw [List.length_cons, List.length_cons, ih]
theorem putV1_pos {k : NestedKey} {v : V} {x : NestedKey × Addr × V} (h : x.1 = k) : putV1 k v x = (x.1, x.2.1, v) := if_pos h
theorem putV1_neg {k : NestedKey} {v : V} {x : NestedKey × Addr × V} (h : ¬ x.1 = k) : putV1 k v x = x := if_neg h
theorem NVs.look {xs : List (NestedKey × Addr × V)} {kvs : List (D × D)} (h : NVs wd K mg F α xs kvs) {q : D} {nk : NestedKey} (hq : keyN q = some nk) :
    (∀ d, lookN kvs q = some d → ∃ v, lookV xs nk = some v ∧ DV wd K mg F α v d) ∧ (lookN kvs q = none → lookV xs nk = none) := by
  induction h with
  | nil => exact ⟨(fun d e => by cases e), fun _ => rfl⟩
  | @cons nk' b' v' q' d' xs kvs h1 h2 h3 h4 h5 h6 ih =>
    unfold lookN lookV
    rw [eqN_dec h1 hq, List.find?_cons]
    by_cases e : nk' = nk
    · rw [decide_eq_true e]
      exact ⟨(fun d z => by cases z; exact ⟨_, rfl, h5⟩), fun z => by cases z⟩
    · rw [decide_eq_false e]
      exact ih
theorem NVs.isSome {xs : List (NestedKey × Addr × V)} {kvs : List (D × D)} (h : NVs wd K mg F α xs kvs) {q : D} {nk : NestedKey} (hq : keyN q = some nk) : (lookN kvs q).isSome = (lookV xs nk).isSome := by
  obtain ⟨h1, h2⟩ := h.look hq
  cases e : lookN kvs q with
  | none => rw [h2 e]; rfl
  | some d => obtain ⟨v, e1, _⟩ := h1 d e; rw [e1]; rfl
theorem NVs.append {xs ys : List (NestedKey × Addr × V)} {kvs lws : List (D × D)} (h : NVs wd K mg F α xs kvs) (g : NVs wd K mg F α ys lws) : NVs wd K mg F α (xs ++ ys) (kvs ++ lws) := by
  induction h with
  | nil => exact g
  | cons h1 h2 h3 h4 h5 _ ih => exact .cons h1 h2 h3 h4 h5 ih
theorem NVs.put {xs : List (NestedKey × Addr × V)} {kvs : List (D × D)} (h : NVs wd K mg F α xs kvs) {q d : D} {nk : NestedKey} {b : Addr} {v : V} (hq : keyN q = some nk) (hd : nk.depth ≤ 8) (hb : DV wd K mg F α (.ref b) q) (ht : ∃ ds, q = .tup ds) (hv : DV wd K mg F α v d) :
    NVs wd K mg F α (putV xs nk b v) (putN kvs q d) := by
  unfold putV putN
  rw [← h.isSome hq]
  by_cases c : (lookN kvs q).isSome = true
  · rw [if_pos c, if_pos c]
    clear c
    induction h with
    | nil => exact .nil
    | @cons nk' b' v' q' d' xs kvs h1 h2 h3 h4 h5 _ ih =>
      rw [List.map_cons]
      unfold replN
      rw [eqN_dec h1 hq]
      by_cases z : nk' = nk
      · rw [decide_eq_true z, if_pos rfl, putV1_pos (x := (nk', b', v')) z]
        exact .cons h1 h2 h3 h4 hv ih
      · rw [decide_eq_false z, if_neg (show ¬ false = true by decide), putV1_neg (x := (nk', b', v')) z]
        exact .cons h1 h2 h3 h4 h5 ih
  · rw [if_neg c, if_neg c]
    exact h.append (.cons hq hd hb ht hv .nil)
theorem DV.isRef {v : V} {ds : List D} (h : DV wd K mg F α v (.tup ds)) : ∃ b, v = .ref b := by cases h; exact ⟨_, rfl⟩
theorem Rel.uget (hr : Rel wd K mg α F H S) {x y : V} {d q : D} {r : Option D} (hx : DV wd K mg F α x d) (hy : DV wd K mg F α y q) (e : lookU S d q = some r) :
    ∃ a o, x = .ref a ∧ UGet wd K H a y o ∧ (r = none → o = none) ∧ ∀ z, r = some z → ∃ v, o = some v ∧ DV wd K mg F α v z := by
  have s := hr.see hx
  unfold lookU at e
  generalize hd : deref S d = dd at e s
  cases s with
  | «at» h _ => cases h <;> cases e
  | dead => cases e
  | lst _ _ => cases e
  | @dct a ws kvs rd k t =>
    dsimp only at e
    split at e
    · rename_i hk
      cases e
      obtain ⟨k', rfl⟩ := isKey_kD hk
      have := kD_DV hy
      subst this
      have kv := KVs.of k t
      obtain ⟨g1, g2⟩ := kv.look k'
      exact ⟨a, valV ws k', rfl, .inl (.inl ⟨ws, k', rd, rfl, rfl⟩), g2, g1⟩
    · split at e
      · rename_i hc
        cases e
        rw [Bool.and_eq_true] at hc
        obtain ⟨ds, nk, rfl, h1, h2⟩ := isKeyN_ex hc.2
        obtain ⟨b, rfl⟩ := DV.isRef hy
        have : kvs = [] := List.isEmpty_iff.mp hc.1
        subst this
        have : ws = [] := by have := t.length; simpa using this
        subst this
        exact ⟨a, none, rfl, .inr ⟨[], nk, b, .inr ⟨rfl, rd⟩, (fun _ h => nomatch h), rfl, hy.nk h1 hr.sub, h2, rfl⟩, fun _ => rfl, fun z hz => by cases hz⟩
      · cases e
  | @dcn a xs kvs rd nv =>
    dsimp only at e
    split at e
    · rename_i hk
      cases e
      obtain ⟨ds, nk, rfl, h1, h2⟩ := isKeyN_ex hk
      obtain ⟨b, rfl⟩ := DV.isRef hy
      obtain ⟨g1, g2⟩ := nv.look h1
      exact ⟨a, lookV xs nk, rfl, .inr ⟨xs, nk, b, .inl rd, nv.keys hr.sub, rfl, hy.nk h1 hr.sub, h2, rfl⟩, g2, g1⟩
    · cases e
theorem Rel.usd (hr : Rel wd K mg α F H S) {x : V} {d : D} (hx : DV wd K mg F α x d) (e : isDct S d = true) : ∃ a, x = .ref a ∧ UsD wd K H a := by
  have s := hr.see hx
  unfold isDct at e
  generalize deref S d = dd at e s
  cases s with
  | «at» h _ => cases h <;> cases e
  | dead => cases e
  | lst _ _ => cases e
  | @dct a ws kvs rd k t => exact ⟨a, rfl, .inl (.inl ⟨ws, rd⟩)⟩
  | @dcn a xs kvs rd nv => exact ⟨a, rfl, .inr ⟨xs, .inl rd, nv.keys hr.sub⟩⟩
end
section
variable {X : Cx} {W : WX} {a b c e tg : Expr} {es rest : List Expr} {ra rb rc : RE} {ba bb : RB} {rs : RA} {pos p : Pos} {wd : World} {K : Fg} {mg : Str → Option Value} {α β : List Addr} {F F1 H H1 : Hp} {S : Sto}
theorem pd_uget (hu : X.A.units + 10 < cLine) (ha : PD X W a ra) (hb : PD X W b rb) (hs : NoSl b := by intro _ _; rfl) : PD X W (.Subscript a b pos) (rBin gGetU ra rb) := by
  obtain ⟨ta, pa, sa⟩ := ha.ex
  obtain ⟨tb, pb, sb⟩ := hb.ex
  refine ⟨_, pe_uget hu pa pb hs, sa.bin sb fun α F H S x y d e z Q hr hx hy hz q => ?_⟩
  unfold gGetU at hz
  split at hz
  · rename_i v e1
    cases hz
    obtain ⟨l, o, rfl, h1, _, h3⟩ := hr.uget hx hy e1
    obtain ⟨v', rfl, h4⟩ := h3 z rfl
    exact ⟨l, v', rfl, h1, fin_now hr h4 q⟩
  · cases hz
theorem pd_get2 {apos cpos : Pos} (hu : X.A.units + 10 < cLine) (ha : PD X W a ra) (hb : PD X W b rb) (hc : PD X W c rc) (m : M2 X a "get" apos b c cpos := by exact ⟨rfl, rfl, rfl, rfl⟩) : PD X W (.Call (.Attribute a "get" apos) [b, c] [] cpos) (rGet2 ra rb rc) := by
  obtain ⟨ta, pa, sa⟩ := ha.ex
  obtain ⟨tb, pb, sb⟩ := hb.ex
  obtain ⟨tc, pc, sc⟩ := hc.ex
  refine ⟨_, pe_uget2 hu pa pb pc m, fun α F σ H δ S Q hr hs h => ?_⟩
  refine sa α F σ H δ S _ hr hs (wp.bind h fun d S1 _ x H1 β F1 r1 s1 v1 h1 => ?_)
  split at h1
  · rename_i hd
    obtain ⟨l, rfl, hd'⟩ := r1.usd v1 hd
    refine ⟨l, rfl, hd', ?_⟩
    refine sb (α ++ β) F1 σ H1 δ S1 _ r1 (hs.mono s1.sub) (wp.bind h1 fun q S2 _ y H2 γ F2 r2 s2 v2 h2 => ?_)
    refine sc (α ++ β ++ γ) F2 σ H2 δ S2 _ r2 ((hs.mono s1.sub).mono s2.sub) (wp.bind h2 fun z S3 _ w H3 ε F3 r3 s3 v3 h3 => ?_)
    obtain ⟨z', e1, h4⟩ := wp.lift h3
    obtain ⟨o, e2, e3⟩ := Option.map_eq_some_iff.mp e1
    obtain ⟨l', o', e4, g1, g2, g3⟩ := r3.uget ((v1.mono s2.sub).mono s3.sub) (v2.mono s3.sub) e2
    cases e4
    refine ⟨o', g1, ?_⟩
    subst e3
    cases o with
    | none => rw [g2 rfl]; exact h4.now r3 v3
    | some v => obtain ⟨v', rfl, q'⟩ := g3 v rfl; exact h4.now r3 q'
  · exact h1.elim
theorem psd_putU {o i value : Expr} {pos' : Pos} {ro ri rv : RE} (hu : X.A.units + 10 < cLine) (ho : PD X W o ro) (hi : PD X W i ri) (hv : PD X W value rv) (hs : swapsWith value (some (.Subscript o i pos')) pos.line X.env = pure false := by rfl) : PSd X W (.Assign [.Subscript o i pos'] value pos) (sPutU ro ri rv) := by
  obtain ⟨to, po, so⟩ := ho.ex
  obtain ⟨ti, pi, si⟩ := hi.ex
  obtain ⟨tv, pv', sv⟩ := hv.ex
  refine ⟨_, ps_uput hu po pi pv' hs, fun α F σ H δ S E hr hs h => ?_⟩
  refine sv α F σ H δ S _ hr hs (wpS.out h hs fun z S1 _ v H1 β F1 r1 q1 v1 h1 => ?_)
  have hs1 := hs.mono (β := β) q1.sub
  refine so (α ++ β) F1 σ H1 δ S1 _ r1 hs1 (wpS.out h1 hs1 fun x S2 _ xv H2 γ F2 r2 q2 v2 h2 => ?_)
  have hs2 := hs1.mono (β := γ) q2.sub
  refine si (α ++ β ++ γ) F2 σ H2 δ S2 _ r2 hs2 (wpS.out h2 hs2 fun y S3 _ yv H3 ε F3 r3 q3 v3 h3 => ?_)
  have hs3 := hs2.mono (β := ε) q3.sub
  split at h3
  · rename_i n
    split at h3
    · rename_i u e1
      split at h3
      · rename_i u' e2
        have v2' := v2.mono (β := ε) q3.sub
        have vz := (v1.mono (β := γ) q2.sub).mono (β := ε) q3.sub
        cases v2' with
        | @ptr _ ad ea =>
          obtain ⟨o1, _⟩ := r3.own _ _ _ ea e1
          unfold putU at e2
          cases u with
          | dct kvs =>
            dsimp only at e2
            split at e2
            · rename_i hk
              split at e2
              · rename_i hl
                cases e2
                obtain ⟨k, rfl⟩ := isKey_kD hk
                obtain ⟨ws, o2, o3⟩ := Own.dctK.mp o1
                have := kD_DV v3
                subst this
                obtain ⟨a1, a2⟩ := r3.setO (o := .dK (putK ws k v)) (d := .dct (putD kvs (kD k) z)) ea e1 rfl (Own.dctK.mpr ⟨_, upd_same, o3.put k vz⟩)
                exact ⟨_, _, rfl, .inl (.inl ⟨ws, k, o2, rfl, by rw [o3.length]; exact hl, rfl⟩), h3 _ _ _ _ a1 a2 (hs3.mono a2.sub)⟩
              · cases e2
            · split at e2
              · rename_i hc
                cases e2
                rw [Bool.and_eq_true] at hc
                obtain ⟨ds, nk, rfl, g1, g2⟩ := isKeyN_ex hc.2
                obtain ⟨b, rfl⟩ := DV.isRef v3
                have : kvs = [] := List.isEmpty_iff.mp hc.1
                subst this
                obtain ⟨ws, o2, o3⟩ := Own.dctK.mp o1
                cases o3
                obtain ⟨a1, a2⟩ := r3.setO (o := dN X.w ad (putV [] nk b v)) (d := .dcn [(.tup ds, z)]) ea e1 rfl ⟨_, upd_same, .cons g1 g2 v3 ⟨_, rfl⟩ vz .nil⟩
                exact ⟨_, _, rfl, .inr ⟨[], nk, b, .inr ⟨rfl, o2⟩, (fun _ h => nomatch h), rfl, v3.nk g1 r3.sub, g2, by decide, rfl⟩, h3 _ _ _ _ a1 a2 (hs3.mono a2.sub)⟩
              · cases e2
          | dcn kvs =>
            dsimp only at e2
            split at e2
            · rename_i hc
              cases e2
              rw [Bool.and_eq_true] at hc
              obtain ⟨ds, nk, rfl, g1, g2⟩ := isKeyN_ex hc.1
              obtain ⟨b, rfl⟩ := DV.isRef v3
              obtain ⟨xs, o2, o3⟩ := o1
              obtain ⟨a1, a2⟩ := r3.setO (o := dN X.w ad (putV xs nk b v)) (d := .dcn (putN kvs (.tup ds) z)) ea e1 rfl ⟨_, upd_same, o3.put g1 g2 v3 ⟨_, rfl⟩ vz⟩
              exact ⟨_, _, rfl, .inr ⟨xs, nk, b, .inl o2, o3.keys r3.sub, rfl, v3.nk g1 r3.sub, g2, by rw [o3.length]; exact of_decide_eq_true hc.2, rfl⟩, h3 _ _ _ _ a1 a2 (hs3.mono a2.sub)⟩
            · cases e2
          | _ => cases e2
      · exact h3.elim
    · exact h3.elim
  · exact h3.elim
end
end DL
set_option Elab.async false
set_option linter.all false
set_option maxRecDepth 100000
set_option maxHeartbeats 4000000
set_option autoImplicit false
/-! Data layer: dicts walked while they are locked. -/
namespace DL
open PySem PySem.Spec PyProof.Rows L2
/-! ### a locked dict of tuple keys -/
section
variable {X : Cx} {pins : List (Addr × Obj)} {σ : L2.St} {H : Hp} {s : Shared} {d : Addr} {o : Obj}
theorem frzN {xs : List (NestedKey × Addr × V)} (I : Inv X pins σ H s) (h : H d = some (.frz o (dN X.w d xs))) :
    (d == sysModules) = false ∧ s.heap.get? d = some o ∧ o.ExactDict ∧ ∃ (es : Array DictEntry) (ep : Nat), o.data = .dict es ep ∧ es.size = xs.length ∧
      ∀ (i : Nat) (k : NestedKey) (b : Addr) (v : V), xs[i]? = some (k, b, v) → ∃ en : DictEntry, es[i]? = some en ∧ en.key = .ref b ∧ RelV v en.val := by
  obtain ⟨hd, ⟨h1, h2, h3, vs, h4, o', es, ep, h5, h6, h7, h8⟩, _⟩ := I.hok d _ h
  rw [hd] at h5
  cases h5
  have hl := h4.length
  refine ⟨h1, hd, h6, es, ep, h7, ?_, fun i k b v e => ?_⟩
  · rw [← Array.length_toList, h8, List.length_map, hl]
  · obtain ⟨y, hy, e1, e2, e3⟩ := paired_get h4 e
    refine ⟨⟨y.1.hash X.w, .ref y.2.1, y.2.2⟩, ?_, ?_, e3⟩
    · rw [← Array.getElem?_toList, h8, List.getElem?_map, hy]; rfl
    · show Value.ref y.2.1 = .ref b
      rw [← e2]
end
/-- the pairs, each a new tuple -/
def ItiN (w : World) (d : Addr) (o : Obj) (xs : List (NestedKey × Addr × V)) : It :=
  ⟨fun i H => H d = some (.frz o (dN w d xs)) ∧ i < xs.length, fun i H x H' => ∃ T k b v, xs[i]? = some (k, b, v) ∧ x = .ref T ∧ H T = none ∧ H' = upd H T (.tup [.ref b, v]), fun i H => H d = some (.frz o (dN w d xs)) ∧ xs.length ≤ i⟩
section
variable {P : Program} {w : World} {K : Fg} {tg : Expr} {d : Addr} {o : Obj} {es : Array DictEntry} {ep : Nat}
theorem turn_itemsN {xs : List (NestedKey × Addr × V)} {elts : List Expr} {kk : Nat} {tpos : Pos} (it : Addr) (hod : o.data = .dict es ep) :
    Turn P w K (.Tuple elts kk tpos) (ItiN w d o xs) [it] it (fun i h => ∃ ok ov, IsItemIter h it d i xs.length ep ok ov) where
  mem := by simp
  obj := fun i h st b hb => by
    have e : b = it := by simpa using hb
    subst e
    obtain ⟨ok, ov, e⟩ := st
    exact ⟨_, e, fun v z => nomatch z⟩
  keep := fun i h h' st k => let ⟨ok, ov, e⟩ := st; ⟨ok, ov, k it (by simp) _ e⟩
  item := by
    intro X hP hw hK hc i pins s σ H E I hf st hg
    subst hP hw hK
    obtain ⟨hd, hi⟩ := hg
    obtain ⟨hs, hgd, hx, es', ep', hdt, hsz, ent⟩ := frzN I hd
    obtain ⟨rfl, rfl⟩ := dict_ep hod hdt
    obtain ⟨⟨k, b, v⟩, hkv⟩ : ∃ p, xs[i]? = some p := ⟨xs[i], List.getElem?_eq_getElem hi⟩
    obtain ⟨en, hen, hkey, rv⟩ := ent i k b v hkv
    obtain ⟨ok, ov, he⟩ := st
    rw [← hsz] at he
    have hlt : it < s.heap.objs.size := Heap.lt_size he
    have hi' : i < es'.size := by rw [hsz]; exact hi
    have ee : es'[i] = en := by
      rw [Array.getElem?_eq_getElem hi'] at hen
      exact Option.some.inj hen
    refine wpAny_pyNext_items_item_raw he ⟨o, hgd, hx, hdt⟩ hi' fun h' ho hT hz hk => ?_
    refine ⟨_, rfl, wpAny_letOwnedTupleGo_items (s := { s with heap := h' }) ho fun h'' he' sb => ?_⟩
    have hT2 : h''.get? s.heap.objs.size = some { cls := .type "tuple", data := .seq #[es'[i].key, es'[i].val] } := (sb.2 _ (Nat.ne_of_gt hlt)).trans hT
    have new : ObjOk X.prog X.w (upd H s.heap.objs.size (.tup [.ref b, v])) h'' s.heap.objs.size (.tup [.ref b, v]) :=
      ⟨by show 2 ≤ sizeLine; decide, [es'[i].key, es'[i].val], .cons (show es'[i].key = .ref b by rw [ee]; exact hkey) (.cons (by rw [ee]; exact rv) .nil), ⟨_, hT2, rfl, _, rfl⟩⟩
    have I1 : Inv X pins σ (upd H s.heap.objs.size (.tup [.ref b, v])) { s with heap := h'' } :=
      I.turnedNew (t' := s.toks) (ch := [it]) (fun b ob hb e => (sb.2 b (by simpa using hb)).trans (hk b ob (by simpa using hb) e)) hf (Nat.le_refl _) new
    refine ⟨.ref s.heap.objs.size, _, I1, rfl, ⟨_, k, b, v, hkv, rfl, I.hok.fresh (Nat.le_refl _), rfl⟩, ⟨es'[i].key, es'[i].val, ?_⟩, fun b hb => ?_⟩
    · rw [← hsz]; exact he'
    · have e : b = it := by simpa using hb
      rw [e, upd_ne (Nat.ne_of_lt hlt)]
      exact (hf it (by simp)).1
  done := by
    intro X hP hw hK hc i pins s σ H E I hf st hg
    subst hP hw hK
    obtain ⟨hd, hi⟩ := hg
    obtain ⟨f0, f1, f2, f3, f4, f5⟩ := hf it (by simp)
    obtain ⟨hs, hgd, hx, es', ep', hdt, hsz, ent⟩ := frzN I hd
    obtain ⟨rfl, rfl⟩ := dict_ep hod hdt
    obtain ⟨ok, ov, he⟩ := st
    rw [← hsz] at he
    exact wpAny_pyNext_items_end_raw (I.ok.hd hc) he ⟨o, hgd, hx, hdt⟩ (by omega) fun h' eb => ⟨rfl, I.turned (t' := s.toks) (fun b ob hb e => eb b ob hb e) f0 f1 f3 f4 f5⟩
  self := fun A i s Q E st h => let ⟨_, _, e⟩ := st; PySem.W.kcp_self e h
end
def iItemsU (X : Cx) (td : TE) : TI := fun σ H R => td σ H fun x H1 => ∃ d o, x = .ref d ∧ ((∃ kvs, H1 d = some (.frz o (.dK kvs)) ∧ R (Iti d o kvs) H1) ∨ ∃ xs, H1 d = some (.frz o (dN X.w d xs)) ∧ R (ItiN X.w d o xs) H1)
section
variable {X : Cx} {tg e : Expr} {td : TE} {apos cpos : Pos}
theorem pi_itemsU {elts : List Expr} {kk : Nat} {tpos : Pos} (he : PE X e td) (hbase : attributeBase e "items" X.env (eval e X.env) = eval e X.env := by rfl) (hline : (apos.endLine == cpos.line) = true := by rfl) :
    PI X (.Tuple elts kk tpos) (.Call (.Attribute e "items" apos) [] [] cpos) (iItemsU X td) := by
  refine ⟨fun pins s σ H R I h => ?_⟩
  refine wpAny_Call_method (T := "dict") (id := "dict.items") hbase rfl hline F.plainAttrs_dict F.slot_dict_items F.type_dict_items (thn (he.run pins s σ H _ I h) fun u s1 ⟨x, H1, I1, rx, d, o, ex, q⟩ => ?_)
  subst ex
  obtain rfl : u = Value.ref d := rx
  rcases q with ⟨kvs, hd, q⟩ | ⟨xs, hd, q⟩
  · obtain ⟨hs, hgd, hx, es, ep, vs, hdt, hsz, kv, hm⟩ := I1.frzK hd
    have hl : kvs.length = vs.length := Paired.length kv
    refine ⟨hm.dictOf.typeIs, hm.dictOf.mapOf.noDict, ?_⟩
    have I2 : Inv X pins σ H1 { s1 with heap := s1.heap.push { cls := .type "dict_items", data := .fields #[.ref d] } } := I1.kept (t' := s1.toks) fun b ob q => Heap.get?_push_of_some _ q
    have fin : wpAny (model X.prog X.w) X.A (pyIter (.ref s1.heap.objs.size)) (PIE X pins σ (.Tuple elts kk tpos) R) X.xe { s1 with heap := s1.heap.push { cls := .type "dict_items", data := .fields #[.ref d] } } := by
      refine wpAny_pyIter_items (d := d) (knd := mixKind X.prog X.w) ⟨_, Heap.get?_push_size _ rfl, rfl, rfl⟩ (hm.push _) (pi_one (tk := s1.toks) I2 _ (turn_items _ hdt) ⟨.none, .none, ?_⟩ q)
      rw [hl]
      exact Heap.get?_push_size _ rfl
    show wpAny _ _ (callWith cpos (.builtin "dict.items") [.ref d] [] []) _ X.xe s1
    exact method_meetsIn F.slot_dict_items F.entry_dict_items rfl (PySem.evalArgs_none ⟨rfl, hm.dictOf.typeIs, F.args_dict_items_1 _, _, meets_dict_items (mixKind X.prog X.w) d hs, ⟨vs, hm.dictOf⟩, fin⟩)
  · obtain ⟨hs, hgd, hx, es, ep, hdt, hsz, ent⟩ := frzN I1 hd
    have raw : s1.heap.DictRaw d es ep := ⟨o, hgd, hx, hdt⟩
    refine ⟨raw.typeIs, fun b e => ?_, ?_⟩
    · cases e; exact ⟨o, hgd, hx.2.1⟩
    have I2 : Inv X pins σ H1 { s1 with heap := s1.heap.push { cls := .type "dict_items", data := .fields #[.ref d] } } := I1.kept (t' := s1.toks) fun b ob q => Heap.get?_push_of_some _ q
    have fin : wpAny (model X.prog X.w) X.A (pyIter (.ref s1.heap.objs.size)) (PIE X pins σ (.Tuple elts kk tpos) R) X.xe { s1 with heap := s1.heap.push { cls := .type "dict_items", data := .fields #[.ref d] } } := by
      refine wpAny_pyIter_items_raw (d := d) ⟨_, Heap.get?_push_size _ rfl, rfl, rfl⟩ (raw.at fun o e => Heap.get?_push_of_some _ e) (pi_one (tk := s1.toks) I2 _ (turn_itemsN _ hdt) ⟨.none, .none, ?_⟩ q)
      rw [← hsz]
      exact Heap.get?_push_size _ rfl
    show wpAny _ _ (callWith cpos (.builtin "dict.items") [.ref d] [] []) _ X.xe s1
    exact method_meetsIn F.slot_dict_items F.entry_dict_items rfl (PySem.evalArgs_none ⟨rfl, raw.typeIs, F.args_dict_items_1 _, _, meets_dict_items_raw d hs, ⟨es, ep, raw⟩, fin⟩)
end
/-! ### by data -/
def pairsD (kvs : List (D × D)) : List D := kvs.map fun p => .tux [p.1, p.2]
def lckOf (S : Sto) (d : D) : Option (List (D × D)) := match d with
  | .ptr k => (match S[k]? with
    | some (.lck (.dct kvs)) => some kvs
    | some (.lck (.dcn kvs)) => some kvs
    | _ => none)
  | _ => none
/-- d.items(), d, of a locked dict -/
def rItems (a : RE) : RA := fun δ S => (a δ S).bind fun d S1 => .lift ((lckOf S1 d).map pairsD) S1
section
variable {wd : World} {K : Fg} {mg : Str → Option Value} {α β : List Addr} {F F1 H H1 : Hp} {S : Sto}
theorem KVs.at {ws : List (Key × V)} {kvs : List (D × D)} (h : KVs wd K mg F α ws kvs) : ∀ {i : Nat} {p : D × D}, kvs[i]? = some p → ∃ k v, ws[i]? = some (k, v) ∧ p.1 = kD k ∧ DV wd K mg F α v p.2 := by
  induction h with
  | nil => intro i p e; simp at e
  | cons h _ ih =>
    intro i p e
    cases i with
    | zero => simp at e; subst e; exact ⟨_, _, rfl, rfl, h⟩
    | succ i => simp at e; obtain ⟨k, v, e1, e2, e3⟩ := ih e; exact ⟨k, v, by simpa using e1, e2, e3⟩
theorem NVs.at {xs : List (NestedKey × Addr × V)} {kvs : List (D × D)} (h : NVs wd K mg F α xs kvs) : ∀ {i : Nat} {p : D × D}, kvs[i]? = some p → ∃ k b v, xs[i]? = some (k, b, v) ∧ DV wd K mg F α (.ref b) p.1 ∧ DV wd K mg F α v p.2 := by
  induction h with
  | nil => intro i p e; simp at e
  | cons h1 h2 h3 h4 h5 _ ih =>
    intro i p e
    cases i with
    | zero => simp at e; subst e; exact ⟨_, _, _, rfl, h3, h5⟩
    | succ i => simp at e; obtain ⟨k, b, v, e1, e2, e3⟩ := ih e; exact ⟨k, b, v, by simpa using e1, e2, e3⟩
theorem DV.key (k : Key) : DV wd K mg F α (kV k) (kD k) := by cases k <;> constructor
theorem Sub.at {F F' : Hp} {a : Addr} {u : HO} (s : Sub F F') (h : F a = some u) : F' a = some u := s _ _ h
theorem it_items {a : Addr} {o : Obj} {ws : List (Key × V)} {kvs : List (D × D)} (hF : F a = some (.frz o (.dK ws))) (h : KVs wd K mg F α ws kvs) : ItOk wd K mg F α (Iti a o ws) (pairsD kvs) where
  go := fun F' H' i s1 s2 hi => ⟨s2 _ _ (s1 _ _ hF), by unfold pairsD at hi; rw [List.length_map] at hi; rw [h.length]; exact hi⟩
  stop := fun F' H' s1 s2 => ⟨s2 _ _ (s1 _ _ hF), by unfold pairsD; rw [List.length_map, h.length]; exact Nat.le_refl _⟩
  yld := fun F' H' H2 i x d s1 s2 hd ⟨T, k, v, e1, e2, e3, e4⟩ => by
    unfold pairsD at hd
    rw [List.getElem?_map] at hd
    obtain ⟨p, hp, rfl⟩ := Option.map_eq_some_iff.mp hd
    obtain ⟨k', v', g1, g2, g3⟩ := h.at hp
    rw [e1] at g1
    cases g1
    refine .inr ⟨T, _, e3, e4, ?_⟩
    subst e2
    have hn : F' T = none := by
      cases q : F' T with
      | none => rfl
      | some u => rw [s2 _ _ q] at e3; cases e3
    have g3' := g3.mono (β := []) (s1.trans (Sub.new (o := .tup [kV k, v]) hn))
    rw [List.append_nil] at g3'
    rw [g2]
    exact .tux (SqT.of upd_same) (.cons (DV.key k) (.cons g3' .nil))
theorem it_itemsN {a : Addr} {o : Obj} {xs : List (NestedKey × Addr × V)} {kvs : List (D × D)} (hF : F a = some (.frz o (dN wd a xs))) (h : NVs wd K mg F α xs kvs) : ItOk wd K mg F α (ItiN wd a o xs) (pairsD kvs) where
  go := fun F' H' i s1 s2 hi => ⟨s2 _ _ (s1 _ _ hF), by unfold pairsD at hi; rw [List.length_map] at hi; rw [h.length]; exact hi⟩
  stop := fun F' H' s1 s2 => ⟨s2 _ _ (s1 _ _ hF), by unfold pairsD; rw [List.length_map, h.length]; exact Nat.le_refl _⟩
  yld := fun F' H' H2 i x d s1 s2 hd ⟨T, k, b, v, e1, e2, e3, e4⟩ => by
    unfold pairsD at hd
    rw [List.getElem?_map] at hd
    obtain ⟨p, hp, rfl⟩ := Option.map_eq_some_iff.mp hd
    obtain ⟨k', b', v', g1, g2, g3⟩ := h.at hp
    rw [e1] at g1
    cases g1
    refine .inr ⟨T, _, e3, e4, ?_⟩
    subst e2
    have hn : F' T = none := by
      cases q : F' T with
      | none => rfl
      | some u => rw [s2 _ _ q] at e3; cases e3
    have sb := s1.trans (Sub.new (o := .tup [.ref b, v]) hn)
    have g2' := g2.mono (β := []) sb
    have g3' := g3.mono (β := []) sb
    rw [List.append_nil] at g2' g3'
    exact .tux (SqT.of upd_same) (.cons g2' (.cons g3' .nil))
/-- a locked thing -/
theorem Rel.locked (hr : Rel wd K mg α F H S) {v : V} {d : D} {kvs : List (D × D)} (h : DV wd K mg F α v d) (e : lckOf S d = some kvs) :
    ∃ a o, v = .ref a ∧ ((∃ ws, F a = some (.frz o (.dK ws)) ∧ KVs wd K mg F α ws kvs) ∨ ∃ xs, F a = some (.frz o (dN wd a xs)) ∧ NVs wd K mg F α xs kvs) := by
  unfold lckOf at e
  split at e
  · rename_i k
    cases h with
    | @ptr _ a ea =>
      split at e
      · rename_i kvs' e1
        cases e
        obtain ⟨o, ws, h0, h1, h2, h3⟩ := (hr.own _ _ _ ea e1).1
        exact ⟨a, o, rfl, .inl ⟨ws, h0, .of h2 h3⟩⟩
      · rename_i kvs' e1
        cases e
        obtain ⟨o, ws, h0, h1, h2⟩ := (hr.own _ _ _ ea e1).1
        exact ⟨a, o, rfl, .inr ⟨ws, h0, h2⟩⟩
      · cases e
  · cases e
end
section
variable {X : Cx} {W : WX} {a b c e tg : Expr} {es rest : List Expr} {ra rb rc : RE} {ba bb : RB} {rs : RA} {pos p apos cpos : Pos} {wd : World} {K : Fg} {mg : Str → Option Value} {α β : List Addr} {F F1 H H1 : Hp} {S : Sto}
theorem pid_items {elts : List Expr} {kk : Nat} {tpos : Pos} (ha : PD X W e ra) (hbase : attributeBase e "items" X.env (eval e X.env) = eval e X.env := by rfl) (hline : (apos.endLine == cpos.line) = true := by rfl) :
    PId X W (.Tuple elts kk tpos) (.Call (.Attribute e "items" apos) [] [] cpos) (rItems ra) := by
  obtain ⟨t, p1, s1⟩ := ha.ex
  refine ⟨_, pi_itemsU p1 hbase hline, fun α F σ H δ S Q hr hs h => ?_⟩
  refine s1 α F σ H δ S _ hr hs (wp.bind h fun d S1 e1 x H1 β F1 r1 q1 v1 h1 => ?_)
  obtain ⟨ds, e2, h2⟩ := wp.lift h1
  obtain ⟨kvs, e3, rfl⟩ := Option.map_eq_some_iff.mp e2
  obtain ⟨l, o, rfl, q⟩ := r1.locked v1 e3
  refine ⟨l, o, rfl, ?_⟩
  rcases q with ⟨ws, g1, g2⟩ | ⟨xs, g1, g2⟩
  · exact .inl ⟨ws, r1.sub _ _ g1, h2.now r1 (it_items g1 g2)⟩
  · exact .inr ⟨xs, r1.sub _ _ g1, h2.now r1 (it_itemsN g1 g2)⟩
end
end DL
set_option Elab.async false
set_option linter.all false
set_option maxRecDepth 100000
set_option maxHeartbeats 4000000
set_option autoImplicit false
/-! Data layer: a statement done while a dict is locked; what is never reached. -/
namespace DL
open PySem PySem.Spec PyProof.Rows L2
def isSq : HO → Prop
  | .tup _ => True
  | .lst _ => True
  | .frz _ (.tup _) => True
  | .frz _ (.lst _) => True
  | .ext _ => True
  | .xd _ => True
  | _ => False
/-- lists and tuples stay -/
def SubS (F F' : Hp) : Prop := ∀ a u, F a = some u → isSq u → F' a = some u
theorem SubS.t {F F' : Hp} (s : SubS F F') {a : Addr} {xs : List V} (h : Rd F a (.tup xs)) : Rd F' a (.tup xs) := h.imp (fun e => s _ _ e trivial) fun ⟨o, e⟩ => ⟨o, s _ _ e trivial⟩
theorem SubS.l {F F' : Hp} (s : SubS F F') {a : Addr} {xs : List V} (h : Rd F a (.lst xs)) : Rd F' a (.lst xs) := h.imp (fun e => s _ _ e trivial) fun ⟨o, e⟩ => ⟨o, s _ _ e trivial⟩
section
variable {wd : World} {K : Fg} {mg : Str → Option Value} {α β : List Addr} {F F' H H1 : Hp} {S : Sto}
mutual
theorem DV.stay {v : V} {d : D} (s : SubS F F') : DV wd K mg F α v d → DV wd K mg F' α v d
  | .non => .non
  | .bl b => .bl b
  | .int i => .int i
  | .str x => .str x
  | .tup h t => .tup ⟨h.1.imp s.t id, h.2.imp (fun ⟨o, e, q⟩ => ⟨o, s _ _ e trivial, q⟩) id⟩ (DVs.stay s t)
  | .tux h t => .tux (h.imp s.t id) (DVs.stay s t)
  | .lst h t => .lst (h.imp s.l id) (DVs.stay s t)
  | .ptr h => .ptr h
  | .fn h => .fn h
  | .ty n => .ty n
  | .exc h1 h2 h3 h4 h5 => .exc h1 (s _ _ h2 trivial) (h3.imp id fun ⟨dd, e, q⟩ => ⟨dd, e, s _ _ q trivial⟩) h4 (DVs.stay s h5)
theorem DVs.stay {vs : List V} {ds : List D} (s : SubS F F') : DVs wd K mg F α vs ds → DVs wd K mg F' α vs ds
  | .nil => .nil
  | .cons h t => .cons (DV.stay s h) (DVs.stay s t)
end
theorem NVs.stay {xs : List (NestedKey × Addr × V)} {kvs : List (D × D)} (s : SubS F F') (h : NVs wd K mg F α xs kvs) : NVs wd K mg F' α xs kvs := by
  induction h with
  | nil => exact .nil
  | cons h1 h2 h3 h4 h5 _ ih => exact .cons h1 h2 (h3.stay s) h4 (h5.stay s) ih
/-- what may be locked -/
def Lkd (wd : World) (a : Addr) (u : HO) : Prop := (∃ ws, u = .dK ws) ∨ ∃ xs, u = dN wd a xs
theorem Lkd.mut {a : Addr} {u : HO} (h : Lkd wd a u) : Mut (some u) := by
  rcases h with ⟨ws, rfl⟩ | ⟨xs, rfl⟩ <;> exact True.intro
/-- F without a -/
def erase (F : Hp) (a : Addr) : Hp := fun b => if b = a then none else F b
theorem erase_same {a : Addr} : erase F a a = none := by unfold erase; rw [if_pos rfl]
theorem erase_ne {a b : Addr} (h : b ≠ a) : erase F a b = F b := by unfold erase; rw [if_neg h]
theorem erase_stay {a : Addr} {o : Obj} {u : HO} (h : F a = some (.frz o u)) (hu : Lkd wd a u) : SubS F (erase F a) := by
  intro b v e q
  have z : b ≠ a := fun z => by
    subst z
    rw [h] at e
    cases e
    rcases hu with ⟨ws, rfl⟩ | ⟨ys, rfl⟩ <;> exact q
  rw [erase_ne z]; exact e
theorem Own.toLck {a : Addr} {d : D} {u : HO} (od : Obj) (h : Own wd K mg F α H a d) (hF : F a = none) (hu : H a = some u) (hl : Lkd wd a u) (hd : (∃ kvs, d = .dct kvs) ∨ ∃ kvs, d = .dcn kvs) :
    Own wd K mg (upd F a (.frz od u)) α (upd H a (.frz od u)) a (.lck d) := by
  have sb : Sub F (upd F a (.frz od u)) := Sub.new hF
  rcases hd with ⟨kvs, rfl⟩ | ⟨kvs, rfl⟩
  · obtain ⟨ws, h1, h2, h3⟩ := h
    rw [hu] at h1
    cases h1
    have h4 := h3.mono (β := []) sb
    rw [List.append_nil] at h4
    exact ⟨od, ws, upd_same, upd_same, h2, h4⟩
  · obtain ⟨xs, h1, h2⟩ := h
    rw [hu] at h1
    cases h1
    have h4 := h2.mono (β := []) sb
    rw [List.append_nil] at h4
    exact ⟨od, xs, upd_same, upd_same, h4⟩
/-- the thing at k is locked -/
theorem Rel.lock (r : Rel wd K mg α F H S) {k : Nat} {a : Addr} {u : HO} {d : D} (od : Obj) (h1 : α[k]? = some a) (h2 : S[k]? = some d) (hd : (∃ kvs, d = .dct kvs) ∨ ∃ kvs, d = .dcn kvs) (hu : H a = some u) (hl : Lkd wd a u) :
    Rel wd K mg α (upd F a (.frz od u)) (upd H a (.frz od u)) (S.set k (.lck d)) ∧ Sub F (upd F a (.frz od u)) ∧ F a = none := by
  obtain ⟨o1, o2⟩ := r.own k a d h1 h2
  have hF : F a = none := o2 (by rcases hd with ⟨_, rfl⟩ | ⟨_, rfl⟩ <;> rfl)
  have sb : Sub F (upd F a (.frz od u)) := Sub.new hF
  have hn := r.nd
  refine ⟨⟨fun b v e => ?_, by rw [List.length_set]; exact r.len, r.nd, fun b hb => ?_, fun j b e g1 g2 => ?_⟩, sb, hF⟩
  · by_cases z : b = a
    · subst z; rw [upd_same] at e ⊢; exact e
    · rw [upd_ne z] at e ⊢; exact r.sub _ _ e
  · by_cases z : b = a
    · subst z; exact ⟨_, upd_same⟩
    · obtain ⟨v, e⟩ := r.here b hb
      exact ⟨v, by rw [upd_ne z]; exact e⟩
  · by_cases z : j = k
    · subst z
      rw [h1] at g1; cases g1
      rw [List.getElem?_set_self (List.getElem?_eq_some_iff.mp h2).1] at g2
      cases g2
      exact ⟨Own.toLck od o1 hF hu hl hd, fun z => by cases z⟩
    · rw [List.getElem?_set_ne (Ne.symm z)] at g2
      obtain ⟨h3, h4⟩ := r.own j b e g1 g2
      have y : b ≠ a := fun y => by
        subst y
        exact z ((List.getElem_inj hn).mp ((List.getElem?_eq_some_iff.mp g1).2.trans (List.getElem?_eq_some_iff.mp h1).2.symm))
      have h5 := h3.mono (β := []) (H' := upd H a (.frz od u)) sb (upd_ne y)
      rw [List.append_nil] at h5
      exact ⟨h5, fun hd => by rw [upd_ne y]; exact h4 hd⟩
/-- and let go again -/
theorem Rel.unlock (r : Rel wd K mg α F H S) {k : Nat} {a : Addr} {u : HO} {od : Obj} {d : D} (h1 : α[k]? = some a) (h2 : S[k]? = some (.lck d)) (hF : F a = some (.frz od u)) (hl : Lkd wd a u) :
    Rel wd K mg α (erase F a) (upd H a u) (S.set k d) := by
  have st : SubS F (erase F a) := erase_stay hF hl
  have hH : H a = some (.frz od u) := r.sub _ _ hF
  have hn := r.nd
  refine ⟨fun b v e => ?_, by rw [List.length_set]; exact r.len, r.nd, fun b hb => ?_, fun j b e g1 g2 => ?_⟩
  · by_cases z : b = a
    · subst z; rw [erase_same] at e; cases e
    · rw [erase_ne z] at e; rw [upd_ne z]; exact r.sub _ _ e
  · by_cases z : b = a
    · subst z; exact ⟨_, upd_same⟩
    · obtain ⟨v, e⟩ := r.here b hb
      exact ⟨v, by rw [upd_ne z]; exact e⟩
  · by_cases z : j = k
    · subst z
      rw [h1] at g1; cases g1
      rw [List.getElem?_set_self (List.getElem?_eq_some_iff.mp h2).1] at g2
      cases g2
      obtain ⟨o1, _⟩ := r.own j a _ h1 h2
      refine ⟨?_, fun _ => erase_same⟩
      cases d with
      | dct kvs =>
        obtain ⟨o, ws, q0, q1, q2, q3⟩ := o1
        rw [hF] at q0
        cases q0
        exact ⟨ws, upd_same, q2, q3.stay st⟩
      | dcn kvs =>
        obtain ⟨o, xs, q0, q1, q2⟩ := o1
        rw [hF] at q0
        cases q0
        exact ⟨xs, upd_same, q2.stay st⟩
      | _ => exact o1.elim
    · rw [List.getElem?_set_ne (Ne.symm z)] at g2
      obtain ⟨h3, h4⟩ := r.own j b e g1 g2
      have y : b ≠ a := fun y => by
        subst y
        exact z ((List.getElem_inj hn).mp ((List.getElem?_eq_some_iff.mp g1).2.trans (List.getElem?_eq_some_iff.mp h1).2.symm))
      refine ⟨?_, fun hd => by rw [erase_ne y]; exact h4 hd⟩
      cases e with
      | lst ds => obtain ⟨xs, q1, q2⟩ := h3; exact ⟨xs, by rw [upd_ne y]; exact q1, q2.stay st⟩
      | dct kvs => obtain ⟨ws, q1, q2, q3⟩ := h3; exact ⟨ws, by rw [upd_ne y]; exact q1, q2, q3.stay st⟩
      | dcn kvs => obtain ⟨ws, q1, q2⟩ := h3; exact ⟨ws, by rw [upd_ne y]; exact q1, q2.stay st⟩
      | lck e =>
        cases e with
        | dct kvs => obtain ⟨o, ws, q0, q1, q2, q3⟩ := h3; exact ⟨o, ws, by rw [erase_ne y]; exact q0, by rw [upd_ne y]; exact q1, q2, q3.stay st⟩
        | dcn kvs => obtain ⟨o, ws, q0, q1, q2⟩ := h3; exact ⟨o, ws, by rw [erase_ne y]; exact q0, by rw [upd_ne y]; exact q1, q2.stay st⟩
        | _ => exact h3.elim
      | non => trivial
      | _ => exact h3.elim
theorem Stp.lock {a : Addr} {u : HO} {od : Obj} {F2 H2 : Hp} (s : Stp α (upd F a (.frz od u)) (upd H a (.frz od u)) β F2 H2) (hF : F a = none) (hu : H a = some u) (ha : a ∈ α) : Stp α F H β (erase F2 a) (upd H2 a u) := by
  refine ⟨fun b hb => upd_none (s.new b hb), fun b v e => ?_, fun b o hb e => ?_, fun b e => ?_, fun b h1 h2 h3 => ?_⟩
  · have z : b ≠ a := fun z => by subst z; rw [hF] at e; cases e
    rw [erase_ne z]
    exact s.sub _ _ (by rw [upd_ne z]; exact e)
  · have z : b ≠ a := fun z => hb (z ▸ ha)
    rw [upd_ne z]
    exact s.frame b o hb (by rw [upd_ne z]; exact e)
  · have z : b ≠ a := fun z => by subst z; rw [upd_same] at e; cases e
    rw [upd_ne z] at e
    have := s.live b e
    rw [upd_ne z] at this
    exact this
  · have z : b ≠ a := fun z => h1 (z ▸ ha)
    rw [erase_ne z]
    exact s.fnew b h1 (by rw [upd_ne z]; exact h2) (by rw [upd_ne z]; exact h3)
theorem Slots.stay {σ : L2.St} {δ : Sl} (s : SubS F F') (h : Slots wd K mg F α σ δ) : Slots wd K mg F' α σ δ := ⟨h.1, fun i d e => let ⟨v, h1, h2⟩ := h.2 i d e; ⟨v, h1, h2.stay s⟩⟩
end
/-- the dict that slot i holds, if it is open -/
def lockAt (δ : Sl) (S : Sto) (i : Nat) : Option (Nat × D) := match δ[i]? with
  | some (some (.ptr k)) => (match S[k]? with
    | some (.dct kvs) => some (k, .dct kvs)
    | some (.dcn kvs) => some (k, .dcn kvs)
    | _ => none)
  | _ => none
def unlk (k : Nat) (S : Sto) : Option Sto := match S[k]? with
  | some (.lck d) => some (S.set k d)
  | _ => none
def unlkO (k : Nat) : Out → Out
  | .nx δ S => (match unlk k S with | some S' => .nx δ S' | none => .stuck)
  | .rt d S => (match unlk k S with | some S' => .rt d S' | none => .stuck)
  | .bk δ S => (match unlk k S with | some S' => .bk δ S' | none => .stuck)
  | .ct δ S => (match unlk k S with | some S' => .ct δ S' | none => .stuck)
  | o => o
/-- the dict of slot i is locked meanwhile -/
def sLock (i : Nat) (r : RS) : RS := fun δ S => match lockAt δ S i with
  | some (k, d) => unlkO k (r δ (S.set k (.lck d)))
  | none => r δ S
section
variable {X : Cx} {W : WX} {st : Stmt} {e : Expr} {r : RS} {ra : RE} {wd : World} {K : Fg} {mg : Str → Option Value} {α β : List Addr} {F F' H H1 : Hp} {S : Sto}
/-- locked, or not -/
def tMay (t : TS) : TS := fun D σ H => t D σ H ∨ tLock t D σ H
theorem ps_may {t : TS} (h : PS X st t) : PS X st (tMay t) := ⟨fun pins s σ H D I q => q.elim (h.run pins s σ H D I) ((ps_lock h).run pins s σ H D I)⟩
theorem psd_lock (i : Nat) (h : PSd X W st r) : PSd X W st (sLock i r) := by
  obtain ⟨t, p1, s1⟩ := h.ex
  refine ⟨_, ps_may p1, fun α F σ H δ S E hr hs q => ?_⟩
  unfold sLock at q
  split at q
  · rename_i k d e1
    refine .inr ?_
    unfold lockAt at e1
    split at e1
    · rename_i k' e2
      obtain ⟨v, g1, g2⟩ := hs.2 i _ e2
      cases g2 with
      | @ptr _ a ea =>
        have key : ∃ d', S[k']? = some d' ∧ k = k' ∧ d = d' ∧ ((∃ kvs, d' = .dct kvs) ∨ ∃ kvs, d' = .dcn kvs) := by
          split at e1
          · rename_i kvs e3; cases e1; exact ⟨_, e3, rfl, rfl, .inl ⟨_, rfl⟩⟩
          · rename_i kvs e3; cases e1; exact ⟨_, e3, rfl, rfl, .inr ⟨_, rfl⟩⟩
          · cases e1
        obtain ⟨d', e3, rfl, rfl, hd⟩ := key
        clear e1
        obtain ⟨o1, o2⟩ := hr.own _ _ _ ea e3
        obtain ⟨u, hu, hl⟩ : ∃ u, H a = some u ∧ Lkd X.w a u := by
          rcases hd with ⟨kvs, rfl⟩ | ⟨kvs, rfl⟩
          · obtain ⟨ws, q1, _⟩ := o1; exact ⟨_, q1, .inl ⟨ws, rfl⟩⟩
          · obtain ⟨xs, q1, _⟩ := o1; exact ⟨_, q1, .inr ⟨xs, rfl⟩⟩
        refine ⟨a, u, hu, hl.mut, fun od => ?_⟩
        obtain ⟨r1, sb, hF⟩ := hr.lock od ea e3 hd hu hl
        have hs1 := hs.mono (β := []) sb
        rw [List.append_nil] at hs1
        have ha : a ∈ α := List.mem_of_getElem? ea
        refine s1 α _ σ _ δ _ _ r1 hs1 ?_
        have fin : ∀ {S' : Sto} {β : List Addr} {F' H' : Hp}, Rel X.w X.K X.mg (α ++ β) F' H' S' → Stp α (upd F a (.frz od u)) (upd H a (.frz od u)) β F' H' → ∀ S2, unlk k S' = some S2 →
            H' a = some (.frz od u) ∧ Rel X.w X.K X.mg (α ++ β) (erase F' a) (upd H' a u) S2 ∧ Stp α F H β (erase F' a) (upd H' a u) ∧ SubS F' (erase F' a) := by
          intro S' β F' H' r2 st2 S2 e4
          have f1 : F' a = some (.frz od u) := st2.sub _ _ upd_same
          unfold unlk at e4
          split at e4
          · rename_i d2 e5
            cases e4
            exact ⟨r2.sub _ _ f1, r2.unlock (at_app ea) e5 f1 hl, st2.lock hF hu ha, erase_stay f1 hl⟩
          · cases e4
        cases c : r δ (S.set k (.lck d)) with
        | nx δ' S' =>
          rw [c] at q
          intro σ' H' β F' r2 st2 sl2
          unfold unlkO at q
          dsimp only at q
          split at q
          · rename_i S2 e4
            obtain ⟨f1, f2, f3, f4⟩ := fin r2 st2 S2 e4
            exact ⟨f1, q _ _ _ _ f2 f3 (sl2.stay f4)⟩
          · exact q.elim
        | rt v S' =>
          rw [c] at q
          intro σ' H' β F' r2 st2 sl2
          unfold unlkO at q
          dsimp only at q
          split at q
          · rename_i S2 e4
            obtain ⟨f1, f2, f3, f4⟩ := fin r2 st2 S2 e4
            exact ⟨f1, q _ _ _ _ f2 f3 (sl2.stay f4)⟩
          · exact q.elim
        | bk δ' S' =>
          rw [c] at q
          intro σ' H' β F' r2 st2 sl2
          unfold unlkO at q
          dsimp only at q
          split at q
          · rename_i S2 e4
            obtain ⟨f1, f2, f3, f4⟩ := fin r2 st2 S2 e4
            exact ⟨f1, q _ _ _ _ f2 f3 (sl2.stay f4)⟩
          · exact q.elim
        | ct δ' S' =>
          rw [c] at q
          intro σ' H' β F' r2 st2 sl2
          unfold unlkO at q
          dsimp only at q
          split at q
          · rename_i S2 e4
            obtain ⟨f1, f2, f3, f4⟩ := fin r2 st2 S2 e4
            exact ⟨f1, q _ _ _ _ f2 f3 (sl2.stay f4)⟩
          · exact q.elim
        | err cl fs δ' S' =>
          rw [c] at q
          intro cls dd σ' H' β F' r2 st2 sl2 er
          refine q cls dd σ' H' β F' r2 ⟨fun b hb => upd_none (st2.new b hb), sb.trans st2.sub, fun b o hb e => ?_, fun b e => upd_none (st2.live b e), fun b h1 h2 h3 => ?_⟩ sl2 er
          · have z : b ≠ a := fun z => hb (z ▸ ha)
            exact st2.frame b o hb (by rw [upd_ne z]; exact e)
          · have z : b ≠ a := fun z => h1 (z ▸ ha)
            exact st2.fnew b h1 (by rw [upd_ne z]; exact h2) (by rw [upd_ne z]; exact h3)
        | stuck => rw [c] at q; exact q.elim
    · cases e1
  · exact .inl (s1 α F σ H δ S E hr hs q)
end
end DL
set_option Elab.async false
set_option linter.all false
set_option maxRecDepth 100000
set_option maxHeartbeats 4000000
set_option autoImplicit false
/-! Data layer: order of data, sorting, the greatest and the least. -/
namespace DL
open PySem PySem.Spec PyProof.Rows L2
def notNone : PyData → Bool
  | .none => false
  | _ => true
/-- two data that may be compared -/
def twoD (S : Sto) (d e : D) : Option (PyData × PyData) := match toPy S (deref S d), toPy S (deref S e) with
  | some x, some y => if PySem.W.alike x y && (notNone x && decide (x.depth ≤ 40)) then some (x, y) else none
  | _, _ => none
def gLtU : Sto → D → D → Option D := fun S d e => match d, e with
  | .int i, .int j => some (.bl (decide (i < j)))
  | _, _ => (twoD S d e).map fun p => .bl (PySem.W.dataLt p.1 p.2)
def gLeU : Sto → D → D → Option D := fun S d e => match d, e with
  | .int i, .int j => some (.bl (decide (i ≤ j)))
  | _, _ => (twoD S d e).map fun p => .bl (!PySem.W.dataLt p.2 p.1)
def gGtU : Sto → D → D → Option D := fun S d e => match d, e with
  | .int i, .int j => some (.bl (decide (j < i)))
  | _, _ => (twoD S d e).map fun p => .bl (PySem.W.dataLt p.2 p.1)
def gGeU : Sto → D → D → Option D := fun S d e => match d, e with
  | .int i, .int j => some (.bl (decide (j ≤ i)))
  | _, _ => (twoD S d e).map fun p => .bl (!PySem.W.dataLt p.1 p.2)
def rCmp (K : Fg) (f : PyData → PyData → Bool) : R2 := fun x y H Q => ∃ d e, Dp K H x d ∧ Dp K H y e ∧ PySem.W.alike d e = true ∧ d ≠ .none ∧ d.depth ≤ 40 ∧ Q (.bl (f d e)) H
section
variable {X : Cx}
theorem op_ltU (hu : X.A.units + 64 < cLine) : OpR X (compareOp .Lt) (rCmp X.K PySem.W.dataLt) := by
  intro pins s σ H x y v u Q I rx ry h
  obtain ⟨d, e, hd, he, al, nn, dp, q⟩ := h
  obtain ⟨as, r1⟩ := Dp.reads I d x v hd rx
  obtain ⟨bs, r2⟩ := Dp.reads I e y u he ry
  exact PySem.W.lt_data r1 r2 al nn (by omega) ⟨.bl _, H, I, rfl, q⟩
theorem op_leU (hu : X.A.units + 64 < cLine) : OpR X (compareOp .LtE) (rCmp X.K fun d e => !PySem.W.dataLt e d) := by
  intro pins s σ H x y v u Q I rx ry h
  obtain ⟨d, e, hd, he, al, nn, dp, q⟩ := h
  obtain ⟨as, r1⟩ := Dp.reads I d x v hd rx
  obtain ⟨bs, r2⟩ := Dp.reads I e y u he ry
  exact PySem.W.le_data r1 r2 al nn (by omega) ⟨.bl _, H, I, rfl, q⟩
theorem op_gtU (hu : X.A.units + 64 < cLine) : OpR X (compareOp .Gt) (rCmp X.K fun d e => PySem.W.dataLt e d) := by
  intro pins s σ H x y v u Q I rx ry h
  obtain ⟨d, e, hd, he, al, nn, dp, q⟩ := h
  obtain ⟨as, r1⟩ := Dp.reads I d x v hd rx
  obtain ⟨bs, r2⟩ := Dp.reads I e y u he ry
  exact PySem.W.gt_data r1 r2 al nn (by omega) ⟨.bl _, H, I, rfl, q⟩
theorem op_geU (hu : X.A.units + 64 < cLine) : OpR X (compareOp .GtE) (rCmp X.K fun d e => !PySem.W.dataLt d e) := by
  intro pins s σ H x y v u Q I rx ry h
  obtain ⟨d, e, hd, he, al, nn, dp, q⟩ := h
  obtain ⟨as, r1⟩ := Dp.reads I d x v hd rx
  obtain ⟨bs, r2⟩ := Dp.reads I e y u he ry
  exact PySem.W.ge_data r1 r2 al nn (by omega) ⟨.bl _, H, I, rfl, q⟩
theorem alike_int (i j : Int) : PySem.W.alike (.int i) (.int j) = true := by simp [PySem.W.alike]
theorem depth_int (i : Int) : (PyData.int i).depth ≤ 40 := by simp [PyData.depth]
theorem cmpU {f : PyData → PyData → Bool} {g : Sto → D → D → Option D} {op : CmpOp} {h : Int → Int → Bool} (ho : OpR X (compareOp op) (rCmp X.K f)) (hi : ∀ i j, f (.int i) (.int j) = h i j)
    (hg : ∀ S d e z, g S d e = some z → (∃ i j, d = .int i ∧ e = .int j ∧ z = .bl (h i j)) ∨ ∃ p, twoD S d e = some p ∧ z = .bl (f p.1 p.2)) : OpG X (compareOp op) g := by
  refine ⟨_, ho, fun α F H S x y d e z Q hr hx hy hz q => ?_⟩
  rcases hg S d e z hz with ⟨i, j, rfl, rfl, rfl⟩ | ⟨p, h1, rfl⟩
  · cases hx; cases hy
    refine ⟨.int i, .int j, .int i, .int j, alike_int i j, by simp, depth_int i, ?_⟩
    rw [hi]
    exact fin_now hr (.bl _) q
  · unfold twoD at h1
    split at h1
    · rename_i x' y' e1 e2
      split at h1
      · rename_i hc
        cases h1
        rw [Bool.and_eq_true, Bool.and_eq_true] at hc
        exact ⟨x', y', hr.dp hx e1, hr.dp hy e2, hc.1, (by intro z; subst z; exact absurd hc.2.1 (by decide)), of_decide_eq_true hc.2.2, fin_now hr (.bl _) q⟩
      · cases h1
    · cases h1
theorem g_ltU (hu : X.A.units + 64 < cLine) : OpG X (compareOp .Lt) gLtU := cmpU (op_ltU hu) (h := fun i j => decide (i < j)) (fun i j => PySem.W.dataLt_int i j) fun S d e z hz => by
  unfold gLtU at hz
  split at hz
  · cases hz; exact .inl ⟨_, _, rfl, rfl, rfl⟩
  · obtain ⟨p, h1, h2⟩ := Option.map_eq_some_iff.mp hz
    exact .inr ⟨p, h1, h2.symm⟩
theorem g_gtU (hu : X.A.units + 64 < cLine) : OpG X (compareOp .Gt) gGtU := cmpU (op_gtU hu) (h := fun i j => decide (j < i)) (fun i j => PySem.W.dataLt_int j i) fun S d e z hz => by
  unfold gGtU at hz
  split at hz
  · cases hz; exact .inl ⟨_, _, rfl, rfl, rfl⟩
  · obtain ⟨p, h1, h2⟩ := Option.map_eq_some_iff.mp hz
    exact .inr ⟨p, h1, h2.symm⟩
theorem not_lt_le (i j : Int) : (!decide (j < i)) = decide (i ≤ j) := by
  by_cases h : j < i
  · rw [decide_eq_true h, decide_eq_false (by omega)]; rfl
  · rw [decide_eq_false h, decide_eq_true (by omega)]; rfl
theorem g_leU (hu : X.A.units + 64 < cLine) : OpG X (compareOp .LtE) gLeU := cmpU (op_leU hu) (h := fun i j => decide (i ≤ j)) (fun i j => by rw [PySem.W.dataLt_int]; exact not_lt_le i j) fun S d e z hz => by
  unfold gLeU at hz
  split at hz
  · cases hz; exact .inl ⟨_, _, rfl, rfl, rfl⟩
  · obtain ⟨p, h1, h2⟩ := Option.map_eq_some_iff.mp hz
    exact .inr ⟨p, h1, h2.symm⟩
theorem g_geU (hu : X.A.units + 64 < cLine) : OpG X (compareOp .GtE) gGeU := cmpU (op_geU hu) (h := fun i j => decide (j ≤ i)) (fun i j => by rw [PySem.W.dataLt_int]; exact not_lt_le j i) fun S d e z hz => by
  unfold gGeU at hz
  split at hz
  · cases hz; exact .inl ⟨_, _, rfl, rfl, rfl⟩
  · obtain ⟨p, h1, h2⟩ := Option.map_eq_some_iff.mp hz
    exact .inr ⟨p, h1, h2.symm⟩
end
/-! ### sorting -/
def tupFull : PyData → Bool
  | .tuple (_ :: _) => true
  | _ => false
def noTup : PyData → Bool
  | .none => false
  | .tuple _ => false
  | _ => true
def sortable (ps : List PyData) : Bool := (ps.all tupFull || ps.all noTup) && ((ps.all fun x => ps.all fun y => PySem.W.alike x y) && ps.all fun x => decide (x.depth ≤ 40))
def sortBy {A : Type} (xs : List A) (ps : List PyData) : List A := ((xs.zip ps).mergeSort (PySem.W.dataLe false (·.2))).map (·.1)
def sortD (S : Sto) (xs : List D) : Option (List D) := match toPys S xs with
  | some ps => if sortable ps && decide (xs.length ≤ sizeLine) then some (sortBy xs ps) else none
  | none => none
def gSorted : Sto → List D → Option D := fun S ds => match ds with
  | [d] => (match deref S d with
    | .lst xs => (sortD S xs).map .lst
    | _ => none)
  | _ => none
theorem sortBy_length {A : Type} {xs : List A} {ps : List PyData} (h : xs.length = ps.length) : (sortBy xs ps).length = xs.length := by
  unfold sortBy
  rw [List.length_map, List.length_mergeSort, List.length_zip, h, Nat.min_self]
section
open PySem.W
variable {wd : World} {K : Fg} {mg : Str → Option Value} {α β : List Addr} {F F1 H H1 : Hp} {S : Sto}
theorem dpAll_length {xs : List V} {ps : List PyData} (h : DpAll K H xs ps) : xs.length = ps.length := by
  match h with
  | .nil => rfl
  | .cons _ t => rw [List.length_cons, List.length_cons, dpAll_length t]
theorem zip_each {A B : Type} {R : A → B → Prop} : ∀ {as : List A} {bs : List B} (ps : List PyData), EachIs R as bs → EachIs (fun (x : A × PyData) (y : B × PyData) => R x.1 y.1 ∧ x.2 = y.2) (as.zip ps) (bs.zip ps)
  | _, _, _, .nil => .nil
  | _, _, [], .cons _ _ => .nil
  | _, _, p :: ps, .cons h t => .cons ⟨h, rfl⟩ (zip_each ps t)
theorem each_map2 {A B A' B' : Type} {R : A → B → Prop} {R' : A' → B' → Prop} (f : A → A') (g : B → B') (h : ∀ a b, R a b → R' (f a) (g b)) : ∀ {as : List A} {bs : List B}, EachIs R as bs → EachIs R' (as.map f) (bs.map g)
  | _, _, .nil => .nil
  | _, _, .cons a t => .cons (h _ _ a) (each_map2 f g h t)
/-- things sorted by the same data -/
theorem sortBy_each {A B : Type} {R : A → B → Prop} {as : List A} {bs : List B} (ps : List PyData) (h : EachIs R as bs) : EachIs R (sortBy as ps) (sortBy bs ps) := by
  unfold sortBy
  have z := zip_each ps h
  refine each_map2 (·.1) (·.1) (fun a b q => q.1) (sort_each z ?_)
  intro p hp q hq
  have e1 := (EachIs.zip z p hp).2
  have e2 := (EachIs.zip z q hq).2
  unfold dataLe sortLe
  dsimp only
  rw [e1, e2]
theorem each_dvs : ∀ {us : List V} {ds : List D}, EachIs (fun v d => DV wd K mg F α v d) us ds → DVs wd K mg F α us ds
  | _, _, .nil => .nil
  | _, _, .cons h t => .cons h (each_dvs t)
theorem dvs_each : ∀ {us : List V} {ds : List D}, DVs wd K mg F α us ds → EachIs (fun v d => DV wd K mg F α v d) us ds
  | _, _, .nil => .nil
  | _, _, .cons h t => .cons h (dvs_each t)
theorem DVs.sort {us : List V} {ds : List D} (h : DVs wd K mg F α us ds) (ps : List PyData) : DVs wd K mg F α (sortBy us ps) (sortBy ds ps) := each_dvs (sortBy_each ps (dvs_each h))
end
def rSortU (X : Cx) : List V → Hp → VK → Prop := fun vs H Q => ∃ (a : Addr) (us : List V) (ps : List PyData), vs = [.ref a] ∧ SqL X.K H a us ∧ DpAll X.K H us ps ∧ sortable ps = true ∧ us.length ≤ sizeLine ∧ Lays H (sortBy us ps) Q
section
open PySem.W
variable {X : Cx} {W : WX} {a b c e tg : Expr} {es rest : List Expr} {ra rb rc : RE} {rs : RA} {pos p : Pos}
theorem vals_each {s : Shared} {σ : L2.St} {H : Hp} {pins : List (Addr × Obj)} (I : Inv X pins σ H s) : ∀ {us : List V} {ps : List PyData} {vs : List Value}, DpAll X.K H us ps → Vals us vs →
    EachIs (fun u (b : V × PyData) => RelV b.1 u) vs (us.zip ps) ∧ EachIs (fun u (b : V × PyData) => ∃ as, Reads s.heap u b.2 as) vs (us.zip ps)
  | _, _, _, .nil, r => by cases r; exact ⟨.nil, .nil⟩
  | _, _, _, .cons h t, r => by
    cases r with
    | cons r1 r2 =>
      obtain ⟨h1, h2⟩ := vals_each I t r2
      exact ⟨.cons r1 h1, .cons (Dp.reads I _ _ _ h r1) h2⟩
theorem each_vals : ∀ {us : List V} {vs : List Value}, EachIs (fun u v => RelV v u) vs us → Vals us vs
  | _, _, .nil => .nil
  | _, _, .cons h t => .cons h (each_vals t)
theorem cr_sortU (hu : X.A.units + 64 < cLine) : CallR X (.builtin "sorted") (rSortU X) := by
  intro pins s σ H vs us Q I r h
  obtain ⟨a, xs, ps, rfl, hs, hd, hk, hl, q⟩ := h
  obtain ⟨its, rv, pl, _⟩ := I.list hs
  rw [Vals.ref1 r]
  obtain ⟨e1, e2⟩ := vals_each I hd rv
  unfold sortable at hk
  rw [Bool.and_eq_true, Bool.and_eq_true, Bool.or_eq_true] at hk
  obtain ⟨k1, k2, k3⟩ := hk
  have ml : (xs.zip ps).map (·.2) = ps := List.map_snd_zip (by rw [(dpAll_length hd)]; exact Nat.le_refl _)
  have hal : AllAlike ((xs.zip ps).map (·.2)) := by
    rw [ml]
    intro d hd d' hd'
    exact List.all_eq_true.mp (List.all_eq_true.mp k2 d hd) d' hd'
  have hso : Sortable ((xs.zip ps).map (·.2)) := by
    rw [ml]
    rcases k1 with k1 | k1
    · refine .inl fun d hd => ?_
      have := List.all_eq_true.mp k1 d hd
      match d, this with
      | .tuple (x :: r), _ => exact ⟨x, r, rfl⟩
    · refine .inr fun d hd => ?_
      have := List.all_eq_true.mp k1 d hd
      refine ⟨fun z => ?_, fun xs z => ?_⟩ <;> subst z <;> exact absurd this (by simp [noTup])
  refine sorted_data (enc := fun b : V × PyData => b.2) pl.isList e1 e2 hal hso (by rw [List.length_zip, (dpAll_length hd), Nat.min_self, ← (dpAll_length hd)]; exact hl) (fun b hb => ?_) fun out h1 h2 => ?_
  · have := of_decide_eq_true (List.all_eq_true.mp k3 b.2 (by rw [← ml]; exact List.mem_map.mpr ⟨b, hb, rfl⟩))
    omega
  · obtain ⟨ep, he'⟩ := PyProof.Rows.sortedAll_at s.heap its (List.toArray out)
    have hv : Vals (sortBy xs ps) out := each_vals (by
      have := each_map2 (R' := fun u v => RelV v u) (fun x => x) (fun b : V × PyData => b.1) (fun _ _ q => q) h2
      rw [List.map_id'] at this
      exact this)
    have hlen : (sortBy xs ps).length ≤ sizeLine := by rw [sortBy_length (dpAll_length hd)]; exact hl
    exact ⟨.ref _, upd H (s.heap.objs.size + 1) (.lst (sortBy xs ps)), I.laid (t' := s.toks) (fun _ _ => PyProof.Rows.sortedAll_old) (Nat.le_succ _) ⟨hlen, out, ep, hv, he'⟩, rfl, q _ (I.hok.fresh (Nat.le_succ _))⟩
/-- by a call of a built-in -/
theorem pf_callB {x : Str} {T : String} {g : Sto → List D → Option D} {r : List V → Hp → VK → Prop} (hc : CallR X (.builtin T) r) (hgk : ∀ α F H S xs ds z Q, Rel X.w X.K X.mg α F H S → DVs X.w X.K X.mg F α xs ds → g S ds = some z → ∃ es us, z = .lst es ∧ DVs X.w X.K X.mg F α us es ∧ (Lays H us Q → r xs H Q))
    (hm : X.mg x = none) (ha : PDs X W (e :: es) rs) (hg : Gl X x := by rfl) (hv : bootBuiltins x = some (.builtin T) := by decide +kernel) (hn : x ≠ "__name__" := by decide) (hdb : (x == ("__debug__" : Str)) = false := by decide)
    (he : starEach (e :: es) X.env = (false, eval e X.env) :: starEach es X.env := by rfl) (hpl : (backTo pos (starEach es X.env)).any (·.1) = false := by rfl) : PF X W (.Call (.Name x p) (e :: es) [] pos) (rAs g rs) := by
  obtain ⟨t, pt, st⟩ := ha.ex
  refine ⟨_, pe_callB hc hg hm hv pt hn hdb he hpl, fun α F σ H δ S Q hr hs h => ?_⟩
  refine st α F σ H δ S _ hr hs (wpF.bind h fun ds S1 _ xs H1 β F1 r1 q1 v1 h1 => ?_)
  cases eg : g S1 ds with
  | none => rw [eg] at h1; exact h1.elim
  | some z =>
    rw [eg] at h1
    obtain ⟨es', us, rfl, e1, e2⟩ := hgk _ F1 H1 S1 xs ds z Q r1 v1 eg
    exact e2 fun p hp => wpF.lay h1 r1 hp ⟨us, upd_same, e1⟩ rfl
theorem pf_sorted (hu : X.A.units + 64 < cLine) (hm : X.mg "sorted" = none) (ha : PDs X W (e :: es) rs) (hg : Gl X "sorted" := by rfl) (he : starEach (e :: es) X.env = (false, eval e X.env) :: starEach es X.env := by rfl) (hpl : (backTo pos (starEach es X.env)).any (·.1) = false := by rfl) :
    PF X W (.Call (.Name "sorted" p) (e :: es) [] pos) (rAs gSorted rs) := pf_callB (cr_sortU hu) (fun α F H S xs ds z Q hr hv hz => by
  unfold gSorted at hz
  split at hz
  · cases hv with
    | cons h1 h2 =>
      cases h2
      split at hz
      · rename_i ys e1
        obtain ⟨zs, e2, rfl⟩ := Option.map_eq_some_iff.mp hz
        obtain ⟨l, us, rfl, a1, a2⟩ := hr.viewL h1 e1
        unfold sortD at e2
        split at e2
        · rename_i ps e3
          split at e2
          · rename_i hc
            cases e2
            rw [Bool.and_eq_true] at hc
            exact ⟨_, sortBy us ps, rfl, a2.sort ps, fun q => ⟨l, us, ps, rfl, a1, a2.dp e3 hr.sub, hc.1, by rw [a2.length]; exact of_decide_eq_true hc.2, q⟩⟩
          · cases e2
        · cases e2
      · cases hz
  · cases hz) hm ha hg (by decide +kernel) (by decide) (by decide) he hpl
end
/-! ### the greatest and the least of numbers -/
def maxI : List Int → Option Int
  | [] => none
  | i :: r => some (r.foldl max i)
theorem foldl_max : ∀ (r : List Int) (i : Int), (r.foldl max i = i ∨ r.foldl max i ∈ r) ∧ i ≤ r.foldl max i ∧ ∀ y ∈ r, y ≤ r.foldl max i
  | [], i => ⟨.inl rfl, by simp, fun _ h => nomatch h⟩
  | a :: r, i => by
    obtain ⟨h1, h2, h3⟩ := foldl_max r (max i a)
    rw [List.foldl_cons]
    refine ⟨?_, by omega, fun y hy => ?_⟩
    · rcases h1 with h1 | h1
      · rcases Int.le_total i a with h | h
        · right; rw [h1, Int.max_eq_right h]; exact List.mem_cons_self
        · left; rw [h1, Int.max_eq_left h]
      · exact .inr (List.mem_cons_of_mem _ h1)
    · rcases List.mem_cons.mp hy with rfl | hy
      · omega
      · exact h3 y hy
theorem maxI_of {ns : List Int} {m : Int} (h1 : m ∈ ns) (h2 : ∀ y ∈ ns, y ≤ m) : maxI ns = some m := by
  cases ns with
  | nil => cases h1
  | cons i r =>
    obtain ⟨g1, g2, g3⟩ := foldl_max r i
    have a : m ≤ r.foldl max i := by
      rcases List.mem_cons.mp h1 with rfl | h
      · exact g2
      · exact g3 m h
    have b : r.foldl max i ≤ m := by
      rcases g1 with g | g
      · rw [g]; exact h2 i List.mem_cons_self
      · exact h2 _ (List.mem_cons_of_mem _ g)
    exact congrArg some (Int.le_antisymm b a)
def gMax : Sto → List D → Option D := fun S ds => match ds with
  | [d] => (match deref S d with
    | .lst xs => (asInts xs).bind fun ns => (maxI ns).map .int
    | _ => none)
  | [.int i, .int j] => some (.int (if j > i then j else i))
  | _ => none
section
variable {X : Cx}
theorem b_max (hc : X.calm = true) : BiG X (.builtin "max") gMax := by
  refine ⟨_, (cr_max hc).or (call_max2 hc), fun α F H S xs ds z Q hr hv hz q => ?_⟩
  unfold gMax at hz
  split at hz
  · cases hv with
    | cons h1 h2 =>
      cases h2
      split at hz
      · rename_i ys e1
        obtain ⟨ns, e2, e3⟩ := Option.bind_eq_some_iff.mp hz
        obtain ⟨m, e4, rfl⟩ := Option.map_eq_some_iff.mp e3
        obtain ⟨l, us, rfl, a1, a2⟩ := hr.viewL h1 e1
        have := asInts_eq e2
        subst this
        have := DVs.ints a2
        subst this
        refine .inl ⟨l, ns, rfl, a1, ?_, fun m' g1 g2 => ?_⟩
        · cases ns with
          | nil => cases e4
          | cons _ _ => exact Nat.succ_pos _
        · rw [maxI_of g1 g2] at e4
          cases e4
          exact fin_now hr (.int _) q
      · cases hz
  · cases hz
    cases hv with
    | cons h1 h2 => cases h2 with
      | cons h2 h3 => cases h1; cases h2; cases h3; exact .inr ⟨_, _, rfl, fin_now hr (.int _) q⟩
  · cases hz
end
end DL
set_option Elab.async false
set_option linter.all false
set_option maxRecDepth 100000
set_option maxHeartbeats 4000000
set_option autoImplicit false
/-! Data layer: dict() of pairs. -/
namespace DL
open PySem PySem.Spec PyProof.Rows L2
/-! ### by values -/
/-- tuples of two -/
def PairsV (K : Fg) (H : Hp) : List V → List (V × V) → Prop := Paired fun u pr => ∃ p, u = .ref p ∧ SqT K H p [pr.1, pr.2]
def mergeV (xs more : List (NestedKey × Addr × V)) : List (NestedKey × Addr × V) := more.foldl (fun acc x => putV acc x.1 x.2.1 x.2.2) xs
theorem NV.merge : ∀ {ys : List (NestedKey × Addr × V)} {ws : List (NestedKey × Addr × Value)}, NV ys ws → ∀ {xs : List (NestedKey × Addr × V)} {vs : List (NestedKey × Addr × Value)}, NV xs vs → NV (mergeV xs ys) (storedAllH vs ws) := by
  intro ys ws h
  unfold NV at h
  induction h with
  | nil => exact fun g => g
  | @cons a b l₁ l₂ r t ih =>
    intro xs vs g
    show NV (mergeV (putV xs a.1 a.2.1 a.2.2) l₁) (storedAllH (storedH vs b.1 b.2.1 b.2.2) l₂)
    have := g.put a.1 a.2.1 r.2.2
    rw [← r.1, ← r.2.1]
    exact ih this
theorem mergeV_length (ys : List (NestedKey × Addr × V)) : ∀ xs : List (NestedKey × Addr × V), (mergeV xs ys).length ≤ xs.length + ys.length := by
  induction ys with
  | nil => intro xs; exact Nat.le_refl _
  | cons y ys ih =>
    intro xs
    have := ih (putV xs y.1 y.2.1 y.2.2)
    have := putV_length xs y.1 y.2.1 y.2.2
    rw [List.length_cons]
    show (mergeV (putV xs y.1 y.2.1 y.2.2) ys).length ≤ _
    omega
section
variable {X : Cx} {pins : List (Addr × Obj)} {σ : L2.St} {H : Hp} {s : Shared}
theorem pairs_vals (I : Inv X pins σ H s) : ∀ {us : List V} {prs : List (V × V)} {vs : List Value}, PairsV X.K H us prs → Vals us vs →
    ∃ (Ts : List Addr) (ps : List (Value × Value)), vs = Ts.map Value.ref ∧ Ts.length = ps.length ∧ Paired (fun a b => RelV a.1 b.1 ∧ RelV a.2 b.2) prs ps ∧ ∀ (j : Nat) (k v : Value), ps[j]? = some (k, v) → ∃ t, Ts[j]? = some t ∧ IsTup s.heap t #[k, v]
  | _, _, _, .nil, r => by cases r; exact ⟨[], [], rfl, rfl, .nil, fun j k v e => by simp at e⟩
  | _, _, _, .cons (a := u) (b := pr) h t, r => by
    cases r with
    | @cons _ w _ vs r1 r2 =>
      obtain ⟨p, rfl, hp⟩ := h
      obtain rfl : w = Value.ref p := r1
      obtain ⟨Ts, ps, e1, e2, e3, e4⟩ := pairs_vals I t r2
      obtain ⟨its, rv, ht, _⟩ := I.tuple hp
      obtain ⟨k, v, ei, rk, rv'⟩ := vals2 rv
      subst ei
      refine ⟨p :: Ts, (k, v) :: ps, by rw [e1]; rfl, by rw [List.length_cons, List.length_cons, e2], .cons ⟨rk, rv'⟩ e3, fun j k' v' e => ?_⟩
      cases j with
      | zero => simp at e; obtain ⟨rfl, rfl⟩ := e; exact ⟨p, rfl, ht⟩
      | succ j => simp at e; obtain ⟨t', h1, h2⟩ := e4 j k' v' e; exact ⟨t', by simpa using h1, h2⟩
/-- what may be handed to dict() -/
def DArg (K : Fg) (H : Hp) (a : Addr) (us : List V) : Prop := SqL K H a us ∨ PlT K H a us
theorem darg_at (I : Inv X pins σ H s) {a : Addr} {us : List V} (h : DArg X.K H a us) : ∃ (T : String) (its : List Value), (T = "list" ∨ T = "tuple") ∧ Vals us its ∧ us.length ≤ sizeLine ∧ PlainSeq T s.heap a its.toArray := by
  rcases h with h | ⟨h, q⟩
  · obtain ⟨its, rv, ⟨o, n, ho, hc, hd, hdat⟩, hz⟩ := I.list h
    exact ⟨"list", its, .inl rfl, rv, hz, o, n, ho, hc, hd, hdat⟩
  · obtain ⟨its, rv, ⟨o, ho, hc, n, hdat⟩, hz⟩ := I.tuple h
    refine ⟨"tuple", its, .inr rfl, rv, hz, o, n, ho, hc, ?_, hdat⟩
    rcases q with ⟨o', e, hd⟩ | ⟨o', e, hd⟩
    · obtain ⟨e', _⟩ := I.hok a _ e
      rw [ho] at e'; cases e'; exact hd
    · rw [I.kIn _ _ e] at ho; cases ho; exact hd
theorem pairItems_of {Ts : List Addr} {ps : List (Value × Value)} (hl : Ts.length = ps.length) (h : ∀ (j : Nat) (k v : Value), ps[j]? = some (k, v) → ∃ t, Ts[j]? = some t ∧ IsTup s.heap t #[k, v]) : PairItems s.heap (Ts.map Value.ref).toArray (fun j => Ts.getD j 0) ps := by
  refine ⟨by simp [hl], fun j k v e => ?_⟩
  obtain ⟨t, h1, h2⟩ := h j k v e
  have e2 : Ts.getD j 0 = t := by rw [List.getD_eq_getElem?_getD, h1]; rfl
  dsimp only
  rw [e2]
  exact ⟨by simp [h1], .inl h2⟩
theorem dict_arg {T : String} {a : Addr} {Ts : List Addr} {ps : List (Value × Value)} (hT : T = "list" ∨ T = "tuple") :
    PairArg X.prog X.w T a (a :: (List.range ps.length).map fun j => Ts.getD j 0) [] ps.length (PairRel ps) (fun h => PlainSeq T h a (Ts.map Value.ref).toArray ∧ PairItems h (Ts.map Value.ref).toArray (fun j => Ts.getD j 0) ps) := by
  rcases hT with rfl | rfl
  · exact PairArg.list a _ _ ps
  · exact PairArg.tuple a _ _ ps
end
section
variable {X : Cx}
/-- dict(pairs), keys ints and texts -/
theorem cr_dictK (hc : X.calm = true) : CallR X (.type "dict") (fun xs H Q => ∃ (a : Addr) (us : List V) (kvs : List (Key × V)), xs = [.ref a] ∧ DArg X.K H a us ∧ PairsV X.K H us (kvs.map fun p => (kV p.1, p.2)) ∧ ∀ p, H p = none → Q (.ref p) (upd H p (.dK (mergeK [] kvs)))) := by
  intro pins s σ H xs vs Q I r q
  obtain ⟨a, us, kvs, rfl, ha, hp, q⟩ := q
  rw [Vals.ref1 r]
  obtain ⟨T, its, hT, rv, hz, pl⟩ := darg_at I ha
  obtain ⟨Ts, ps, rfl, hl, rel, hat⟩ := pairs_vals I hp rv
  obtain ⟨kvs', rel', hk'⟩ : ∃ kvs' : List (Key × Value), KV kvs kvs' ∧ ∀ (i : Nat) (key v : Value), ps[i]? = some (key, v) → ∃ k, kvs'[i]? = some (k, v) ∧ (mixKind X.prog X.w).is k key = true := by
    clear hat hl pl hp q rv
    generalize e : kvs.map (fun p => (kV p.1, p.2)) = prs at rel
    induction rel generalizing kvs with
    | nil =>
      cases kvs with
      | nil => exact ⟨[], .nil, fun i k v e => by simp at e⟩
      | cons _ _ => cases e
    | @cons pr p l₁ l₂ h t ih =>
      cases kvs with
      | nil => cases e
      | cons kv kvs =>
        cases e
        obtain ⟨kvs', h1, h2⟩ := ih kvs rfl
        refine ⟨(kv.1, p.2) :: kvs', .cons ⟨rfl, h.2⟩ h1, fun i key v e => ?_⟩
        cases i with
        | zero => simp at e; subst e; exact ⟨kv.1, rfl, kV_is h.1⟩
        | succ i => simp at e; obtain ⟨k, e1, e2⟩ := h2 i key v e; exact ⟨k, by simpa using e1, e2⟩
  have hlen : kvs'.length = ps.length := by
    have h1 := Paired.length rel'
    have h2 := Paired.length rel
    rw [List.length_map] at h2
    omega
  have hzp : ps.length ≤ sizeLine := by
    have := rv.length
    rw [List.length_map] at this
    omega
  refine PySem.call_dict_pairs (knd := mixKind X.prog X.w) (kvs := kvs') (dict_arg (X := X) (a := a) (Ts := Ts) (ps := ps) hT) (I.ok.hd hc) ⟨pl, pairItems_of hl hat⟩ ⟨hlen, hk'⟩ hzp fun h' tk hd' k => ?_
  have hm : (s.heap.objs.size == sysModules) = false := beq_eq_false_iff_ne.mpr (Nat.ne_of_gt I.big)
  have hl2 : (mergeK [] kvs).length ≤ sizeLine := by
    refine Nat.le_trans (length_mergeK kvs []) ?_
    have := Paired.length rel'
    rw [List.length_nil, Nat.zero_add]
    omega
  exact ⟨.ref s.heap.objs.size, upd H s.heap.objs.size (.dK (mergeK [] kvs)), I.laid (t' := tk) (fun b o e => k b o (by simp) e) (Nat.le_refl _) (show ObjOk X.prog X.w _ _ _ (.dK (mergeK [] kvs)) from ⟨hl2, hm, merged [] kvs', KV.merge rel' .nil, hd'⟩), rfl, q _ (I.hok.fresh (Nat.le_refl _))⟩
/-- dict(pairs), keys tuples -/
theorem cr_dictN (hc : X.calm = true) (hu : X.A.units + 12 < cLine) : CallR X (.type "dict") (fun vs H Q => ∃ (a : Addr) (us : List V) (xs : List (NestedKey × Addr × V)), vs = [.ref a] ∧ DArg X.K H a us ∧ NKeys X.K H xs ∧ PairsV X.K H us (xs.map fun x => (.ref x.2.1, x.2.2)) ∧ ∀ p, H p = none → Q (.ref p) (upd H p (dN X.w p (mergeV [] xs)))) := by
  intro pins s σ H vs0 vs Q I r q
  obtain ⟨a, us, xs, rfl, ha, hk, hp, q⟩ := q
  rw [Vals.ref1 r]
  obtain ⟨T, its, hT, rv, hz, pl⟩ := darg_at I ha
  obtain ⟨Ts, ps, rfl, hl, rel, hat⟩ := pairs_vals I hp rv
  obtain ⟨ys, rel', hk'⟩ : ∃ ys : List (NestedKey × Addr × Value), NV xs ys ∧ ∀ (i : Nat) (key v : Value), ps[i]? = some (key, v) → ∃ k b, ys[i]? = some (k, b, v) ∧ key = .ref b := by
    clear hat hl pl hp q rv hk
    generalize e : xs.map (fun x => (V.ref x.2.1, x.2.2)) = prs at rel
    induction rel generalizing xs with
    | nil =>
      cases xs with
      | nil => exact ⟨[], .nil, fun i k v e => by simp at e⟩
      | cons _ _ => cases e
    | @cons pr p l₁ l₂ h t ih =>
      cases xs with
      | nil => cases e
      | cons x xs =>
        cases e
        obtain ⟨ys, h1, h2⟩ := ih xs rfl
        refine ⟨(x.1, x.2.1, p.2) :: ys, .cons ⟨rfl, rfl, h.2⟩ h1, fun i key v e => ?_⟩
        cases i with
        | zero => simp at e; subst e; exact ⟨x.1, x.2.1, rfl, h.1⟩
        | succ i => simp at e; obtain ⟨k, b, e1, e2⟩ := h2 i key v e; exact ⟨k, b, by simpa using e1, e2⟩
  have hlen : ys.length = ps.length := by
    have h1 := rel'.length
    have h2 := Paired.length rel
    rw [List.length_map] at h2
    omega
  have hzp : ps.length ≤ sizeLine := by
    have := rv.length
    rw [List.length_map] at this
    omega
  have hst : KeysStay (nestedKind X.prog X.w) s.heap s.heap.objs.size [] ys := by
    intro h' kp x hx
    obtain ⟨i, hi⟩ := List.mem_iff_getElem?.mp hx
    obtain ⟨y, hy⟩ : ∃ y, xs[i]? = some y := ⟨_, List.getElem?_eq_getElem (by rw [rel'.length]; exact (List.getElem?_eq_some_iff.mp hi).1)⟩
    obtain ⟨z, hz, q1, q2, _⟩ := paired_get rel' hy
    rw [hi] at hz
    cases hz
    obtain ⟨k1, k2⟩ := hk y (List.mem_of_getElem? hy)
    rw [← q1, ← q2]
    exact ⟨NestedIs.at (fun b o vs n hb _ => kp b o (Nat.ne_of_lt (Heap.lt_size hb)) (by simp) hb) _ _ (NK.is I k1 rfl), k2⟩
  refine PySem.call_dict_pairsH (knd := nestedKind X.prog X.w) (ps := ys) (dict_arg (X := X) (a := a) (Ts := Ts) (ps := ps) hT) (I.ok.hd hc) (show X.A.units + 1 + 1 + 8 < cLine by omega) ⟨pl, pairItems_of hl hat⟩ ⟨hlen, hk'⟩ hst hzp fun h' tk hd' k => ?_
  have hm : (s.heap.objs.size == sysModules) = false := beq_eq_false_iff_ne.mpr (Nat.ne_of_gt I.big)
  have hl2 : (mergeV [] xs).length ≤ sizeLine := by
    have h1 := mergeV_length xs []
    have h2 := rel'.length
    rw [List.length_nil] at h1
    omega
  have rm := NV.merge rel' (xs := []) (vs := []) .nil
  obtain ⟨o, es, ep, g1, g2, g3, g4, _, g5⟩ := hd'
  have new : ObjOk X.prog X.w (upd H s.heap.objs.size (dN X.w s.heap.objs.size (mergeV [] xs))) h' s.heap.objs.size (dN X.w s.heap.objs.size (mergeV [] xs)) :=
    ⟨⟨hm, hl2, by rw [rm.keys]; exact g5, _, rm, o, es, ep, g1, g2, g3, g4⟩, ⟨o, g1⟩, fun z1 z2 ⟨p1, p2, p3, vs', p4, o', es', ep', p5, p6⟩ st => ⟨p1, p2, p3, vs', p4, o', es', ep', st _ p5, p6⟩⟩
  exact ⟨.ref s.heap.objs.size, _, I.laid (t' := tk) (fun b o e => k b o (by simp) e) (Nat.le_refl _) new, rfl, q _ (I.hok.fresh (Nat.le_refl _))⟩
end
/-! ### by data -/
def pairOf : D → Option (D × D)
  | .tup [k, v] => some (k, v)
  | _ => none
def pairsOf : List D → Option (List (D × D))
  | [] => some []
  | d :: r => match pairOf d, pairsOf r with
    | some p, some ps => some (p :: ps)
    | _, _ => none
def dictOf (kvs : List (D × D)) : Option D := if kvs.all (fun p => isKey p.1) then some (.dct (mergeD [] kvs)) else if kvs.all (fun p => isKeyN p.1) then some (.dcn (mergeN [] kvs)) else none
def gDict : Sto → List D → Option D := fun S ds => match ds with
  | [d] => (match deref S d with
    | .lst xs => (pairsOf xs).bind dictOf
    | .tup xs => (pairsOf xs).bind dictOf
    | .dct kvs => some (.dct kvs)
    | _ => none)
  | _ => none
section
variable {wd : World} {K : Fg} {mg : Str → Option Value} {α β : List Addr} {F F1 H H1 : Hp} {S : Sto}
/-- the pairs, by values -/
theorem pairs_see (s : Sub F H) : ∀ {us : List V} {ds : List D} {kvs : List (D × D)}, DVs wd K mg F α us ds → pairsOf ds = some kvs → ∃ prs : List (V × V), PairsV K H us prs ∧ DVs wd K mg F α (prs.map (·.1)) (kvs.map (·.1)) ∧ DVs wd K mg F α (prs.map (·.2)) (kvs.map (·.2))
  | _, [], kvs, h, e => by
    unfold pairsOf at e
    cases e
    cases h
    exact ⟨[], .nil, .nil, .nil⟩
  | _, d :: ds, kvs, h, e => by
    unfold pairsOf at e
    split at e
    · rename_i p ps e1 e2
      cases e
      cases h with
      | cons h1 h2 =>
        obtain ⟨prs, g1, g2, g3⟩ := pairs_see s h2 e2
        unfold pairOf at e1
        split at e1
        · cases e1
          cases h1 with
          | tup q t =>
            cases t with
            | cons t1 t2 => cases t2 with
              | cons t2 t3 =>
                cases t3
                exact ⟨(_, _) :: prs, .cons ⟨_, rfl, s.sqT q.1⟩ g1, .cons t1 g2, .cons t2 g3⟩
        · cases e1
    · cases e
theorem nkeysOf (s : Sub F H) : ∀ {kvs : List (D × D)} {prs : List (V × V)}, kvs.all (fun p => isKeyN p.1) = true → DVs wd K mg F α (prs.map (·.1)) (kvs.map (·.1)) → DVs wd K mg F α (prs.map (·.2)) (kvs.map (·.2)) →
    ∃ xs : List (NestedKey × Addr × V), prs = xs.map (fun x => (.ref x.2.1, x.2.2)) ∧ NVs wd K mg F α xs kvs
  | [], [], _, _, _ => ⟨[], rfl, .nil⟩
  | [], _ :: _, _, h, _ => by have := h.length; simp at this
  | _ :: _, [], _, h, _ => by have := h.length; simp at this
  | (q, d) :: kvs, (x, y) :: ps, hk, h, g => by
    rw [List.all_cons, Bool.and_eq_true] at hk
    have h' : DVs wd K mg F α (x :: ps.map (·.1)) (q :: kvs.map (·.1)) := h
    have g' : DVs wd K mg F α (y :: ps.map (·.2)) (d :: kvs.map (·.2)) := g
    cases h' with
    | cons h1 h2 =>
      cases g' with
      | cons g1 g2 =>
        obtain ⟨xs, e1, e2⟩ := nkeysOf s hk.2 h2 g2
        obtain ⟨ds, nk, eq, k1, k2⟩ := isKeyN_ex hk.1
        have eq : q = .tup ds := eq
        subst eq
        obtain ⟨b, rfl⟩ := DV.isRef h1
        exact ⟨(nk, b, y) :: xs, by rw [e1]; rfl, .cons k1 k2 h1 ⟨_, rfl⟩ g1 e2⟩
theorem NVs.merge {more : List (NestedKey × Addr × V)} {mk : List (D × D)} (g : NVs wd K mg F α more mk) : ∀ {xs : List (NestedKey × Addr × V)} {kvs : List (D × D)}, NVs wd K mg F α xs kvs → NVs wd K mg F α (mergeV xs more) (mergeN kvs mk) := by
  induction g with
  | nil => exact fun h => h
  | cons h1 h2 h3 h4 h5 _ ih => exact fun h => ih (h.put h1 h2 h3 h4 h5)
end
section
variable {X : Cx} {W : WX} {a b c e tg : Expr} {es rest : List Expr} {ra rb rc : RE} {rs : RA} {pos p : Pos}
/-- a thing that a class makes -/
theorem pf_callTG {x : Str} {T : String} {g : Sto → List D → Option D} {r : List V → Hp → VK → Prop} (hc : CallR X (.type T) r) (hgk : ∀ α F H S xs ds z Q, Rel X.w X.K X.mg α F H S → DVs X.w X.K X.mg F α xs ds → g S ds = some z → z.open = true ∧ ((∀ p o, H p = none → Own X.w X.K X.mg F α (upd H p o) p z → Q (.ref p) (upd H p o)) → r xs H Q))
    (hm : X.mg x = none) (ha : PDs X W (e :: es) rs) (hg : Gl X x := by rfl) (hv : bootBuiltins x = some (.type T) := by decide +kernel) (hn : x ≠ "__name__" := by decide) (hdb : (x == ("__debug__" : Str)) = false := by decide)
    (he : starEach (e :: es) X.env = (false, eval e X.env) :: starEach es X.env := by rfl) (hpl : (backTo pos (starEach es X.env)).any (·.1) = false := by rfl) : PF X W (.Call (.Name x p) (e :: es) [] pos) (rAs g rs) := by
  obtain ⟨t, pt, st⟩ := ha.ex
  refine ⟨_, pe_callTy hc hg hm hv pt hn hdb he hpl, fun α F σ H δ S Q hr hs h => ?_⟩
  refine st α F σ H δ S _ hr hs (wpF.bind h fun ds S1 _ xs H1 β F1 r1 q1 v1 h1 => ?_)
  cases eg : g S1 ds with
  | none => rw [eg] at h1; exact h1.elim
  | some z =>
    rw [eg] at h1
    obtain ⟨e1, e2⟩ := hgk _ F1 H1 S1 xs ds z Q r1 v1 eg
    exact e2 fun p o hp ho => wpF.lay h1 r1 hp ho e1
theorem dictOf_see {α : List Addr} {F H : Hp} {S : Sto} {us : List V} {ds : List D} {z : D} {Q : VK} {a : Addr} (hr : Rel X.w X.K X.mg α F H S) (hv : DVs X.w X.K X.mg F α us ds) (e : (pairsOf ds).bind dictOf = some z) (ha : DArg X.K H a us) :
    z.open = true ∧ ((∀ p o, H p = none → Own X.w X.K X.mg F α (upd H p o) p z → Q (.ref p) (upd H p o)) →
      (∃ (a' : Addr) (us : List V) (kvs : List (Key × V)), [V.ref a] = [.ref a'] ∧ DArg X.K H a' us ∧ PairsV X.K H us (kvs.map fun p => (kV p.1, p.2)) ∧ ∀ p, H p = none → Q (.ref p) (upd H p (.dK (mergeK [] kvs)))) ∨
      ∃ (a' : Addr) (us : List V) (xs : List (NestedKey × Addr × V)), [V.ref a] = [.ref a'] ∧ DArg X.K H a' us ∧ NKeys X.K H xs ∧ PairsV X.K H us (xs.map fun x => (.ref x.2.1, x.2.2)) ∧ ∀ p, H p = none → Q (.ref p) (upd H p (dN X.w p (mergeV [] xs)))) := by
  obtain ⟨kvs, e1, e2⟩ := Option.bind_eq_some_iff.mp e
  obtain ⟨prs, g1, g2, g3⟩ := pairs_see hr.sub hv e1
  unfold dictOf at e2
  split at e2
  · rename_i hk
    cases e2
    obtain ⟨ws, k1, k2⟩ := keysOf hk g2 g3
    refine ⟨rfl, fun q => .inl ⟨a, us, ws, rfl, ha, by rw [k1] at g1; exact g1, fun p hp => q p _ hp (Own.dctK.mpr ⟨_, upd_same, KVs.merge k2 .nil⟩)⟩⟩
  · split at e2
    · rename_i hk
      cases e2
      obtain ⟨xs, k1, k2⟩ := nkeysOf hr.sub hk g2 g3
      exact ⟨rfl, fun q => .inr ⟨a, us, xs, rfl, ha, k2.keys hr.sub, by rw [k1] at g1; exact g1, fun p hp => q p _ hp ⟨_, upd_same, k2.merge .nil⟩⟩⟩
    · cases e2
theorem pf_dict (hc : X.calm = true) (hu : X.A.units + 12 < cLine) (hm : X.mg "dict" = none) (ha : PDs X W (e :: es) rs) (hg : Gl X "dict" := by rfl) (he : starEach (e :: es) X.env = (false, eval e X.env) :: starEach es X.env := by rfl) (hpl : (backTo pos (starEach es X.env)).any (·.1) = false := by rfl) :
    PF X W (.Call (.Name "dict" p) (e :: es) [] pos) (rAs gDict rs) := pf_callTG (((cr_dictK hc).or (cr_dictN hc hu)).or call_dictD) (fun α F H S xs ds z Q hr hv hz => by
  unfold gDict at hz
  split at hz
  · cases hv with
    | cons h1 h2 =>
      cases h2
      split at hz
      · rename_i ys e1
        obtain ⟨l, us, rfl, a1, a2⟩ := hr.viewL h1 e1
        obtain ⟨g1, g2⟩ := dictOf_see (Q := Q) hr a2 hz (.inl a1)
        exact ⟨g1, fun q => .inl (g2 q)⟩
      · rename_i ys e1
        have s := hr.see h1
        rw [e1] at s
        cases s with
        | «at» h _ =>
          cases h with
          | tup q t =>
            obtain ⟨g1, g2⟩ := dictOf_see (Q := Q) hr t hz (.inr (hr.sub.plT q))
            exact ⟨g1, fun q => .inl (g2 q)⟩
      · rename_i kvs e1
        cases hz
        obtain ⟨l, ws, rfl, a1, a2⟩ := hr.viewD h1 e1
        exact ⟨rfl, fun q => .inr ⟨l, ws, rfl, a1, fun p hp => q p _ hp (Own.dctK.mpr ⟨_, upd_same, a2⟩)⟩⟩
      · cases hz
  · cases hz) hm ha hg (by decide +kernel) (by decide) (by decide) he hpl
end
end DL
set_option Elab.async false
set_option linter.all false
set_option maxRecDepth 100000
set_option maxHeartbeats 4000000
set_option autoImplicit false
/-! Data layer: sorted(d.items()). -/
namespace DL
open PySem PySem.Spec PyProof.Rows L2
/-- tuples that are laid, one after the other, for good -/
inductive Grow : Hp → List Addr → List (V × V) → Hp → Prop
  | nil {H : Hp} : Grow H [] [] H
  | cons {H H2 : Hp} {T : Addr} {Ts : List Addr} {p : V × V} {ps : List (V × V)} {o : Obj} : H T = none → o.dict = none → Grow (upd H T (.frz o (.tup [p.1, p.2]))) Ts ps H2 → Grow H (T :: Ts) (p :: ps) H2
theorem Grow.keeps {H H2 : Hp} {Ts : List Addr} {ps : List (V × V)} (g : Grow H Ts ps H2) : ∀ {b : Addr} {o : HO}, H b = some o → H2 b = some o := by
  induction g with
  | nil => exact fun e => e
  | cons h _ _ ih => exact fun e => ih (upd_some h e)
/-- the pairs of the dict at a -/
def ItSrc (w : World) (H : Hp) (a : Addr) (prs : List (V × V)) : Prop :=
  (∃ ws : List (Key × V), Rd H a (.dK ws) ∧ prs = ws.map fun p => (kV p.1, p.2)) ∨ ∃ xs, Rd H a (dN w a xs) ∧ prs = xs.map fun x => (.ref x.2.1, x.2.2)
section
open PySem.W
variable {X : Cx} {pins : List (Addr × Obj)} {σ : L2.St} {H : Hp} {s : Shared} {a : Addr} {prs : List (V × V)}
theorem pairs_rel {P : Program} {w : World} : ∀ {es : List DictEntry} {vs : List (Key × Value)} {ws : List (Key × V)}, PySem.Pairs (mixKind P w) es vs → KV ws vs → EachIs (fun (e : DictEntry) (p : V × V) => RelV p.1 e.key ∧ RelV p.2 e.val) es (ws.map fun p => (kV p.1, p.2))
  | _, _, _, .nil, h => by cases h; exact .nil
  | _, _, _, .cons h1 h2 t, h => by
    cases h with
    | cons g gt => exact .cons ⟨by show RelV (kV _) _; rw [g.1]; exact relV_key h1, by rw [h2]; exact g.2⟩ (pairs_rel t gt)
theorem nv_rel {w : World} : ∀ {xs : List (NestedKey × Addr × V)} {vs : List (NestedKey × Addr × Value)}, NV xs vs → EachIs (fun (e : DictEntry) (p : V × V) => RelV p.1 e.key ∧ RelV p.2 e.val) (vs.map fun x => (⟨x.1.hash w, .ref x.2.1, x.2.2⟩ : DictEntry)) (xs.map fun x => (.ref x.2.1, x.2.2))
  | _, _, .nil => .nil
  | _, _, .cons h t => .cons ⟨by show Value.ref _ = Value.ref _; rw [h.2.1], h.2.2⟩ (nv_rel t)
theorem itsrc_at (I : Inv X pins σ H s) (h : ItSrc X.w H a prs) : (a == sysModules) = false ∧ prs.length ≤ sizeLine ∧ ∃ (es : Array DictEntry) (ep : Nat), DT.Raw s.heap a es ep ∧ EachIs (fun (e : DictEntry) (p : V × V) => RelV p.1 e.key ∧ RelV p.2 e.val) es.toList prs := by
  rcases h with ⟨ws, e, rfl⟩ | ⟨xs, e, rfl⟩
  · obtain ⟨z, hs, vs, kv, o, es, ep, ho, hx, hdt, r⟩ := (show ObjOk X.prog X.w H s.heap a (.dK ws) from e.ok I.hok)
    exact ⟨hs, by rw [List.length_map]; exact z, es, ep, ⟨o, ho, hx, hdt⟩, pairs_rel r.2.1 kv⟩
  · obtain ⟨⟨h1, h2, h3, vs, h4, o, es, ep, h5, h6, h7, h8⟩, _⟩ := (show ObjOk X.prog X.w H s.heap a (dN X.w a xs) from e.ok I.hok)
    exact ⟨h1, by rw [List.length_map]; exact h2, es, ep, ⟨o, h5, h6, h7⟩, by rw [h8]; exact nv_rel h4⟩
end
/-- the pairs' data -/
inductive DpPs (K : Fg) (H : Hp) : List (V × V) → List PyData → Prop
  | nil : DpPs K H [] []
  | cons {p : V × V} {x y : PyData} {prs : List (V × V)} {ps : List PyData} : Dp K H p.1 x → Dp K H p.2 y → DpPs K H prs ps → DpPs K H (p :: prs) (.tuple [x, y] :: ps)
theorem DpPs.length {K : Fg} {H : Hp} {prs : List (V × V)} {ps : List PyData} (h : DpPs K H prs ps) : prs.length = ps.length := by
  induction h with
  | nil => rfl
  | cons _ _ _ ih => rw [List.length_cons, List.length_cons, ih]
section
open PySem.W
variable {X : Cx} {W : WX} {o : Expr} {to : TE} {p : Pos} {apos cpos pos : Pos}
theorem each_len {A B : Type} {R : A → B → Prop} {as : List A} {bs : List B} (h : EachIs R as bs) : as.length = bs.length := by
  induction h with
  | nil => rfl
  | cons _ _ ih => rw [List.length_cons, List.length_cons, ih]
end
/-! ### by data -/
/-- sorted(d.items()) -/
def itemsOf : D → Option (List D)
  | .dct kvs => some (kvs.map fun p => .tup [p.1, p.2])
  | .dcn kvs => some (kvs.map fun p => .tup [p.1, p.2])
  | _ => none
def rSortItems (a : RE) : RE := fun δ S => (a δ S).bind fun d S1 => .lift (((itemsOf (deref S1 d)).bind (sortD S1)).map .lst) S1
section
open PySem.W
variable {wd : World} {K : Fg} {mg : Str → Option Value} {α β : List Addr} {F F1 H H1 : Hp} {S : Sto}
theorem Grow.rel : ∀ {Ts : List Addr} {prs : List (V × V)} {H H2 : Hp} {F : Hp}, Grow H Ts prs H2 → Rel wd K mg α F H S →
    ∃ F2, Rel wd K mg (α ++ []) F2 H2 S ∧ Stp α F H [] F2 H2 ∧ EachIs (fun T (p : V × V) => PlT K F2 T [p.1, p.2]) Ts prs
  | _, _, _, _, F, .nil, hr => ⟨F, by rw [List.append_nil]; exact hr, Stp.refl, .nil⟩
  | T :: Ts, p :: ps, H, H2, F, .cons (o := o) hn hd g, hr => by
    obtain ⟨r1, s1⟩ := hr.newF (o := .frz o (.tup [p.1, p.2])) hn
    rw [List.append_nil] at r1
    obtain ⟨F2, r2, s2, e2⟩ := Grow.rel g r1
    have s1' : Stp (α ++ []) (upd F T (.frz o (.tup [p.1, p.2]))) (upd H T (.frz o (.tup [p.1, p.2]))) [] F2 H2 := by rw [List.append_nil]; exact s2
    exact ⟨F2, r2, s1.trans s1', .cons (s2.sub.plT (PlT.new hd)) e2⟩
end
end DL
set_option Elab.async false
set_option linter.all false
set_option maxRecDepth 100000
set_option maxHeartbeats 4000000
set_option autoImplicit false
/-! Data layer: sorted(set(texts)). -/
namespace DL
open PySem PySem.Spec PyProof.Rows L2
def txV : Value → Str
  | .str x _ => x
  | _ => ⟨#[]⟩
def isTxV : Value → Bool
  | .str _ _ => true
  | _ => false
open PySem.Froz in
/-- the set of texts at a -/
def TxR (P : Program) (w : World) (h : Heap) (a : Addr) (l : List Str) : Prop :=
  ∃ D : SD, h.get? a = some (sObj "set" D) ∧ TxOk P w D l ∧ Ris D.2.2.place.toList ∧ (w.params.followText "set-order" = true ∨ D.2.2.led = true) ∧ (D.1.toList.map fun e => txV e.2).Perm l ∧ (∀ e ∈ D.1.toList, isTxV e.2 = true) ∧ l.Nodup
section
open PySem.Froz
variable {P : Program} {w : World} {A : Around} {E : Value → Shared → Prop} {s : Shared}
theorem TxR.keep {h h' : Heap} {a : Addr} {l : List Str} (R : TxR P w h a l) (k : ∀ o, h.get? a = some o → h'.get? a = some o) : TxR P w h' a l := by
  obtain ⟨D, ho, q⟩ := R
  exact ⟨D, k _ ho, q⟩
end
end DL
set_option Elab.async false
set_option linter.all false
set_option maxRecDepth 100000
set_option maxHeartbeats 4000000
set_option autoImplicit false
/-! Data layer: sorted(set(texts)), its end. -/
namespace DL
open PySem PySem.Spec PyProof.Rows L2
end DL
set_option Elab.async false
set_option linter.all false
set_option maxRecDepth 100000
set_option maxHeartbeats 4000000
set_option autoImplicit false
/-! Data layer: slices with steps. -/
namespace DL
open PySem PySem.Spec PyProof.Rows L2
def idxS (n : Nat) (lo hi : Option Int) (k : Int) : List Nat := sliceRange (sliceBounds lo hi (some k) n).1 (sliceBounds lo hi (some k) n).2.1 (sliceBounds lo hi (some k) n).2.2
def stepS {A : Type} (xs : List A) (lo hi : Option Int) (k : Int) : List A := (idxS xs.length lo hi k).filterMap fun (i : Nat) => xs[i]?
theorem pick_step (its : List Value) (lo hi : Option Int) (k : Int) : slicePick its.toArray lo hi (some k) = (stepS its lo hi k).toArray := by
  unfold slicePick stepS idxS
  simp
def SlRs (X : Cx) (r : V → Option Int → Option Int → Int → Hp → VK → Prop) : Prop :=
  ∀ (pins : List (Addr × Obj)) (s : Shared) (σ : L2.St) (H : Hp) (x : V) (v vl vu vk : Value) (lo hi : Option Int) (k : Int) (sl : Addr) (Q : VK), Inv X pins σ H s → RelV x v → s.heap.IsSliceOf sl vl vu vk → IsPart vl lo → IsPart vu hi → IsPart vk (some k) → r x lo hi k H Q →
    ∃ T id, typeLookup (.type T) "__getitem__" = pure (some (.builtin id)) ∧ s.TypeIs v T ∧ wpAny (model X.prog X.w) X.A (getItem v (.ref sl)) (EP X pins σ Q) X.xe s
def tSlS (r : V → Option Int → Option Int → Int → Hp → VK → Prop) (te : TE) (tl th tk : TO) : TE := fun σ H Q => te σ H fun x H1 => tl σ H1 fun l H2 => th σ H2 fun u H3 => tk σ H3 fun k H4 => ∃ k', k = some k' ∧ r x l u k' H4 Q
section
variable {X : Cx} {e st : Expr} {te : TE} {lo hi : Option Expr} {tl th tk : TO} {pos p2 : Pos}
theorem pe_sliceS {r : V → Option Int → Option Int → Int → Hp → VK → Prop} (hr : SlRs X r) (he : PE X e te) (hl : PO X lo tl) (hu : PO X hi th) (hk : PO X (some st) tk) : PE X (.Subscript e (.Slice lo hi (some st) p2) pos) (tSlS r te tl th tk) := by
  refine ⟨fun pins s σ H Q I h => ?_⟩
  refine Subscript_ (thn (he.run pins s σ H _ I h) fun v s1 ⟨x, H1, I1, r1, q1⟩ => ?_)
  refine wpAny_Slice (thn (hl.run pins s1 σ H1 _ I1 q1) fun vl s2 ⟨l, H2, I2, pl, q2⟩ => thn (hu.run pins s2 σ H2 _ I2 q2) fun vu s3 ⟨u, H3, I3, pu, q3⟩ => thn (hk.run pins s3 σ H3 _ I3 q3) fun vk s4 ⟨k, H4, I4, pk, k', ek, q4⟩ => ?_)
  subst ek
  have I5 : Inv X pins σ H4 { s4 with heap := s4.heap.push { cls := .type "slice", data := .fields #[vl, vu, vk] } } := I4.kept (t' := s4.toks) fun b ob q => Heap.get?_push_of_some _ q
  obtain ⟨T, id, hT, ht, hg⟩ := hr pins { s4 with heap := s4.heap.push { cls := .type "slice", data := .fields #[vl, vu, vk] } } σ H4 x v vl vu vk l u k' s4.heap.objs.size Q I5 r1 (Heap.IsSliceOf.new ..) pl pu pk q4
  show wpAny (model X.prog X.w) X.A (subscriptTail e (.Slice lo hi (some st) p2) v (.ref s4.heap.objs.size)) (EP X pins σ Q) X.xe { s4 with heap := s4.heap.push { cls := .type "slice", data := .fields #[vl, vu, vk] } }
  exact tail_any (ops := [v, .ref s4.heap.objs.size]) ht hT hg (by with_unfolding_all rfl)
theorem SlRs.or {r r' : V → Option Int → Option Int → Int → Hp → VK → Prop} (h : SlRs X r) (h' : SlRs X r') : SlRs X (fun x lo hi k H Q => r x lo hi k H Q ∨ r' x lo hi k H Q) := by
  intro pins s σ H x v vl vu vk lo hi k sl Q I rx hs pl pu pk q
  rcases q with q | q
  · exact h pins s σ H x v vl vu vk lo hi k sl Q I rx hs pl pu pk q
  · exact h' pins s σ H x v vl vu vk lo hi k sl Q I rx hs pl pu pk q
theorem vals_step {us : List V} {vs : List Value} (h : Vals us vs) (is : List Nat) : Vals (is.filterMap fun (i : Nat) => us[i]?) (is.filterMap fun (i : Nat) => vs[i]?) := by
  induction is with
  | nil => exact .nil
  | cons i is ih =>
    rw [List.filterMap_cons, List.filterMap_cons]
    cases e : us[i]? with
    | none =>
      have : vs[i]? = none := by rw [List.getElem?_eq_none_iff] at e ⊢; rw [← h.length]; exact e
      rw [this]
      exact ih
    | some u =>
      obtain ⟨v, e2, r⟩ := h.get e
      rw [e2]
      exact .cons r ih
def rSlLs (K : PySem.W.Frag) : V → Option Int → Option Int → Int → Hp → VK → Prop := fun x lo hi k H Q => ∃ a xs, x = .ref a ∧ SqL K H a xs ∧ k ≠ 0 ∧ (stepS xs lo hi k).length ≤ sizeLine ∧ ∀ p, H p = none → Q (.ref p) (upd H p (.lst (stepS xs lo hi k)))
theorem sl_listS : SlRs X (rSlLs X.K) := by
  intro pins s σ H x v vl vu vk lo hi k sl Q I rx hs pl pu pk h
  obtain ⟨a, xs, rfl, hx, h0, hz2, q⟩ := h
  cases rx
  obtain ⟨its, r, ht, hz⟩ := I.list hx
  have hlen := r.length
  refine ⟨"list", _, slot_list_getitem.lookup, ht.isList.typeIs, ?_⟩
  refine wpAny_getItem_list_slice ht.isList hs pl pu pk (fun z => h0 (Option.some.inj z)) ?_ (by rw [List.size_toArray] <;> omega)
  rw [pick_step]
  refine ⟨.ref s.heap.objs.size, _, I.laid (t' := s.toks) (o := .lst (stepS xs lo hi k)) (fun b ob q => Heap.get?_push_of_some _ q) (Nat.le_refl _) ?_, rfl, q _ (I.hok.fresh (Nat.le_refl _))⟩
  refine ⟨hz2, stepS its lo hi k, 0, ?_, Heap.get?_push_size _ rfl⟩
  unfold stepS
  rw [hlen]
  exact vals_step r _
end
section
variable {prog : Program} {w : World} {A : Around} {E : Value → Shared → Prop} {s : Shared}
theorem places_rev (n : Nat) : Builtin.Slice.slicePlaces ((n : Int) - 1) (-1) (-1) = n := by
  unfold Builtin.Slice.slicePlaces
  have h1 : ¬ ((-1 : Int) > 0) := by decide
  simp only [h1, if_false]
  by_cases h : (n : Int) - 1 > -1
  · rw [if_pos h]
    have e : ((n : Int) - 1 - -1 - 1) / (- -1) + 1 = n := by
      rw [show (- -1 : Int) = 1 by decide, Int.ediv_one]
      omega
    rw [e, Int.toNat_natCast]
  · rw [if_neg h]
    have e : n = 0 := by omega
    subst e
    rfl
theorem rev_places (items : Array Value) : (List.range items.size).filterMap (fun (m : Nat) => items[((items.size : Int) - 1 + (m : Int) * -1).toNat]?) = items.toList.reverse := by
  have h1 : (List.range items.size).filterMap (fun (m : Nat) => items[((items.size : Int) - 1 + (m : Int) * -1).toNat]?) = ((List.range items.size).map fun k => items.size - 1 - k).filterMap (items[·]?) := by
    rw [List.filterMap_map]
    generalize hn : List.range items.size = l
    have hl : ∀ m ∈ l, m < items.size := fun m hm => List.mem_range.mp (hn ▸ hm)
    clear hn
    induction l with
    | nil => rfl
    | cons m l ih =>
      have hm := hl m List.mem_cons_self
      have e : ((items.size : Int) - 1 + (m : Int) * -1).toNat = items.size - 1 - m := by omega
      rw [List.filterMap_cons, List.filterMap_cons, ih fun z hz => hl z (List.mem_cons_of_mem _ hz), e]
      rfl
  rw [h1, PySem.W.krv_range, List.filterMap_reverse, PySem.W.krv_all]
open HT in
theorem getItem_tuple_rev {t sl : Addr} {items : Array Value} {vk : Value} {Q : Value → Shared → Prop} (ht : IsTup s.heap t items) (hs : s.heap.IsSliceOf sl .none .none vk) (pk : IsPart vk (some (-1)))
    (h : Q (.ref s.heap.objs.size) { s with heap := s.heap.push { cls := .type "tuple", data := .seq items.toList.reverse.toArray } })
    (hsz : items.size ≤ sizeLine) : wpAny (model prog w) A (getItem (.ref t) (.ref sl)) Q E s := by
  have htake : sizeOk (.seq items.toList.reverse.toArray) := by
    show items.toList.reverse.toArray.size ≤ sizeLine
    rw [List.size_toArray, List.length_reverse, Array.length_toList]
    exact hsz
  obtain ⟨os, hos, hcs, hds⟩ := id hs
  have hTs : s.TypeIs (.ref sl) "slice" := ⟨os, hos, hcs⟩
  unfold getItem
  try with_reducible refine wpAny_holding ?_
  first | refine wpAny_bind (wpAny_pure ?_) | skip
  refine wpAny_bind (wpAny_sequenceKey ht.typeIs (by decide) ?_)
  refine wpAny_bind (wpAny_callSpecial?_slot (name := Str.ofString "__getitem__") ht.typeIs PyProof.Rows.slot_tuple_getitem
    (wpAny_call_entry PyProof.Rows.slot_tuple_getitem ht.typeIs entry_tuple_getitem ?_ (args_tuple_getitem _ _)))
  show wpAny _ _ (Builtin.Tuple.tupleItemsOf (.ref t) >>= _) _ _ s
  refine wpAny_bind (tupleItemsOf_ ht ?_)
  refine wpAny_bind (wpAny_typeOf hTs ?_)
  rw [if_pos (by decide)]
  have ap : ∀ {R : Int × Int × Nat → Shared → Prop}, R ((items.size : Int) - 1, -1, items.size) s → wpAny (model prog w) A.in1 (Builtin.Slice.sliceApplied (.ref sl) (pure (items.size : Int))) R E s := by
    intro R hR
    unfold Builtin.Slice.sliceApplied Builtin.Slice.sliceFields
    refine wpAny_bind (wpAny_bind (wpAny_field hos hds (x := .none) rfl (wpAny_bind (wpAny_field hos hds (x := .none) rfl (wpAny_bind (wpAny_field hos hds (x := vk) rfl (wpAny_pure ?_)))))))
    refine wpAny_bind (slicePart_ pk ?_)
    show wpAny _ _ (if ((-1 : Int) == 0) = true then _ else _) _ _ s
    rw [if_neg (by decide)]
    refine wpAny_bind (slicePart_none (wpAny_bind (slicePart_none (wpAny_bind (wpAny_pure ?_)))))
    show wpAny _ _ (pure ((items.size : Int) - 1, (-1 : Int), Builtin.Slice.slicePlaces ((items.size : Int) - 1) (-1) (-1))) _ _ s
    rw [places_rev]
    exact wpAny_pure hR
  refine wpAny_bind (ap ?_)
  have hno : ¬ ((((items.size : Int) - 1) == 0 && (-1 : Int) == 1 && items.size == items.size) = true) := by
    intro q
    rw [Bool.and_eq_true, Bool.and_eq_true] at q
    exact absurd q.1.2 (by decide)
  show wpAny _ _ (if (((items.size : Int) - 1) == 0 && (-1 : Int) == 1 && items.size == items.size) = true then _ else _) _ _ s
  rw [if_neg hno, rev_places]
  first
    | exact wpAny_bind (m := Builtin.Tuple.tupleExact _) (wpAny_newObj_type (wpAny_pure ⟨_, rfl, wpAny_pure h⟩) htake)
    | exact wpAny_bind (m := Builtin.Tuple.tupleExact _) (wpAny_newObj_type (wpAny_bind (wpAny_pure (wpAny_pure ⟨_, rfl, wpAny_pure h⟩))) htake)
    | exact wpAny_bind (wpAny_bind (m := Builtin.Tuple.tupleExact _) (wpAny_newObj_type (wpAny_pure (wpAny_pure ⟨_, rfl, wpAny_pure h⟩)) htake))
    | exact wpAny_bind (wpAny_bind (m := Builtin.Tuple.tupleExact _) (wpAny_newObj_type (wpAny_pure ⟨_, rfl, wpAny_pure h⟩) htake))
end
section
variable {X : Cx}
def rSlTs (K : PySem.W.Frag) : V → Option Int → Option Int → Int → Hp → VK → Prop := fun x lo hi k H Q => ∃ a xs, x = .ref a ∧ SqT K H a xs ∧ lo = none ∧ hi = none ∧ k = -1 ∧ TLays H xs.reverse Q
theorem sl_tupS : SlRs X (rSlTs X.K) := by
  intro pins s σ H x v vl vu vk lo hi k sl Q I rx hs pl pu pk h
  obtain ⟨a, xs, rfl, hx, rfl, rfl, rfl, q⟩ := h
  cases rx
  obtain ⟨its, r, ht, hz⟩ := I.tuple hx
  cases pl
  cases pu
  refine ⟨"tuple", _, PyProof.Rows.slot_tuple_getitem.lookup, ht.typeIs, ?_⟩
  refine getItem_tuple_rev ht hs pk ?_ (by rw [List.size_toArray, ← r.length]; exact hz)
  have rr : Vals xs.reverse its.reverse := r.reverse
  exact ⟨.ref s.heap.objs.size, _, I.laid (t' := s.toks) (o := .frz (tupObj its.reverse.toArray) (.tup xs.reverse)) (fun b ob q => Heap.get?_push_of_some _ q) (Nat.le_refl _) (tup_frz (by rw [List.length_reverse]; exact hz) rr), rfl, q _ (I.hok.fresh (Nat.le_refl _)) _ rfl⟩
end
/-! ### by data -/
def rStep (a : RE) (l h k : RO) : RE := fun δ S => (a δ S).bind fun d S1 => (l δ S1).bind fun i S2 => (h δ S2).bind fun j S3 => (k δ S3).bind fun z S4 => match z with
  | some n => (match deref S4 d with
    | .lst xs => if n ≠ 0 ∧ (stepS xs i j n).length ≤ sizeLine then .ok (.lst (stepS xs i j n)) S4 else .stuck
    | .tup xs => if i = none ∧ j = none ∧ n = -1 then .ok (.tup xs.reverse) S4 else .stuck
    | _ => .stuck)
  | none => .stuck
section
variable {X : Cx} {W : WX} {a st : Expr} {ra : RE} {pos p2 : Pos} {lo hi : Option Expr} {ol oh ok : RO} {wd : World} {K : Fg} {mg : Str → Option Value} {α : List Addr} {F : Hp}
theorem step_DVs {us : List V} {xs : List D} (h : DVs wd K mg F α us xs) (is : List Nat) : DVs wd K mg F α (is.filterMap fun (i : Nat) => us[i]?) (is.filterMap fun (i : Nat) => xs[i]?) := by
  induction is with
  | nil => exact .nil
  | cons i is ih =>
    rw [List.filterMap_cons, List.filterMap_cons]
    cases e : xs[i]? with
    | none =>
      have : us[i]? = none := by rw [List.getElem?_eq_none_iff] at e ⊢; rw [h.length]; exact e
      rw [this]
      exact ih
    | some u =>
      obtain ⟨v, e2, r⟩ := h.get e
      rw [e2]
      exact .cons r ih
theorem pd_step (ha : PD X W a ra) (hl : POd X W lo ol) (hh : POd X W hi oh) (hk : POd X W (some st) ok) : PD X W (.Subscript a (.Slice lo hi (some st) p2) pos) (rStep ra ol oh ok) := by
  obtain ⟨ta, pa, sa⟩ := ha.ex
  obtain ⟨tl, pl, sl⟩ := hl.ex
  obtain ⟨th, ph, sh⟩ := hh.ex
  obtain ⟨tk, pk, sk⟩ := hk.ex
  refine ⟨_, pe_sliceS (sl_listS.or sl_tupS) pa pl ph pk, fun α F σ H δ S Q hr hs h => ?_⟩
  refine sa α F σ H δ S _ hr hs (wp.bind h fun d S1 _ x H1 β F1 r1 q1 v1 h1 => ?_)
  refine sl (α ++ β) F1 σ H1 δ S1 _ r1 (hs.mono q1.sub) (wp.bind h1 fun i S2 _ i' H2 γ F2 r2 q2 v2 h2 => ?_)
  have v2 : i' = i := v2
  subst v2
  refine sh (α ++ β ++ γ) F2 σ H2 δ S2 _ r2 ((hs.mono q1.sub).mono q2.sub) (wp.bind h2 fun j S3 _ j' H3 ε F3 r3 q3 v3 h3 => ?_)
  have v3 : j' = j := v3
  subst v3
  refine sk (α ++ β ++ γ ++ ε) F3 σ H3 δ S3 _ r3 (((hs.mono q1.sub).mono q2.sub).mono q3.sub) (wp.bind h3 fun k S4 _ k' H4 ζ F4 r4 q4 v4 h4 => ?_)
  have v4 : k' = k := v4
  subst v4
  have vx := ((v1.mono (β := γ) q2.sub).mono (β := ε) q3.sub).mono (β := ζ) q4.sub
  cases k' with
  | none => exact h4.elim
  | some n =>
  dsimp only at h4
  split at h4
  · rename_i xs e1
    split at h4
    · rename_i hc
      obtain ⟨l, us, rfl, a1, a2⟩ := r4.viewL vx e1
      have el : (stepS us i' j' n).length = (stepS xs i' j' n).length := by
        unfold stepS
        rw [a2.length]
        exact (step_DVs a2 _).length
      refine ⟨n, rfl, .inl ⟨l, us, rfl, a1, hc.1, by rw [el]; exact hc.2, fun p hp => ?_⟩⟩
      have dv : DVs X.w X.K X.mg F4 (α ++ β ++ γ ++ ε ++ ζ) (stepS us i' j' n) (stepS xs i' j' n) := by
        unfold stepS
        rw [a2.length]
        exact step_DVs a2 _
      obtain ⟨c1, c2, c3⟩ := r4.lst dv hp
      exact h4 _ _ _ _ c1 c2 c3
    · exact h4.elim
  · rename_i xs e1
    split at h4
    · rename_i hc
      obtain ⟨g1, g2, g3⟩ := hc
      obtain ⟨l, us, rfl, a1, a2⟩ := r4.viewT vx e1
      refine ⟨n, rfl, .inr ⟨l, us, rfl, a1, g1, g2, g3, fun p hp o ho => ?_⟩⟩
      obtain ⟨c1, c2, c3⟩ := r4.tup a2.reverse hp ho
      exact h4 _ _ _ _ c1 c2 c3
    · exact h4.elim
  · exact h4.elim
end
end DL
set_option Elab.async false
set_option linter.all false
set_option maxRecDepth 100000
set_option maxHeartbeats 4000000
set_option autoImplicit false
/-! Data layer: sorted(set(texts)), zip of tuples, calls of defs that a name holds. -/
namespace DL
open PySem PySem.Spec PyProof.Rows L2
/-! ### sorted(set(texts)) -/
end DL
set_option Elab.async false
set_option linter.all false
set_option maxRecDepth 100000
set_option maxHeartbeats 4000000
set_option autoImplicit false
/-! Data layer: defs as values, small things. -/
namespace DL
open PySem PySem.Spec PyProof.Rows L2
section
variable {X : Cx} {W : WX} {pos p : Pos} {k n : Nat}
theorem Env1.u10 (h : Env1 X k) : X.A.units + 10 < cLine := by have := h.room.un; omega
theorem Env1.u12 (h : Env1 X k) : X.A.units + 12 < cLine := by have := h.room.un; omega
end
/-! ### a def that leaves what it made in the store -/
def mDefK (n : Nat) (b : RS) : Mir := fun ds S => match b (ds.map some ++ List.replicate (n - ds.length) none) S with
  | .rt d S1 => .ok d S1
  | .nx _ S1 => .ok .non S1
  | .err c fs _ S1 => .err c fs S1
  | _ => .stuck
theorem fn_okK {P : Program} {w : World} {K : Fg} {mg : Str → Option Value} {base : Heap} {x qual : Str} {st : Stmt} {f : Addr} {fd : FuncData} {N ps : List Str} {k : Nat} {r : RS} (Fu : Fun K x qual st f fd) (Sc : FnScope N ps (defScope st))
    (hbody : ∀ (cdv : Value) (A : Around) (outer : List Env) (s : Shared) (H : Hp) (E : XK), Room k (A.deeper (envOfC qual (defScope st) s.heap.objs.size f cdv)) → A.guards = some [] → PSds (cxOf (L2.CX P w) P w K mg base N qual (defScope st) f cdv A outer s H E) (fun cls d _ H => E cls d H) (defBody st) r) :
    FnG P w K mg base (k + 1) f fd ps (spD w K mg ps.length (mDefK N.length r)) := by
  refine fn_G Fu Sc (fun vs H Q E h => h.1) fun cdv A outer s H vs Q E hr hG h => ?_
  obtain ⟨hl, α, F, S, ds, h1, h2, h3⟩ := h
  obtain ⟨t, pt, st⟩ := (hbody cdv A outer s H E hr hG).ex
  refine ⟨t, pt, st α F _ H _ S _ h1 (slots_start h2) ?_⟩
  have h3 : wp w K mg α F H (relD w K mg) (mDefK N.length r ds S) Q E := h3
  unfold mDefK at h3
  cases q : r (ds.map some ++ List.replicate (N.length - ds.length) none) S with
  | nx δ S1 =>
    rw [q] at h3
    intro σ' H' β F' r1 s1 _
    exact h3 .non H' β F' r1 s1 .non
  | rt d S1 =>
    rw [q] at h3
    exact h3
  | err c fs δ S1 =>
    rw [q] at h3
    intro cls dd σ' H' β F' r1 s1 _ he
    exact h3 cls dd H' β F' r1 s1 he
  | bk δ S1 => rw [q] at h3; exact h3.elim
  | ct δ S1 => rw [q] at h3; exact h3.elim
  | stuck => rw [q] at h3; exact h3.elim
theorem fn_mkK {P : Program} {w : World} {K : Fg} {mg : Str → Option Value} {base : Heap} {x : Str} {st : Stmt} {N ps : List Str} {k : Nat} {r : RS} (Fu : Fd K mg x st ps) (Sc : FnScope N ps (defScope st))
    (hbody : ∀ (f : Addr) (cdv : Value) (A : Around) (outer : List Env) (s : Shared) (H : Hp) (E : XK), Env1 (cxOf (L2.CX P w) P w K mg base N x (defScope st) f cdv A outer s H E) k → Takes (cxOf (L2.CX P w) P w K mg base N x (defScope st) f cdv A outer s H E) (fun cls d _ H => E cls d H) →
      PSds (cxOf (L2.CX P w) P w K mg base N x (defScope st) f cdv A outer s H E) (fun cls d _ H => E cls d H) (defBody st) r) : Fn P w K mg base x ps.length (k + 1) (mDefK N.length r) := by
  obtain ⟨f, fd, h1, h2, h3⟩ := Fu.ex
  exact ⟨f, fd, ps, h2, h1.kp, h3, fn_okK h1 Sc fun cdv A outer s H E hr hG => hbody f cdv A outer s H E ⟨hr, hG, passes_of rfl⟩ (takes_of rfl rfl rfl rfl)⟩
section
variable {X : Cx} {pos : Pos} {k : Nat} {es : List Expr}
theorem plc_noT {vs : List Nat} {scope : Scope} {elt : Expr} {t : TGs} {u : List D → Sl → Sto → Res Sl} {re : RE} (hc : X.calm = true) (hg : ∀ (s : Shared) (H : Hp) (C : Addr) (cl : List (Str × Addr)) (fp : List Addr), PGxs (X.blk s H scope (compEnvC scope cl C X.env) fp) vs es t u)
    (he : ∀ (s : Shared) (H : Hp) (C : Addr) (cl : List (Str × Addr)) (fp : List Addr), PD (X.blk s H scope (compEnvC scope cl C X.env) fp) W0 elt re)
    (hn : ∀ (s : Shared) (H : Hp) (C : Addr) (cl : List (Str × Addr)) (fp : List Addr), (assignEach es (X.blk s H scope (compEnvC scope cl C X.env) fp).env).length = es.length := by intros; rfl)
    (hst : ∀ (s : Shared) (H : Hp) (C : Addr) (cl : List (Str × Addr)) (fp : List Addr), (assignEach es (X.blk s H scope (compEnvC scope cl C X.env) fp).env).findIdx? (·.1) = none := by intros; rfl) :
    PLc X vs scope (.Tuple es k pos) elt [] (L2.gTup X.K es.length t) tYes (gTup u) bYes re :=
  plc_no (fun s H C cl fp => pgx_tup (X := X.blk s H scope (compEnvC scope cl C X.env) fp) hc (hg s H C cl fp) (hn s H C cl fp) (hst s H C cl fp)) he
theorem plc_ifT {vs : List Nat} {scope : Scope} {elt c : Expr} {t : TGs} {u : List D → Sl → Sto → Res Sl} {bc : RB} {re : RE} (hca : X.calm = true) (hg : ∀ (s : Shared) (H : Hp) (C : Addr) (cl : List (Str × Addr)) (fp : List Addr), PGxs (X.blk s H scope (compEnvC scope cl C X.env) fp) vs es t u)
    (hc : ∀ (s : Shared) (H : Hp) (C : Addr) (cl : List (Str × Addr)) (fp : List Addr), PB (X.blk s H scope (compEnvC scope cl C X.env) fp) W0 c bc) (he : ∀ (s : Shared) (H : Hp) (C : Addr) (cl : List (Str × Addr)) (fp : List Addr), PD (X.blk s H scope (compEnvC scope cl C X.env) fp) W0 elt re)
    (hn : ∀ (s : Shared) (H : Hp) (C : Addr) (cl : List (Str × Addr)) (fp : List Addr), (assignEach es (X.blk s H scope (compEnvC scope cl C X.env) fp).env).length = es.length := by intros; rfl)
    (hst : ∀ (s : Shared) (H : Hp) (C : Addr) (cl : List (Str × Addr)) (fp : List Addr), (assignEach es (X.blk s H scope (compEnvC scope cl C X.env) fp).env).findIdx? (·.1) = none := by intros; rfl) :
    PLc X vs scope (.Tuple es k pos) elt [c] (L2.gTup X.K es.length t) (tCanB X.w X.K X.mg W0 bc) (gTup u) bc re :=
  plc_if (fun s H C cl fp => pgx_tup (X := X.blk s H scope (compEnvC scope cl C X.env) fp) hca (hg s H C cl fp) (hn s H C cl fp) (hst s H C cl fp)) hc he
end
/-! ### tests by cases, calls of nothing -/
def bIf (c a b : RB) : RB := fun δ S => (c δ S).bind fun k S1 => if k then a δ S1 else b δ S1
end DL
set_option Elab.async false
set_option linter.all false
set_option maxRecDepth 100000
set_option maxHeartbeats 4000000
set_option autoImplicit false
/-! Data layer: repr of data with numbers of up to 4300 figures. -/
namespace DL
open PySem PySem.Spec PyProof.Rows L2
def NoDig (K : Fg) : Prop := PySem.W.nsIn K cStatics "sys.int_max_str_digits" = some none
end DL
set_option Elab.async false
set_option linter.all false
set_option maxRecDepth 100000
set_option maxHeartbeats 4000000
set_option autoImplicit false
/-! The head's hook, with what the interpreter's own table lacks. -/
namespace DL
open PySem PySem.Spec PyProof.Rows L2
def digB (K : Fg) : Bool := decide (PySem.W.nsIn K cStatics "sys.int_max_str_digits" = some none)
end DL
set_option Elab.async false
set_option linter.all false
set_option maxRecDepth 100000
set_option maxHeartbeats 4000000
set_option autoImplicit false
/-! Plain part: the wider operations. -/
namespace DL
open PySem L2
section
variable {S : Sto} {i j : Int} {x y : Str} {Q : D → Sto → Prop} {QL : List D → Sto → Prop} {QB : Bool → Sto → Prop} {δ : Sl} {N B C : Sl → Sto → Prop} {T : D → Sto → Prop}
theorem o_ltU (h : Q (.bl (decide (i < j))) S) : (Res.lift (gLtU S (.int i) (.int j)) S).post Q := h
theorem o_leU (h : Q (.bl (decide (i ≤ j))) S) : (Res.lift (gLeU S (.int i) (.int j)) S).post Q := h
theorem o_gtU (h : Q (.bl (decide (j < i))) S) : (Res.lift (gGtU S (.int i) (.int j)) S).post Q := h
theorem o_geU (h : Q (.bl (decide (j ≤ i))) S) : (Res.lift (gGeU S (.int i) (.int j)) S).post Q := h
theorem p_bif {c a b : RB} (h : (c δ S).post fun k S1 => (k = true → (a δ S1).post QB) ∧ (k = false → (b δ S1).post QB)) : (bIf c a b δ S).post QB := p_bind (h.mono fun k _ q => by
  cases k with
  | true => exact q.1 rfl
  | false => exact q.2 rfl)
theorem o_lenT {xs : List D} (q : Q (.int xs.length) S) : (Res.lift (gLen S [.tup xs]) S).post Q := q
theorem o_lenL {xs : List D} (q : Q (.int xs.length) S) : (Res.lift (gLen S [.lst xs]) S).post Q := q
theorem s_gtux {u : List D → Sl → Sto → Res Sl} {ds : List D} {QS : Sl → Sto → Prop} (h : (u ds δ S).post QS) : (gTup u (.tux ds) δ S).post QS := h
theorem atI_0 {a : D} {r : List D} : atI (a :: r) 0 = some a := by unfold atI ixN; simp
theorem atI_1 {a b : D} {r : List D} : atI (a :: b :: r) 1 = some b := by
  unfold atI ixN
  simp
  rw [if_pos (by omega)]
  rfl
theorem atI_2 {a b c : D} {r : List D} : atI (a :: b :: c :: r) 2 = some c := by
  unfold atI ixN
  simp
  rw [if_pos (by omega)]
  rfl
theorem asInts_map : ∀ ns : List Int, asInts (ns.map .int) = some ns
  | [] => rfl
  | b :: r => by unfold List.map asInts; rw [asInts_map r]; rfl
theorem o_sumI {ns : List Int} (h : Q (.int ns.sum) S) : (Res.lift (gSum S [.lst (ns.map .int)]) S).post Q := p_lift (by unfold gSum deref; dsimp only; rw [asInts_map]; rfl) h
end
end DL
set_option Elab.async false
set_option linter.all false
set_option maxRecDepth 100000
set_option maxHeartbeats 4000000
set_option autoImplicit false
/-! Plain part: how long a repr is, and of which signs. -/
namespace DL
open PySem L2
def OkS (x : Str) : Prop := ∀ c ∈ x.cps.toList, c < 0x110000
theorem okS_ok {x : Str} (h : OkS x) : PyData.strOk x = true := by
  unfold PyData.strOk
  rw [Array.all_eq_true']
  intro c hc
  exact decide_eq_true (h c (by simpa using hc))
/-! ### data of bounded size -/
mutual
def fitP : PyData → Bool
  | .none => true
  | .bool _ => true
  | .int i => decide (i.natAbs < 10 ^ 1005)
  | .str x => PyData.strOk x
  | .list xs => fitPs xs
  | .tuple xs => fitPs xs
  | .dict _ => false
def fitPs : List PyData → Bool
  | [] => true
  | x :: r => fitP x && fitPs r
end
mutual
def wtP : PyData → Nat
  | .none => 4
  | .bool _ => 5
  | .int _ => 1006
  | .str x => 10 * x.length + 2
  | .list xs => 3 + wtPs xs
  | .tuple xs => 3 + wtPs xs
  | .dict _ => 0
def wtPs : List PyData → Nat
  | [] => 0
  | x :: r => wtP x + 2 + wtPs r
end
end DL
set_option Elab.async false
set_option linter.all false
set_option maxRecDepth 100000
set_option maxHeartbeats 4000000
set_option autoImplicit false
/-! Module's names that hold tuples. -/
namespace DL
open PySem PySem.Spec PyProof.Rows L2
mutual
def litB (K : Fg) : Nat → Value → D → Bool
  | _, .none, .non => true
  | _, .bool b, .bl c => decide (b = c)
  | _, .int i _, .int j => decide (i = j)
  | _, .str x _, .str y => decide (x = y)
  | n + 1, .ref a, .tup ds => (match K.lookup a with
    | some ⟨.type c, none, .seq us _, _⟩ => decide (c = "tuple") && (decide (us.size ≤ sizeLine) && litAll K n us.toList ds)
    | _ => false)
  | _, _, _ => false
def litAll (K : Fg) : Nat → List Value → List D → Bool
  | _, [], [] => true
  | n, u :: us, d :: ds => litB K n u d && litAll K n us ds
  | _, _, _ => false
end
section
variable {K : Fg} {w : World} {mg : Str → Option Value}
theorem litAll_of {n : Nat} (H : ∀ u d, litB K n u d = true → ∃ x, RelV x u ∧ ∀ F α, DV w K mg F α x d) : ∀ (us : List Value) (ds : List D), litAll K n us ds = true → ∃ xs, Vals xs us ∧ ∀ F α, DVs w K mg F α xs ds
  | [], [], _ => ⟨[], .nil, fun _ _ => .nil⟩
  | [], d :: ds, h => by unfold litAll at h; cases h
  | u :: us, [], h => by unfold litAll at h; cases h
  | u :: us, d :: ds, h => by
    unfold litAll at h
    rw [Bool.and_eq_true] at h
    obtain ⟨x, r1, h1⟩ := H u d h.1
    obtain ⟨xs, r2, h2⟩ := litAll_of H us ds h.2
    exact ⟨x :: xs, .cons r1 r2, fun F α => .cons (h1 F α) (h2 F α)⟩
theorem litB_ok : ∀ (n : Nat) (u : Value) (d : D), litB K n u d = true → ∃ x, RelV x u ∧ ∀ F α, DV w K mg F α x d := by
  intro n
  induction n with
  | zero =>
    intro u d h
    cases u <;> cases d <;> first
      | (unfold litB at h; exact absurd h Bool.false_ne_true)
      | exact ⟨.non, rfl, fun _ _ => .non⟩
      | (rename_i b c; unfold litB at h; have e : b = c := of_decide_eq_true h; subst e; exact ⟨.bl b, rfl, fun _ _ => .bl b⟩)
      | (rename_i i t j; unfold litB at h; have e : i = j := of_decide_eq_true h; subst e; exact ⟨.int i, ⟨t, rfl⟩, fun _ _ => .int i⟩)
      | (rename_i x t y; unfold litB at h; have e : x = y := of_decide_eq_true h; subst e; exact ⟨.str x, ⟨t, rfl⟩, fun _ _ => .str x⟩)
  | succ n ih =>
    intro u d h
    cases u <;> cases d <;> first
      | (unfold litB at h; exact absurd h Bool.false_ne_true)
      | exact ⟨.non, rfl, fun _ _ => .non⟩
      | (rename_i b c; unfold litB at h; have e : b = c := of_decide_eq_true h; subst e; exact ⟨.bl b, rfl, fun _ _ => .bl b⟩)
      | (rename_i i t j; unfold litB at h; have e : i = j := of_decide_eq_true h; subst e; exact ⟨.int i, ⟨t, rfl⟩, fun _ _ => .int i⟩)
      | (rename_i x t y; unfold litB at h; have e : x = y := of_decide_eq_true h; subst e; exact ⟨.str x, ⟨t, rfl⟩, fun _ _ => .str x⟩)
      | skip
    rename_i a ds
    unfold litB at h
    cases q : K.lookup a with
    | none => rw [q] at h; cases h
    | some o =>
      obtain ⟨oc, od, dt, osl⟩ := o
      rw [q] at h
      cases oc with
      | type c =>
        cases od with
        | none =>
          cases dt with
          | seq us m =>
            have h : (decide (c = "tuple") && (decide (us.size ≤ sizeLine) && litAll K n us.toList ds)) = true := h
            rw [Bool.and_eq_true, Bool.and_eq_true] at h
            obtain ⟨xs, r, hd⟩ := litAll_of ih us.toList ds h.2.2
            exact ⟨.ref a, rfl, fun F α => .tup ⟨.inr ⟨_, us, m, q, congrArg Value.type (of_decide_eq_true h.1), rfl, of_decide_eq_true h.2.1, r⟩, .inr ⟨_, q, rfl⟩⟩ (hd F α)⟩
          | _ => cases h
        | some _ => cases dt <;> cases h
      | _ => cases od <;> cases dt <;> cases h
/-- the module's name x holds this -/
structure Lit (w : World) (K : Fg) (mg : Str → Option Value) (x : Str) (d : D) : Prop where
  ex : ∃ u v, mg x = some u ∧ RelV v u ∧ ∀ F α, DV w K mg F α v d
def litF (K : Fg) (p : Str × D) : Bool := match PySem.W.nsIn K mainGlobals p.1 with
  | some (some u) => litB K 9 u p.2
  | _ => false
theorem litF_ok {h : Heap} {x : Str} {d : D} (X : K.In h) (G : h.Ns mainGlobals mg) (c : litF K (x, d) = true) : Lit w K mg x d := by
  have c2 : (match PySem.W.nsIn K mainGlobals x with
    | some (some u) => litB K 9 u d
    | _ => false) = true := c
  cases e : PySem.W.nsIn K mainGlobals x with
  | none => rw [e] at c2; cases c2
  | some o =>
    cases o with
    | none => rw [e] at c2; cases c2
    | some u =>
      rw [e] at c2
      obtain ⟨v, r, hv⟩ := litB_ok (w := w) (mg := mg) _ _ _ (show litB K 9 u d = true from c2)
      exact ⟨u, v, PySem.W.mg_of X G e, r, hv⟩
end
theorem pd_lit {X : Cx} {W : WX} {x : Str} {d : D} {pos : Pos} (hm : Lit X.w X.K X.mg x d) (hg : Gl X x := by rfl) (hd : (x == ("__debug__" : Str)) = false := by decide) : PD X W (.Name x pos) (rC d) := by
  obtain ⟨u, v, h1, h2, h3⟩ := hm.ex
  exact pd_c (v := v) (pe_glob hg h1 h2 hd) h3
/-! the head's hook with these -/
def obsL (fa : List He.Fa) (fn : List He.DefD) (li : List (Str × D)) (K : Fg) : He.AlD := (digB K && (li.all (litF K) && (He.obsD fa fn K).1), (He.obsD fa fn K).2)
def SaysL (fa : List He.Fa) (fn : List He.DefD) (li : List (Str × D)) (K : Fg) : Prop := obsL fa fn li K = He.valD fn
theorem SaysL.all {fa : List He.Fa} {fn : List He.DefD} {li : List (Str × D)} {K : Fg} (h : SaysL fa fn li K) : He.SaysD fa fn K ∧ NoDig K ∧ ∀ (i : Nat) (p : Str × D), li[i]? = some p → litF K p = true := by
  have h0 : obsL fa fn li K = He.valD fn := h
  have h1 : (digB K && (li.all (litF K) && (He.obsD fa fn K).1)) = true := congrArg (fun z : He.AlD => z.1) h0
  have h2 : (obsL fa fn li K).2 = (He.valD fn).2 := congrArg (fun z : He.AlD => z.2) h0
  rw [Bool.and_eq_true, Bool.and_eq_true] at h1
  refine ⟨?_, ?_, fun i p hp => List.all_eq_true.mp h1.2.1 p (List.mem_of_getElem? hp)⟩
  · show He.obsD fa fn K = He.valD fn
    exact Prod.ext h1.2.2 h2
  · have h3 := h1.1
    unfold digB at h3
    unfold NoDig
    exact of_decide_eq_true h3
end DL
set_option Elab.async false
set_option linter.all false
set_option maxRecDepth 100000
set_option maxHeartbeats 4000000
set_option autoImplicit false
/-! list(range(n)): a new list of numbers. -/
namespace DL
open PySem PySem.Spec PyProof.Rows L2
end DL
set_option Elab.async false
set_option linter.all false
set_option maxRecDepth 100000
set_option maxHeartbeats 4000000
set_option autoImplicit false
/-! d.update(e), both dicts with keys ints and texts. -/
namespace L2
open PySem PySem.Spec PyProof.Rows
end L2
namespace DL
open PySem PySem.Spec PyProof.Rows L2
end DL
set_option Elab.async false
set_option linter.all false
set_option maxRecDepth 100000
set_option maxHeartbeats 4000000
set_option autoImplicit false
/-! sorted(d) of a dict with texts for keys, fewer than 64. -/
namespace DL
open PySem PySem.Spec PyProof.Rows L2
end DL
set_option Elab.async false
set_option linter.all false
set_option maxRecDepth 100000
set_option maxHeartbeats 4000000
set_option autoImplicit false
/-! a != b of two dicts whose values are numbers. -/
namespace DL
open PySem PySem.Spec PyProof.Rows L2
end DL
set_option Elab.async false
set_option linter.all false
set_option maxRecDepth 100000
set_option maxHeartbeats 4000000
set_option autoImplicit false
/-! d.clear() of a dict with keys ints and texts. -/
namespace DL
open PySem PySem.Spec PyProof.Rows L2
end DL
set_option Elab.async false
set_option linter.all false
set_option maxRecDepth 100000
set_option maxHeartbeats 4000000
set_option autoImplicit false
/-! a != b of two dicts whose values are data. -/
namespace DL
open PySem PySem.Spec PyProof.Rows L2
end DL
set_option Elab.async false
set_option linter.all false
set_option maxRecDepth 100000
set_option maxHeartbeats 4000000
set_option autoImplicit false
/-! sorted(d) of a dict with ints for keys, any number of them. -/
namespace L2
open PySem PySem.Spec PyProof.Rows
end L2
namespace DL
open PySem PySem.Spec PyProof.Rows L2
end DL
set_option Elab.async false
set_option linter.all false
set_option maxRecDepth 100000
set_option maxHeartbeats 4000000
set_option autoImplicit false
/-! enumerate(tuple). -/
namespace PySem
open Sem (wp)
open AutoSeq1 (wpAny_loadPart')
end PySem
namespace L2
open PySem PySem.Spec PyProof.Rows
end L2
namespace DL
open PySem PySem.Spec PyProof.Rows L2
end DL
set_option Elab.async false
set_option linter.all false
set_option maxRecDepth 100000
set_option maxHeartbeats 4000000
set_option autoImplicit false
/-! t[:0:-1] of a tuple that is not empty. -/
namespace DL
open PySem PySem.Spec PyProof.Rows L2
section
variable {X : Cx} {W : WX} {a st : Expr} {ra : RE} {pos p2 : Pos} {lo hi : Option Expr} {ol oh ok : RO} {wd : World} {K : Fg} {mg : Str → Option Value} {α : List Addr} {F : Hp}
theorem DVs.tl {us : List V} {xs : List D} (h : DVs wd K mg F α us xs) : DVs wd K mg F α us.tail xs.tail := by
  cases h with
  | nil => exact .nil
  | cons _ t => exact t
end
end DL
set_option Elab.async false
set_option linter.all false
set_option maxRecDepth 100000
set_option maxHeartbeats 4000000
set_option autoImplicit false
/-! xs.count(n) of ints. -/
namespace L2
open PySem PySem.Spec PyProof.Rows
end L2
namespace DL
open PySem PySem.Spec PyProof.Rows L2
end DL
set_option Elab.async false
set_option linter.all false
set_option maxRecDepth 100000
set_option maxHeartbeats 4000000
set_option autoImplicit false
/-! xs.extend(ys), ys a list of the store. -/
namespace DL
open PySem PySem.Spec PyProof.Rows L2
end DL
set_option Elab.async false
set_option linter.all false
set_option maxRecDepth 100000
set_option maxHeartbeats 4000000
set_option autoImplicit false
/-! == of a list whose items are lists of the store, with data. -/
namespace DL
open PySem PySem.Spec PyProof.Rows L2
end DL
set_option Elab.async false
set_option linter.all false
set_option maxRecDepth 100000
set_option maxHeartbeats 4000000
set_option autoImplicit false
/-! zip(tuple, list). -/
namespace L2
open PySem PySem.Spec PyProof.Rows
end L2
namespace DL
open PySem PySem.Spec PyProof.Rows L2
end DL
set_option Elab.async false
set_option linter.all false
set_option maxRecDepth 100000
set_option maxHeartbeats 4000000
set_option autoImplicit false
/-! range by a step of -1; zip of three lists. -/
namespace L2
open PySem PySem.Spec PyProof.Rows
end L2
namespace DL
open PySem PySem.Spec PyProof.Rows L2
/-- i, i - 1, .. down to j + 1 -/
def downD (i j : Int) : List D := (List.range (i - j).toNat).map fun (k : Nat) => .int (i - k)
def rRangeN (a : RA) : RA := fun δ S => (a δ S).bind fun xs S1 => match xs with
  | [.int i, .int j, .int c] => if c = -1 ∧ -(2 ^ 62) ≤ i ∧ i < 2 ^ 62 ∧ -(2 ^ 62) ≤ j ∧ j < 2 ^ 62 then .ok (downD i j) S1 else .stuck
  | _ => .stuck
theorem it_down {wd : World} {K : Fg} {mg : Str → Option Value} {F : Hp} {α : List Addr} (i j : Int) : ItOk wd K mg F α (Itc i (-1) (i - j).toNat) (downD i j) where
  go := fun F' H' k a b h => by show k < (i - j).toNat; simpa [downD] using h
  stop := fun F' H' a b => by show _ ≤ (downD i j).length; simp [downD]
  yld := fun F' H' H2 k x d a b hd ⟨e1, e2⟩ => by
    subst e1
    refine .inl ⟨rfl, ?_⟩
    unfold downD at hd
    rw [List.getElem?_map] at hd
    cases q : (List.range (i - j).toNat)[k]? with
    | none => rw [q] at hd; cases hd
    | some m =>
      rw [q] at hd; cases hd
      have : m = k := by
        obtain ⟨_, e⟩ := List.getElem?_eq_some_iff.mp q
        simpa using e.symm
      subst this
      rw [e2, show i + (m : Int) * -1 = i - (m : Int) by omega]
      exact .int _
section
variable {X : Cx} {W : WX} {a b c : Expr} {tg : Expr} {rs : RA} {pos p : Pos}
theorem pid_rangeN (hm : X.mg "range" = none) (ha : PDs X W [a, b, c] rs) (hg : Gl X "range" := by rfl) (hs : starEach [a, b, c] X.env = (false, eval a X.env) :: starEach [b, c] X.env := by rfl) (hpl : (backTo pos (starEach [b, c] X.env)).any (·.1) = false := by rfl) : PId X W tg (.Call (.Name "range" p) [a, b, c] [] pos) (rRangeN rs) := by
  obtain ⟨t, p1, s1⟩ := ha.ex
  refine ⟨_, pi_range3 hg hm p1 hs hpl, fun α F σ H δ S Q hr hs h => ?_⟩
  refine s1 α F σ H δ S _ hr hs (wp.bind h fun ds S1 e1 xs H1 β F1 r1 q1 v1 h1 => ?_)
  have hl := ha.len _ _ _ _ e1
  match ds, hl with
  | [d, d', d''], _ =>
    cases v1 with
    | cons v1 vn =>
      cases vn with
      | cons v2 vn =>
        cases vn with
        | cons v3 vn =>
        cases vn
        cases d with
        | int i =>
          cases d' with
          | int j =>
            cases d'' with
            | int k =>
              cases v1; cases v2; cases v3
              dsimp only at h1
              split at h1
              · rename_i hc
                obtain ⟨rfl, c1, c2, c3, c4⟩ := hc
                exact ⟨i, j, -1, _, rfl, RgC.neg c1 c2 c3 c4, h1.now r1 (it_down i j)⟩
              · exact h1.elim
            | _ => exact h1.elim
          | _ => exact h1.elim
        | _ => exact h1.elim
end
end DL
set_option Elab.async false
set_option linter.all false
set_option maxRecDepth 100000
set_option maxHeartbeats 4000000
set_option autoImplicit false
/-! sorted of a tuple; len of a dict. -/
namespace PySem.W
open PySem PySem.Calls PyProof.Rows
section
variable {prog : Program} {w : World} {A : Around} {E : Value → Shared → Prop} {s : Shared}
theorem collect_tupleX {M : Model} {l : Addr} {vs : List Value} {Q : List Value → Shared → Prop} (hl : s.heap.IsTuple l vs.toArray)
    (h : Q vs { s with heap := (s.heap.push (seqObj "list" #[] 0)).update s.heap.objs.size (Obj.mapSeq (· ++ vs.toArray)) }) (hsz : vs.length ≤ sizeLine) :
    wpAny (model prog w) A (collect (.ref l)) Q E s := by
  obtain ⟨o, ho, hc, n, hd⟩ := id hl
  unfold collect
  refine wpAny_bind (wpAny_runValue (codeAny_builtin entry_proto_collect' ?_))
  show wpAny _ _ (do again (.builtin "list.__iadd__" ⟨[← newList [], .ref l], []⟩)) _ _ s
  refine wpAny_bind (wpAny_newList (wpAny_pure ⟨Code.quiet_builtin _ (by decide +kernel), codeAny_builtin entry_list_iadd' ?_⟩))
  show wpAny _ _ (Builtin.List.listExtendWith (.ref s.heap.objs.size) (.ref l) (.ref s.heap.objs.size)) _ _ { s with heap := s.heap.push (seqObj "list" #[] 0) }
  unfold Builtin.List.listExtendWith
  have ho' : (s.heap.push (seqObj "list" #[] 0)).get? l = some o := Heap.get?_push_of_some _ ho
  refine wpAny_bind (wpAny_typeOf (T := "tuple") ⟨o, ho', hc⟩ ?_)
  have ht : (Value.type "tuple" == Value.type "tuple") = true := by rfl
  rw [if_pos (by rw [ht]; simp)]
  refine wpAny_bind (listItems_at ho' hd ?_)
  refine wpAny_bind (listItems_at (xs := #[]) (n := 0) (Heap.get?_push_size _ rfl) rfl ?_)
  rw [if_neg (by simp)]
  refine wpAny_bind (listUpdate_at (xs := #[]) (n := 0) (Heap.get?_push_size _ rfl) rfl ?_ (Nat.zero_le _) (by show (#[] ++ vs.toArray).size ≤ sizeLine + 1; simp only [Array.size_append, List.size_toArray, List.length_nil]; omega))
  refine wpAny_pure ?_
  show wpAny (model prog w) A (do
      let o ← load s.heap.objs.size
      match o.data with
      | .seq xs _ => pure xs.toList
      | _ => unsupported "internal:collect") Q E { s with heap := (s.heap.push (seqObj "list" #[] 0)).update s.heap.objs.size (Obj.mapSeq (· ++ vs.toArray)) }
  refine wpAny_bind (wpAny_load (get?_update_seq (Heap.get?_push_size _ rfl) _) ?_)
  show wpAny _ _ (pure ((#[] : Array Value) ++ vs.toArray).toList) Q E _
  rw [show ((#[] : Array Value) ++ vs.toArray).toList = vs by simp]
  exact wpAny_pure h
theorem sorted_of_sortT {l : Addr} {vs : List Value} {kw : List (Str × Value)} {Q : Value → Shared → Prop} (hl : s.heap.IsTuple l vs.toArray) (hL : vs.length ≤ sizeLine) (ha1 : argsOk "sorted" ⟨[.ref l], kw⟩) (ha2 : ∀ x, argsOk "list.sort" ⟨[.ref x], kw⟩)
    (body : ∀ E' : Value → Shared → Prop, wpAny (model prog w) A.in1.in1 (Builtin.«list.sort» ⟨[.ref (s.heap.objs.size + 1)], kw⟩) (fun f s' => f = .done (.ret .none) ∧ Q (.ref (s.heap.objs.size + 1)) s') E' { s with heap := copyHeap s.heap vs }) :
    wpAny (model prog w) A (call (.builtin "sorted") [.ref l] kw) Q E s := by
  refine call_function_entry_kw kind_sorted plain_sorted entry_sorted ha1 ?_
  unfold Builtin.«sorted»
  refine wpAny_bind (m := checkCount "sorted" 1 1 _) (wpAny_pure ?_)
  refine wpAny_bind (collect_tupleX (M := model prog w) hl ?_ hL)
  refine wpAny_bind (wpAny_newList ?_ hL)
  have hsz : ((s.heap.push (seqObj "list" #[] 0)).update s.heap.objs.size (Obj.mapSeq (· ++ vs.toArray))).objs.size = s.heap.objs.size + 1 := by
    rw [Heap.size_update, size_push']
  show wpAny _ _ _ _ _ { s with heap := copyHeap s.heap vs }
  rw [hsz]
  refine wpAny_bind (wpAny_holding (wpAny_call_entry_kw slot_list_sort ⟨_, copyHeap_at s.heap vs, rfl⟩ entry_list_sort ?body (ha2 _)))
  case body =>
    show wpAny (model prog w) A.in1.in1 (Builtin.«list.sort» ⟨[.ref (s.heap.objs.size + 1)], kw⟩) _ _ _
    refine wpAny_mono (body _) (fun f s' hf => ?_) fun _ _ e => e
    obtain ⟨rfl, hq⟩ := hf
    exact ⟨_, rfl, wpAny_pure ⟨_, rfl, hq⟩⟩
theorem sorted_dataT {β : Type} {vs : List Value} {bs : List β} {enc : β → PyData} {R : Value → β → Prop} {l : Addr} {Q : Value → Shared → Prop} (hl : s.heap.IsTuple l vs.toArray) (e : EachIs R vs bs) (er : EachIs (fun v b => ∃ as, Reads s.heap v (enc b) as) vs bs) (hal : AllAlike (bs.map enc)) (hk : Sortable (bs.map enc)) (hL : bs.length ≤ sizeLine)
    (hu : ∀ b, b ∈ bs → A.units + 2 + (enc b).depth < cLine) (h : ∀ out, out.length = bs.length → EachIs R out (bs.mergeSort (dataLe false enc)) → Q (.ref (s.heap.objs.size + 1)) { s with heap := sortedAll s.heap vs (List.toArray out) }) :
    wpAny (model prog w) A (call (.builtin "sorted") [.ref l]) Q E s := by
  have er' : EachIs (fun v b => ∃ as, Reads (sortingHeap (copyHeap s.heap vs) (s.heap.objs.size + 1) vs) v (enc b) as) vs bs := er.mono fun _ _ ⟨as, r⟩ => ⟨as, PyProof.Rows.Reads.keeps (fun _ _ => sorting_copy_old) r⟩
  have hL2 : vs.length ≤ sizeLine := by rw [e.length]; exact hL
  refine sorted_of_sortT hl hL2 (args_sorted1 _) (fun _ => args_list_sort _) fun _ => list_sort_vals (s := { s with heap := copyHeap s.heap vs }) (copyHeap_at s.heap vs) (SortsAt.data (s := { s with heap := sortingHeap (copyHeap s.heap vs) (s.heap.objs.size + 1) vs }) (each_map (R := fun v d => ∃ as, Reads (sortingHeap (copyHeap s.heap vs) (s.heap.objs.size + 1) vs) v d as) enc er') hal hk (bound_map hu)) hL2 ⟨rfl, ?_⟩
  exact h _ (by rw [sortVals_length false rfl]; exact e.length) (sortVals_data false e er' hal)
theorem call_len_raw {d : Addr} {es : Array DictEntry} {ep : Nat} {Q : Value → Shared → Prop} (hd : (d == sysModules) = false) (hm : DT.Raw s.heap d es ep) (hfit : (es.size : Int) < 2 ^ 63)
    (h : Q (.int es.size (s.toks + 1)) { s with toks := s.toks + 1 + 1 }) : wpAny (model prog w) A (call (.builtin "len") [.ref d]) Q E s := by
  refine Calls.call_function_entry kind_len plain_len entry_len (args_len1 _) ?_
  unfold Builtin.«len»
  refine wpAny_bind (m := oneArg "len" _) (wpAny_pure ?_)
  have mt : MeetsIn prog w (Builtin.«dict.__len__» ⟨[.ref d], []⟩) (fun _ R s => DT.Raw s.heap d es ep ∧ R (.ok (.ret (.int es.size s.toks))) { s with toks := s.toks + 1 }) :=
    .of_wp fun A R s ⟨hm, h⟩ => by
      obtain ⟨o, ho, hc, hdat⟩ := hm
      show wpAny _ _ (dictSize d >>= _) _ _ s
      unfold dictSize
      refine wpAny_bind (wpAny_bind (wpAny_dictEntries ho hdat (wpAny_pure ?_)))
      show wpAny _ _ (Builtin.Dict.pendingCount d >>= _) _ _ s
      refine wpAny_bind (wpAny_pendingCount_other hd ?_)
      refine wpAny_ret_mkInt ?_
      rw [Nat.add_zero]; exact h
  refine wpAny_bind (m := callSpecial? (.ref d) (Str.ofString "__len__")) (wpAny_callSpecial?_slot (name := Str.ofString "__len__") hm.typeIs F.slot_dict_len
    (call_meetsIn F.slot_dict_len hm.typeIs F.entry_dict_len (F.args_dict_len_1 _) mt ⟨hm, ?_⟩))
  show wpAny _ _ _ _ _ { s with toks := s.toks + 1 }
  refine wpAny_bind (wpAny_holding (wpAny_pure ?_))
  refine wpAny_bind (wpAny_letGo ?_)
  show wpAny _ _ (if ((es.size : Nat) : Int) < 0 then _ else _) _ _ _
  rw [if_neg (by omega)]
  show wpAny _ _ (if ((es.size : Nat) : Int) ≥ 2 ^ 63 then _ else _) _ _ _
  rw [if_neg (by omega)]
  exact wpAny_bind (wpAny_mkInt (wpAny_pure ⟨_, rfl, h⟩))
end
end PySem.W
namespace DL
open PySem PySem.Spec PyProof.Rows L2
open PySem.W
def gSortedT : Sto → List D → Option D := fun S ds => match ds with
  | [d] => (match deref S d with
    | .tup xs => (sortD S xs).map .lst
    | _ => none)
  | _ => none
def gLenD : Sto → List D → Option D := fun S ds => match ds with
  | [d] => (match deref S d with
    | .dct kvs => some (.int kvs.length)
    | .dcn kvs => some (.int kvs.length)
    | _ => none)
  | _ => none
section
variable {X : Cx} {W : WX} {e : Expr} {es : List Expr} {rs : RA} {pos p : Pos}
def rSortUT (X : Cx) : List V → Hp → VK → Prop := fun vs H Q => ∃ (a : Addr) (us : List V) (ps : List PyData), vs = [.ref a] ∧ SqT X.K H a us ∧ DpAll X.K H us ps ∧ sortable ps = true ∧ us.length ≤ sizeLine ∧ Lays H (sortBy us ps) Q
theorem cr_sortUT (hu : X.A.units + 64 < cLine) : CallR X (.builtin "sorted") (rSortUT X) := by
  intro pins s σ H vs us Q I r h
  obtain ⟨a, xs, ps, rfl, hs, hd, hk, hl, q⟩ := h
  obtain ⟨its, rv, pl, _⟩ := I.tuple hs
  rw [Vals.ref1 r]
  obtain ⟨e1, e2⟩ := vals_each I hd rv
  unfold sortable at hk
  rw [Bool.and_eq_true, Bool.and_eq_true, Bool.or_eq_true] at hk
  obtain ⟨k1, k2, k3⟩ := hk
  have ml : (xs.zip ps).map (·.2) = ps := List.map_snd_zip (by rw [(dpAll_length hd)]; exact Nat.le_refl _)
  have hal : AllAlike ((xs.zip ps).map (·.2)) := by
    rw [ml]
    intro d hd d' hd'
    exact List.all_eq_true.mp (List.all_eq_true.mp k2 d hd) d' hd'
  have hso : Sortable ((xs.zip ps).map (·.2)) := by
    rw [ml]
    rcases k1 with k1 | k1
    · refine .inl fun d hd => ?_
      have := List.all_eq_true.mp k1 d hd
      match d, this with
      | .tuple (x :: r), _ => exact ⟨x, r, rfl⟩
    · refine .inr fun d hd => ?_
      have := List.all_eq_true.mp k1 d hd
      refine ⟨fun z => ?_, fun xs z => ?_⟩ <;> subst z <;> exact absurd this (by simp [noTup])
  have pl' : s.heap.IsTuple a its.toArray := pl
  refine sorted_dataT (enc := fun b : V × PyData => b.2) pl' e1 e2 hal hso (by rw [List.length_zip, (dpAll_length hd), Nat.min_self, ← (dpAll_length hd)]; exact hl) (fun b hb => ?_) fun out h1 h2 => ?_
  · have := of_decide_eq_true (List.all_eq_true.mp k3 b.2 (by rw [← ml]; exact List.mem_map.mpr ⟨b, hb, rfl⟩))
    omega
  · obtain ⟨ep, he'⟩ := PyProof.Rows.sortedAll_at s.heap its (List.toArray out)
    have hv : Vals (sortBy xs ps) out := each_vals (by
      have := each_map2 (R' := fun u v => RelV v u) (fun x => x) (fun b : V × PyData => b.1) (fun _ _ q => q) h2
      rw [List.map_id'] at this
      exact this)
    have hlen : (sortBy xs ps).length ≤ sizeLine := by rw [sortBy_length (dpAll_length hd)]; exact hl
    exact ⟨.ref _, upd H (s.heap.objs.size + 1) (.lst (sortBy xs ps)), I.laid (t' := s.toks) (fun _ _ => PyProof.Rows.sortedAll_old) (Nat.le_succ _) ⟨hlen, out, ep, hv, he'⟩, rfl, q _ (I.hok.fresh (Nat.le_succ _))⟩
theorem pf_sortedT (hu : X.A.units + 64 < cLine) (hm : X.mg "sorted" = none) (ha : PDs X W (e :: es) rs) (hg : Gl X "sorted" := by rfl) (he : starEach (e :: es) X.env = (false, eval e X.env) :: starEach es X.env := by rfl) (hpl : (backTo pos (starEach es X.env)).any (·.1) = false := by rfl) :
    PF X W (.Call (.Name "sorted" p) (e :: es) [] pos) (rAs gSortedT rs) := pf_callB (cr_sortUT hu) (fun α F H S xs ds z Q hr hv hz => by
  unfold gSortedT at hz
  split at hz
  · cases hv with
    | cons h1 h2 =>
      cases h2
      split at hz
      · rename_i ys e1
        obtain ⟨zs, e2, rfl⟩ := Option.map_eq_some_iff.mp hz
        obtain ⟨l, us, rfl, a1, a2⟩ := hr.viewT h1 e1
        unfold sortD at e2
        split at e2
        · rename_i ps e3
          split at e2
          · rename_i hc
            cases e2
            rw [Bool.and_eq_true] at hc
            exact ⟨_, sortBy us ps, rfl, a2.sort ps, fun q => ⟨l, us, ps, rfl, a1, a2.dp e3 hr.sub, hc.1, by rw [a2.length]; exact of_decide_eq_true hc.2, q⟩⟩
          · cases e2
        · cases e2
      · cases hz
  · cases hz) hm ha hg (by decide +kernel) (by decide) (by decide) he hpl
def rLenU (w : World) : List V → Hp → VK → Prop := fun xs H Q => ∃ (a : Addr) (prs : List (V × V)), xs = [.ref a] ∧ ItSrc w H a prs ∧ Q (.int (prs.length : Int)) H
theorem call_lenU : CallR X (.builtin "len") (rLenU X.w) := by
  intro pins s σ H xs us Q I r h
  obtain ⟨a, prs, rfl, src, q⟩ := h
  rw [Vals.ref1 r]
  obtain ⟨hd, hz, es, ep, raw, rel⟩ := itsrc_at I src
  have hes : es.size = prs.length := by rw [← Array.length_toList]; exact each_len rel
  rw [sizeLine_eq] at hz
  refine call_len_raw hd raw (by omega) ?_
  rw [hes]
  exact ⟨.int (prs.length : Int), H, I.tok _, ⟨_, rfl⟩, q⟩
theorem b_lenD : BiG X (.builtin "len") gLenD := by
  refine ⟨_, call_lenU, fun α F H S xs ds z Q hr hv hz q => ?_⟩
  unfold gLenD at hz
  split at hz
  · rename_i d
    cases hv with
    | cons h1 h2 =>
      cases h2
      rename_i v
      have sn := hr.see h1
      generalize deref S d = dd at sn hz
      cases sn with
      | «at» h hp => cases h <;> first | (cases hz; done) | exact absurd rfl (hp _)
      | dead => cases hz
      | lst _ _ => cases hz
      | @dct a ws kvs h k t =>
        cases hz
        have hl : ws.length = kvs.length := by
          have := k.length
          rw [List.length_map, List.length_map] at this
          exact this
        exact ⟨a, _, rfl, .inl ⟨ws, h, rfl⟩, by rw [List.length_map, hl]; exact fin_now hr (.int _) q⟩
      | @dcn a ys kvs h t =>
        cases hz
        exact ⟨a, _, rfl, .inr ⟨ys, h, rfl⟩, by rw [List.length_map, t.length]; exact fin_now hr (.int _) q⟩
  · cases hz
end
end DL
set_option Elab.async false
set_option linter.all false
set_option maxRecDepth 100000
set_option maxHeartbeats 4000000
set_option autoImplicit false
/-! a, b, c = x, y, z. -/
namespace DL
open PySem PySem.Spec PyProof.Rows L2
end DL
set_option Elab.async false
set_option linter.all false
set_option maxRecDepth 100000
set_option maxHeartbeats 4000000
set_option autoImplicit false
/-! list(d.items()), list(d), displays with tuple keys, d.values(), isinstance of one of some classes, defs that call themselves. -/
namespace DL
open PySem PySem.Spec PyProof.Rows L2
/-! ### list(d.items()) -/
/-! ### list(d) -/
end DL
set_option Elab.async false
set_option linter.all false
set_option maxRecDepth 100000
set_option maxHeartbeats 4000000
set_option autoImplicit false
/-! Displays with tuple keys, d.values(), isinstance of one of some classes, defs that call themselves. -/
namespace DL
open PySem PySem.Spec PyProof.Rows L2
/-! ### {t: v, ..} with tuples for keys -/
/-! ### for v in d.values(), d locked -/
/-! ### isinstance(x, (T, U, ..)) -/
/-! ### in, by itself -/
/-! ### defs that call themselves -/
end DL
set_option Elab.async false
set_option linter.all false
set_option maxRecDepth 100000
set_option maxHeartbeats 4000000
set_option autoImplicit false
/-! t * n of tuples, d == e of dicts. -/
namespace DL
open PySem PySem.Spec PyProof.Rows L2
end DL
set_option Elab.async false
set_option linter.all false
set_option maxRecDepth 100000
set_option maxHeartbeats 1000000
set_option autoImplicit false
/-! x += e, x -= e of whole numbers. -/
namespace DL
open PySem PySem.Spec PyProof.Rows L2
end DL
set_option Elab.async false
set_option linter.all false
set_option maxRecDepth 100000
set_option maxHeartbeats 1000000
set_option autoImplicit false
/-! t * n of tuples, empty or once. -/
namespace DL
open PySem PySem.Spec PyProof PyProof.Rows L2
end DL
set_option Elab.async false
set_option linter.all false
set_option maxRecDepth 100000
set_option maxHeartbeats 1000000
set_option autoImplicit false
/-! list.pop(i). -/
namespace DL
open PySem PySem.Spec PyProof.Rows L2
end DL
set_option Elab.async false
set_option linter.all false
set_option maxRecDepth 100000
set_option maxHeartbeats 3000000
set_option autoImplicit false
/-! Exceptions: an object in the heap is tracked; except clauses whose exception is kept. -/
namespace L2
open PySem PySem.Spec PyProof.Rows DL
section
variable {X : Cx} {pins : List (Addr × Obj)} {σ : List (Option V)} {H : Hp} {s : Shared}
/-- an object that stands in the heap, of no one as yet, is tracked -/
theorem Inv.track {a : Addr} {o : HO} (I : Inv X pins σ H s) (n0 : X.s_0.heap.get? a = none) (na : H a = none) (np : ∀ p ∈ X.pn ++ pins, p.1 ≠ a) (nL : a ≠ X.env.locals) (nc : ∀ x c, X.env.cells.lookup x = some c → c ≠ a)
    (new : ObjOk X.prog X.w (upd H a o) s.heap a o) : Inv X pins σ (upd H a o) s := by
  refine ⟨I.ok, I.os, I.bare, ⟨I.base.keep, I.base.slot, fun b u e n hx => ?_, I.base.there, fun b xs e => ?_, fun b u v e => ?_, fun b ps e => ?_⟩, I.loc, I.cell, ?_, fun x c e => ?_, fun p hp => ?_, fun b u e => ?_, I.len⟩
  · have z : b ≠ a := fun z => by rw [z, n0] at e; cases e
    rw [upd_ne z]
    exact I.base.free b u e n hx
  · have tt := I.base.tups b xs e
    rw [upd_ne (ne_of_none tt na)]
    exact tt
  · have ff := I.base.frzs b u v e
    rw [upd_ne (ne_of_none ff na)]
    exact ff
  · exact (I.base.tbls b ps e).imp fun m tb => by rw [upd_ne (ne_of_none tb na)]; exact tb
  · rw [upd_ne (Ne.symm nL)]
    exact I.free
  · rw [upd_ne (nc x c e)]
    exact I.freeC x c e
  · obtain ⟨h1, h2, h3, h4, h5⟩ := I.pin p hp
    exact ⟨h1, by rw [upd_ne (np p hp)]; exact h2, h3, h4, h5⟩
  · by_cases hb : b = a
    · subst hb
      rw [upd_same] at e
      cases e
      exact new
    · rw [upd_ne hb] at e
      exact (I.hok b u e).stay (fun c v _ q => q) (fun c q => by rw [upd_ne (ne_of_none q na)]; exact q) fun c xs q => by rw [upd_ne (ne_of_none q na)]; exact q
/-- the context of an except suite whose exception is tracked -/
abbrev Cx.held (X : Cx) (a : Addr) : Cx := { X with A := X.A.mark (some (.ref a)), calm := false, xe := fun _ _ => False }
theorem Inv.held (I : Inv X pins σ H s) (a : Addr) : Inv (X.held a) pins σ H s :=
  ⟨⟨I.ok.mod, I.ok.kind, I.ok.glob, I.ok.blt, I.ok.above, I.ok.inj, I.ok.has, I.ok.cab, (fun z => absurd (show false = true from z) Bool.false_ne_true), I.ok.frames, I.ok.stk, I.ok.exf, I.ok.bs, I.ok.bsz, I.ok.noex, I.ok.exfs, I.ok.funs, I.ok.frf⟩, I.os, I.bare, I.base, I.loc, I.cell, I.free, I.freeC, I.pin, I.hok, I.len⟩
theorem Inv.unheld {a : Addr} (I : Inv (X.held a) pins σ H s) (ok : X.Ok) : Inv X pins σ H s :=
  ⟨ok, I.os, I.bare, I.base, I.loc, I.cell, I.free, I.freeC, I.pin, I.hok, I.len⟩
end
/-- the wish of a clause 'except x as n': the exception is kept, at a -/
def wKeep (K : PySem.W.Frag) (c : Value) (i : Nat) (ts : Addr → TS) (Wout : WX) (D : Ends) : WX := fun cls d σ H => ∃ yes, PySem.W.exmOne K cls c = some yes ∧ (yes = false → Wout cls d σ H) ∧
  (yes = true → ∀ a, H a = none → ts a ⟨fun σ1 H1 => D.nx (σ1.set i none) H1, D.rt, fun σ1 H1 => D.bk (σ1.set i none) H1, fun σ1 H1 => D.ct (σ1.set i none) H1⟩ (σ.set i (some (.ref a))) (upd H a (exh a cls d)))
/-- what becomes of an exception that comes to the clauses -/
abbrev toClauses (X : Cx) (cl : List ExceptHandler) (Q : Flow → Shared → Prop) (u : Value) (z : Shared) : Prop :=
  wpAny (model X.prog X.w) X.A (noteFrame u X.env) (fun _ z1 => wpAny (model X.prog X.w) X.A (setFlight u none) (fun _ z2 => wpAny (model X.prog X.w) X.A (handleBy u X.env cl) Q X.xe z2) X.xe z1) X.xe z
section
variable {X : Cx} {pins : List (Addr × Obj)} {σ : St} {H : Hp} {B : Heap} {base z : Shared} {a : Addr} {cls : Value} {d : Option Addr}
/-- an exception that has come down to our frame; base: the state without it -/
structure Down (X : Cx) (pins : List (Addr × Obj)) (σ : St) (H : Hp) (B : Heap) (base : Shared) (a : Addr) (cls : Value) (d : Option Addr) (z : Shared) (hp : Heap) : Prop where
  inv : Inv X pins σ H base
  kept : ∀ b o, base.heap.get? b = some o → b ∉ frs X.stack → B.get? b = some o
  none_ : H a = none
  os : z.os = base.os
  bare : AllBare z.gens
  fl : HandSPX.FlyingZ B (X.env :: X.outer) a (Zc cls d) hp
  up : base.heap.UpToSlots hp
theorem Down.notFrame {hp : Heap} (k : Down X pins σ H B base a cls d z hp) : a ∉ frs (X.env :: X.outer) := by
  obtain ⟨o, vs, at_, _, flds⟩ := k.fl.there
  intro isF
  obtain ⟨_, o1, at1, nofields⟩ := k.fl.2.2.1.mem isF
  rw [at_] at at1
  exact nofields vs (by cases at1; exact flds)
theorem Down.land {hp : Heap} (k : Down X pins σ H B base a cls d z hp) : Inv X pins σ H ⟨hp, z.gens, z.drawn, z.toks, z.os⟩ :=
  Inv.landed (s' := ⟨hp, z.gens, z.drawn, z.toks, z.os⟩) k.inv k.kept k.fl.1 k.up k.os k.bare
theorem Down.local_ {hp : Heap} (k : Down X pins σ H B base a cls d z hp) (hf : X.env.frame = some X.env.locals) : a ≠ X.env.locals := by
  intro e
  apply k.notFrame
  rw [e]
  exact List.mem_filterMap.mpr ⟨X.env, List.mem_cons_self, hf⟩
theorem Down.new_ {hp : Heap} (k : Down X pins σ H B base a cls d z hp) (hs : X.stack = X.env :: X.outer) : base.heap.get? a = none := by
  cases there : base.heap.get? a with
  | none => rfl
  | some o =>
    have inB := k.kept a o there (hs ▸ k.notFrame)
    have notB := k.fl.2.1
    rw [notB] at inB
    cases inB
/-- it is tracked from now on -/
theorem Down.tracked {hp : Heap} (k : Down X pins σ H B base a cls d z hp) (hs : X.stack = X.env :: X.outer) (hf : X.env.frame = some X.env.locals) (hex : X.ex = []) : Inv X pins σ (upd H a (exh a cls d)) ⟨hp, z.gens, z.drawn, z.toks, z.os⟩ := by
  have new_ := k.new_ hs
  obtain ⟨o, vs, at_, kind, flds⟩ := k.fl.there
  refine k.land.track ?_ k.none_ ?_ (k.local_ hf) ?_ (exh_ok at_ kind flds)
  · cases there : X.s_0.heap.get? a with
    | none => rfl
    | some o0 =>
      have still := k.inv.base.there a o0 there (by rw [hex]; simp)
      rw [new_] at still
      exact still.elim fun _ w => nomatch w
  · intro p hp e
    have pinned := (k.inv.pin p hp).1
    rw [e, new_] at pinned
    cases pinned
  · intro y c hc e
    obtain ⟨v, oc, atc, isCell⟩ := k.land.cell y c hc
    rw [e] at atc
    have same := at_.symm.trans atc
    cases same
    rw [flds] at isCell
    cases isCell
end
section
variable {X : Cx} {x n : Str} {c : Value} {i : Nat} {body suite : List Stmt} {b₀ : Stmt} {np pos pos' : Pos} {tb : WX → TS} {ts : Addr → TS} {Wout : WX}
/-- the class that a clause names -/
theorem name_held {pins : List (Addr × Obj)} {σ : St} {H : Hp} {s : Shared} {Q E : Value → Shared → Prop} (I : Inv X pins σ H s) (hc : Names X x c) (a : Addr) (q : Q c s) : wpAny (model X.prog X.w) (X.A.mark (some (.ref a))) (eval (.Name x np) X.env) Q E s := by
  rcases hc with ⟨g, dbg, here | ⟨gone, built, nn⟩⟩
  · exact ld_glob (X := X.held a) (I.held a) g here q dbg
  · exact ld_blt (X := X.held a) (I.held a) g gone built q nn dbg
/-- an exception that no clause names flies on -/
theorem Down.on {pins : List (Addr × Obj)} {σ : St} {H : Hp} {B : Heap} {base z : Shared} {a : Addr} {cls : Value} {d : Option Addr} {hp : Heap} {D : Ends} (k : Down X pins σ H B base a cls d z hp) (hs : X.stack = X.env :: X.outer) (hf : X.env.frame = some X.env.locals) (tk : Takes X Wout) (w : Wout cls d σ H) :
    wpAny (model X.prog X.w) X.A (handleBy (.ref a) X.env []) (SP X pins D) X.xe ⟨hp, z.gens, z.drawn, z.toks, z.os⟩ := by
  apply wpAny_handleBy_nil
  have thrown : wpAny (model X.prog X.w) X.A (setFlight (.ref a) X.env.frame) (fun _ z1 => wpAny (model X.prog X.w) X.A (throw (.ref a) : Sem Flow) (SP X pins D) X.xe z1) X.xe ⟨hp, z.gens, z.drawn, z.toks, z.os⟩ := by
    rw [hf]
    exact HandSPX.setFlight_upZ (s := ⟨hp, z.gens, z.drawn, z.toks, z.os⟩) k.fl fun hp1 held up1 => wpAny_throw (tk _ _ ⟨a, B, base, pins, σ, H, cls, d, rfl, k.inv, k.kept, k.up.trans up1, .inr (.inr (hs ▸ held)), k.none_, k.os, k.bare, w⟩)
  rcases id k.fl with ⟨_, _, _, o, vs, tb, _, _, at_, _, flds, second, _⟩
  unfold PySem.passOn
  apply wpAny_bind
  apply wpAny_field at_ flds second
  have some_ : (Value.ref tb == Value.none) = false := by simp
  rw [some_]
  first
    | exact wpAny_bind thrown
    | exact wpAny_bind (wpAny_pure (wpAny_bind thrown))
theorem ps_try_keep (hs : X.stack = X.env :: X.outer) (hf : X.env.frame = some X.env.locals) (hex : X.ex = []) (hN : X.N.Nodup) (hi : X.N[i]? = some n) (hln : X.env.kindOf n = some .local) (hc : Names X x c) (tk : Takes X Wout)
    (hb : ∀ W pn xe, Takes (X.tr pn xe) W → PassesOwn (model X.prog X.w) X.A X.env xe → PSs (X.tr pn xe) body (tb W)) (hsu : ∀ a : Addr, PSs (X.held a) (b₀ :: suite) (ts a)) :
    PS X (.Try body [.ExceptHandler (some (.Name x np)) (some n) (b₀ :: suite) pos'] [] [] pos) (fun D σ H => tb (wKeep X.K c i ts Wout D) D σ H) := by
  constructor
  intro pins s σ H D inv pre
  have xok := inv.ok
  have frames : X.A.frames = some (X.env :: X.outer) := xok.frames.trans (congrArg some hs)
  apply wpAny_Try_except
  refine wpAny_mono ((hb (wKeep X.K c i ts Wout D) (X.pn ++ pins) (toClauses X [.ExceptHandler (some (.Name x np)) (some n) (b₀ :: suite) pos'] (SP X pins D)) (fun u z air => ?_) PassesOwn.looking).run [] s σ H D (inv.toTry _) pre) (fun f z1 out => ?_) (fun _ _ w => w)
  · obtain ⟨a, B, base, pp, σ1, H1, cls, d, rfl, J, keptB, up1, sky, n1, os1, ag1, yes, isIt, no, hit⟩ := air
    have sky1 : Sky B (X.env :: X.outer) a (Zc cls d) X.env.locals z.heap := hs ▸ sky
    refine Sky.land (s := z) Zc.steady frames hf sky1 fun hp1 fl1 up2 => ?_
    have dn : Down X pins σ1 H1 B base a cls d z hp1 := ⟨J.ofTry xok, keptB, n1, os1, ag1, fl1, up1.trans up2⟩
    obtain ⟨o, vs, at_, kind, flds⟩ := fl1.there
    have typed : PySem.W.Looks (model X.prog X.w) hp1 (typeOf (.ref a)) cls := fun _ _ _ _ more w => wpAny_typeOf_ref (more _ _ at_) (kind.1 ▸ w)
    have asked := PySem.W.exm_one (M := model X.prog X.w) dn.land.kIn typed isIt
    apply wpAny_handleBy_cons _ (by intro w; cases w)
    apply codeAny_handlers_test
    refine name_held dn.land hc a (asked.here ?_)
    cases yes with
    | false => exact dn.on hs hf tk (no rfl)
    | true =>
      refine codeAny_handlers_suite_as (HandSPX.lands_againZ fl1 fun hp2 fl2 up3 => ?_)
      have dn2 : Down X pins σ1 H1 B base a cls d z hp2 := ⟨J.ofTry xok, keptB, n1, os1, ag1, fl2, (up1.trans up2).trans up3⟩
      refine store_ok (X := X.held a) (v := .ref a) ((dn2.tracked hs hf hex).held a) hN hi (.inl hln) rfl (fun s2 I2 => ?_) (.inr hln)
      refine wpAny_mono ((hsu a).run pins s2 _ _ _ I2 (hit rfl a n1)) (fun g s3 out => ?_) (fun _ _ w => w.elim)
      cases g with
      | next => rcases out with ⟨σ3, H3, I3, w⟩; exact gone_ok (I3.unheld xok) hN hi hln fun s4 I4 => ⟨_, H3, I4, w⟩
      | brk => rcases out with ⟨σ3, H3, I3, w⟩; exact gone_ok (I3.unheld xok) hN hi hln fun s4 I4 => ⟨_, H3, I4, w⟩
      | cont => rcases out with ⟨σ3, H3, I3, w⟩; exact gone_ok (I3.unheld xok) hN hi hln fun s4 I4 => ⟨_, H3, I4, w⟩
      | ret u => rcases out with ⟨v3, σ3, H3, I3, rv, w⟩; exact gone_ok (I3.unheld xok) hN hi hln fun s4 I4 => ⟨v3, _, H3, I4, rv, w⟩
  · cases f with
    | next => rcases out with ⟨σ3, H3, I3, w⟩; exact wpAny_execs_nil ⟨σ3, H3, I3.ofTry xok, w⟩
    | brk => rcases out with ⟨σ3, H3, I3, w⟩; exact ⟨σ3, H3, I3.ofTry xok, w⟩
    | cont => rcases out with ⟨σ3, H3, I3, w⟩; exact ⟨σ3, H3, I3.ofTry xok, w⟩
    | ret u => rcases out with ⟨v3, σ3, H3, I3, rv, w⟩; exact ⟨v3, σ3, H3, I3.ofTry xok, rv, w⟩
end
end L2
set_option Elab.async false
set_option linter.all false
set_option maxRecDepth 100000
set_option maxHeartbeats 2000000
set_option autoImplicit false
/-! Exceptions: facts about the classes; raise, try. -/
namespace DL
open PySem PySem.Spec PyProof.Rows L2
/-- which class is under which -/
def subC (c x : Str) : Bool := decide (c = x) || decide (x = "LoopError")
/-- what the written part says of the exception classes -/
structure Xcl (K : Fg) (mg : Str → Option Value) (cl : List Str) : Prop where
  at_ : ∀ c ∈ cl, mg c = some (.ref (He.ga K c))
  ex : ∀ c ∈ cl, ∀ x ∈ cl, PySem.W.exmOne K (.ref (He.ga K c)) (.ref (He.ga K x)) = some (subC c x)
  is_ : ∀ c ∈ cl, ∀ x ∈ cl, PySem.W.kitOne K (.ref (He.ga K c)) (.ref (He.ga K x)) = some (subC c x)
  isV : ∀ c ∈ cl, PySem.W.kitOne K (.ref (He.ga K c)) (.type "ValueError") = some true
  ec : ∀ c ∈ cl, ExcC K (He.ga K c)
  xf : ∀ c ∈ cl, XfC K (He.ga K c)
  ty : ∀ c ∈ cl, PySem.W.typeIn K (.ref (He.ga K c)) = some (.type "type")
def sTryKeep (b : RS) (cl : List Str) (x : Str) (i : Nat) (h : RS) : RS := fun δ S => match b δ S with
  | .err c fs δ1 S1 => if decide (c ∈ cl) && decide (x ∈ cl) then (if subC c x then (match h (δ1.set i (some (.exc c (fs.map fun p => (.str p.1, p.2))))) S1 with
      | .nx δ2 S2 => .nx (δ2.set i none) S2
      | .rt d S2 => .rt d S2
      | .bk δ2 S2 => .bk (δ2.set i none) S2
      | .ct δ2 S2 => .ct (δ2.set i none) S2
      | _ => .stuck) else .err c fs δ1 S1) else .stuck
  | o => o
def tmS (wd : World) (K : Fg) (mg : Str → Option Value) (W : WX) (r : RS) : TS := fun E σ H => ∃ α F δ S, Rel wd K mg α F H S ∧ Slots wd K mg F α σ δ ∧ wpS wd K mg α F H (r δ S) E W
section
variable {X : Cx} {W : WX} {st : List Stmt} {r : RS}
theorem PSds.canon (h : PSds X W st r) : PSs X st (tmS X.w X.K X.mg W r) := by
  obtain ⟨t, p, s⟩ := h.ex
  exact ⟨fun pins s0 σ H D I ⟨α, F, δ, S, h1, h2, h3⟩ => p.run pins s0 σ H D I (s α F σ H δ S D h1 h2 h3)⟩
theorem Slots.gone {wd : World} {K : Fg} {mg : Str → Option Value} {F : Hp} {α : List Addr} {σ : L2.St} {δ : Sl} {i : Nat} (h : Slots wd K mg F α σ δ) : Slots wd K mg F α (σ.set i none) (δ.set i none) := by
  refine ⟨by rw [List.length_set, List.length_set]; exact h.1, fun j e g => ?_⟩
  by_cases z : j = i
  · subst z
    have hj : j < δ.length := by
      have := (List.getElem?_eq_some_iff.mp g).1
      rw [List.length_set] at this; exact this
    rw [List.getElem?_set_self hj] at g
    cases g
  · rw [List.getElem?_set_ne (Ne.symm z)] at g
    rw [List.getElem?_set_ne (Ne.symm z)]
    exact h.2 j e g
theorem strs_map {A B : Type} : ∀ {xs : List (Str × A)} {fs : List (Str × B)}, xs.map (·.1) = fs.map (·.1) → fs.map (fun p => D.str p.1) = xs.map (fun p => D.str p.1)
  | [], [], _ => rfl
  | [], _ :: _, h => by cases h
  | _ :: _, [], h => by cases h
  | x :: xs, f :: fs, h => by
    have h1 : x.1 = f.1 := (List.cons.inj h).1
    have h2 := (List.cons.inj h).2
    show D.str f.1 :: _ = D.str x.1 :: _
    rw [h1, strs_map h2]
/-- what was caught, as data -/
theorem exc_dv {wd : World} {K : Fg} {mg : Str → Option Value} {cl : List Str} {α : List Addr} {F H : Hp} {c : Str} {fs : List (Str × D)} {cls : Value} {dd : Option Addr} {a : Addr} (T : Xcl K mg cl) (hc : c ∈ cl) (na : F a = none)
    (he : ErrAt wd K mg F α c fs cls dd H) : DV wd K mg (upd F a (exh a cls dd)) α (.ref a) (.exc c (fs.map fun p => (.str p.1, p.2))) := by
  obtain ⟨e1, e2⟩ := he
  have e0 := T.at_ c hc
  have ec : cls = .ref (He.ga K c) := by rw [e0] at e1; exact (Option.some.inj e1).symm
  subst ec
  rcases e2 with ⟨rfl, rfl⟩ | ⟨d, xs, rfl, ed, en, ev⟩
  · exact .exc (ws := []) e0 upd_same (.inl ⟨rfl, rfl⟩) rfl .nil
  · have z : d ≠ a := fun z => by rw [z, na] at ed; cases ed
    refine .exc (ws := xs) e0 upd_same (.inr ⟨d, rfl, by rw [upd_ne z]; exact ed⟩) ?_ ?_
    · rw [List.map_map]
      exact strs_map en
    · rw [List.map_map]
      have := ev.mono (β := []) (Sub.new (o := exh a (.ref (He.ga K c)) (some d)) na)
      rw [List.append_nil] at this
      exact this
end
section
variable {X : Cx} {W : WX} {x n : Str} {cl : List Str} {i : Nat} {body suite : List Stmt} {b₀ : Stmt} {np pos pos' : Pos} {rb rh : RS}
theorem psd_tryKeep (T : Xcl X.K X.mg cl) (hx : x ∈ cl) (hN : X.N.Nodup) (tk : Takes X W)
    (hb : ∀ (W : WX) (pn : List (Addr × Obj)) (xe : Value → Shared → Prop), Takes (X.tr pn xe) W → PassesOwn (model X.prog X.w) X.A X.env xe → PSds (X.tr pn xe) W body rb)
    (hsu : ∀ a : Addr, PSds (X.held a) (fun _ _ _ _ => False) (b₀ :: suite) rh)
    (hs : X.stack = X.env :: X.outer := by rfl) (hf : X.env.frame = some X.env.locals := by rfl) (hex : X.ex = [] := by rfl) (hi : X.N[i]? = some n := by rfl) (hln : X.env.kindOf n = some .local := by rfl) (hg : Gl X x := by rfl) (hd : (x == ("__debug__" : Str)) = false := by decide) :
    PSd X W (.Try body [.ExceptHandler (some (.Name x np)) (some n) (b₀ :: suite) pos'] [] [] pos) (sTryKeep rb cl x i rh) := by
  refine ⟨_, ps_try_keep (c := .ref (He.ga X.K x)) (tb := fun W => tmS X.w X.K X.mg W rb) (ts := fun _ => tmS X.w X.K X.mg (fun _ _ _ _ => False) rh) hs hf hex hN hi hln ⟨hg, hd, .inl (T.at_ x hx)⟩ tk (fun W pn xe t p => (hb W pn xe t p).canon) (fun a => (hsu a).canon), fun α F σ H δ S E hr hsl h => ?_⟩
  refine ⟨α, F, δ, S, hr, hsl, ?_⟩
  unfold sTryKeep at h
  cases q : rb δ S with
  | nx δ1 S1 => rw [q] at h; exact h
  | rt d S1 => rw [q] at h; exact h
  | bk δ1 S1 => rw [q] at h; exact h
  | ct δ1 S1 => rw [q] at h; exact h
  | stuck => rw [q] at h; exact h
  | err c fs δ1 S1 =>
    rw [q] at h
    dsimp only at h
    split at h
    · rename_i hm
      rw [Bool.and_eq_true, decide_eq_true_eq, decide_eq_true_eq] at hm
      intro cls dd σ' H' β F' r1 s1 hs1 he
      have e0 := T.at_ c hm.1
      have ec : cls = .ref (He.ga X.K c) := by have e1 := he.1; rw [e0] at e1; exact (Option.some.inj e1).symm
      refine ⟨subC c x, by rw [ec]; exact T.ex c hm.1 x hx, fun hb => ?_, fun hb a na => ?_⟩
      rotate_left
      · rw [if_pos hb] at h
        obtain ⟨r2, s2⟩ := r1.newF (o := exh a cls dd) na
        have hdv := exc_dv T hm.1 (r1.notF na) he
        have hdv' := hdv.mono (β := []) (Sub.refl _)
        have hsl2 := (hs1.mono (β := []) s2.sub).set (i := i) hdv'
        refine ⟨α ++ β ++ [], _, _, S1, r2, hsl2, ?_⟩
        have st := s1.trans s2
        have aa : ∀ γ : List Addr, α ++ β ++ [] ++ γ = α ++ (β ++ [] ++ γ) := fun γ => by simp
        cases q2 : rh (δ1.set i (some (.exc c (fs.map fun p => (.str p.1, p.2))))) S1 with
        | nx δ2 S2 =>
          rw [q2] at h
          intro σ2 H2 γ F2 r3 s3 hs3
          rw [aa] at r3 hs3
          have s3' : Stp (α ++ (β ++ [])) (L2.upd F' a (exh a cls dd)) (L2.upd H' a (exh a cls dd)) γ F2 H2 := by rw [← List.append_assoc]; exact s3
          exact h (σ2.set i none) H2 (β ++ [] ++ γ) F2 r3 (st.trans s3') hs3.gone
        | rt d S2 =>
          rw [q2] at h
          intro v H2 γ F2 r3 s3 hs3
          rw [aa] at r3 hs3
          have s3' : Stp (α ++ (β ++ [])) (L2.upd F' a (exh a cls dd)) (L2.upd H' a (exh a cls dd)) γ F2 H2 := by rw [← List.append_assoc]; exact s3
          exact h v H2 (β ++ [] ++ γ) F2 r3 (st.trans s3') hs3
        | bk δ2 S2 =>
          rw [q2] at h
          intro σ2 H2 γ F2 r3 s3 hs3
          rw [aa] at r3 hs3
          have s3' : Stp (α ++ (β ++ [])) (L2.upd F' a (exh a cls dd)) (L2.upd H' a (exh a cls dd)) γ F2 H2 := by rw [← List.append_assoc]; exact s3
          exact h (σ2.set i none) H2 (β ++ [] ++ γ) F2 r3 (st.trans s3') hs3.gone
        | ct δ2 S2 =>
          rw [q2] at h
          intro σ2 H2 γ F2 r3 s3 hs3
          rw [aa] at r3 hs3
          have s3' : Stp (α ++ (β ++ [])) (L2.upd F' a (exh a cls dd)) (L2.upd H' a (exh a cls dd)) γ F2 H2 := by rw [← List.append_assoc]; exact s3
          exact h (σ2.set i none) H2 (β ++ [] ++ γ) F2 r3 (st.trans s3') hs3.gone
        | err c2 fs2 δ2 S2 => rw [q2] at h; exact h.elim
        | stuck => rw [q2] at h; exact h.elim
      · rw [hb] at h
        exact h cls dd σ' H' β F' r1 s1 hs1 he
    · exact h.elim
end
/-! ### raise -/
def sRaise0 (c : Str) : RS := fun δ S => .err c [] δ S
theorem psd_raise0 {X : Cx} {W : WX} {x m : Str} {j : Nat} {p p2 pos pos' : Pos} (hm : X.mg x = some (.ref (He.ga X.K x))) (q : PySem.W.excIn X.K (He.ga X.K x) He.veBase "ValueError.__new__" = true) (kC : PySem.W.keepIn X.K (.ref (He.ga X.K x)) = true)
    (h1 : PySem.W.subIn X.K (.ref (He.ga X.K x)) (.type "BaseException") = some true) (h2 : PySem.W.typeIn X.K (.ref (He.ga X.K x)) = some (.type "type")) (tk : Takes X W) (hc : X.calm = true := by rfl) (hg : Gl X x := by rfl) (hdb : (x == ("__debug__" : Str)) = false := by decide) :
    PSd X W (.Raise (some (.Call (.Name x p) [.Constant (.str m) j p2] [] pos)) none pos') (sRaise0 x) := by
  refine ⟨_, ps_raise hc tk (pmk_own PySem.F.excBase_ValueError q hm kC (raises_own h1 h2) hg hdb), fun α F σ H δ S E hr hs h => ?_⟩
  have h' : wpS X.w X.K X.mg α F H (.err x [] δ S) E W := h
  have e : α ++ [] = α := List.append_nil α
  exact h' _ none σ H [] F (by rw [e]; exact hr) Stp.refl (by rw [e]; exact hs) ⟨hm, .inl ⟨rfl, rfl⟩⟩
end DL
set_option Elab.async false
set_option linter.all false
set_option maxRecDepth 100000
set_option maxHeartbeats 2000000
set_option autoImplicit false
/-! Exceptions whose class has an own __init__. -/
namespace DL
open PySem PySem.Spec PyProof.Rows L2
/-- the base class, whose __init__ is ValueError's -/
structure LeC (K : Fg) (L : Addr) : Prop where
  ga : PySem.W.specialIn K (.ref L) "__getattribute__" = some (some (.builtin "type.__getattribute__"))
  rd : PySem.W.readsIn K L (.type "type") = true
  fi : PySem.W.findCls K (.ref L) (.type "type") "__init__" = some (.val (.builtin "ValueError.__init__"))
end DL
set_option Elab.async false
set_option linter.all false
set_option maxRecDepth 100000
set_option maxHeartbeats 2000000
set_option autoImplicit false
/-! isinstance of what was caught, its fields; count and index of flat things; upper. -/
namespace L2
open PySem PySem.Spec PyProof.Rows DL
/-- isinstance(e, c), e tracked -/
def rIsX (K : Fg) : List V → Hp → VK → Prop := fun xs H Q => ∃ (a D : Addr) (d : Option Addr) (c : V) (cv : Value) (b : Bool), xs = [.ref a, c] ∧ H a = some (exh a (.ref D) d) ∧ (d = none ∨ ∃ dd ws, d = some dd ∧ H dd = some (.xd ws)) ∧ ExcC K D ∧ (∀ u, RelV c u → u = cv) ∧
  PySem.W.kitOne K (.ref D) cv = some b ∧ Q (.bl b) H
theorem inst_of {X : Cx} {pins : List (Addr × Obj)} {σ : List (Option V)} {H : Hp} {s : Shared} {a D : Addr} {d : Option Addr} (I : Inv X pins σ H s) (ha : H a = some (exh a (.ref D) d)) (hd : d = none ∨ ∃ dd ws, d = some dd ∧ H dd = some (.xd ws)) :
    ∃ ox od, PySem.W.InstAt s.heap a ox D od ∧ ∀ dd ws, d = some dd → H dd = some (.xd ws) → ∃ (o : Obj) (m : Str → Option Value), od = some o ∧ (∀ name, PySem.W.lookIn name o = some (m name)) ∧ ∀ f, RelO (ws.lookup f) (m f) := by
  have ok : ObjOk X.prog X.w H s.heap a (exh a (.ref D) d) := I.hok a _ ha
  obtain ⟨⟨ox, vs, at_, ⟨kind, dict⟩, flds⟩, _, _⟩ := ok
  have plain : PySem.W.notCls ox = true := by unfold PySem.W.notCls; rw [flds] <;> rfl
  rcases hd with rfl | ⟨dd, ws, rfl, hw⟩
  · exact ⟨ox, none, ⟨at_, kind, plain, by rw [dict]; trivial⟩, fun _ _ z => nomatch z⟩
  · have okd : ObjOk X.prog X.w H s.heap dd (.xd ws) := I.hok dd _ hw
    obtain ⟨m, ns, rel⟩ := okd
    obtain ⟨o, there, look⟩ := lookIn_ns ns
    refine ⟨ox, some o, ⟨at_, kind, plain, by rw [dict]; exact there⟩, fun d2 ws2 e2 hw2 => ?_⟩
    cases e2
    rw [hw] at hw2
    cases hw2
    exact ⟨o, m, rfl, look, rel⟩
theorem call_isX {X : Cx} : CallR X (.builtin "isinstance") (rIsX X.K) := by
  intro pins s σ H xs us Q I r h
  obtain ⟨a, D, d, c, cv, b, rfl, ha, hd, C, only, e, q⟩ := h
  cases r with
  | cons rx rr =>
    cases rr with
    | cons rt rr =>
      cases rr
      cases rx
      obtain rfl := only _ rt
      obtain ⟨ox, od, J, _⟩ := inst_of I ha hd
      have some_ : (PySem.W.clsIn X.K D).isSome = true := by
        obtain ⟨cd, hc, _⟩ := PySem.W.any_some C.hd
        rw [hc]
        rfl
      exact PySem.W.kia_one (PySem.W.kitx_exc some_ C.hg C.hk C.hs C.ha C.hn C.ht C.hm) I.kIn J e (fun z => nomatch z) fun tk => ⟨.bl b, H, I.kept (t' := tk) fun _ _ z => z, rfl, q⟩
end L2
namespace DL
open PySem PySem.Spec PyProof.Rows L2
def gIsiE (cl : List Str) : Sto → List D → Option D := fun _ ds => match ds with
  | [.exc c _, .fn x] => if decide (c ∈ cl) && decide (x ∈ cl) then some (.bl (subC c x)) else none
  | [.exc c _, .ty n] => if decide (c ∈ cl) && decide (n = "ValueError") then some (.bl true) else none
  | _ => none
section
variable {X : Cx} {W : WX} {wd : World} {K : Fg} {mg : Str → Option Value} {α : List Addr} {F H : Hp} {S : Sto} {cl : List Str}
theorem exc_at (T : Xcl K mg cl) (r : Rel wd K mg α F H S) {v : V} {c : Str} {fs : List (D × D)} (hc : c ∈ cl) (h : DV wd K mg F α v (.exc c fs)) :
    ∃ a d ws, v = .ref a ∧ H a = some (exh a (.ref (He.ga K c)) d) ∧ (d = none ∨ ∃ dd ws, d = some dd ∧ H dd = some (.xd ws)) ∧ (d = none → fs = []) ∧ (∀ dd, d = some dd → H dd = some (.xd ws)) ∧ fs.map (·.1) = ws.map (fun p => .str p.1) ∧ DVs wd K mg F α (ws.map (·.2)) (fs.map (·.2)) := by
  cases h with
  | exc h1 h2 h3 h4 h5 =>
    rename_i C a d ws
    have e := T.at_ c hc
    rw [h1] at e
    have e2 : C = He.ga K c := Value.ref.inj (Option.some.inj e)
    subst e2
    refine ⟨a, d, ws, rfl, r.sub _ _ h2, ?_, ?_, ?_, h4, h5⟩
    · rcases h3 with ⟨e, _⟩ | ⟨dd, e, q⟩
      · exact .inl e
      · exact .inr ⟨dd, ws, e, r.sub _ _ q⟩
    · intro e
      rcases h3 with ⟨_, ew⟩ | ⟨dd, e2, _⟩
      · rw [ew] at h4
        exact List.map_eq_nil_iff.mp h4
      · rw [e] at e2; cases e2
    · intro dd e
      rcases h3 with ⟨e2, _⟩ | ⟨d2, e2, q⟩
      · rw [e] at e2; cases e2
      · rw [e] at e2; cases e2; exact r.sub _ _ q
theorem b_isiE (T : Xcl X.K X.mg cl) : BiG X (.builtin "isinstance") (gIsiE cl) := by
  refine ⟨_, call_isX, fun α F H S xs ds z Q hr hv hz q => ?_⟩
  unfold gIsiE at hz
  split at hz
  · rename_i c fs x
    split at hz
    · rename_i hm
      rw [Bool.and_eq_true, decide_eq_true_eq, decide_eq_true_eq] at hm
      cases hz
      cases hv with
      | cons h1 h2 =>
        cases h2 with
        | cons h3 h4 =>
          cases h4
          obtain ⟨a, d, ws, rfl, ha, hd, _⟩ := exc_at T hr hm.1 h1
          cases h3 with
          | fn hx =>
            have e := T.at_ x hm.2
            rw [hx] at e
            have e2 := Value.ref.inj (Option.some.inj e)
            subst e2
            exact ⟨a, _, d, _, .ref (He.ga X.K x), _, rfl, ha, hd, T.ec c hm.1, fun u r => r, T.is_ c hm.1 x hm.2, fin_now hr (.bl _) q⟩
    · cases hz
  · rename_i c fs n
    split at hz
    · rename_i hm
      rw [Bool.and_eq_true, decide_eq_true_eq, decide_eq_true_eq] at hm
      cases hz
      obtain ⟨hc, rfl⟩ := hm
      cases hv with
      | cons h1 h2 =>
        cases h2 with
        | cons h3 h4 =>
          cases h4
          obtain ⟨a, d, ws, rfl, ha, hd, _⟩ := exc_at T hr hc h1
          cases h3
          exact ⟨a, _, d, _, .type "ValueError", _, rfl, ha, hd, T.ec c hc, fun u r => r, T.isV c hc, fin_now hr (.bl _) q⟩
    · cases hz
  · cases hz
theorem pd_cls {x : Str} {a : Addr} {pos : Pos} (hm : X.mg x = some (.ref a)) (hg : Gl X x := by rfl) (hd : (x == ("__debug__" : Str)) = false := by decide) : PD X W (.Name x pos) (rC (.fn x)) := pd_c (v := .ref a) (pe_glob hg hm rfl hd) fun _ _ => .fn hm
end
end DL
set_option Elab.async false
set_option linter.all false
set_option maxRecDepth 100000
set_option maxHeartbeats 2000000
set_option autoImplicit false
/-! What the head shows of the exception classes; except clauses without a name. -/
namespace DL
open PySem PySem.Spec PyProof.Rows L2
theorem bv_ValueError : bootBuiltins "ValueError" = some (.type "ValueError") := by decide +kernel
theorem Env1.tr {X : Cx} {k : Nat} (h : Env1 X k) (pn : List (Addr × Obj)) (xe : Value → Shared → Prop) (p : PassesOwn (model X.prog X.w) X.A X.env xe) : Env1 (X.tr pn xe) k := ⟨h.room, h.gu, p⟩
/-! ### except C: suite -/
/-! ### checks -/
def flds : List Str := ["row", "word", "boxes", "what", "place"]
def ecB (K : Fg) (D : Addr) : Bool := decide (PySem.W.findIn K (.ref D) "__getattribute__" = some (some (.builtin "BaseException.__getattribute__"))) && (decide (PySem.W.findIn K (.ref D) "__getattr__" = some none) && (decide (PySem.W.subIn K (.ref D) (.type "BaseException") = some true) &&
  (PySem.W.hasDictIn K D && (decide (PySem.W.findIn K (.ref D) "__class__" = some (some (.builtin "object.__class__"))) && (decide (PySem.W.specialIn K (.builtin "object.__class__") "__get__" = some (some (.builtin "getset_descriptor.__get__"))) &&
  (decide (PySem.W.takesIn K (.builtin "object.__class__") = some true) && decide (PySem.W.mroIn K D (.type "object") = some true)))))))
theorem both {a b : Bool} (h : (a && b) = true) : a = true ∧ b = true := Bool.and_eq_true_iff.mp h
theorem ecB_ok {K : Fg} {D : Addr} (h : ecB K D = true) : ExcC K D := by
  obtain ⟨h1, h⟩ := both h
  obtain ⟨h2, h⟩ := both h
  obtain ⟨h3, h⟩ := both h
  obtain ⟨h4, h⟩ := both h
  obtain ⟨h5, h⟩ := both h
  obtain ⟨h6, h⟩ := both h
  obtain ⟨h7, h8⟩ := both h
  exact ⟨of_decide_eq_true h1, of_decide_eq_true h2, of_decide_eq_true h3, h4, of_decide_eq_true h5, of_decide_eq_true h6, of_decide_eq_true h7, of_decide_eq_true h8⟩
def pairB (K : Fg) (c x : Str) : Bool := decide (PySem.W.exmOne K (.ref (He.ga K c)) (.ref (He.ga K x)) = some (subC c x)) && decide (PySem.W.kitOne K (.ref (He.ga K c)) (.ref (He.ga K x)) = some (subC c x))
def oneB (K : Fg) (c : Str) : Bool := decide (PySem.W.nsIn K mainGlobals c = some (some (.ref (He.ga K c)))) && (decide (PySem.W.kitOne K (.ref (He.ga K c)) (.type "ValueError") = some true) && (ecB K (He.ga K c) && (xfB K (He.ga K c) && (decide (PySem.W.typeIn K (.ref (He.ga K c)) = some (.type "type")) &&
  flds.all fun f => decide (PySem.W.findIn K (.ref (He.ga K c)) f = some none)))))
def clsB (K : Fg) (cl : List Str) : Bool := (cl.all (oneB K)) && cl.all fun c => cl.all fun x => pairB K c x
theorem clsB_ok {K : Fg} {h : Heap} {mg : Str → Option Value} {cl : List Str} (X : K.In h) (G : h.Ns mainGlobals mg) (c : clsB K cl = true) : Xcl K mg cl ∧ ∀ f ∈ flds, ∀ c ∈ cl, PySem.W.findIn K (.ref (He.ga K c)) f = some none := by
  obtain ⟨a1, a2⟩ := both c
  have one : ∀ c ∈ cl, oneB K c = true := List.all_eq_true.mp a1
  have pair : ∀ c ∈ cl, ∀ x ∈ cl, pairB K c x = true := fun c hc => List.all_eq_true.mp (List.all_eq_true.mp a2 c hc)
  refine ⟨⟨fun c hc => ?_, fun c hc x hx => ?_, fun c hc x hx => ?_, fun c hc => ?_, fun c hc => ?_, fun c hc => ?_, fun c hc => ?_⟩, fun f hf c hc => ?_⟩
  · exact PySem.W.mg_of X G (of_decide_eq_true (both (one c hc)).1)
  · exact of_decide_eq_true (both (pair c hc x hx)).1
  · exact of_decide_eq_true (both (pair c hc x hx)).2
  · exact of_decide_eq_true (both (both (one c hc)).2).1
  · exact ecB_ok (both (both (both (one c hc)).2).2).1
  · exact xfB_ok (both (both (both (both (one c hc)).2).2).2).1
  · exact of_decide_eq_true (both (both (both (both (both (one c hc)).2).2).2).2).1
  · exact of_decide_eq_true (List.all_eq_true.mp (both (both (both (both (both (one c hc)).2).2).2).2).2 f hf)
def oexB (K : Fg) (C : Addr) : Bool := (match K.lookup C with
  | some ⟨.type "type", _, .cls cd, sl⟩ => (match cd.mro, sl.toList with
    | .ref D :: bm, [_, _, _, _, some (.builtin n), _] => decide (D = C) && (decide (n = "ValueError.__new__") && (!cd.hasDel && (cd.hasDict && PySem.HandSPX.refsVE bm)))
    | _, _ => false)
  | _ => false) && (decide (PySem.W.findIn K (.ref C) "__setattr__" = some (some (.builtin "object.__setattr__"))) && (decide (PySem.W.subIn K (.ref C) (.type "BaseException") = some true) && (decide (PySem.W.typeIn K (.ref C) = some (.type "type")) && PySem.W.keepIn K (.ref C))))
def leB (K : Fg) : Bool := decide (PySem.W.nsIn K mainGlobals "LoopError" = some (some (.ref (He.ga K "LoopError")))) && (decide (PySem.W.specialIn K (.ref (He.ga K "LoopError")) "__getattribute__" = some (some (.builtin "type.__getattribute__"))) &&
  (PySem.W.readsIn K (He.ga K "LoopError") (.type "type") && (match PySem.W.findCls K (.ref (He.ga K "LoopError")) (.type "type") "__init__" with
  | some (.val v) => decide (v = .builtin "ValueError.__init__")
  | _ => false)))
theorem leB_ok {K : Fg} {h : Heap} {mg : Str → Option Value} (X : K.In h) (G : h.Ns mainGlobals mg) (c : leB K = true) : LeC K (He.ga K "LoopError") ∧ mg "LoopError" = some (.ref (He.ga K "LoopError")) := by
  obtain ⟨h0, c⟩ := both c
  obtain ⟨h1, c⟩ := both c
  obtain ⟨h2, h3⟩ := both c
  refine ⟨⟨of_decide_eq_true h1, h2, ?_⟩, PySem.W.mg_of X G (of_decide_eq_true h0)⟩
  split at h3
  · rename_i v e
    rw [e, of_decide_eq_true h3]
  · cases h3
/-- a raised class without an __init__ of its own -/
structure R0 (K : Fg) (mg : Str → Option Value) (c : Str) : Prop where
  at_ : mg c = some (.ref (He.ga K c))
  ex : PySem.W.excIn K (He.ga K c) He.veBase "ValueError.__new__" = true
  kp : PySem.W.keepIn K (.ref (He.ga K c)) = true
  sub : PySem.W.subIn K (.ref (He.ga K c)) (.type "BaseException") = some true
  ty : PySem.W.typeIn K (.ref (He.ga K c)) = some (.type "type")
theorem psd_raiseC {X : Cx} {W : WX} {x m : Str} {j : Nat} {p p2 pos pos' : Pos} (R : R0 X.K X.mg x) (tk : Takes X W) (hc : X.calm = true := by rfl) (hg : Gl X x := by rfl) (hdb : (x == ("__debug__" : Str)) = false := by decide) :
    PSd X W (.Raise (some (.Call (.Name x p) [.Constant (.str m) j p2] [] pos)) none pos') (sRaise0 x) := psd_raise0 R.at_ R.ex R.kp R.sub R.ty tk hc hg hdb
/-! ### the head's hook -/
def raB (K : Fg) (c : Str) : Bool := (He.Fa.exc c).ok K && decide (PySem.W.nsIn K mainGlobals c = some (some (.ref (He.ga K c))))
theorem raB_ok {K : Fg} {h : Heap} {mg : Str → Option Value} {c : Str} (X : K.In h) (G : h.Ns mainGlobals mg) (e : raB K c = true) : R0 K mg c := by
  obtain ⟨h1, h2⟩ := both e
  obtain ⟨g1, g2, g3, g4⟩ := He.exc_ok h1
  exact ⟨PySem.W.mg_of X G (of_decide_eq_true h2), g1, g2, g3, g4⟩
def inB (K : Fg) (c : Str) : Bool := oexB K (He.ga K c) && ((He.Fa.meth c "__init__").ok K && (decide (PySem.W.typeIn K (.ref (He.ma K (He.ga K c) "__init__")) = some (.type "function")) && oneB K c))
structure Xh where
  cl : List Str
  r0 : List Str
  rn : List Str
def xhB (xh : Xh) (K : Fg) : Bool := clsB K xh.cl && (leB K && (xh.r0.all (raB K) && xh.rn.all (inB K)))
def obsX (fa : List He.Fa) (fn : List He.DefD) (li : List (Str × D)) (xh : Xh) (K : Fg) : He.AlD := (digB K && (xhB xh K && (li.all (litF K) && (He.obsD fa fn K).1)), (He.obsD fa fn K).2)
def SaysX (fa : List He.Fa) (fn : List He.DefD) (li : List (Str × D)) (xh : Xh) (K : Fg) : Prop := obsX fa fn li xh K = He.valD fn
def obsXG (n : Nat) (fa : List He.Fa) (fn : List He.DefD) (li : List (Str × D)) (xh : Xh) (g : Addr → Option Obj) : He.AlD := obsX fa fn li xh (He.frG g (He.asD g n ++ [cStatics]))
def hookX (n : Nat) (fa : List He.Fa) (fn : List He.DefD) (li : List (Str × D)) (xh : Xh) : PySem.W.Hook where
  α := He.AlD
  obs := fun s => obsXG n fa fn li xh s.heap.get?
  val := fun _ => He.valD fn
  says := fun _ h => ∃ K : Fg, K.In h ∧ SaysX fa fn li xh K
  of := fun _ _ e => ⟨_, He.frG_in, e⟩
  keeps := fun _ _ _ ⟨K, hK, c⟩ k => ⟨K, PySem.W.Frag.In.keeps hK k, c⟩
theorem obsXG_eq {n : Nat} {fa : List He.Fa} {fn : List He.DefD} {li : List (Str × D)} {xh : Xh} {g : Addr → Option Obj} {s : Shared} (h : ∀ a, g a = s.heap.get? a) : obsXG n fa fn li xh g = (hookX n fa fn li xh).obs s := by
  have e : g = s.heap.get? := funext h
  rw [e] <;> rfl
theorem SaysX.all {fa : List He.Fa} {fn : List He.DefD} {li : List (Str × D)} {xh : Xh} {K : Fg} (h : SaysX fa fn li xh K) : He.SaysD fa fn K ∧ NoDig K ∧ (∀ (i : Nat) (p : Str × D), li[i]? = some p → litF K p = true) ∧ xhB xh K = true := by
  have h0 : obsX fa fn li xh K = He.valD fn := h
  have h1 : (digB K && (xhB xh K && (li.all (litF K) && (He.obsD fa fn K).1))) = true := congrArg (fun z : He.AlD => z.1) h0
  have h2 : (obsX fa fn li xh K).2 = (He.valD fn).2 := congrArg (fun z : He.AlD => z.2) h0
  obtain ⟨g1, h1⟩ := both h1
  obtain ⟨g2, h1⟩ := both h1
  obtain ⟨g3, g4⟩ := both h1
  refine ⟨?_, ?_, fun i p hp => List.all_eq_true.mp g3 p (List.mem_of_getElem? hp), g2⟩
  · show He.obsD fa fn K = He.valD fn
    exact Prod.ext g4 h2
  · unfold digB at g1
    unfold NoDig
    exact of_decide_eq_true g1
end DL
set_option Elab.async false
set_option linter.all false
set_option maxRecDepth 100000
set_option maxHeartbeats 1000000
set_option autoImplicit false
/-! Results that may be refusals: plain. -/
namespace DL
open PySem L2
abbrev EP := Str → List (Str × D) → Sto → Prop
def Res.pe {A : Type} (r : Res A) (Q : A → Sto → Prop) (P : EP) : Prop := match r with
  | .ok a S => Q a S
  | .err c fs S => P c fs S
  | .stuck => False
def Out.pe (o : Out) (N : Sl → Sto → Prop) (T : D → Sto → Prop) (P : EP) : Prop := match o with
  | .nx δ S => N δ S
  | .rt d S => T d S
  | .err c fs _ S => P c fs S
  | _ => False
section
variable {A B : Type} {δ : Sl} {S : Sto} {Q : A → Sto → Prop} {QD : D → Sto → Prop} {QL : List D → Sto → Prop} {N : Sl → Sto → Prop} {T : D → Sto → Prop} {P : EP}
theorem Res.post.pe {r : Res A} (h : r.post Q) : r.pe Q P := by
  cases r with
  | ok a S => exact h
  | err c fs S => exact h.elim
  | stuck => exact h.elim
theorem Out.post.pe {o : Out} (h : o.post N T NoS NoS) : o.pe N T P := by
  cases o with
  | nx δ S => exact h
  | rt d S => exact h
  | bk δ S => exact h.elim
  | ct δ S => exact h.elim
  | err c fs δ S => exact h.elim
  | stuck => exact h.elim
theorem Res.pe.mono {r : Res A} {Q1 : A → Sto → Prop} {P1 : EP} (h : r.pe Q1 P1) (k : ∀ a S, Q1 a S → Q a S) (k2 : ∀ c fs S, P1 c fs S → P c fs S) : r.pe Q P := by
  cases r with
  | ok a S => exact k _ _ h
  | err c fs S => exact k2 _ _ _ h
  | stuck => exact h.elim
theorem Out.pe.mono {o : Out} {N1 : Sl → Sto → Prop} {T1 : D → Sto → Prop} {P1 : EP} (h : o.pe N1 T1 P1) (k : ∀ δ S, N1 δ S → N δ S) (k1 : ∀ d S, T1 d S → T d S) (k2 : ∀ c fs S, P1 c fs S → P c fs S) : o.pe N T P := by
  cases o with
  | nx δ S => exact k _ _ h
  | rt d S => exact k1 _ _ h
  | bk δ S => exact h.elim
  | ct δ S => exact h.elim
  | err c fs δ S => exact k2 _ _ _ h
  | stuck => exact h.elim
theorem Res.pe.bind {r : Res A} {f : A → Sto → Res B} {Q' : B → Sto → Prop} (h : r.pe (fun a S1 => (f a S1).pe Q' P) P) : (r.bind f).pe Q' P := by
  cases r with
  | ok a S => exact h
  | err c fs S => exact h
  | stuck => exact h.elim
theorem Res.pe.out {r : Res A} {f : A → Sto → Out} (h : r.pe (fun a S1 => (f a S1).pe N T P) P) : (r.out δ f).pe N T P := by
  cases r with
  | ok a S => exact h
  | err c fs S => exact h
  | stuck => exact h.elim
theorem e_seq {a b : RS} (h : (a δ S).pe (fun δ1 S1 => (b δ1 S1).pe N T P) T P) : (sSeq a b δ S).pe N T P := by
  unfold sSeq
  cases q : a δ S with
  | nx δ1 S1 => rw [q] at h; exact h
  | rt d S1 => rw [q] at h; exact h
  | bk δ1 S1 => rw [q] at h; exact h.elim
  | ct δ1 S1 => rw [q] at h; exact h.elim
  | err c fs δ1 S1 => rw [q] at h; exact h
  | stuck => rw [q] at h; exact h.elim
theorem e_if {c : RB} {a b : RS} (h : (c δ S).post fun k S1 => (k = true → (a δ S1).pe N T P) ∧ (k = false → (b δ S1).pe N T P)) : (sIf c a b δ S).pe N T P := Res.pe.out ((h.mono fun k S1 q => by
  cases k with
  | true => exact q.1 rfl
  | false => exact q.2 rfl).pe)
theorem e_asg {e : RE} {g : RG} (h : (e δ S).pe (fun d S1 => (g d δ S1).post fun δ1 S2 => N δ1 S2) P) : (sAsg e g δ S).pe N T P := Res.pe.out (h.mono (fun _ _ q => Res.pe.out (q.mono fun _ _ z => z).pe) fun _ _ _ z => z)
theorem e_call {m : Mir} {a : RA} (h : (a δ S).post fun xs S1 => (m xs S1).pe QD P) : (rCall m a δ S).pe QD P := Res.pe.bind h.pe
/-- a def -/
theorem m_defE {n : Nat} {b : RS} {ds : List D} {R : D → Prop} {P1 : Str → List (Str × D) → Prop} (hS : closedL S.length S = true)
    (h : (b (ds.map some ++ List.replicate (n - ds.length) none) S).pe NoS (fun z S1 => D.closed S.length z = true ∧ S1.take S.length = S ∧ R z) (fun c fs S1 => closedL S.length (fs.map (·.2)) = true ∧ S1.take S.length = S ∧ P1 c fs)) :
    (mDef n b ds S).pe (fun z S' => R z ∧ S' = S) (fun c fs S' => P1 c fs ∧ S' = S) := by
  unfold mDef
  cases q : b (ds.map some ++ List.replicate (n - ds.length) none) S with
  | rt d S1 =>
    rw [q] at h
    obtain ⟨h1, h2, h3⟩ := h
    dsimp only
    rw [h1, h2, hS]
    exact ⟨h3, rfl⟩
  | err c fs δ1 S1 =>
    rw [q] at h
    obtain ⟨h1, h2, h3⟩ := h
    dsimp only
    rw [h1, h2, hS]
    exact ⟨h3, rfl⟩
  | nx δ1 S1 => rw [q] at h; exact h.elim
  | bk δ1 S1 => rw [q] at h; exact h.elim
  | ct δ1 S1 => rw [q] at h; exact h.elim
  | stuck => rw [q] at h; exact h.elim
end
end DL
set_option Elab.async false
set_option linter.all false
set_option maxRecDepth 100000
set_option maxHeartbeats 1000000
set_option autoImplicit false
/-! A made list that is told once stands for good. -/
namespace DL
open PySem PySem.Spec PyProof.Rows L2
end DL
set_option Elab.async false
set_option linter.all false
set_option maxRecDepth 100000
set_option maxHeartbeats 2000000
set_option autoImplicit false
/-! isinstance of what was caught with a tuple of the program's classes. -/
namespace L2
open PySem PySem.Spec PyProof.Rows DL
def rIsXT (K : Fg) : List V → Hp → VK → Prop := fun xs H Q => ∃ (a D tp : Addr) (d : Option Addr) (cs : List V) (us : List Value) (b : Bool), xs = [.ref a, .ref tp] ∧ H a = some (exh a (.ref D) d) ∧ (d = none ∨ ∃ dd ws, d = some dd ∧ H dd = some (.xd ws)) ∧ ExcC K D ∧
  SqT K H tp cs ∧ Paired ClsV cs us ∧ PySem.W.kitAny K (.ref D) us = some b ∧ Q (.bl b) H
theorem call_isXT {X : Cx} : CallR X (.builtin "isinstance") (rIsXT X.K) := by
  intro pins s σ H xs us Q I r h
  obtain ⟨a, D, tp, d, cs, ws, b, rfl, ha, hd, C, hT, k, e, q⟩ := h
  obtain ⟨u1, u2, rfl, r1, r2⟩ := vals2 r
  cases r1
  cases r2
  obtain ⟨ox, od, J, _⟩ := inst_of I ha hd
  have some_ : (PySem.W.clsIn X.K D).isSome = true := by
    obtain ⟨cd, hc, _⟩ := PySem.W.any_some C.hd
    rw [hc]
    rfl
  obtain ⟨its, rv, ⟨o, h1, h2, n, h3⟩, _⟩ := I.tuple hT
  have e3 := ClsV.all k rv
  subst e3
  obtain ⟨c1, d1, dt, sl⟩ := o
  dsimp only at h2 h3
  subst h2 h3
  exact PySem.W.kia_tup (PySem.W.kitx_exc some_ C.hg C.hk C.hs C.ha C.hn C.ht C.hm) I.kIn J h1 e (fun z => nomatch z) fun tk => ⟨.bl b, H, I.kept (t' := tk) fun _ _ z => z, rfl, q⟩
end L2
namespace DL
open PySem PySem.Spec PyProof.Rows L2
def fnsOf (cl : List Str) : List D → Option (List Str)
  | [] => some []
  | .fn x :: r => if decide (x ∈ cl) then (fnsOf cl r).map (x :: ·) else none
  | _ :: _ => none
def gIsiTE (cl : List Str) : Sto → List D → Option D := fun _ ds => match ds with
  | [.exc c _, .tup ts] => if decide (c ∈ cl) then (fnsOf cl ts).map fun xs => .bl (xs.any (subC c)) else none
  | _ => none
section
variable {X : Cx} {wd : World} {K : Fg} {mg : Str → Option Value} {α : List Addr} {F H : Hp} {S : Sto} {cl : List Str}
theorem fns_cls (T : Xcl K mg cl) {c : Str} (hc : c ∈ cl) : ∀ {ts : List D} {xs : List Str} {cs : List V}, fnsOf cl ts = some xs → DVs wd K mg F α cs ts → ∃ us, Paired ClsV cs us ∧ PySem.W.kitAny K (.ref (He.ga K c)) us = some (xs.any (subC c))
  | [], _, _, e, h => by cases e; cases h; exact ⟨[], .nil, kitAny_nil⟩
  | .fn x :: r, xs, _, e, h => by
    unfold fnsOf at e
    split at e
    · rename_i hx
      have hx := of_decide_eq_true hx
      cases q : fnsOf cl r with
      | none => rw [q] at e; cases e
      | some ys =>
        rw [q] at e
        cases e
        cases h with
        | cons h1 h2 =>
          cases h1 with
          | fn hm =>
            have e1 := T.at_ x hx
            rw [hm] at e1
            have e2 := Value.ref.inj (Option.some.inj e1)
            subst e2
            obtain ⟨us, p, k⟩ := fns_cls T hc q h2
            refine ⟨_, .cons (.own _) p, kitAny_cons (T.is_ c hc x hx) (fun z => ?_) fun z => ?_⟩
            · rw [List.any_cons, z, Bool.false_or]; exact k
            · rw [List.any_cons, z, Bool.true_or]
    · cases e
  | .non :: _, _, _, e, _ => by cases e
  | .bl _ :: _, _, _, e, _ => by cases e
  | .int _ :: _, _, _, e, _ => by cases e
  | .str _ :: _, _, _, e, _ => by cases e
  | .tup _ :: _, _, _, e, _ => by cases e
  | .lst _ :: _, _, _, e, _ => by cases e
  | .dct _ :: _, _, _, e, _ => by cases e
  | .dcn _ :: _, _, _, e, _ => by cases e
  | .ptr _ :: _, _, _, e, _ => by cases e
  | .ty _ :: _, _, _, e, _ => by cases e
  | .lck _ :: _, _, _, e, _ => by cases e
  | .tux _ :: _, _, _, e, _ => by cases e
  | .exc _ _ :: _, _, _, e, _ => by cases e
theorem b_isiTE (T : Xcl X.K X.mg cl) : BiG X (.builtin "isinstance") (gIsiTE cl) := by
  refine ⟨_, call_isXT, fun α F H S xs ds z Q hr hv hz q => ?_⟩
  unfold gIsiTE at hz
  split at hz
  · rename_i c fs ts
    split at hz
    · rename_i hm
      have hm := of_decide_eq_true hm
      cases e : fnsOf cl ts with
      | none => rw [e] at hz; cases hz
      | some ys =>
        rw [e] at hz
        cases hz
        cases hv with
        | cons h1 h2 =>
          cases h2 with
          | cons h3 h4 =>
            cases h4
            obtain ⟨a, d, ws, rfl, ha, hd, _⟩ := exc_at T hr hm h1
            cases h3 with
            | tup g1 g2 =>
              obtain ⟨us, p, k⟩ := fns_cls T hm e g2
              exact ⟨a, _, _, d, _, us, _, rfl, ha, hd, T.ec c hm, hr.sub.sqT g1.1, p, k, fin_now hr (.bl _) q⟩
    · cases hz
  · cases hz
end
end DL
set_option Elab.async false
set_option linter.all false
set_option maxRecDepth 100000
set_option maxHeartbeats 0
set_option autoImplicit false
namespace DL
open PySem L2
abbrev clX : List Str := ["LoopError", "BadRow", "BadLoop", "Hindered", "BadPaper", "TooGreat", "BadQuestion", "OutOfPlace"]
def fuel_common_divisor_0 : Sl → Sto → Nat := fun δ _ => natAt δ 1 + 1
def b_common_divisor : RS := (sSeq (sPar 0 1 (rCons (rAs gAbs (rCons (rVar 0) rNil)) (rCons (rAs gAbs (rCons (rVar 1) rNil)) rNil)))
    (sSeq (sWhile fuel_common_divisor_0 (bVal (rBin gGtU (rVar 1) (rC (.int 0)))) (sPar 0 1 (rCons (rVar 1) (rCons (rBin gMod (rVar 0) (rVar 1)) rNil))))
    (sRet (rVar 0))))
def m_common_divisor : Mir := mDef 2 b_common_divisor
def b_fraction : RS := (sSeq (sAsg (rBin gMul (rCall m_common_divisor (rCons (rVar 0) (rCons (rVar 1) rNil))) (rIf (bVal (rBin gGtU (rVar 1) (rC (.int 0)))) (rC (.int 1)) (rUn gNeg (rC (.int 1))))) (gName 2))
    (sRet (rTup (rCons (rBin gDiv (rVar 0) (rVar 2)) (rCons (rBin gDiv (rVar 1) (rVar 2)) rNil)))))
def m_fraction : Mir := mDef 3 b_fraction
def b_times : RS := (sRet (rCall m_fraction (rCons (rBin gMul (rBin gIx (rVar 0) (rC (.int 0))) (rBin gIx (rVar 1) (rC (.int 0)))) (rCons (rBin gMul (rBin gIx (rVar 0) (rC (.int 1))) (rBin gIx (rVar 1) (rC (.int 1)))) rNil))))
def m_times : Mir := mDef 2 b_times
def b_over : RS := (sRet (rCall m_fraction (rCons (rBin gMul (rBin gIx (rVar 0) (rC (.int 0))) (rBin gIx (rVar 1) (rC (.int 1)))) (rCons (rBin gMul (rBin gIx (rVar 0) (rC (.int 1))) (rBin gIx (rVar 1) (rC (.int 0)))) rNil))))
def m_over : Mir := mDef 2 b_over
def b_is_small : RS := (sRet (rChain gLeU gLeU (rBin gSub (rC (.int 0)) (rC (.int 10000000000000000000000000000000000000000000000000000000000000000000000000000000000000000000000000000000000000000000000000000000000000000000000000000000000000000000000000000000000000000000000000000000000000000000000000000000000000000000000000000000000000000000000000000000000000000000000000000000000000000000000000000000000000000000000000000000000000000000000000000000000000000000000000000000000000000000000000000000000000000000000000000000000000000000000000000000000000000000000000000000000000000000000000000000000000000000000000000000000000000000000000000000000000000000000000000000000000000000000000000000000000000000000000000000000000000000000000000000000000000000000000000000000000000000000000000000000000000000000000000000000000000000000000000000000000000000000000000000000000000000000000000000000000000000000000000000000000000000000000000000000000000000000000000000000000000000000000000000000000000000000000000000000000000000000000000000000000000000000000000000000000000000000000000000000000000))) (rVar 0) (rC (.int 10000000000000000000000000000000000000000000000000000000000000000000000000000000000000000000000000000000000000000000000000000000000000000000000000000000000000000000000000000000000000000000000000000000000000000000000000000000000000000000000000000000000000000000000000000000000000000000000000000000000000000000000000000000000000000000000000000000000000000000000000000000000000000000000000000000000000000000000000000000000000000000000000000000000000000000000000000000000000000000000000000000000000000000000000000000000000000000000000000000000000000000000000000000000000000000000000000000000000000000000000000000000000000000000000000000000000000000000000000000000000000000000000000000000000000000000000000000000000000000000000000000000000000000000000000000000000000000000000000000000000000000000000000000000000000000000000000000000000000000000000000000000000000000000000000000000000000000000000000000000000000000000000000000000000000000000000000000000000000000000000000000000000000000000000000000000000000))))
def m_is_small : Mir := mDef 1 b_is_small
def b_pairs_of : RS := (sSeq (sLock 0 (sAsg (rAs gTuple (rCons (rKeep (rAs gSorted (rCons (rKeep (rLc (rItems (rVar 0)) (gTup (gCons (gName 2) (gCons (gName 3) gNil))) [2, 3] (bVal (rBin gNe (rVar 3) (rC (.tup [(.int 0), (.int 1)])))) (rTup (rCons (rVar 2) (rCons (rVar 3) rNil))))) rNil))) rNil)) (gName 1)))
    (sSeq (sIf (bOr (bVal (rBin gGtU (rAs gLen (rCons (rVar 1) rNil)) (rC (.int 1000)))) (bNot (bTru (rAs gAll (rCons (rKeep (rLc (rSeq (rVar 1)) (gTup (gCons (gName 2) (gCons (gName 3) gNil))) [2, 3] bYes (rAnd (rCall m_is_small (rCons (rBin gIx (rVar 3) (rC (.int 0))) rNil)) (rCall m_is_small (rCons (rBin gIx (rVar 3) (rC (.int 1))) rNil))))) rNil))))) (sRaise0 "TooGreat") sNext)
    (sRet (rVar 1))))
def m_pairs_of : Mir := mDef 4 b_pairs_of
def b_form_of : RS := (sSeq (sAsg (rCall m_pairs_of (rCons (rVar 0) rNil)) (gName 1))
    (sSeq (sIf (bNot (bTru (rAs gAll (rCons (rKeep (rLc (rSeq (rVar 1)) (gTup (gCons (gName 2) (gCons (gName 3) gNil))) [2, 3] bYes (rAnd (rBin gLeU (rBin gIx (rVar 2) (rC (.int 1))) (rC (.int 99))) (rCall m_is_small (rCons (rBin gIx (rVar 2) (rC (.int 2))) rNil))))) rNil)))) (sRaise0 "TooGreat") sNext)
    (sRet (rVar 1))))
def m_form_of : Mir := mDef 4 b_form_of
def b_plus : RS := (sRet (rCall m_fraction (rCons (rBin gAdd (rBin gMul (rBin gIx (rVar 0) (rC (.int 0))) (rBin gIx (rVar 1) (rC (.int 1)))) (rBin gMul (rBin gIx (rVar 1) (rC (.int 0))) (rBin gIx (rVar 0) (rC (.int 1))))) (rCons (rBin gMul (rBin gIx (rVar 0) (rC (.int 1))) (rBin gIx (rVar 1) (rC (.int 1)))) rNil))))
def m_plus : Mir := mDef 2 b_plus
def b_added : RS := (sPutU (rVar 0) (rVar 1) (rCall m_plus (rCons (rGet2 (rVar 0) (rVar 1) (rC (.tup [(.int 0), (.int 1)]))) (rCons (rVar 2) rNil))))
def m_added : Mir := mDef 3 b_added
def b_plain_form : RS := (sRet (rCall m_form_of (rCons (rOwn (rAs gDict (rCons (rKeep (rLc (rSeq (rVar 0)) (gTup (gCons (gName 3) (gCons (gName 4) gNil))) [3, 4] bYes (rTup (rCons (rTup (rCons (rVar 3) (rCons (rVar 1) (rCons (rVar 2) rNil)))) (rCons (rVar 4) rNil))))) rNil))) rNil)))
def m_plain_form : Mir := mDef 5 b_plain_form
def b_summed : RS := (sSeq (sAsg (rOwn (rAs gDict (rCons (rVar 0) rNil))) (gName 2))
    (sSeq (sFor (rSeq (rVar 1)) (gTup (gCons (gName 3) (gCons (gName 4) gNil))) (sExpr (rCall m_added (rCons (rVar 2) (rCons (rVar 3) (rCons (rVar 4) rNil))))))
    (sRet (rVar 2))))
def m_summed : Mir := mDefK 5 b_summed
def b_form_sum : RS := (sRet (rCall m_form_of (rCons (rCall m_summed (rCons (rVar 0) (rCons (rVar 1) rNil))) rNil)))
def m_form_sum : Mir := mDef 2 b_form_sum
def b_choose : RS := (sSeq (sIf (bVal (rBin gGtU (rVar 1) (rVar 0))) (sRet (rC (.int 0))) sNext)
    (sSeq (sAsg (rC (.int 1)) (gName 2))
    (sSeq (sFor (rRange (rCons (rVar 1) rNil)) (gName 3) (sAsg (rBin gDiv (rBin gMul (rVar 2) (rBin gSub (rVar 0) (rVar 3))) (rBin gAdd (rVar 3) (rC (.int 1)))) (gName 2)))
    (sRet (rVar 2)))))
def m_choose : Mir := mDef 4 b_choose
def fuel_raised_0 : Sl → Sto → Nat := fun δ _ => natAt δ 3 + 1
def b_raised : RS := (sSeq (sAsg (rC (.int 1)) (gName 2))
    (sSeq (sAsg (rVar 1) (gName 3))
    (sSeq (sWhile fuel_raised_0 (bVal (rBin gGtU (rVar 3) (rC (.int 0)))) (sSeq (sIf (bVal (rBin gEq (rBin gMod (rVar 3) (rC (.int 2))) (rC (.int 1)))) (sAsg (rBin gMul (rVar 2) (rVar 0)) (gName 2)) sNext)
    (sSeq (sAsg (rBin gDiv (rVar 3) (rC (.int 2))) (gName 3))
    (sAsg (rIf (bVal (rBin gGtU (rVar 3) (rC (.int 0)))) (rBin gMul (rVar 0) (rVar 0)) (rVar 0)) (gName 0)))))
    (sRet (rVar 2)))))
def m_raised : Mir := mDef 4 b_raised
def b_term_at : RS := (sRet (rIf (bVal (rBin gGeU (rVar 2) (rVar 0))) (rBin gMul (rCall m_choose (rCons (rVar 2) (rCons (rVar 0) rNil))) (rCall m_raised (rCons (rVar 1) (rCons (rBin gSub (rVar 2) (rVar 0)) rNil)))) (rC (.int 0))))
def m_term_at : Mir := mDef 3 b_term_at
def b_at_count : RS := (sSeq (sAsg (rOwn (rC (.dct []))) (gName 2))
    (sSeq (sFor (rSeq (rVar 0)) (gTup (gCons (gTup (gCons (gName 3) (gCons (gName 4) (gCons (gName 5) gNil)))) (gCons (gName 6) gNil))) (sExpr (rCall m_added (rCons (rVar 2) (rCons (rVar 3) (rCons (rCall m_times (rCons (rVar 6) (rCons (rCall m_fraction (rCons (rCall m_term_at (rCons (rVar 4) (rCons (rVar 5) (rCons (rVar 1) rNil)))) (rCons (rC (.int 1)) rNil))) rNil))) rNil))))))
    (sRet (rCall m_pairs_of (rCons (rVar 2) rNil)))))
def m_at_count : Mir := mDef 7 b_at_count
def b_plain_sum : RS := (sRet (rCall m_pairs_of (rCons (rCall m_summed (rCons (rVar 0) (rCons (rVar 1) rNil))) rNil)))
def m_plain_sum : Mir := mDef 2 b_plain_sum
def b_plain_times : RS := (sRet (rCall m_pairs_of (rCons (rOwn (rAs gDict (rCons (rKeep (rLc (rSeq (rVar 1)) (gTup (gCons (gName 2) (gCons (gName 3) gNil))) [2, 3] bYes (rTup (rCons (rVar 2) (rCons (rCall m_times (rCons (rVar 0) (rCons (rVar 3) rNil))) rNil))))) rNil))) rNil)))
def m_plain_times : Mir := mDef 4 b_plain_times
def b_one_form : RS := (sSeq (sAsg (rOwn (rC (.dct []))) (gName 3))
    (sSeq (sFor (rSeq (rVar 1)) (gTup (gCons (gTup (gCons (gName 4) (gCons (gName 5) (gCons (gName 6) gNil)))) (gCons (gName 7) gNil))) (sSeq (sIf (bVal (rBin gEq (rVar 6) (rVar 0))) (sSeq (sExpr (rCall m_added (rCons (rVar 3) (rCons (rTup (rCons (rVar 4) (rCons (rBin gAdd (rVar 5) (rC (.int 1))) (rCons (rVar 0) rNil)))) (rCons (rVar 7) rNil)))))
    sCont) sNext)
    (sFor (rRangeN (rCons (rVar 5) (rCons (rUn gNeg (rC (.int 1))) (rCons (rUn gNeg (rC (.int 1))) rNil)))) (gName 8) (sSeq (sAsg (rCall m_over (rCons (rVar 7) (rCons (rCall m_fraction (rCons (rBin gSub (rVar 6) (rVar 0)) (rCons (rC (.int 1)) rNil))) rNil))) (gName 7))
    (sSeq (sExpr (rCall m_added (rCons (rVar 3) (rCons (rTup (rCons (rVar 4) (rCons (rVar 8) (rCons (rVar 6) rNil)))) (rCons (rVar 7) rNil)))))
    (sAsg (rCall m_times (rCons (rC (.tup [(.int (-1)), (.int 1)])) (rCons (rVar 7) rNil))) (gName 7)))))))
    (sSeq (sAsg (rCall m_form_of (rCons (rVar 3) rNil)) (gName 9))
    (sSeq (sAsg (rCall m_plain_sum (rCons (rVar 2) (rCons (rCall m_plain_times (rCons (rC (.tup [(.int (-1)), (.int 1)])) (rCons (rCall m_at_count (rCons (rVar 9) (rCons (rC (.int 0)) rNil))) rNil))) rNil))) (gName 10))
    (sRet (rCall m_form_sum (rCons (rVar 9) (rCons (rCall m_plain_form (rCons (rVar 10) (rCons (rC (.int 0)) (rCons (rVar 0) rNil)))) rNil))))))))
def m_one_form : Mir := mDef 11 b_one_form
def b__law_mixed : RS := (sSeq (sAsg (rBin gMod (rBin gMul (rBin gAdd (rBin gAdd (rBin gMod (rVar 0) (rC (.int 1000000007))) (rBin gMul (rC (.int 7919)) (rVar 1))) (rC (.int 13))) (rC (.int 48271))) (rC (.int 2147483647))) (gName 2))
    (sRet (rBin gDiv (rBin gMod (rBin gMul (rVar 2) (rVar 2)) (rC (.int 2147483629))) (rC (.int 3)))))
def m__law_mixed : Mir := mDef 3 b__law_mixed
def b__law_begun : RS := (sSeq (sAsg (rOr (rStep (rVar 0) (oSome (rVar 1)) oNone (oSome (rVar 2))) (rKeep (rLst (rCons (rVar 1) rNil)))) (gName 3))
    (sSeq (sAsg (rAs gMax (rCons (rVar 3) rNil)) (gName 4))
    (sRet (rOwn (rDisp [((rC (.str "rest")), (rBin gMul (rVar 4) (rAs gInt (rCons (rBin gGeU (rVar 4) (rBin gPow (rC (.int 10)) (rC (.int 18)))) rNil)))), ((rC (.str "mixed")), (rCall m__law_mixed (rCons (rCall m__law_mixed (rCons (rAs gSum (rCons (rVar 3) rNil)) (rCons (rVar 1) rNil))) (rCons (rAs gLen (rCons (rVar 3) rNil)) rNil))))])))))
def m__law_begun : Mir := mDefK 5 b__law_begun
def b__law_next : RS := (sSeq (sIf (bVal (rBin gGtU (rBin gGetU (rVar 0) (rC (.str "rest"))) (rC (.int 0)))) (sSeq (sAsg (rBin gMod (rBin gGetU (rVar 0) (rC (.str "rest"))) (rVar 1)) (gName 2))
    (sSeq (sPutU (rVar 0) (rC (.str "rest")) (rBin gDiv (rBin gGetU (rVar 0) (rC (.str "rest"))) (rVar 1)))
    (sRet (rVar 2)))) sNext)
    (sSeq (sPutU (rVar 0) (rC (.str "mixed")) (rCall m__law_mixed (rCons (rCall m__law_mixed (rCons (rBin gGetU (rVar 0) (rC (.str "mixed"))) (rCons (rVar 1) rNil))) (rCons (rC (.int 5)) rNil))))
    (sRet (rBin gMod (rBin gGetU (rVar 0) (rC (.str "mixed"))) (rVar 1)))))
def m__law_next : Mir := mDef 3 b__law_next
def fuel__law_around_0 : Sl → Sto → Nat := fun _ _ => 100
def b__law_around : RS := (sSeq (sIf (bVal (rBin gLtU (rVar 1) (rC (.int 500000)))) (sRet (rBin gSub (rCall m__law_next (rCons (rVar 0) (rCons (rBin gAdd (rBin gMul (rC (.int 2)) (rVar 1)) (rC (.int 1))) rNil))) (rVar 1))) sNext)
    (sSeq (sAsg (rTup (rCons (rC (.int 0)) (rCons (rC (.int 1)) rNil))) (gTup (gCons (gName 2) (gCons (gName 3) gNil))))
    (sSeq (sWhile fuel__law_around_0 (bVal (rBin gLtU (rVar 3) (rBin gAdd (rBin gMul (rC (.int 2)) (rVar 1)) (rC (.int 1))))) (sPar 2 3 (rCons (rBin gAdd (rBin gMul (rVar 2) (rC (.int 1000000))) (rCall m__law_next (rCons (rVar 0) (rCons (rC (.int 1000000)) rNil)))) (rCons (rBin gMul (rVar 3) (rC (.int 1000000))) rNil))))
    (sRet (rBin gSub (rBin gMod (rVar 2) (rBin gAdd (rBin gMul (rC (.int 2)) (rVar 1)) (rC (.int 1)))) (rVar 1))))))
def m__law_around : Mir := mDef 4 b__law_around
def fuel__law_lowest_0 : Sl → Sto → Nat := fun δ _ => natAt δ 3 + 1
def b__law_lowest : RS := (sSeq (sPar 2 3 (rCons (rAs gAbs (rCons (rVar 0) rNil)) (rCons (rAs gAbs (rCons (rVar 1) rNil)) rNil)))
    (sSeq (sWhile fuel__law_lowest_0 (bVal (rBin gGtU (rVar 3) (rC (.int 0)))) (sPar 2 3 (rCons (rVar 3) (rCons (rBin gMod (rVar 2) (rVar 3)) rNil))))
    (sSeq (sIf (bVal (rBin gLtU (rVar 1) (rC (.int 0)))) (sAsg (rBin gSub (rC (.int 0)) (rVar 2)) (gName 2)) sNext)
    (sRet (rTup (rCons (rBin gDiv (rVar 0) (rVar 2)) (rCons (rBin gDiv (rVar 1) (rVar 2)) rNil)))))))
def m__law_lowest : Mir := mDef 4 b__law_lowest
def b__law_times : RS := (sRet (rCall m__law_lowest (rCons (rBin gMul (rBin gIx (rVar 0) (rC (.int 0))) (rBin gIx (rVar 1) (rC (.int 0)))) (rCons (rBin gMul (rBin gIx (rVar 0) (rC (.int 1))) (rBin gIx (rVar 1) (rC (.int 1)))) rNil))))
def m__law_times : Mir := mDef 2 b__law_times
def b__law_plus : RS := (sRet (rCall m__law_lowest (rCons (rBin gAdd (rBin gMul (rBin gIx (rVar 0) (rC (.int 0))) (rBin gIx (rVar 1) (rC (.int 1)))) (rBin gMul (rBin gIx (rVar 1) (rC (.int 0))) (rBin gIx (rVar 0) (rC (.int 1))))) (rCons (rBin gMul (rBin gIx (rVar 0) (rC (.int 1))) (rBin gIx (rVar 1) (rC (.int 1)))) rNil))))
def m__law_plus : Mir := mDef 2 b__law_plus
def b__law_pairs : RS := (sLock 0 (sRet (rAs gTuple (rCons (rKeep (rAs gSorted (rCons (rKeep (rLc (rItems (rVar 0)) (gTup (gCons (gName 1) (gCons (gName 2) gNil))) [1, 2] (bVal (rBin gNe (rBin gIx (rVar 2) (rC (.int 0))) (rC (.int 0)))) (rTup (rCons (rVar 1) (rCons (rVar 2) rNil))))) rNil))) rNil))))
def m__law_pairs : Mir := mDef 3 b__law_pairs
def b__law_together : RS := (sSeq (sAsg (rOwn (rC (.dct []))) (gName 1))
    (sSeq (sFor (rSeq (rVar 0)) (gTup (gCons (gName 2) (gCons (gName 3) gNil))) (sPutU (rVar 1) (rVar 2) (rCall m__law_plus (rCons (rGet2 (rVar 1) (rVar 2) (rTup (rCons (rC (.int 0)) (rCons (rC (.int 1)) rNil)))) (rCons (rVar 3) rNil)))))
    (sRet (rCall m__law_pairs (rCons (rVar 1) rNil)))))
def m__law_together : Mir := mDef 4 b__law_together
def b__law_share : RS := (sSeq (sAsg (rBin gIx (rKeep (rLst (rCons (rC (.int 3)) (rCons (rC (.int 3)) (rCons (rC (.int 9)) (rCons (rBin gPow (rC (.int 10)) (rC (.int 12))) rNil)))))) (rCall m__law_next (rCons (rVar 0) (rCons (rC (.int 4)) rNil)))) (gName 1))
    (sRet (rCall m__law_lowest (rCons (rBin gAdd (rC (.int 1)) (rBin gMul (rCall m__law_around (rCons (rVar 0) (rCons (rVar 1) rNil))) (rC (.int 2)))) (rCons (rBin gIx (rKeep (rLst (rCons (rC (.int 1)) (rCons (rC (.int 1)) (rCons (rC (.int 2)) (rCons (rC (.int 3)) (rCons (rC (.int 7)) rNil))))))) (rCall m__law_next (rCons (rVar 0) (rCons (rC (.int 5)) rNil)))) rNil)))))
def m__law_share : Mir := mDef 2 b__law_share
def b__law_mono : RS := (sSeq (sAsg (rKeep (rLst (rCons (rTup rNil) (rCons (rTup (rCons (rTup (rCons (rC (.str "b")) (rCons (rC (.int 1)) rNil))) rNil)) (rCons (rTup (rCons (rTup (rCons (rC (.str "ab")) (rCons (rC (.int 1)) rNil))) rNil)) (rCons (rTup (rCons (rTup (rCons (rC (.str "abc")) (rCons (rC (.int 2)) rNil))) rNil)) (rCons (rTup (rCons (rTup (rCons (rC (.str "ab")) (rCons (rC (.int 1)) rNil))) (rCons (rTup (rCons (rC (.str "b")) (rCons (rC (.int 1)) rNil))) rNil))) (rCons (rTup (rCons (rTup (rCons (rC (.str "x")) (rCons (rC (.int 3)) rNil))) rNil)) (rCons (rTup (rCons (rTup (rCons (rC (.str "b")) (rCons (rC (.int 2)) rNil))) rNil)) rNil))))))))) (gName 1))
    (sRet (rBin gIx (rVar 1) (rCall m__law_next (rCons (rVar 0) (rCons (rC (.int 7)) rNil))))))
def m__law_mono : Mir := mDef 2 b__law_mono
def b__law_form : RS := (sSeq (sAsg (rOwn (rLst rNil)) (gName 3))
    (sSeq (sFor (rRange (rCons (rCall m__law_next (rCons (rVar 0) (rCons (rBin gAdd (rVar 1) (rC (.int 1))) rNil))) rNil)) (gName 4) (sSeq (sAsg (rBin gIx (rKeep (rBin gCat (rVar 2) (rKeep (rLst (rCons (rCall m__law_around (rCons (rVar 0) (rCons (rC (.int 3)) rNil))) (rCons (rC (.int 0)) (rCons (rC (.int 1)) rNil))))))) (rCall m__law_next (rCons (rVar 0) (rCons (rBin gAdd (rAs gLen (rCons (rVar 2) rNil)) (rC (.int 3))) rNil)))) (gName 5))
    (sExpr (rMeth "list" mAppend (rVar 3) (rCons (rTup (rCons (rTup (rCons (rCall m__law_mono (rCons (rVar 0) rNil)) (rCons (rBin gIx (rKeep (rLst (rCons (rC (.int 0)) (rCons (rC (.int 0)) (rCons (rC (.int 1)) (rCons (rC (.int 2)) (rCons (rC (.int 3)) (rCons (rC (.int 4)) rNil)))))))) (rCall m__law_next (rCons (rVar 0) (rCons (rC (.int 6)) rNil)))) (rCons (rVar 5) rNil)))) (rCons (rCall m__law_share (rCons (rVar 0) rNil)) rNil))) rNil)))))
    (sSeq (sFreeze 3)
    (sRet (rCall m__law_together (rCons (rVar 3) rNil))))))
def m__law_form : Mir := mDef 6 b__law_form
def b__law_plain : RS := (sRet (rCall m__law_together (rCons (rKeep (rLc (rRange (rCons (rCall m__law_next (rCons (rVar 0) (rCons (rC (.int 4)) rNil))) rNil)) (gName 1) [1] bYes (rTup (rCons (rCall m__law_mono (rCons (rVar 0) rNil)) (rCons (rCall m__law_share (rCons (rVar 0) rNil)) rNil))))) rNil)))
def m__law_plain : Mir := mDef 2 b__law_plain
def b__law_power : RS := (sSeq (sAsg (rC (.int 1)) (gName 2))
    (sSeq (sFor (rRange (rCons (rVar 1) rNil)) (gName 3) (sAsg (rBin gMul (rVar 2) (rVar 0)) (gName 2)))
    (sRet (rVar 2))))
def m__law_power : Mir := mDef 4 b__law_power
def b__law_term : RS := (sSeq (sIf (bVal (rBin gLtU (rVar 2) (rVar 0))) (sRet (rC (.int 0))) sNext)
    (sSeq (sAsg (rCall m__law_power (rCons (rVar 1) (rCons (rBin gSub (rVar 2) (rVar 0)) rNil))) (gName 3))
    (sSeq (sFor (rRange (rCons (rVar 0) rNil)) (gName 4) (sAsg (rBin gMul (rVar 3) (rBin gSub (rVar 2) (rVar 4))) (gName 3)))
    (sSeq (sFor (rRange (rCons (rVar 0) rNil)) (gName 4) (sAsg (rBin gDiv (rVar 3) (rBin gAdd (rVar 4) (rC (.int 1)))) (gName 3)))
    (sRet (rVar 3))))))
def m__law_term : Mir := mDef 5 b__law_term
def b__law_worth : RS := (sRet (rCall m__law_together (rCons (rKeep (rLc (rSeq (rVar 0)) (gTup (gCons (gName 2) (gCons (gName 3) gNil))) [2, 3] bYes (rTup (rCons (rBin gIx (rVar 2) (rC (.int 0))) (rCons (rCall m__law_times (rCons (rVar 3) (rCons (rTup (rCons (rCall m__law_term (rCons (rBin gIx (rVar 2) (rC (.int 1))) (rCons (rBin gIx (rVar 2) (rC (.int 2))) (rCons (rVar 1) rNil)))) (rCons (rC (.int 1)) rNil))) rNil))) rNil))))) rNil)))
def m__law_worth : Mir := mDef 4 b__law_worth
def b__law_is_form : RS := (sSeq (sIf (bOr (bNot (bTru (rAs gIsi (rCons (rVar 0) (rCons (rC (.ty "tuple")) rNil))))) (bVal (rBin gNe (rKeep (rAs gList (rCons (rVar 0) rNil))) (rKeep (rAs gSortedT (rCons (rVar 0) rNil)))))) (sRet (rC (.bl false))) sNext)
    (sSeq (sFor (rSeq (rVar 0)) (gTup (gCons (gName 1) (gCons (gName 2) gNil))) (sIf (bOr (bVal (rBin gNe (rCall m__law_lowest (rCons (rBin gIx (rVar 2) (rC (.int 0))) (rCons (rBin gIx (rVar 2) (rC (.int 1))) rNil))) (rVar 2))) (bVal (rBin gEq (rBin gIx (rVar 2) (rC (.int 0))) (rC (.int 0))))) (sRet (rC (.bl false))) sNext))
    (sRet (rBin gEq (rAs gLenD (rCons (rOwn (rAs gDict (rCons (rVar 0) rNil))) rNil)) (rAs gLen (rCons (rVar 0) rNil))))))
def m__law_is_form : Mir := mDef 3 b__law_is_form
def b__law_one : RS := (sSeq (sAsg (rOwn (rLst rNil)) (gName 3))
    (sSeq (sFor (rSeq (rVar 1)) (gTup (gCons (gTup (gCons (gName 4) (gCons (gName 5) (gCons (gName 6) gNil)))) (gCons (gName 7) gNil))) (sIf (bVal (rBin gEq (rVar 6) (rVar 0))) (sExpr (rMeth "list" mAppend (rVar 3) (rCons (rTup (rCons (rTup (rCons (rVar 4) (rCons (rBin gAdd (rVar 5) (rC (.int 1))) (rCons (rVar 0) rNil)))) (rCons (rVar 7) rNil))) rNil))) (sFor (rRange (rCons (rBin gAdd (rVar 5) (rC (.int 1))) rNil)) (gName 8) (sSeq (sAsg (rCall m__law_lowest (rCons (rBin gIx (rKeep (rLst (rCons (rC (.int 1)) (rCons (rUn gNeg (rC (.int 1))) rNil)))) (rBin gMod (rBin gSub (rVar 5) (rVar 8)) (rC (.int 2)))) (rCons (rCall m__law_power (rCons (rBin gSub (rVar 6) (rVar 0)) (rCons (rBin gAdd (rBin gSub (rVar 5) (rVar 8)) (rC (.int 1))) rNil))) rNil))) (gName 9))
    (sExpr (rMeth "list" mAppend (rVar 3) (rCons (rTup (rCons (rTup (rCons (rVar 4) (rCons (rVar 8) (rCons (rVar 6) rNil)))) (rCons (rCall m__law_times (rCons (rVar 7) (rCons (rVar 9) rNil))) rNil))) rNil)))))))
    (sSeq (sFreeze 3)
    (sSeq (sAsg (rCall m__law_together (rCons (rVar 3) rNil)) (gName 10))
    (sSeq (sAsg (rKeep (rLc (rSeq (rCall m__law_worth (rCons (rVar 10) (rCons (rC (.int 0)) rNil)))) (gTup (gCons (gName 4) (gCons (gName 7) gNil))) [4, 7] bYes (rTup (rCons (rVar 4) (rCons (rTup (rCons (rBin gSub (rC (.int 0)) (rBin gIx (rVar 7) (rC (.int 0)))) (rCons (rBin gIx (rVar 7) (rC (.int 1))) rNil))) rNil))))) (gName 11))
    (sSeq (sAsg (rCall m__law_together (rCons (rKeep (rBin gCat (rKeep (rAs gList (rCons (rVar 2) rNil))) (rVar 11))) rNil)) (gName 12))
    (sRet (rCall m__law_together (rCons (rKeep (rBin gCat (rKeep (rAs gList (rCons (rVar 10) rNil))) (rKeep (rLc (rSeq (rVar 12)) (gTup (gCons (gName 4) (gCons (gName 7) gNil))) [4, 7] bYes (rTup (rCons (rTup (rCons (rVar 4) (rCons (rC (.int 0)) (rCons (rVar 0) rNil)))) (rCons (rVar 7) rNil))))))) rNil)))))))))
def m__law_one : Mir := mDef 13 b__law_one
def b__law_is_too_great : RS := (sSeq (sAsg (rC .non) (gName 1))
    (sSeq (sTryKeep (sExpr (rCall m_one_form (rCons (rC (.int 2)) (rCons (rVar 0) (rCons (rTup rNil) rNil))))) clX "LoopError" 2 (sAsg (rVar 2) (gName 1)))
    (sSeq (sAsg (rAs (gIsiTE clX) (rCons (rVar 1) (rCons (rTup (rCons (rC (.fn "BadLoop")) (rCons (rC (.fn "BadPaper")) (rCons (rC (.fn "BadQuestion")) (rCons (rC (.fn "BadRow")) (rCons (rC (.fn "Hindered")) (rCons (rC (.fn "OutOfPlace")) rNil))))))) rNil))) (gName 3))
    (sRet (rAnd (rAs (gIsiE clX) (rCons (rVar 1) (rCons (rC (.fn "TooGreat")) rNil))) (rAnd (rAs (gIsiE clX) (rCons (rVar 1) (rCons (rC (.ty "ValueError")) rNil))) (rNot (rVar 3))))))))
def m__law_is_too_great : Mir := mDef 4 b__law_is_too_great
def b__law_far_right : RS := (sSeq (sAsg (rCall m__law_around (rCons (rVar 0) (rCons (rC (.int 9)) rNil))) (gName 1))
    (sSeq (sAsg (rBin gAdd (rVar 1) (rBin gIx (rKeep (rLst (rCons (rC (.int 1)) (rCons (rC (.int 2)) (rCons (rUn gNeg (rC (.int 1))) (rCons (rC (.int 3)) rNil)))))) (rCall m__law_next (rCons (rVar 0) (rCons (rC (.int 4)) rNil))))) (gName 2))
    (sSeq (sPar 3 4 (rCons (rTup (rCons (rTup (rCons (rTup (rCons (rCall m__law_mono (rCons (rVar 0) rNil)) (rCons (rBin gAdd (rC (.int 14)) (rCall m__law_next (rCons (rVar 0) (rCons (rC (.int 40)) rNil)))) (rCons (rVar 2) rNil)))) (rCons (rCall m__law_share (rCons (rVar 0) rNil)) rNil))) rNil)) (rCons (rCall m__law_plain (rCons (rVar 0) rNil)) rNil)))
    (sRet (rBin gEq (rCall m_one_form (rCons (rVar 1) (rCons (rVar 3) (rCons (rVar 4) rNil)))) (rCall m__law_one (rCons (rVar 1) (rCons (rVar 3) (rCons (rVar 4) rNil)))))))))
def m__law_far_right : Mir := mDef 5 b__law_far_right
def b_law : RS := (sSeq (sFor (rEnum (rCons (rCut (rOr (rVar 0) (rKeep (rLst (rCons (rC (.int 4)) rNil)))) oNone (oSome (rC (.int 10)))) rNil)) (gTup (gCons (gName 1) (gCons (gName 2) gNil))) (sSeq (sAsg (rCall m__law_begun (rCons (rKeep (rBin gCat (rKeep (rLst (rCons (rVar 2) rNil))) (rVar 0))) (rCons (rC (.int 0)) (rCons (rBin gAdd (rC (.int 2)) (rVar 1)) rNil)))) (gName 3))
    (sSeq (sAsg (rBin gIx (rKeep (rLst (rCons (rC (.int 0)) (rCons (rC (.int 1)) (rCons (rUn gNeg (rC (.int 1))) (rCons (rC (.int 2)) (rCons (rCall m__law_around (rCons (rVar 3) (rCons (rC (.int 4)) rNil))) (rCons (rCall m__law_around (rCons (rVar 3) (rCons (rBin gPow (rC (.int 10)) (rC (.int 6))) rNil))) rNil)))))))) (rCall m__law_next (rCons (rVar 3) (rCons (rC (.int 6)) rNil)))) (gName 4))
    (sSeq (sAsg (rCall m__law_form (rCons (rVar 3) (rCons (rC (.int 5)) (rCons (rKeep (rLst (rCons (rVar 4) (rCons (rBin gSub (rC (.int 0)) (rVar 4)) (rCons (rBin gAdd (rVar 4) (rC (.int 1))) rNil))))) rNil)))) (gName 5))
    (sSeq (sAsg (rCall m__law_plain (rCons (rVar 3) rNil)) (gName 6))
    (sSeq (sAsg (rCall m__law_one (rCons (rVar 4) (rCons (rVar 5) (rCons (rVar 6) rNil)))) (gName 7))
    (sSeq (sFor (rRange (rCons (rC (.int 2)) rNil)) (gName 8) (sSeq (sAsg (rCall m_one_form (rCons (rVar 4) (rCons (rVar 5) (rCons (rVar 6) rNil)))) (gName 9))
    (sIf (bOr (bNot (bTru (rCall m__law_is_form (rCons (rVar 9) rNil)))) (bVal (rBin gNe (rVar 9) (rVar 7)))) (sRet (rC (.bl false))) sNext)))
    (sSeq (sAsg (rVar 6) (gName 10))
    (sFor (rRange (rCons (rC (.int 10)) rNil)) (gName 11) (sSeq (sIf (bVal (rBin gNe (rCall m__law_worth (rCons (rVar 9) (rCons (rVar 11) rNil))) (rVar 10))) (sRet (rC (.bl false))) sNext)
    (sSeq (sAsg (rKeep (rLc (rSeq (rVar 10)) (gTup (gCons (gName 14) (gCons (gName 15) gNil))) [14, 15] bYes (rTup (rCons (rVar 14) (rCons (rCall m__law_times (rCons (rVar 15) (rCons (rTup (rCons (rVar 4) (rCons (rC (.int 1)) rNil))) rNil))) rNil))))) (gName 10))
    (sAsg (rCall m__law_together (rCons (rKeep (rBin gCat (rVar 10) (rKeep (rAs gList (rCons (rCall m__law_worth (rCons (rVar 5) (rCons (rVar 11) rNil))) rNil))))) rNil)) (gName 10)))))))))))))
    (sSeq (sAsg (rTup (rCons (rTup (rCons (rTup (rCons (rTup (rCons (rTup (rCons (rC (.str "x")) (rCons (rC (.int 1)) rNil))) rNil)) (rCons (rC (.int 98)) (rCons (rC (.int 2)) rNil)))) (rCons (rTup (rCons (rC (.int 1)) (rCons (rC (.int 3)) rNil))) rNil))) rNil)) (gName 12))
    (sSeq (sAsg (rTup (rCons (rTup (rCons (rTup (rCons (rTup (rCons (rTup (rCons (rC (.str "x")) (rCons (rC (.int 1)) rNil))) rNil)) (rCons (rC (.int 99)) (rCons (rC (.int 2)) rNil)))) (rCons (rTup (rCons (rC (.int 1)) (rCons (rC (.int 3)) rNil))) rNil))) rNil)) (gName 13))
    (sSeq (sIf (bOr (bVal (rBin gNe (rCall m_one_form (rCons (rC (.int 2)) (rCons (rVar 12) (rCons (rTup rNil) rNil)))) (rVar 13))) (bNot (bTru (rCall m__law_is_too_great (rCons (rVar 13) rNil))))) (sRet (rC (.bl false))) sNext)
    (sRet (rAnd (rBin gEq (rCall m_one_form (rCons (rC (.int 5)) (rCons (rTup rNil) (rCons (rTup rNil) rNil)))) (rTup rNil)) (rCall m__law_far_right (rCons (rCall m__law_begun (rCons (rVar 0) (rCons (rC (.int 0)) (rCons (rC (.int 1)) rNil)))) rNil))))))))
def m_law : Mir := mDef 16 b_law
end DL
set_option Elab.async false
set_option linter.all false
set_option maxRecDepth 100000
set_option maxHeartbeats 0
set_option autoImplicit false
namespace DL
open PySem PySem.Spec PyProof.Rows L2
def top (i : Nat) : Stmt := PySem.Challenge.pw_roundless_k32_one_form.main.body.getD i (.Pass ⟨0, 0, 0, 0⟩)
abbrev st_common_divisor : Stmt := top 11
abbrev st_fraction : Stmt := top 12
abbrev st_times : Stmt := top 14
abbrev st_over : Stmt := top 15
abbrev st_is_small : Stmt := top 21
abbrev st_pairs_of : Stmt := top 22
abbrev st_form_of : Stmt := top 23
abbrev st_plus : Stmt := top 13
abbrev st_added : Stmt := top 24
abbrev st_plain_form : Stmt := top 26
abbrev st_summed : Stmt := top 25
abbrev st_form_sum : Stmt := top 29
abbrev st_choose : Stmt := top 16
abbrev st_raised : Stmt := top 27
abbrev st_term_at : Stmt := top 28
abbrev st_at_count : Stmt := top 30
abbrev st_plain_sum : Stmt := top 31
abbrev st_plain_times : Stmt := top 32
abbrev st_one_form : Stmt := top 35
abbrev st__law_mixed : Stmt := top 37
abbrev st__law_begun : Stmt := top 38
abbrev st__law_next : Stmt := top 39
abbrev st__law_around : Stmt := top 40
abbrev st__law_lowest : Stmt := top 41
abbrev st__law_times : Stmt := top 43
abbrev st__law_plus : Stmt := top 42
abbrev st__law_pairs : Stmt := top 44
abbrev st__law_together : Stmt := top 45
abbrev st__law_share : Stmt := top 46
abbrev st__law_mono : Stmt := top 47
abbrev st__law_form : Stmt := top 48
abbrev st__law_plain : Stmt := top 49
abbrev st__law_power : Stmt := top 50
abbrev st__law_term : Stmt := top 51
abbrev st__law_worth : Stmt := top 52
abbrev st__law_is_form : Stmt := top 53
abbrev st__law_one : Stmt := top 54
abbrev st__law_is_too_great : Stmt := top 55
abbrev st__law_far_right : Stmt := top 56
abbrev st_law : Stmt := top 57
/-- what the text gives -/
structure Txt (K : Fg) (mg : Str → Option Value) : Prop where
  d_common_divisor : Fd K mg "common_divisor" st_common_divisor ["one", "other"]
  d_fraction : Fd K mg "fraction" st_fraction ["above", "below"]
  d_times : Fd K mg "times" st_times ["one", "other"]
  d_over : Fd K mg "over" st_over ["one", "other"]
  d_is_small : Fd K mg "is_small" st_is_small ["number"]
  d_pairs_of : Fd K mg "pairs_of" st_pairs_of ["found"]
  d_form_of : Fd K mg "form_of" st_form_of ["found"]
  d_plus : Fd K mg "plus" st_plus ["one", "other"]
  d_added : Fd K mg "added" st_added ["found", "key", "share"]
  d_plain_form : Fd K mg "plain_form" st_plain_form ["plain", "place", "base"]
  d_summed : Fd K mg "summed" st_summed ["one", "other"]
  d_form_sum : Fd K mg "form_sum" st_form_sum ["one", "other"]
  d_choose : Fd K mg "choose" st_choose ["many", "some"]
  d_raised : Fd K mg "raised" st_raised ["number", "often"]
  d_term_at : Fd K mg "term_at" st_term_at ["place", "base", "count"]
  d_at_count : Fd K mg "at_count" st_at_count ["form", "count"]
  d_plain_sum : Fd K mg "plain_sum" st_plain_sum ["one", "other"]
  d_plain_times : Fd K mg "plain_times" st_plain_times ["share", "plain"]
  d_one_form : Fd K mg "one_form" st_one_form ["base", "form", "plain"]
  d__law_mixed : Fd K mg "_law_mixed" st__law_mixed ["_law_cell", "_law_k"]
  d__law_begun : Fd K mg "_law_begun" st__law_begun ["_law_script", "_law_k", "_law_many"]
  d__law_next : Fd K mg "_law_next" st__law_next ["_law_draw", "_law_below"]
  d__law_around : Fd K mg "_law_around" st__law_around ["_law_draw", "_law_most"]
  d__law_lowest : Fd K mg "_law_lowest" st__law_lowest ["_law_above", "_law_below"]
  d__law_times : Fd K mg "_law_times" st__law_times ["_law_one_here", "_law_other"]
  d__law_plus : Fd K mg "_law_plus" st__law_plus ["_law_one_here", "_law_other"]
  d__law_pairs : Fd K mg "_law_pairs" st__law_pairs ["_law_found"]
  d__law_together : Fd K mg "_law_together" st__law_together ["_law_rows"]
  d__law_share : Fd K mg "_law_share" st__law_share ["_law_draw"]
  d__law_mono : Fd K mg "_law_mono" st__law_mono ["_law_draw"]
  d__law_form : Fd K mg "_law_form" st__law_form ["_law_draw", "_law_most", "_law_bases"]
  d__law_plain : Fd K mg "_law_plain" st__law_plain ["_law_draw"]
  d__law_power : Fd K mg "_law_power" st__law_power ["_law_number", "_law_many"]
  d__law_term : Fd K mg "_law_term" st__law_term ["_law_place", "_law_base", "_law_count"]
  d__law_worth : Fd K mg "_law_worth" st__law_worth ["_law_form_here", "_law_count"]
  d__law_is_form : Fd K mg "_law_is_form" st__law_is_form ["_law_thing"]
  d__law_one : Fd K mg "_law_one" st__law_one ["_law_base", "_law_form_here", "_law_plain_here"]
  d__law_is_too_great : Fd K mg "_law_is_too_great" st__law_is_too_great ["_law_form_here"]
  d__law_far_right : Fd K mg "_law_far_right" st__law_far_right ["_law_draw"]
  d_law : Fd K mg "law" st_law ["_law_script"]
  n_ValueError : mg "ValueError" = none
  n_abs : mg "abs" = none
  n_all : mg "all" = none
  n_dict : mg "dict" = none
  n_enumerate : mg "enumerate" = none
  n_int : mg "int" = none
  n_isinstance : mg "isinstance" = none
  n_len : mg "len" = none
  n_list : mg "list" = none
  n_max : mg "max" = none
  n_range : mg "range" = none
  n_sorted : mg "sorted" = none
  n_sum : mg "sum" = none
  n_tuple : mg "tuple" = none
  g_GREATEST : ∃ t, mg "GREATEST" = some (.int 10000000000000000000000000000000000000000000000000000000000000000000000000000000000000000000000000000000000000000000000000000000000000000000000000000000000000000000000000000000000000000000000000000000000000000000000000000000000000000000000000000000000000000000000000000000000000000000000000000000000000000000000000000000000000000000000000000000000000000000000000000000000000000000000000000000000000000000000000000000000000000000000000000000000000000000000000000000000000000000000000000000000000000000000000000000000000000000000000000000000000000000000000000000000000000000000000000000000000000000000000000000000000000000000000000000000000000000000000000000000000000000000000000000000000000000000000000000000000000000000000000000000000000000000000000000000000000000000000000000000000000000000000000000000000000000000000000000000000000000000000000000000000000000000000000000000000000000000000000000000000000000000000000000000000000000000000000000000000000000000000000000000000000000000000000000000000000 t)
  g_MINUS : ∀ w, Lit w K mg "MINUS" (.tup [(.int (-1)), (.int 1)])
  g_MOST_PAIRS : ∃ t, mg "MOST_PAIRS" = some (.int 1000 t)
  g_MOST_PLACE : ∃ t, mg "MOST_PLACE" = some (.int 99 t)
  g_NOUGHT : ∀ w, Lit w K mg "NOUGHT" (.tup [(.int 0), (.int 1)])
  dig : NoDig K
  xc : Xcl K mg clX
  xn : ∀ f ∈ flds, ∀ c ∈ clX, PySem.W.findIn K (.ref (He.ga K c)) f = some none
  xl : LeC K (He.ga K "LoopError")
  xa : mg "LoopError" = some (.ref (He.ga K "LoopError"))
  r_TooGreat : R0 K mg "TooGreat"
section
variable {P : Program} {w : World} {K : Fg} {mg : Str → Option Value} {base : Heap}
theorem sc_common_divisor : FnScope ["one", "other"] ["one", "other"] (defScope st_common_divisor) := ⟨rfl, rfl, rfl, by decide +kernel, rfl, by decide +kernel, by decide +kernel⟩
theorem ok_common_divisor (T : Txt K mg) : Fn P w K mg base "common_divisor" 2 1 m_common_divisor := fn_mk (N := ["one", "other"]) (ps := ["one", "other"]) (r := b_common_divisor) T.d_common_divisor sc_common_divisor fun f cdv A outer s H E en tk =>
  have nd := sc_common_divisor.nd
  (psds_cons (psd_par rfl nd (pds_cons (pd_callB (hv := bv_abs) b_abs T.n_abs (pds_cons (pd_var 0) pds_nil)) (pds_cons (pd_callB (hv := bv_abs) b_abs T.n_abs (pds_cons (pd_var 1) pds_nil)) pds_nil)))
    (psds_cons (psd_while fuel_common_divisor_0 en.hp (pb_cmp (g_gtU en.u64) (pd_var 1) pd_int (by rfl)) (psds_one (psd_par rfl nd (pds_cons (pd_var 1) (pds_cons (pd_bin g_mod (pd_var 0) (pd_var 1)) pds_nil)))))
    (psds_one (psd_ret (pd_var 0)))))
theorem sc_fraction : FnScope ["above", "below", "divisor"] ["above", "below"] (defScope st_fraction) := ⟨rfl, rfl, rfl, by decide +kernel, rfl, by decide +kernel, by decide +kernel⟩
theorem ok_fraction (T : Txt K mg) : Fn P w K mg base "fraction" 2 2 m_fraction := fn_mk (N := ["above", "below", "divisor"]) (ps := ["above", "below"]) (r := b_fraction) T.d_fraction sc_fraction fun f cdv A outer s H E en tk =>
  have nd := sc_fraction.nd
  (psds_cons (psd_asg (pd_bin g_mul (pd_fn (ok_common_divisor T) (en.room.mono (by decide)) en.gu tk (pds_cons (pd_var 0) (pds_cons (pd_var 1) pds_nil))) (pd_if (pb_cmp (g_gtU en.u64) (pd_var 1) pd_int (by rfl)) pd_int (pd_neg pd_int))) (pgd_name 2 nd).pg)
    (psds_one (psd_ret (pd_tup (pds_cons (pd_bin g_div (pd_var 0) (pd_var 2)) (pds_cons (pd_bin g_div (pd_var 1) (pd_var 2)) pds_nil))))))
theorem sc_times : FnScope ["one", "other"] ["one", "other"] (defScope st_times) := ⟨rfl, rfl, rfl, by decide +kernel, rfl, by decide +kernel, by decide +kernel⟩
theorem ok_times (T : Txt K mg) : Fn P w K mg base "times" 2 3 m_times := fn_mk (N := ["one", "other"]) (ps := ["one", "other"]) (r := b_times) T.d_times sc_times fun f cdv A outer s H E en tk =>
  have nd := sc_times.nd
  (psds_one (psd_ret (pd_fn (ok_fraction T) (en.room.mono (by decide)) en.gu tk (pds_cons (pd_bin g_mul (pd_ix (pd_var 0) pd_int) (pd_ix (pd_var 1) pd_int)) (pds_cons (pd_bin g_mul (pd_ix (pd_var 0) pd_int) (pd_ix (pd_var 1) pd_int)) pds_nil)))))
theorem sc_over : FnScope ["one", "other"] ["one", "other"] (defScope st_over) := ⟨rfl, rfl, rfl, by decide +kernel, rfl, by decide +kernel, by decide +kernel⟩
theorem ok_over (T : Txt K mg) : Fn P w K mg base "over" 2 3 m_over := fn_mk (N := ["one", "other"]) (ps := ["one", "other"]) (r := b_over) T.d_over sc_over fun f cdv A outer s H E en tk =>
  have nd := sc_over.nd
  (psds_one (psd_ret (pd_fn (ok_fraction T) (en.room.mono (by decide)) en.gu tk (pds_cons (pd_bin g_mul (pd_ix (pd_var 0) pd_int) (pd_ix (pd_var 1) pd_int)) (pds_cons (pd_bin g_mul (pd_ix (pd_var 0) pd_int) (pd_ix (pd_var 1) pd_int)) pds_nil)))))
theorem sc_is_small : FnScope ["number"] ["number"] (defScope st_is_small) := ⟨rfl, rfl, rfl, by decide +kernel, rfl, by decide +kernel, by decide +kernel⟩
theorem ok_is_small (T : Txt K mg) : Fn P w K mg base "is_small" 1 1 m_is_small := fn_mk (N := ["number"]) (ps := ["number"]) (r := b_is_small) T.d_is_small sc_is_small fun f cdv A outer s H E en tk =>
  have nd := sc_is_small.nd
  (psds_one (psd_ret (pd_chain2 (g_leU en.u64) (g_leU en.u64) (pd_bin g_sub pd_int (pd_giE T.g_GREATEST)) (pd_var 0) (pd_giE T.g_GREATEST)).1))
theorem sc_pairs_of : FnScope ["found", "pairs", "key", "share"] ["found"] (defScope st_pairs_of) := ⟨rfl, rfl, rfl, by decide +kernel, rfl, by decide +kernel, by decide +kernel⟩
theorem ok_pairs_of (T : Txt K mg) : Fn P w K mg base "pairs_of" 1 2 m_pairs_of := fn_mk (N := ["found", "pairs", "key", "share"]) (ps := ["found"]) (r := b_pairs_of) T.d_pairs_of sc_pairs_of fun f cdv A outer s H E en tk =>
  have nd := sc_pairs_of.nd
  (psds_cons (psd_lock 0 (psd_asg (pd_callT (hv := bv_tuple) b_tuple T.n_tuple (pds_cons (pd_keep (pf_sorted en.u64 T.n_sorted (pds_cons (pd_keep (pf_lc rfl nd (pid_items (pd_var 0)) (own := [("key", 2), ("share", 3)]) (blkOk_by (by kernel_rfl)) (plc_ifT rfl (fun _ _ _ _ _ => (pgxs_cons (pgx_name 2 nd) (pgxs_cons (pgx_name 3 nd) pgxs_nil))) (fun _ _ _ _ _ => (pb_cmp (g_ne en.u64) (pd_var 3) (pd_lit (T.g_NOUGHT _)) (by rfl))) (fun _ _ _ _ _ => (pd_tup (pds_cons (pd_var 2) (pds_cons (pd_var 3) pds_nil))))))) pds_nil))) pds_nil)) (pgd_name 1 nd).pg))
    (psds_cons (psd_if (pb_w (pw_orD (pb_cmp (g_gtU en.u64) (pd_callB (hv := bv_len) b_len T.n_len (pds_cons (pd_var 1) pds_nil)) (pd_giE T.g_MOST_PAIRS) (by rfl)) (pw_or1D (pb_not (pb_tru (pd_callB (hv := bv_all) (b_all rfl) T.n_all (pds_cons (pd_keep (pf_lc rfl nd (pid_seq (pd_var 1)) (own := [("key", 2), ("share", 3)]) (blkOk_by (by kernel_rfl)) (plc_noT rfl (fun _ _ _ _ _ => (pgxs_cons (pgx_name 2 nd) (pgxs_cons (pgx_name 3 nd) pgxs_nil))) (fun _ _ _ _ _ => (pd_and (pd_fn (ok_is_small T) (en.room.mono (by decide)) en.gu takes0 (pds_cons (pd_ix (pd_var 3) pd_int) pds_nil)) (pd_one (pd_fn (ok_is_small T) (en.room.mono (by decide)) en.gu takes0 (pds_cons (pd_ix (pd_var 3) pd_int) pds_nil)))))))) pds_nil))))))) (psds_one (psd_raiseC T.r_TooGreat tk)) psds_nil)
    (psds_one (psd_ret (pd_var 1)))))
theorem sc_form_of : FnScope ["found", "pairs", "kind", "share"] ["found"] (defScope st_form_of) := ⟨rfl, rfl, rfl, by decide +kernel, rfl, by decide +kernel, by decide +kernel⟩
theorem ok_form_of (T : Txt K mg) : Fn P w K mg base "form_of" 1 3 m_form_of := fn_mk (N := ["found", "pairs", "kind", "share"]) (ps := ["found"]) (r := b_form_of) T.d_form_of sc_form_of fun f cdv A outer s H E en tk =>
  have nd := sc_form_of.nd
  (psds_cons (psd_asg (pd_fn (ok_pairs_of T) (en.room.mono (by decide)) en.gu tk (pds_cons (pd_var 0) pds_nil)) (pgd_name 1 nd).pg)
    (psds_cons (psd_if (pb_not (pb_tru (pd_callB (hv := bv_all) (b_all rfl) T.n_all (pds_cons (pd_keep (pf_lc rfl nd (pid_seq (pd_var 1)) (own := [("kind", 2), ("share", 3)]) (blkOk_by (by kernel_rfl)) (plc_noT rfl (fun _ _ _ _ _ => (pgxs_cons (pgx_name 2 nd) (pgxs_cons (pgx_name 3 nd) pgxs_nil))) (fun _ _ _ _ _ => (pd_and (pd_cmp (g_leU en.u64) (pd_ix (pd_var 2) pd_int) (pd_giE T.g_MOST_PLACE) (by rfl)) (pd_one (pd_fn (ok_is_small T) (en.room.mono (by decide)) en.gu takes0 (pds_cons (pd_ix (pd_var 2) pd_int) pds_nil)))))))) pds_nil)))) (psds_one (psd_raiseC T.r_TooGreat tk)) psds_nil)
    (psds_one (psd_ret (pd_var 1)))))
theorem sc_plus : FnScope ["one", "other"] ["one", "other"] (defScope st_plus) := ⟨rfl, rfl, rfl, by decide +kernel, rfl, by decide +kernel, by decide +kernel⟩
theorem ok_plus (T : Txt K mg) : Fn P w K mg base "plus" 2 3 m_plus := fn_mk (N := ["one", "other"]) (ps := ["one", "other"]) (r := b_plus) T.d_plus sc_plus fun f cdv A outer s H E en tk =>
  have nd := sc_plus.nd
  (psds_one (psd_ret (pd_fn (ok_fraction T) (en.room.mono (by decide)) en.gu tk (pds_cons (pd_bin g_add (pd_bin g_mul (pd_ix (pd_var 0) pd_int) (pd_ix (pd_var 1) pd_int)) (pd_bin g_mul (pd_ix (pd_var 1) pd_int) (pd_ix (pd_var 0) pd_int))) (pds_cons (pd_bin g_mul (pd_ix (pd_var 0) pd_int) (pd_ix (pd_var 1) pd_int)) pds_nil)))))
theorem sc_added : FnScope ["found", "key", "share"] ["found", "key", "share"] (defScope st_added) := ⟨rfl, rfl, rfl, by decide +kernel, rfl, by decide +kernel, by decide +kernel⟩
theorem ok_added (T : Txt K mg) : Fn P w K mg base "added" 3 4 m_added := fn_mk (N := ["found", "key", "share"]) (ps := ["found", "key", "share"]) (r := b_added) T.d_added sc_added fun f cdv A outer s H E en tk =>
  have nd := sc_added.nd
  (psds_one (psd_putU en.u10 (pd_var 0) (pd_var 1) (pd_fn (ok_plus T) (en.room.mono (by decide)) en.gu tk (pds_cons (pd_get2 en.u10 (pd_var 0) (pd_var 1) (pd_lit (T.g_NOUGHT _))) (pds_cons (pd_var 2) pds_nil)))))
theorem sc_plain_form : FnScope ["plain", "place", "base", "mono", "share"] ["plain", "place", "base"] (defScope st_plain_form) := ⟨rfl, rfl, rfl, by decide +kernel, rfl, by decide +kernel, by decide +kernel⟩
theorem ok_plain_form (T : Txt K mg) : Fn P w K mg base "plain_form" 3 4 m_plain_form := fn_mk (N := ["plain", "place", "base", "mono", "share"]) (ps := ["plain", "place", "base"]) (r := b_plain_form) T.d_plain_form sc_plain_form fun f cdv A outer s H E en tk =>
  have nd := sc_plain_form.nd
  (psds_one (psd_ret (pd_fn (ok_form_of T) (en.room.mono (by decide)) en.gu tk (pds_cons (pd_own (pf_dict rfl en.u12 T.n_dict (pds_cons (pd_keep (pf_lc rfl nd (pid_seq (pd_var 0)) (own := [("mono", 3), ("share", 4)]) (blkOk_by (by kernel_rfl)) (plc_noT rfl (fun _ _ _ _ _ => (pgxs_cons (pgx_name 3 nd) (pgxs_cons (pgx_name 4 nd) pgxs_nil))) (fun _ _ _ _ _ => (pd_tup (pds_cons (pd_tup (pds_cons (pd_var 3) (pds_cons (pd_var 1) (pds_cons (pd_var 2) pds_nil)))) (pds_cons (pd_var 4) pds_nil))))))) pds_nil))) pds_nil))))
theorem sc_summed : FnScope ["one", "other", "found", "key", "share"] ["one", "other"] (defScope st_summed) := ⟨rfl, rfl, rfl, by decide +kernel, rfl, by decide +kernel, by decide +kernel⟩
theorem ok_summed (T : Txt K mg) : Fn P w K mg base "summed" 2 5 m_summed := fn_mkK (N := ["one", "other", "found", "key", "share"]) (ps := ["one", "other"]) (r := b_summed) T.d_summed sc_summed fun f cdv A outer s H E en tk =>
  have nd := sc_summed.nd
  (psds_cons (psd_asg (pd_own (pf_dict rfl en.u12 T.n_dict (pds_cons (pd_var 0) pds_nil))) (pgd_name 2 nd).pg)
    (psds_cons (psd_for en.hp rfl (pid_seq (pd_var 1)) (pgn_tup rfl (pgds_cons (pgd_name 3 nd) (pgds_cons (pgd_name 4 nd) pgds_nil))).pg (psds_one (psd_expr (pd_fn (ok_added T) (en.room.mono (by decide)) en.gu tk (pds_cons (pd_var 2) (pds_cons (pd_var 3) (pds_cons (pd_var 4) pds_nil)))))))
    (psds_one (psd_ret (pd_var 2)))))
theorem sc_form_sum : FnScope ["one", "other"] ["one", "other"] (defScope st_form_sum) := ⟨rfl, rfl, rfl, by decide +kernel, rfl, by decide +kernel, by decide +kernel⟩
theorem ok_form_sum (T : Txt K mg) : Fn P w K mg base "form_sum" 2 6 m_form_sum := fn_mk (N := ["one", "other"]) (ps := ["one", "other"]) (r := b_form_sum) T.d_form_sum sc_form_sum fun f cdv A outer s H E en tk =>
  have nd := sc_form_sum.nd
  (psds_one (psd_ret (pd_fn (ok_form_of T) (en.room.mono (by decide)) en.gu tk (pds_cons (pd_fn (ok_summed T) (en.room.mono (by decide)) en.gu tk (pds_cons (pd_var 0) (pds_cons (pd_var 1) pds_nil))) pds_nil))))
theorem sc_choose : FnScope ["many", "some", "found", "place"] ["many", "some"] (defScope st_choose) := ⟨rfl, rfl, rfl, by decide +kernel, rfl, by decide +kernel, by decide +kernel⟩
theorem ok_choose (T : Txt K mg) : Fn P w K mg base "choose" 2 1 m_choose := fn_mk (N := ["many", "some", "found", "place"]) (ps := ["many", "some"]) (r := b_choose) T.d_choose sc_choose fun f cdv A outer s H E en tk =>
  have nd := sc_choose.nd
  (psds_cons (psd_if (pb_cmp (g_gtU en.u64) (pd_var 1) (pd_var 0) (by rfl)) (psds_one (psd_ret pd_int)) psds_nil)
    (psds_cons (psd_asg pd_int (pgd_name 2 nd).pg)
    (psds_cons (psd_for en.hp rfl (pid_range1 T.n_range (pds_cons (pd_var 1) pds_nil)) (pgd_name 3 nd).pg (psds_one (psd_asg (pd_bin g_div (pd_bin g_mul (pd_var 2) (pd_bin g_sub (pd_var 0) (pd_var 3))) (pd_bin g_add (pd_var 3) pd_int)) (pgd_name 2 nd).pg)))
    (psds_one (psd_ret (pd_var 2))))))
theorem sc_raised : FnScope ["number", "often", "found", "left"] ["number", "often"] (defScope st_raised) := ⟨rfl, rfl, rfl, by decide +kernel, rfl, by decide +kernel, by decide +kernel⟩
theorem ok_raised (T : Txt K mg) : Fn P w K mg base "raised" 2 1 m_raised := fn_mk (N := ["number", "often", "found", "left"]) (ps := ["number", "often"]) (r := b_raised) T.d_raised sc_raised fun f cdv A outer s H E en tk =>
  have nd := sc_raised.nd
  (psds_cons (psd_asg pd_int (pgd_name 2 nd).pg)
    (psds_cons (psd_asg (pd_var 1) (pgd_name 3 nd).pg)
    (psds_cons (psd_while fuel_raised_0 en.hp (pb_cmp (g_gtU en.u64) (pd_var 3) pd_int (by rfl)) (psds_cons (psd_if (pb_cmp (g_eq en.u64) (pd_bin g_mod (pd_var 3) pd_int) pd_int (by rfl)) (psds_one (psd_asg (pd_bin g_mul (pd_var 2) (pd_var 0)) (pgd_name 2 nd).pg)) psds_nil)
    (psds_cons (psd_asg (pd_bin g_div (pd_var 3) pd_int) (pgd_name 3 nd).pg)
    (psds_one (psd_asg (pd_if (pb_cmp (g_gtU en.u64) (pd_var 3) pd_int (by rfl)) (pd_bin g_mul (pd_var 0) (pd_var 0)) (pd_var 0)) (pgd_name 0 nd).pg)))))
    (psds_one (psd_ret (pd_var 2))))))
theorem sc_term_at : FnScope ["place", "base", "count"] ["place", "base", "count"] (defScope st_term_at) := ⟨rfl, rfl, rfl, by decide +kernel, rfl, by decide +kernel, by decide +kernel⟩
theorem ok_term_at (T : Txt K mg) : Fn P w K mg base "term_at" 3 2 m_term_at := fn_mk (N := ["place", "base", "count"]) (ps := ["place", "base", "count"]) (r := b_term_at) T.d_term_at sc_term_at fun f cdv A outer s H E en tk =>
  have nd := sc_term_at.nd
  (psds_one (psd_ret (pd_if (pb_cmp (g_geU en.u64) (pd_var 2) (pd_var 0) (by rfl)) (pd_bin g_mul (pd_fn (ok_choose T) (en.room.mono (by decide)) en.gu tk (pds_cons (pd_var 2) (pds_cons (pd_var 0) pds_nil))) (pd_fn (ok_raised T) (en.room.mono (by decide)) en.gu tk (pds_cons (pd_var 1) (pds_cons (pd_bin g_sub (pd_var 2) (pd_var 0)) pds_nil)))) pd_int)))
theorem sc_at_count : FnScope ["form", "count", "found", "mono", "place", "base", "share"] ["form", "count"] (defScope st_at_count) := ⟨rfl, rfl, rfl, by decide +kernel, rfl, by decide +kernel, by decide +kernel⟩
theorem ok_at_count (T : Txt K mg) : Fn P w K mg base "at_count" 2 5 m_at_count := fn_mk (N := ["form", "count", "found", "mono", "place", "base", "share"]) (ps := ["form", "count"]) (r := b_at_count) T.d_at_count sc_at_count fun f cdv A outer s H E en tk =>
  have nd := sc_at_count.nd
  (psds_cons (psd_asg (pd_own pf_dnew) (pgd_name 2 nd).pg)
    (psds_cons (psd_for en.hp rfl (pid_seq (pd_var 0)) (pgn_tup rfl (pgds_cons (pgn_tup rfl (pgds_cons (pgd_name 3 nd) (pgds_cons (pgd_name 4 nd) (pgds_cons (pgd_name 5 nd) pgds_nil)))) (pgds_cons (pgd_name 6 nd) pgds_nil))).pg (psds_one (psd_expr (pd_fn (ok_added T) (en.room.mono (by decide)) en.gu tk (pds_cons (pd_var 2) (pds_cons (pd_var 3) (pds_cons (pd_fn (ok_times T) (en.room.mono (by decide)) en.gu tk (pds_cons (pd_var 6) (pds_cons (pd_fn (ok_fraction T) (en.room.mono (by decide)) en.gu tk (pds_cons (pd_fn (ok_term_at T) (en.room.mono (by decide)) en.gu tk (pds_cons (pd_var 4) (pds_cons (pd_var 5) (pds_cons (pd_var 1) pds_nil)))) (pds_cons pd_int pds_nil))) pds_nil))) pds_nil)))))))
    (psds_one (psd_ret (pd_fn (ok_pairs_of T) (en.room.mono (by decide)) en.gu tk (pds_cons (pd_var 2) pds_nil))))))
theorem sc_plain_sum : FnScope ["one", "other"] ["one", "other"] (defScope st_plain_sum) := ⟨rfl, rfl, rfl, by decide +kernel, rfl, by decide +kernel, by decide +kernel⟩
theorem ok_plain_sum (T : Txt K mg) : Fn P w K mg base "plain_sum" 2 6 m_plain_sum := fn_mk (N := ["one", "other"]) (ps := ["one", "other"]) (r := b_plain_sum) T.d_plain_sum sc_plain_sum fun f cdv A outer s H E en tk =>
  have nd := sc_plain_sum.nd
  (psds_one (psd_ret (pd_fn (ok_pairs_of T) (en.room.mono (by decide)) en.gu tk (pds_cons (pd_fn (ok_summed T) (en.room.mono (by decide)) en.gu tk (pds_cons (pd_var 0) (pds_cons (pd_var 1) pds_nil))) pds_nil))))
theorem sc_plain_times : FnScope ["share", "plain", "mono", "own"] ["share", "plain"] (defScope st_plain_times) := ⟨rfl, rfl, rfl, by decide +kernel, rfl, by decide +kernel, by decide +kernel⟩
theorem ok_plain_times (T : Txt K mg) : Fn P w K mg base "plain_times" 2 4 m_plain_times := fn_mk (N := ["share", "plain", "mono", "own"]) (ps := ["share", "plain"]) (r := b_plain_times) T.d_plain_times sc_plain_times fun f cdv A outer s H E en tk =>
  have nd := sc_plain_times.nd
  (psds_one (psd_ret (pd_fn (ok_pairs_of T) (en.room.mono (by decide)) en.gu tk (pds_cons (pd_own (pf_dict rfl en.u12 T.n_dict (pds_cons (pd_keep (pf_lc rfl nd (pid_seq (pd_var 1)) (own := [("mono", 2), ("own", 3)]) (blkOk_by (by kernel_rfl)) (plc_noT rfl (fun _ _ _ _ _ => (pgxs_cons (pgx_name 2 nd) (pgxs_cons (pgx_name 3 nd) pgxs_nil))) (fun _ _ _ _ _ => (pd_tup (pds_cons (pd_var 2) (pds_cons (pd_fn (ok_times T) (en.room.mono (by decide)) en.gu takes0 (pds_cons (pd_var 0) (pds_cons (pd_var 3) pds_nil))) pds_nil))))))) pds_nil))) pds_nil))))
theorem sc_one_form : FnScope ["base", "form", "plain", "found", "mono", "place", "own", "share", "at", "solved", "rest"] ["base", "form", "plain"] (defScope st_one_form) := ⟨rfl, rfl, rfl, by decide +kernel, rfl, by decide +kernel, by decide +kernel⟩
theorem ok_one_form (T : Txt K mg) : Fn P w K mg base "one_form" 3 7 m_one_form := fn_mk (N := ["base", "form", "plain", "found", "mono", "place", "own", "share", "at", "solved", "rest"]) (ps := ["base", "form", "plain"]) (r := b_one_form) T.d_one_form sc_one_form fun f cdv A outer s H E en tk =>
  have nd := sc_one_form.nd
  (psds_cons (psd_asg (pd_own pf_dnew) (pgd_name 3 nd).pg)
    (psds_cons (psd_for en.hp rfl (pid_seq (pd_var 1)) (pgn_tup rfl (pgds_cons (pgn_tup rfl (pgds_cons (pgd_name 4 nd) (pgds_cons (pgd_name 5 nd) (pgds_cons (pgd_name 6 nd) pgds_nil)))) (pgds_cons (pgd_name 7 nd) pgds_nil))).pg (psds_cons (psd_if (pb_cmp (g_eq en.u64) (pd_var 6) (pd_var 0) (by rfl)) (psds_cons (psd_expr (pd_fn (ok_added T) (en.room.mono (by decide)) en.gu tk (pds_cons (pd_var 3) (pds_cons (pd_tup (pds_cons (pd_var 4) (pds_cons (pd_bin g_add (pd_var 5) pd_int) (pds_cons (pd_var 0) pds_nil)))) (pds_cons (pd_var 7) pds_nil)))))
    (psds_one psd_cont)) psds_nil)
    (psds_one (psd_for en.hp rfl (pid_rangeN T.n_range (pds_cons (pd_var 5) (pds_cons (pd_neg pd_int) (pds_cons (pd_neg pd_int) pds_nil)))) (pgd_name 8 nd).pg (psds_cons (psd_asg (pd_fn (ok_over T) (en.room.mono (by decide)) en.gu tk (pds_cons (pd_var 7) (pds_cons (pd_fn (ok_fraction T) (en.room.mono (by decide)) en.gu tk (pds_cons (pd_bin g_sub (pd_var 6) (pd_var 0)) (pds_cons pd_int pds_nil))) pds_nil))) (pgd_name 7 nd).pg)
    (psds_cons (psd_expr (pd_fn (ok_added T) (en.room.mono (by decide)) en.gu tk (pds_cons (pd_var 3) (pds_cons (pd_tup (pds_cons (pd_var 4) (pds_cons (pd_var 8) (pds_cons (pd_var 6) pds_nil)))) (pds_cons (pd_var 7) pds_nil)))))
    (psds_one (psd_asg (pd_fn (ok_times T) (en.room.mono (by decide)) en.gu tk (pds_cons (pd_lit (T.g_MINUS _)) (pds_cons (pd_var 7) pds_nil))) (pgd_name 7 nd).pg))))))))
    (psds_cons (psd_asg (pd_fn (ok_form_of T) (en.room.mono (by decide)) en.gu tk (pds_cons (pd_var 3) pds_nil)) (pgd_name 9 nd).pg)
    (psds_cons (psd_asg (pd_fn (ok_plain_sum T) (en.room.mono (by decide)) en.gu tk (pds_cons (pd_var 2) (pds_cons (pd_fn (ok_plain_times T) (en.room.mono (by decide)) en.gu tk (pds_cons (pd_lit (T.g_MINUS _)) (pds_cons (pd_fn (ok_at_count T) (en.room.mono (by decide)) en.gu tk (pds_cons (pd_var 9) (pds_cons pd_int pds_nil))) pds_nil))) pds_nil))) (pgd_name 10 nd).pg)
    (psds_one (psd_ret (pd_fn (ok_form_sum T) (en.room.mono (by decide)) en.gu tk (pds_cons (pd_var 9) (pds_cons (pd_fn (ok_plain_form T) (en.room.mono (by decide)) en.gu tk (pds_cons (pd_var 10) (pds_cons pd_int (pds_cons (pd_var 0) pds_nil)))) pds_nil)))))))))
theorem sc__law_mixed : FnScope ["_law_cell", "_law_k", "_law_number"] ["_law_cell", "_law_k"] (defScope st__law_mixed) := ⟨rfl, rfl, rfl, by decide +kernel, rfl, by decide +kernel, by decide +kernel⟩
theorem ok__law_mixed (T : Txt K mg) : Fn P w K mg base "_law_mixed" 2 1 m__law_mixed := fn_mk (N := ["_law_cell", "_law_k", "_law_number"]) (ps := ["_law_cell", "_law_k"]) (r := b__law_mixed) T.d__law_mixed sc__law_mixed fun f cdv A outer s H E en tk =>
  have nd := sc__law_mixed.nd
  (psds_cons (psd_asg (pd_bin g_mod (pd_bin g_mul (pd_bin g_add (pd_bin g_add (pd_bin g_mod (pd_var 0) pd_int) (pd_bin g_mul pd_int (pd_var 1))) pd_int) pd_int) pd_int) (pgd_name 2 nd).pg)
    (psds_one (psd_ret (pd_bin g_div (pd_bin g_mod (pd_bin g_mul (pd_var 2) (pd_var 2)) pd_int) pd_int))))
theorem sc__law_begun : FnScope ["_law_script", "_law_k", "_law_many", "_law_own", "_law_great"] ["_law_script", "_law_k", "_law_many"] (defScope st__law_begun) := ⟨rfl, rfl, rfl, by decide +kernel, rfl, by decide +kernel, by decide +kernel⟩
theorem ok__law_begun (T : Txt K mg) : Fn P w K mg base "_law_begun" 3 2 m__law_begun := fn_mkK (N := ["_law_script", "_law_k", "_law_many", "_law_own", "_law_great"]) (ps := ["_law_script", "_law_k", "_law_many"]) (r := b__law_begun) T.d__law_begun sc__law_begun fun f cdv A outer s H E en tk =>
  have nd := sc__law_begun.nd
  (psds_cons (psd_asg (pd_or (pd_step (pd_var 0) (pod_some (pd_var 1)) pod_none (pod_some (pd_var 2))) (pd_one (pd_keep (pf_lst (pds_cons (pd_var 1) pds_nil))))) (pgd_name 3 nd).pg)
    (psds_cons (psd_asg (pd_callB (hv := bv_max) (b_max rfl) T.n_max (pds_cons (pd_var 3) pds_nil)) (pgd_name 4 nd).pg)
    (psds_one (psd_ret (pd_own (pf_disp (ppd_cons pd_str (pd_bin g_mul (pd_var 4) (pd_callT (hv := bv_int) b_int T.n_int (pds_cons (pd_cmp (g_geU en.u64) (pd_var 4) (pd_bin g_pow pd_int pd_int) (by rfl)) pds_nil))) (ppd_cons pd_str (pd_fn (ok__law_mixed T) (en.room.mono (by decide)) en.gu tk (pds_cons (pd_fn (ok__law_mixed T) (en.room.mono (by decide)) en.gu tk (pds_cons (pd_callB (hv := bv_sum) (b_sum rfl) T.n_sum (pds_cons (pd_var 3) pds_nil)) (pds_cons (pd_var 1) pds_nil))) (pds_cons (pd_callB (hv := bv_len) b_len T.n_len (pds_cons (pd_var 3) pds_nil)) pds_nil))) ppd_nil))))))))
theorem sc__law_next : FnScope ["_law_draw", "_law_below", "_law_found"] ["_law_draw", "_law_below"] (defScope st__law_next) := ⟨rfl, rfl, rfl, by decide +kernel, rfl, by decide +kernel, by decide +kernel⟩
theorem ok__law_next (T : Txt K mg) : Fn P w K mg base "_law_next" 2 2 m__law_next := fn_mk (N := ["_law_draw", "_law_below", "_law_found"]) (ps := ["_law_draw", "_law_below"]) (r := b__law_next) T.d__law_next sc__law_next fun f cdv A outer s H E en tk =>
  have nd := sc__law_next.nd
  (psds_cons (psd_if (pb_cmp (g_gtU en.u64) (pd_uget en.u10 (pd_var 0) pd_str) pd_int (by rfl)) (psds_cons (psd_asg (pd_bin g_mod (pd_uget en.u10 (pd_var 0) pd_str) (pd_var 1)) (pgd_name 2 nd).pg)
    (psds_cons (psd_putU en.u10 (pd_var 0) pd_str (pd_bin g_div (pd_uget en.u10 (pd_var 0) pd_str) (pd_var 1)))
    (psds_one (psd_ret (pd_var 2))))) psds_nil)
    (psds_cons (psd_putU en.u10 (pd_var 0) pd_str (pd_fn (ok__law_mixed T) (en.room.mono (by decide)) en.gu tk (pds_cons (pd_fn (ok__law_mixed T) (en.room.mono (by decide)) en.gu tk (pds_cons (pd_uget en.u10 (pd_var 0) pd_str) (pds_cons (pd_var 1) pds_nil))) (pds_cons pd_int pds_nil))))
    (psds_one (psd_ret (pd_bin g_mod (pd_uget en.u10 (pd_var 0) pd_str) (pd_var 1))))))
theorem sc__law_around : FnScope ["_law_draw", "_law_most", "_law_found", "_law_size"] ["_law_draw", "_law_most"] (defScope st__law_around) := ⟨rfl, rfl, rfl, by decide +kernel, rfl, by decide +kernel, by decide +kernel⟩
theorem ok__law_around (T : Txt K mg) : Fn P w K mg base "_law_around" 2 3 m__law_around := fn_mk (N := ["_law_draw", "_law_most", "_law_found", "_law_size"]) (ps := ["_law_draw", "_law_most"]) (r := b__law_around) T.d__law_around sc__law_around fun f cdv A outer s H E en tk =>
  have nd := sc__law_around.nd
  (psds_cons (psd_if (pb_cmp (g_ltU en.u64) (pd_var 1) pd_int (by rfl)) (psds_one (psd_ret (pd_bin g_sub (pd_fn (ok__law_next T) (en.room.mono (by decide)) en.gu tk (pds_cons (pd_var 0) (pds_cons (pd_bin g_add (pd_bin g_mul pd_int (pd_var 1)) pd_int) pds_nil))) (pd_var 1)))) psds_nil)
    (psds_cons (psd_asg (pd_tup (pds_cons pd_int (pds_cons pd_int pds_nil))) (pgn_tup rfl (pgds_cons (pgd_name 2 nd) (pgds_cons (pgd_name 3 nd) pgds_nil))).pg)
    (psds_cons (psd_while fuel__law_around_0 en.hp (pb_cmp (g_ltU en.u64) (pd_var 3) (pd_bin g_add (pd_bin g_mul pd_int (pd_var 1)) pd_int) (by rfl)) (psds_one (psd_par rfl nd (pds_cons (pd_bin g_add (pd_bin g_mul (pd_var 2) pd_int) (pd_fn (ok__law_next T) (en.room.mono (by decide)) en.gu tk (pds_cons (pd_var 0) (pds_cons pd_int pds_nil)))) (pds_cons (pd_bin g_mul (pd_var 3) pd_int) pds_nil)))))
    (psds_one (psd_ret (pd_bin g_sub (pd_bin g_mod (pd_var 2) (pd_bin g_add (pd_bin g_mul pd_int (pd_var 1)) pd_int)) (pd_var 1)))))))
theorem sc__law_lowest : FnScope ["_law_above", "_law_below", "_law_one_here", "_law_other"] ["_law_above", "_law_below"] (defScope st__law_lowest) := ⟨rfl, rfl, rfl, by decide +kernel, rfl, by decide +kernel, by decide +kernel⟩
theorem ok__law_lowest (T : Txt K mg) : Fn P w K mg base "_law_lowest" 2 1 m__law_lowest := fn_mk (N := ["_law_above", "_law_below", "_law_one_here", "_law_other"]) (ps := ["_law_above", "_law_below"]) (r := b__law_lowest) T.d__law_lowest sc__law_lowest fun f cdv A outer s H E en tk =>
  have nd := sc__law_lowest.nd
  (psds_cons (psd_par rfl nd (pds_cons (pd_callB (hv := bv_abs) b_abs T.n_abs (pds_cons (pd_var 0) pds_nil)) (pds_cons (pd_callB (hv := bv_abs) b_abs T.n_abs (pds_cons (pd_var 1) pds_nil)) pds_nil)))
    (psds_cons (psd_while fuel__law_lowest_0 en.hp (pb_cmp (g_gtU en.u64) (pd_var 3) pd_int (by rfl)) (psds_one (psd_par rfl nd (pds_cons (pd_var 3) (pds_cons (pd_bin g_mod (pd_var 2) (pd_var 3)) pds_nil)))))
    (psds_cons (psd_if (pb_cmp (g_ltU en.u64) (pd_var 1) pd_int (by rfl)) (psds_one (psd_asg (pd_bin g_sub pd_int (pd_var 2)) (pgd_name 2 nd).pg)) psds_nil)
    (psds_one (psd_ret (pd_tup (pds_cons (pd_bin g_div (pd_var 0) (pd_var 2)) (pds_cons (pd_bin g_div (pd_var 1) (pd_var 2)) pds_nil))))))))
theorem sc__law_times : FnScope ["_law_one_here", "_law_other"] ["_law_one_here", "_law_other"] (defScope st__law_times) := ⟨rfl, rfl, rfl, by decide +kernel, rfl, by decide +kernel, by decide +kernel⟩
theorem ok__law_times (T : Txt K mg) : Fn P w K mg base "_law_times" 2 2 m__law_times := fn_mk (N := ["_law_one_here", "_law_other"]) (ps := ["_law_one_here", "_law_other"]) (r := b__law_times) T.d__law_times sc__law_times fun f cdv A outer s H E en tk =>
  have nd := sc__law_times.nd
  (psds_one (psd_ret (pd_fn (ok__law_lowest T) (en.room.mono (by decide)) en.gu tk (pds_cons (pd_bin g_mul (pd_ix (pd_var 0) pd_int) (pd_ix (pd_var 1) pd_int)) (pds_cons (pd_bin g_mul (pd_ix (pd_var 0) pd_int) (pd_ix (pd_var 1) pd_int)) pds_nil)))))
theorem sc__law_plus : FnScope ["_law_one_here", "_law_other"] ["_law_one_here", "_law_other"] (defScope st__law_plus) := ⟨rfl, rfl, rfl, by decide +kernel, rfl, by decide +kernel, by decide +kernel⟩
theorem ok__law_plus (T : Txt K mg) : Fn P w K mg base "_law_plus" 2 2 m__law_plus := fn_mk (N := ["_law_one_here", "_law_other"]) (ps := ["_law_one_here", "_law_other"]) (r := b__law_plus) T.d__law_plus sc__law_plus fun f cdv A outer s H E en tk =>
  have nd := sc__law_plus.nd
  (psds_one (psd_ret (pd_fn (ok__law_lowest T) (en.room.mono (by decide)) en.gu tk (pds_cons (pd_bin g_add (pd_bin g_mul (pd_ix (pd_var 0) pd_int) (pd_ix (pd_var 1) pd_int)) (pd_bin g_mul (pd_ix (pd_var 1) pd_int) (pd_ix (pd_var 0) pd_int))) (pds_cons (pd_bin g_mul (pd_ix (pd_var 0) pd_int) (pd_ix (pd_var 1) pd_int)) pds_nil)))))
theorem sc__law_pairs : FnScope ["_law_found", "_law_key", "_law_share_here"] ["_law_found"] (defScope st__law_pairs) := ⟨rfl, rfl, rfl, by decide +kernel, rfl, by decide +kernel, by decide +kernel⟩
theorem ok__law_pairs (T : Txt K mg) : Fn P w K mg base "_law_pairs" 1 1 m__law_pairs := fn_mk (N := ["_law_found", "_law_key", "_law_share_here"]) (ps := ["_law_found"]) (r := b__law_pairs) T.d__law_pairs sc__law_pairs fun f cdv A outer s H E en tk =>
  have nd := sc__law_pairs.nd
  (psds_one (psd_lock 0 (psd_ret (pd_callT (hv := bv_tuple) b_tuple T.n_tuple (pds_cons (pd_keep (pf_sorted en.u64 T.n_sorted (pds_cons (pd_keep (pf_lc rfl nd (pid_items (pd_var 0)) (own := [("_law_key", 1), ("_law_share_here", 2)]) (blkOk_by (by kernel_rfl)) (plc_ifT rfl (fun _ _ _ _ _ => (pgxs_cons (pgx_name 1 nd) (pgxs_cons (pgx_name 2 nd) pgxs_nil))) (fun _ _ _ _ _ => (pb_cmp (g_ne en.u64) (pd_ix (pd_var 2) pd_int) pd_int (by rfl))) (fun _ _ _ _ _ => (pd_tup (pds_cons (pd_var 1) (pds_cons (pd_var 2) pds_nil))))))) pds_nil))) pds_nil)))))
theorem sc__law_together : FnScope ["_law_rows", "_law_found", "_law_key", "_law_share_here"] ["_law_rows"] (defScope st__law_together) := ⟨rfl, rfl, rfl, by decide +kernel, rfl, by decide +kernel, by decide +kernel⟩
theorem ok__law_together (T : Txt K mg) : Fn P w K mg base "_law_together" 1 3 m__law_together := fn_mk (N := ["_law_rows", "_law_found", "_law_key", "_law_share_here"]) (ps := ["_law_rows"]) (r := b__law_together) T.d__law_together sc__law_together fun f cdv A outer s H E en tk =>
  have nd := sc__law_together.nd
  (psds_cons (psd_asg (pd_own pf_dnew) (pgd_name 1 nd).pg)
    (psds_cons (psd_for en.hp rfl (pid_seq (pd_var 0)) (pgn_tup rfl (pgds_cons (pgd_name 2 nd) (pgds_cons (pgd_name 3 nd) pgds_nil))).pg (psds_one (psd_putU en.u10 (pd_var 1) (pd_var 2) (pd_fn (ok__law_plus T) (en.room.mono (by decide)) en.gu tk (pds_cons (pd_get2 en.u10 (pd_var 1) (pd_var 2) (pd_tup (pds_cons pd_int (pds_cons pd_int pds_nil)))) (pds_cons (pd_var 3) pds_nil))))))
    (psds_one (psd_ret (pd_fn (ok__law_pairs T) (en.room.mono (by decide)) en.gu tk (pds_cons (pd_var 1) pds_nil))))))
theorem sc__law_share : FnScope ["_law_draw", "_law_most"] ["_law_draw"] (defScope st__law_share) := ⟨rfl, rfl, rfl, by decide +kernel, rfl, by decide +kernel, by decide +kernel⟩
theorem ok__law_share (T : Txt K mg) : Fn P w K mg base "_law_share" 1 4 m__law_share := fn_mk (N := ["_law_draw", "_law_most"]) (ps := ["_law_draw"]) (r := b__law_share) T.d__law_share sc__law_share fun f cdv A outer s H E en tk =>
  have nd := sc__law_share.nd
  (psds_cons (psd_asg (pd_ix (pd_keep (pf_lst (pds_cons pd_int (pds_cons pd_int (pds_cons pd_int (pds_cons (pd_bin g_pow pd_int pd_int) pds_nil)))))) (pd_fn (ok__law_next T) (en.room.mono (by decide)) en.gu tk (pds_cons (pd_var 0) (pds_cons pd_int pds_nil)))) (pgd_name 1 nd).pg)
    (psds_one (psd_ret (pd_fn (ok__law_lowest T) (en.room.mono (by decide)) en.gu tk (pds_cons (pd_bin g_add pd_int (pd_bin g_mul (pd_fn (ok__law_around T) (en.room.mono (by decide)) en.gu tk (pds_cons (pd_var 0) (pds_cons (pd_var 1) pds_nil))) pd_int)) (pds_cons (pd_ix (pd_keep (pf_lst (pds_cons pd_int (pds_cons pd_int (pds_cons pd_int (pds_cons pd_int (pds_cons pd_int pds_nil))))))) (pd_fn (ok__law_next T) (en.room.mono (by decide)) en.gu tk (pds_cons (pd_var 0) (pds_cons pd_int pds_nil)))) pds_nil))))))
theorem sc__law_mono : FnScope ["_law_draw", "_law_some"] ["_law_draw"] (defScope st__law_mono) := ⟨rfl, rfl, rfl, by decide +kernel, rfl, by decide +kernel, by decide +kernel⟩
theorem ok__law_mono (T : Txt K mg) : Fn P w K mg base "_law_mono" 1 3 m__law_mono := fn_mk (N := ["_law_draw", "_law_some"]) (ps := ["_law_draw"]) (r := b__law_mono) T.d__law_mono sc__law_mono fun f cdv A outer s H E en tk =>
  have nd := sc__law_mono.nd
  (psds_cons (psd_asg (pd_keep (pf_lst (pds_cons (pd_tup pds_nil) (pds_cons (pd_tup (pds_cons (pd_tup (pds_cons pd_str (pds_cons pd_int pds_nil))) pds_nil)) (pds_cons (pd_tup (pds_cons (pd_tup (pds_cons pd_str (pds_cons pd_int pds_nil))) pds_nil)) (pds_cons (pd_tup (pds_cons (pd_tup (pds_cons pd_str (pds_cons pd_int pds_nil))) pds_nil)) (pds_cons (pd_tup (pds_cons (pd_tup (pds_cons pd_str (pds_cons pd_int pds_nil))) (pds_cons (pd_tup (pds_cons pd_str (pds_cons pd_int pds_nil))) pds_nil))) (pds_cons (pd_tup (pds_cons (pd_tup (pds_cons pd_str (pds_cons pd_int pds_nil))) pds_nil)) (pds_cons (pd_tup (pds_cons (pd_tup (pds_cons pd_str (pds_cons pd_int pds_nil))) pds_nil)) pds_nil))))))))) (pgd_name 1 nd).pg)
    (psds_one (psd_ret (pd_ix (pd_var 1) (pd_fn (ok__law_next T) (en.room.mono (by decide)) en.gu tk (pds_cons (pd_var 0) (pds_cons pd_int pds_nil)))))))
theorem sc__law_form : FnScope ["_law_draw", "_law_most", "_law_bases", "_law_rows", "_law_k", "_law_base"] ["_law_draw", "_law_most", "_law_bases"] (defScope st__law_form) := ⟨rfl, rfl, rfl, by decide +kernel, rfl, by decide +kernel, by decide +kernel⟩
theorem ok__law_form (T : Txt K mg) : Fn P w K mg base "_law_form" 3 5 m__law_form := fn_mk (N := ["_law_draw", "_law_most", "_law_bases", "_law_rows", "_law_k", "_law_base"]) (ps := ["_law_draw", "_law_most", "_law_bases"]) (r := b__law_form) T.d__law_form sc__law_form fun f cdv A outer s H E en tk =>
  have nd := sc__law_form.nd
  (psds_cons (psd_asg (pd_own (pf_lst pds_nil)) (pgd_name 3 nd).pg)
    (psds_cons (psd_for en.hp rfl (pid_range1 T.n_range (pds_cons (pd_fn (ok__law_next T) (en.room.mono (by decide)) en.gu tk (pds_cons (pd_var 0) (pds_cons (pd_bin g_add (pd_var 1) pd_int) pds_nil))) pds_nil)) (pgd_name 4 nd).pg (psds_cons (psd_asg (pd_ix (pd_keep (pf_cat (pd_var 2) (pd_keep (pf_lst (pds_cons (pd_fn (ok__law_around T) (en.room.mono (by decide)) en.gu tk (pds_cons (pd_var 0) (pds_cons pd_int pds_nil))) (pds_cons pd_int (pds_cons pd_int pds_nil))))))) (pd_fn (ok__law_next T) (en.room.mono (by decide)) en.gu tk (pds_cons (pd_var 0) (pds_cons (pd_bin g_add (pd_callB (hv := bv_len) b_len T.n_len (pds_cons (pd_var 2) pds_nil)) pd_int) pds_nil)))) (pgd_name 5 nd).pg)
    (psds_one (psd_expr (pd_meth m_append PySem.F.plainAttrs_list PySem.F.slot_list_append PySem.F.type_list_append (pd_var 3) (pds_cons (pd_tup (pds_cons (pd_tup (pds_cons (pd_fn (ok__law_mono T) (en.room.mono (by decide)) en.gu tk (pds_cons (pd_var 0) pds_nil)) (pds_cons (pd_ix (pd_keep (pf_lst (pds_cons pd_int (pds_cons pd_int (pds_cons pd_int (pds_cons pd_int (pds_cons pd_int (pds_cons pd_int pds_nil)))))))) (pd_fn (ok__law_next T) (en.room.mono (by decide)) en.gu tk (pds_cons (pd_var 0) (pds_cons pd_int pds_nil)))) (pds_cons (pd_var 5) pds_nil)))) (pds_cons (pd_fn (ok__law_share T) (en.room.mono (by decide)) en.gu tk (pds_cons (pd_var 0) pds_nil)) pds_nil))) pds_nil))))))
    (psds_freeze (i := 3) (psds_one (psd_ret (pd_fn (ok__law_together T) (en.room.mono (by decide)) en.gu tk (pds_cons (pd_var 3) pds_nil)))))))
theorem sc__law_plain : FnScope ["_law_draw", "_law_k"] ["_law_draw"] (defScope st__law_plain) := ⟨rfl, rfl, rfl, by decide +kernel, rfl, by decide +kernel, by decide +kernel⟩
theorem ok__law_plain (T : Txt K mg) : Fn P w K mg base "_law_plain" 1 5 m__law_plain := fn_mk (N := ["_law_draw", "_law_k"]) (ps := ["_law_draw"]) (r := b__law_plain) T.d__law_plain sc__law_plain fun f cdv A outer s H E en tk =>
  have nd := sc__law_plain.nd
  (psds_one (psd_ret (pd_fn (ok__law_together T) (en.room.mono (by decide)) en.gu tk (pds_cons (pd_keep (pf_lc rfl nd (pid_range1 T.n_range (pds_cons (pd_fn (ok__law_next T) (en.room.mono (by decide)) en.gu tk (pds_cons (pd_var 0) (pds_cons pd_int pds_nil))) pds_nil)) (own := [("_law_k", 1)]) (blkOk_by (by kernel_rfl)) (plc_no (fun _ _ _ _ _ => (pgx_name 1 nd)) (fun _ _ _ _ _ => (pd_tup (pds_cons (pd_fn (ok__law_mono T) (en.room.mono (by decide)) en.gu takes0 (pds_cons (pd_var 0) pds_nil)) (pds_cons (pd_fn (ok__law_share T) (en.room.mono (by decide)) en.gu takes0 (pds_cons (pd_var 0) pds_nil)) pds_nil))))))) pds_nil))))
theorem sc__law_power : FnScope ["_law_number", "_law_many", "_law_found", "_law_turn"] ["_law_number", "_law_many"] (defScope st__law_power) := ⟨rfl, rfl, rfl, by decide +kernel, rfl, by decide +kernel, by decide +kernel⟩
theorem ok__law_power (T : Txt K mg) : Fn P w K mg base "_law_power" 2 1 m__law_power := fn_mk (N := ["_law_number", "_law_many", "_law_found", "_law_turn"]) (ps := ["_law_number", "_law_many"]) (r := b__law_power) T.d__law_power sc__law_power fun f cdv A outer s H E en tk =>
  have nd := sc__law_power.nd
  (psds_cons (psd_asg pd_int (pgd_name 2 nd).pg)
    (psds_cons (psd_for en.hp rfl (pid_range1 T.n_range (pds_cons (pd_var 1) pds_nil)) (pgd_name 3 nd).pg (psds_one (psd_asg (pd_bin g_mul (pd_var 2) (pd_var 0)) (pgd_name 2 nd).pg)))
    (psds_one (psd_ret (pd_var 2)))))
theorem sc__law_term : FnScope ["_law_place", "_law_base", "_law_count", "_law_found", "_law_k"] ["_law_place", "_law_base", "_law_count"] (defScope st__law_term) := ⟨rfl, rfl, rfl, by decide +kernel, rfl, by decide +kernel, by decide +kernel⟩
theorem ok__law_term (T : Txt K mg) : Fn P w K mg base "_law_term" 3 2 m__law_term := fn_mk (N := ["_law_place", "_law_base", "_law_count", "_law_found", "_law_k"]) (ps := ["_law_place", "_law_base", "_law_count"]) (r := b__law_term) T.d__law_term sc__law_term fun f cdv A outer s H E en tk =>
  have nd := sc__law_term.nd
  (psds_cons (psd_if (pb_cmp (g_ltU en.u64) (pd_var 2) (pd_var 0) (by rfl)) (psds_one (psd_ret pd_int)) psds_nil)
    (psds_cons (psd_asg (pd_fn (ok__law_power T) (en.room.mono (by decide)) en.gu tk (pds_cons (pd_var 1) (pds_cons (pd_bin g_sub (pd_var 2) (pd_var 0)) pds_nil))) (pgd_name 3 nd).pg)
    (psds_cons (psd_for en.hp rfl (pid_range1 T.n_range (pds_cons (pd_var 0) pds_nil)) (pgd_name 4 nd).pg (psds_one (psd_asg (pd_bin g_mul (pd_var 3) (pd_bin g_sub (pd_var 2) (pd_var 4))) (pgd_name 3 nd).pg)))
    (psds_cons (psd_for en.hp rfl (pid_range1 T.n_range (pds_cons (pd_var 0) pds_nil)) (pgd_name 4 nd).pg (psds_one (psd_asg (pd_bin g_div (pd_var 3) (pd_bin g_add (pd_var 4) pd_int)) (pgd_name 3 nd).pg)))
    (psds_one (psd_ret (pd_var 3)))))))
theorem sc__law_worth : FnScope ["_law_form_here", "_law_count", "_law_key", "_law_share_here"] ["_law_form_here", "_law_count"] (defScope st__law_worth) := ⟨rfl, rfl, rfl, by decide +kernel, rfl, by decide +kernel, by decide +kernel⟩
theorem ok__law_worth (T : Txt K mg) : Fn P w K mg base "_law_worth" 2 4 m__law_worth := fn_mk (N := ["_law_form_here", "_law_count", "_law_key", "_law_share_here"]) (ps := ["_law_form_here", "_law_count"]) (r := b__law_worth) T.d__law_worth sc__law_worth fun f cdv A outer s H E en tk =>
  have nd := sc__law_worth.nd
  (psds_one (psd_ret (pd_fn (ok__law_together T) (en.room.mono (by decide)) en.gu tk (pds_cons (pd_keep (pf_lc rfl nd (pid_seq (pd_var 0)) (own := [("_law_key", 2), ("_law_share_here", 3)]) (blkOk_by (by kernel_rfl)) (plc_noT rfl (fun _ _ _ _ _ => (pgxs_cons (pgx_name 2 nd) (pgxs_cons (pgx_name 3 nd) pgxs_nil))) (fun _ _ _ _ _ => (pd_tup (pds_cons (pd_ix (pd_var 2) pd_int) (pds_cons (pd_fn (ok__law_times T) (en.room.mono (by decide)) en.gu takes0 (pds_cons (pd_var 3) (pds_cons (pd_tup (pds_cons (pd_fn (ok__law_term T) (en.room.mono (by decide)) en.gu takes0 (pds_cons (pd_ix (pd_var 2) pd_int) (pds_cons (pd_ix (pd_var 2) pd_int) (pds_cons (pd_var 1) pds_nil)))) (pds_cons pd_int pds_nil))) pds_nil))) pds_nil))))))) pds_nil))))
theorem sc__law_is_form : FnScope ["_law_thing", "_law_key", "_law_share_here"] ["_law_thing"] (defScope st__law_is_form) := ⟨rfl, rfl, rfl, by decide +kernel, rfl, by decide +kernel, by decide +kernel⟩
theorem ok__law_is_form (T : Txt K mg) : Fn P w K mg base "_law_is_form" 1 2 m__law_is_form := fn_mk (N := ["_law_thing", "_law_key", "_law_share_here"]) (ps := ["_law_thing"]) (r := b__law_is_form) T.d__law_is_form sc__law_is_form fun f cdv A outer s H E en tk =>
  have nd := sc__law_is_form.nd
  (psds_cons (psd_if (pb_w (pw_orD (pb_not (pb_tru (pd_callB (hv := bv_isinstance) b_isi T.n_isinstance (pds_cons (pd_var 0) (pds_cons (pd_ty (hv := bv_tuple) T.n_tuple) pds_nil))))) (pw_or1D (pb_cmp (g_ne en.u64) (pd_keep (pf_list rfl T.n_list (pds_cons (pd_var 0) pds_nil))) (pd_keep (pf_sortedT en.u64 T.n_sorted (pds_cons (pd_var 0) pds_nil))) (by rfl))))) (psds_one (psd_ret pd_bl)) psds_nil)
    (psds_cons (psd_for en.hp rfl (pid_seq (pd_var 0)) (pgn_tup rfl (pgds_cons (pgd_name 1 nd) (pgds_cons (pgd_name 2 nd) pgds_nil))).pg (psds_one (psd_if (pb_w (pw_orD (pb_cmp (g_ne en.u64) (pd_fn (ok__law_lowest T) (en.room.mono (by decide)) en.gu tk (pds_cons (pd_ix (pd_var 2) pd_int) (pds_cons (pd_ix (pd_var 2) pd_int) pds_nil))) (pd_var 2) (by rfl)) (pw_or1D (pb_cmp (g_eq en.u64) (pd_ix (pd_var 2) pd_int) pd_int (by rfl))))) (psds_one (psd_ret pd_bl)) psds_nil)))
    (psds_one (psd_ret (pd_cmp (g_eq en.u64) (pd_callB (hv := bv_len) b_lenD T.n_len (pds_cons (pd_own (pf_dict rfl en.u12 T.n_dict (pds_cons (pd_var 0) pds_nil))) pds_nil)) (pd_callB (hv := bv_len) b_len T.n_len (pds_cons (pd_var 0) pds_nil)) (by rfl))))))
theorem sc__law_one : FnScope ["_law_base", "_law_form_here", "_law_plain_here", "_law_rows", "_law_mono_here", "_law_place", "_law_own", "_law_share_here", "_law_at", "_law_part", "_law_solved", "_law_minus", "_law_rest"] ["_law_base", "_law_form_here", "_law_plain_here"] (defScope st__law_one) := ⟨rfl, rfl, rfl, by decide +kernel, rfl, by decide +kernel, by decide +kernel⟩
theorem ok__law_one (T : Txt K mg) : Fn P w K mg base "_law_one" 3 5 m__law_one := fn_mk (N := ["_law_base", "_law_form_here", "_law_plain_here", "_law_rows", "_law_mono_here", "_law_place", "_law_own", "_law_share_here", "_law_at", "_law_part", "_law_solved", "_law_minus", "_law_rest"]) (ps := ["_law_base", "_law_form_here", "_law_plain_here"]) (r := b__law_one) T.d__law_one sc__law_one fun f cdv A outer s H E en tk =>
  have nd := sc__law_one.nd
  (psds_cons (psd_asg (pd_own (pf_lst pds_nil)) (pgd_name 3 nd).pg)
    (psds_cons (psd_for en.hp rfl (pid_seq (pd_var 1)) (pgn_tup rfl (pgds_cons (pgn_tup rfl (pgds_cons (pgd_name 4 nd) (pgds_cons (pgd_name 5 nd) (pgds_cons (pgd_name 6 nd) pgds_nil)))) (pgds_cons (pgd_name 7 nd) pgds_nil))).pg (psds_one (psd_if (pb_cmp (g_eq en.u64) (pd_var 6) (pd_var 0) (by rfl)) (psds_one (psd_expr (pd_meth m_append PySem.F.plainAttrs_list PySem.F.slot_list_append PySem.F.type_list_append (pd_var 3) (pds_cons (pd_tup (pds_cons (pd_tup (pds_cons (pd_var 4) (pds_cons (pd_bin g_add (pd_var 5) pd_int) (pds_cons (pd_var 0) pds_nil)))) (pds_cons (pd_var 7) pds_nil))) pds_nil)))) (psds_one (psd_for en.hp rfl (pid_range1 T.n_range (pds_cons (pd_bin g_add (pd_var 5) pd_int) pds_nil)) (pgd_name 8 nd).pg (psds_cons (psd_asg (pd_fn (ok__law_lowest T) (en.room.mono (by decide)) en.gu tk (pds_cons (pd_ix (pd_keep (pf_lst (pds_cons pd_int (pds_cons (pd_neg pd_int) pds_nil)))) (pd_bin g_mod (pd_bin g_sub (pd_var 5) (pd_var 8)) pd_int)) (pds_cons (pd_fn (ok__law_power T) (en.room.mono (by decide)) en.gu tk (pds_cons (pd_bin g_sub (pd_var 6) (pd_var 0)) (pds_cons (pd_bin g_add (pd_bin g_sub (pd_var 5) (pd_var 8)) pd_int) pds_nil))) pds_nil))) (pgd_name 9 nd).pg)
    (psds_one (psd_expr (pd_meth m_append PySem.F.plainAttrs_list PySem.F.slot_list_append PySem.F.type_list_append (pd_var 3) (pds_cons (pd_tup (pds_cons (pd_tup (pds_cons (pd_var 4) (pds_cons (pd_var 8) (pds_cons (pd_var 6) pds_nil)))) (pds_cons (pd_fn (ok__law_times T) (en.room.mono (by decide)) en.gu tk (pds_cons (pd_var 7) (pds_cons (pd_var 9) pds_nil))) pds_nil))) pds_nil))))))))))
    (psds_freeze (i := 3) (psds_cons (psd_asg (pd_fn (ok__law_together T) (en.room.mono (by decide)) en.gu tk (pds_cons (pd_var 3) pds_nil)) (pgd_name 10 nd).pg)
    (psds_cons (psd_setLc (i := 11) rfl nd (pid_seq (pd_fn (ok__law_worth T) (en.room.mono (by decide)) en.gu tk (pds_cons (pd_var 10) (pds_cons pd_int pds_nil)))) (own := [("_law_mono_here", 4), ("_law_share_here", 7)]) (blkOk_by (by kernel_rfl)) (plc_noT rfl (fun _ _ _ _ _ => (pgxs_cons (pgx_name 4 nd) (pgxs_cons (pgx_name 7 nd) pgxs_nil))) (fun _ _ _ _ _ => (pd_tup (pds_cons (pd_var 4) (pds_cons (pd_tup (pds_cons (pd_bin g_sub pd_int (pd_ix (pd_var 7) pd_int)) (pds_cons (pd_ix (pd_var 7) pd_int) pds_nil))) pds_nil))))) (sw_true rfl rfl rfl rfl)).1
    (psds_cons (psd_asg (pd_fn (ok__law_together T) (en.room.mono (by decide)) en.gu tk (pds_cons (pd_keep (pf_cat (pd_keep (pf_list rfl T.n_list (pds_cons (pd_var 2) pds_nil))) (pd_var 11))) pds_nil)) (pgd_name 12 nd).pg)
    (psds_one (psd_ret (pd_fn (ok__law_together T) (en.room.mono (by decide)) en.gu tk (pds_cons (pd_keep (pf_cat (pd_keep (pf_list rfl T.n_list (pds_cons (pd_var 10) pds_nil))) (pd_keep (pf_lc rfl nd (pid_seq (pd_var 12)) (own := [("_law_mono_here", 4), ("_law_share_here", 7)]) (blkOk_by (by kernel_rfl)) (plc_noT rfl (fun _ _ _ _ _ => (pgxs_cons (pgx_name 4 nd) (pgxs_cons (pgx_name 7 nd) pgxs_nil))) (fun _ _ _ _ _ => (pd_tup (pds_cons (pd_tup (pds_cons (pd_var 4) (pds_cons pd_int (pds_cons (pd_var 0) pds_nil)))) (pds_cons (pd_var 7) pds_nil))))))))) pds_nil))))))))))
theorem sc__law_is_too_great : FnScope ["_law_form_here", "_law_wrong", "e", "_law_others"] ["_law_form_here"] (defScope st__law_is_too_great) := ⟨rfl, rfl, rfl, by decide +kernel, rfl, by decide +kernel, by decide +kernel⟩
theorem ok__law_is_too_great (T : Txt K mg) : Fn P w K mg base "_law_is_too_great" 1 8 m__law_is_too_great := fn_mk (N := ["_law_form_here", "_law_wrong", "e", "_law_others"]) (ps := ["_law_form_here"]) (r := b__law_is_too_great) T.d__law_is_too_great sc__law_is_too_great fun f cdv A outer s H E en tk =>
  have nd := sc__law_is_too_great.nd
  (psds_cons (psd_asg pd_non (pgd_name 1 nd).pg)
    (psds_cons (psd_tryKeep (i := 2) T.xc (by decide) nd tk (fun W pn xe tk hpx => have en := Env1.tr en pn xe hpx; (psds_one (psd_expr (pd_fn (ok_one_form T) (en.room.mono (by decide)) en.gu tk (pds_cons pd_int (pds_cons (pd_var 0) (pds_cons (pd_tup pds_nil) pds_nil))))))) (fun _ => (psds_one (psd_asg (pd_var 2) (pgd_name 1 nd).pg))))
    (psds_cons (psd_asg (pd_callB (hv := bv_isinstance) (b_isiTE T.xc) T.n_isinstance (pds_cons (pd_var 1) (pds_cons (pd_tup (pds_cons (pd_cls (T.xc.at_ _ (by decide))) (pds_cons (pd_cls (T.xc.at_ _ (by decide))) (pds_cons (pd_cls (T.xc.at_ _ (by decide))) (pds_cons (pd_cls (T.xc.at_ _ (by decide))) (pds_cons (pd_cls (T.xc.at_ _ (by decide))) (pds_cons (pd_cls (T.xc.at_ _ (by decide))) pds_nil))))))) pds_nil))) (pgd_name 3 nd).pg)
    (psds_one (psd_ret (pd_and (pd_callB (hv := bv_isinstance) (b_isiE T.xc) T.n_isinstance (pds_cons (pd_var 1) (pds_cons (pd_cls (T.xc.at_ _ (by decide))) pds_nil))) (pd_and (pd_callB (hv := bv_isinstance) (b_isiE T.xc) T.n_isinstance (pds_cons (pd_var 1) (pds_cons (pd_ty (hv := bv_ValueError) T.n_ValueError) pds_nil))) (pd_one (pd_not (pd_var 3))))))))))
theorem sc__law_far_right : FnScope ["_law_draw", "_law_base", "_law_own", "_law_form_here", "_law_plain_here"] ["_law_draw"] (defScope st__law_far_right) := ⟨rfl, rfl, rfl, by decide +kernel, rfl, by decide +kernel, by decide +kernel⟩
theorem ok__law_far_right (T : Txt K mg) : Fn P w K mg base "_law_far_right" 1 8 m__law_far_right := fn_mk (N := ["_law_draw", "_law_base", "_law_own", "_law_form_here", "_law_plain_here"]) (ps := ["_law_draw"]) (r := b__law_far_right) T.d__law_far_right sc__law_far_right fun f cdv A outer s H E en tk =>
  have nd := sc__law_far_right.nd
  (psds_cons (psd_asg (pd_fn (ok__law_around T) (en.room.mono (by decide)) en.gu tk (pds_cons (pd_var 0) (pds_cons pd_int pds_nil))) (pgd_name 1 nd).pg)
    (psds_cons (psd_asg (pd_bin g_add (pd_var 1) (pd_ix (pd_keep (pf_lst (pds_cons pd_int (pds_cons pd_int (pds_cons (pd_neg pd_int) (pds_cons pd_int pds_nil)))))) (pd_fn (ok__law_next T) (en.room.mono (by decide)) en.gu tk (pds_cons (pd_var 0) (pds_cons pd_int pds_nil))))) (pgd_name 2 nd).pg)
    (psds_cons (psd_par rfl nd (pds_cons (pd_tup (pds_cons (pd_tup (pds_cons (pd_tup (pds_cons (pd_fn (ok__law_mono T) (en.room.mono (by decide)) en.gu tk (pds_cons (pd_var 0) pds_nil)) (pds_cons (pd_bin g_add pd_int (pd_fn (ok__law_next T) (en.room.mono (by decide)) en.gu tk (pds_cons (pd_var 0) (pds_cons pd_int pds_nil)))) (pds_cons (pd_var 2) pds_nil)))) (pds_cons (pd_fn (ok__law_share T) (en.room.mono (by decide)) en.gu tk (pds_cons (pd_var 0) pds_nil)) pds_nil))) pds_nil)) (pds_cons (pd_fn (ok__law_plain T) (en.room.mono (by decide)) en.gu tk (pds_cons (pd_var 0) pds_nil)) pds_nil)))
    (psds_one (psd_ret (pd_cmp (g_eq en.u64) (pd_fn (ok_one_form T) (en.room.mono (by decide)) en.gu tk (pds_cons (pd_var 1) (pds_cons (pd_var 3) (pds_cons (pd_var 4) pds_nil)))) (pd_fn (ok__law_one T) (en.room.mono (by decide)) en.gu tk (pds_cons (pd_var 1) (pds_cons (pd_var 3) (pds_cons (pd_var 4) pds_nil)))) (by rfl)))))))
theorem sc_law : FnScope ["_law_script", "_law_k", "_law_cell", "_law_draw", "_law_base", "_law_form_here", "_law_plain_here", "_law_due", "_law_turn", "_law_found", "_law_own", "_law_count", "_law_top", "_law_beyond", "_law_mono_here", "_law_share_here"] ["_law_script"] (defScope st_law) := ⟨rfl, rfl, rfl, by decide +kernel, rfl, by decide +kernel, by decide +kernel⟩
theorem ok_law (T : Txt K mg) : Fn P w K mg base "law" 1 9 m_law := fn_mk (N := ["_law_script", "_law_k", "_law_cell", "_law_draw", "_law_base", "_law_form_here", "_law_plain_here", "_law_due", "_law_turn", "_law_found", "_law_own", "_law_count", "_law_top", "_law_beyond", "_law_mono_here", "_law_share_here"]) (ps := ["_law_script"]) (r := b_law) T.d_law sc_law fun f cdv A outer s H E en tk =>
  have nd := sc_law.nd
  (psds_cons (psd_for en.hp rfl (pid_enum T.n_enumerate (pds_cons (pd_cut (pd_or (pd_var 0) (pd_one (pd_keep (pf_lst (pds_cons pd_int pds_nil))))) pod_none (pod_some pd_int)) pds_nil)) (pgn_tup rfl (pgds_cons (pgd_name 1 nd) (pgds_cons (pgd_name 2 nd) pgds_nil))).pg (psds_cons (psd_asg (pd_fn (ok__law_begun T) (en.room.mono (by decide)) en.gu tk (pds_cons (pd_keep (pf_cat (pd_keep (pf_lst (pds_cons (pd_var 2) pds_nil))) (pd_var 0))) (pds_cons pd_int (pds_cons (pd_bin g_add pd_int (pd_var 1)) pds_nil)))) (pgd_name 3 nd).pg)
    (psds_cons (psd_asg (pd_ix (pd_keep (pf_lst (pds_cons pd_int (pds_cons pd_int (pds_cons (pd_neg pd_int) (pds_cons pd_int (pds_cons (pd_fn (ok__law_around T) (en.room.mono (by decide)) en.gu tk (pds_cons (pd_var 3) (pds_cons pd_int pds_nil))) (pds_cons (pd_fn (ok__law_around T) (en.room.mono (by decide)) en.gu tk (pds_cons (pd_var 3) (pds_cons (pd_bin g_pow pd_int pd_int) pds_nil))) pds_nil)))))))) (pd_fn (ok__law_next T) (en.room.mono (by decide)) en.gu tk (pds_cons (pd_var 3) (pds_cons pd_int pds_nil)))) (pgd_name 4 nd).pg)
    (psds_cons (psd_asg (pd_fn (ok__law_form T) (en.room.mono (by decide)) en.gu tk (pds_cons (pd_var 3) (pds_cons pd_int (pds_cons (pd_keep (pf_lst (pds_cons (pd_var 4) (pds_cons (pd_bin g_sub pd_int (pd_var 4)) (pds_cons (pd_bin g_add (pd_var 4) pd_int) pds_nil))))) pds_nil)))) (pgd_name 5 nd).pg)
    (psds_cons (psd_asg (pd_fn (ok__law_plain T) (en.room.mono (by decide)) en.gu tk (pds_cons (pd_var 3) pds_nil)) (pgd_name 6 nd).pg)
    (psds_cons (psd_asg (pd_fn (ok__law_one T) (en.room.mono (by decide)) en.gu tk (pds_cons (pd_var 4) (pds_cons (pd_var 5) (pds_cons (pd_var 6) pds_nil)))) (pgd_name 7 nd).pg)
    (psds_cons (psd_for en.hp rfl (pid_range1 T.n_range (pds_cons pd_int pds_nil)) (pgd_name 8 nd).pg (psds_cons (psd_asg (pd_fn (ok_one_form T) (en.room.mono (by decide)) en.gu tk (pds_cons (pd_var 4) (pds_cons (pd_var 5) (pds_cons (pd_var 6) pds_nil)))) (pgd_name 9 nd).pg)
    (psds_one (psd_if (pb_w (pw_orD (pb_not (pb_tru (pd_fn (ok__law_is_form T) (en.room.mono (by decide)) en.gu tk (pds_cons (pd_var 9) pds_nil)))) (pw_or1D (pb_cmp (g_ne en.u64) (pd_var 9) (pd_var 7) (by rfl))))) (psds_one (psd_ret pd_bl)) psds_nil))))
    (psds_cons (psd_asg (pd_var 6) (pgd_name 10 nd).pg)
    (psds_one (psd_for en.hp rfl (pid_range1 T.n_range (pds_cons pd_int pds_nil)) (pgd_name 11 nd).pg (psds_cons (psd_if (pb_cmp (g_ne en.u64) (pd_fn (ok__law_worth T) (en.room.mono (by decide)) en.gu tk (pds_cons (pd_var 9) (pds_cons (pd_var 11) pds_nil))) (pd_var 10) (by rfl)) (psds_one (psd_ret pd_bl)) psds_nil)
    (psds_cons (psd_setLc (i := 10) rfl nd (pid_seq (pd_var 10)) (own := [("_law_mono_here", 14), ("_law_share_here", 15)]) (blkOk_by (by kernel_rfl)) (plc_noT rfl (fun _ _ _ _ _ => (pgxs_cons (pgx_name 14 nd) (pgxs_cons (pgx_name 15 nd) pgxs_nil))) (fun _ _ _ _ _ => (pd_tup (pds_cons (pd_var 14) (pds_cons (pd_fn (ok__law_times T) (en.room.mono (by decide)) en.gu takes0 (pds_cons (pd_var 15) (pds_cons (pd_tup (pds_cons (pd_var 4) (pds_cons pd_int pds_nil))) pds_nil))) pds_nil))))) (sw_true rfl rfl rfl rfl)).1
    (psds_one (psd_asg (pd_fn (ok__law_together T) (en.room.mono (by decide)) en.gu tk (pds_cons (pd_keep (pf_cat (pd_var 10) (pd_keep (pf_list rfl T.n_list (pds_cons (pd_fn (ok__law_worth T) (en.room.mono (by decide)) en.gu tk (pds_cons (pd_var 5) (pds_cons (pd_var 11) pds_nil))) pds_nil))))) pds_nil)) (pgd_name 10 nd).pg))))))))))))))
    (psds_cons (psd_asg (pd_tup (pds_cons (pd_tup (pds_cons (pd_tup (pds_cons (pd_tup (pds_cons (pd_tup (pds_cons pd_str (pds_cons pd_int pds_nil))) pds_nil)) (pds_cons pd_int (pds_cons pd_int pds_nil)))) (pds_cons (pd_tup (pds_cons pd_int (pds_cons pd_int pds_nil))) pds_nil))) pds_nil)) (pgd_name 12 nd).pg)
    (psds_cons (psd_asg (pd_tup (pds_cons (pd_tup (pds_cons (pd_tup (pds_cons (pd_tup (pds_cons (pd_tup (pds_cons pd_str (pds_cons pd_int pds_nil))) pds_nil)) (pds_cons pd_int (pds_cons pd_int pds_nil)))) (pds_cons (pd_tup (pds_cons pd_int (pds_cons pd_int pds_nil))) pds_nil))) pds_nil)) (pgd_name 13 nd).pg)
    (psds_cons (psd_if (pb_w (pw_orD (pb_cmp (g_ne en.u64) (pd_fn (ok_one_form T) (en.room.mono (by decide)) en.gu tk (pds_cons pd_int (pds_cons (pd_var 12) (pds_cons (pd_tup pds_nil) pds_nil)))) (pd_var 13) (by rfl)) (pw_or1D (pb_not (pb_tru (pd_fn (ok__law_is_too_great T) (en.room.mono (by decide)) en.gu tk (pds_cons (pd_var 13) pds_nil))))))) (psds_one (psd_ret pd_bl)) psds_nil)
    (psds_one (psd_ret (pd_and (pd_cmp (g_eq en.u64) (pd_fn (ok_one_form T) (en.room.mono (by decide)) en.gu tk (pds_cons pd_int (pds_cons (pd_tup pds_nil) (pds_cons (pd_tup pds_nil) pds_nil)))) (pd_tup pds_nil) (by rfl)) (pd_one (pd_fn (ok__law_far_right T) (en.room.mono (by decide)) en.gu tk (pds_cons (pd_fn (ok__law_begun T) (en.room.mono (by decide)) en.gu tk (pds_cons (pd_var 0) (pds_cons pd_int (pds_cons pd_int pds_nil)))) pds_nil))))))))))
end
/-! the head -/
def dd_common_divisor : He.DefD := ⟨("common_divisor", none), "common_divisor", "common_divisor", defArgs st_common_divisor, defBody st_common_divisor, defScope st_common_divisor, [], []⟩
def dd_fraction : He.DefD := ⟨("fraction", none), "fraction", "fraction", defArgs st_fraction, defBody st_fraction, defScope st_fraction, [], []⟩
def dd_times : He.DefD := ⟨("times", none), "times", "times", defArgs st_times, defBody st_times, defScope st_times, [], []⟩
def dd_over : He.DefD := ⟨("over", none), "over", "over", defArgs st_over, defBody st_over, defScope st_over, [], []⟩
def dd_is_small : He.DefD := ⟨("is_small", none), "is_small", "is_small", defArgs st_is_small, defBody st_is_small, defScope st_is_small, [], []⟩
def dd_pairs_of : He.DefD := ⟨("pairs_of", none), "pairs_of", "pairs_of", defArgs st_pairs_of, defBody st_pairs_of, defScope st_pairs_of, [], []⟩
def dd_form_of : He.DefD := ⟨("form_of", none), "form_of", "form_of", defArgs st_form_of, defBody st_form_of, defScope st_form_of, [], []⟩
def dd_plus : He.DefD := ⟨("plus", none), "plus", "plus", defArgs st_plus, defBody st_plus, defScope st_plus, [], []⟩
def dd_added : He.DefD := ⟨("added", none), "added", "added", defArgs st_added, defBody st_added, defScope st_added, [], []⟩
def dd_plain_form : He.DefD := ⟨("plain_form", none), "plain_form", "plain_form", defArgs st_plain_form, defBody st_plain_form, defScope st_plain_form, [], []⟩
def dd_summed : He.DefD := ⟨("summed", none), "summed", "summed", defArgs st_summed, defBody st_summed, defScope st_summed, [], []⟩
def dd_form_sum : He.DefD := ⟨("form_sum", none), "form_sum", "form_sum", defArgs st_form_sum, defBody st_form_sum, defScope st_form_sum, [], []⟩
def dd_choose : He.DefD := ⟨("choose", none), "choose", "choose", defArgs st_choose, defBody st_choose, defScope st_choose, [], []⟩
def dd_raised : He.DefD := ⟨("raised", none), "raised", "raised", defArgs st_raised, defBody st_raised, defScope st_raised, [], []⟩
def dd_term_at : He.DefD := ⟨("term_at", none), "term_at", "term_at", defArgs st_term_at, defBody st_term_at, defScope st_term_at, [], []⟩
def dd_at_count : He.DefD := ⟨("at_count", none), "at_count", "at_count", defArgs st_at_count, defBody st_at_count, defScope st_at_count, [], []⟩
def dd_plain_sum : He.DefD := ⟨("plain_sum", none), "plain_sum", "plain_sum", defArgs st_plain_sum, defBody st_plain_sum, defScope st_plain_sum, [], []⟩
def dd_plain_times : He.DefD := ⟨("plain_times", none), "plain_times", "plain_times", defArgs st_plain_times, defBody st_plain_times, defScope st_plain_times, [], []⟩
def dd_one_form : He.DefD := ⟨("one_form", none), "one_form", "one_form", defArgs st_one_form, defBody st_one_form, defScope st_one_form, [], []⟩
def dd__law_mixed : He.DefD := ⟨("_law_mixed", none), "_law_mixed", "_law_mixed", defArgs st__law_mixed, defBody st__law_mixed, defScope st__law_mixed, [], []⟩
def dd__law_begun : He.DefD := ⟨("_law_begun", none), "_law_begun", "_law_begun", defArgs st__law_begun, defBody st__law_begun, defScope st__law_begun, [], []⟩
def dd__law_next : He.DefD := ⟨("_law_next", none), "_law_next", "_law_next", defArgs st__law_next, defBody st__law_next, defScope st__law_next, [], []⟩
def dd__law_around : He.DefD := ⟨("_law_around", none), "_law_around", "_law_around", defArgs st__law_around, defBody st__law_around, defScope st__law_around, [], []⟩
def dd__law_lowest : He.DefD := ⟨("_law_lowest", none), "_law_lowest", "_law_lowest", defArgs st__law_lowest, defBody st__law_lowest, defScope st__law_lowest, [], []⟩
def dd__law_times : He.DefD := ⟨("_law_times", none), "_law_times", "_law_times", defArgs st__law_times, defBody st__law_times, defScope st__law_times, [], []⟩
def dd__law_plus : He.DefD := ⟨("_law_plus", none), "_law_plus", "_law_plus", defArgs st__law_plus, defBody st__law_plus, defScope st__law_plus, [], []⟩
def dd__law_pairs : He.DefD := ⟨("_law_pairs", none), "_law_pairs", "_law_pairs", defArgs st__law_pairs, defBody st__law_pairs, defScope st__law_pairs, [], []⟩
def dd__law_together : He.DefD := ⟨("_law_together", none), "_law_together", "_law_together", defArgs st__law_together, defBody st__law_together, defScope st__law_together, [], []⟩
def dd__law_share : He.DefD := ⟨("_law_share", none), "_law_share", "_law_share", defArgs st__law_share, defBody st__law_share, defScope st__law_share, [], []⟩
def dd__law_mono : He.DefD := ⟨("_law_mono", none), "_law_mono", "_law_mono", defArgs st__law_mono, defBody st__law_mono, defScope st__law_mono, [], []⟩
def dd__law_form : He.DefD := ⟨("_law_form", none), "_law_form", "_law_form", defArgs st__law_form, defBody st__law_form, defScope st__law_form, [], []⟩
def dd__law_plain : He.DefD := ⟨("_law_plain", none), "_law_plain", "_law_plain", defArgs st__law_plain, defBody st__law_plain, defScope st__law_plain, [], []⟩
def dd__law_power : He.DefD := ⟨("_law_power", none), "_law_power", "_law_power", defArgs st__law_power, defBody st__law_power, defScope st__law_power, [], []⟩
def dd__law_term : He.DefD := ⟨("_law_term", none), "_law_term", "_law_term", defArgs st__law_term, defBody st__law_term, defScope st__law_term, [], []⟩
def dd__law_worth : He.DefD := ⟨("_law_worth", none), "_law_worth", "_law_worth", defArgs st__law_worth, defBody st__law_worth, defScope st__law_worth, [], []⟩
def dd__law_is_form : He.DefD := ⟨("_law_is_form", none), "_law_is_form", "_law_is_form", defArgs st__law_is_form, defBody st__law_is_form, defScope st__law_is_form, [], []⟩
def dd__law_one : He.DefD := ⟨("_law_one", none), "_law_one", "_law_one", defArgs st__law_one, defBody st__law_one, defScope st__law_one, [], []⟩
def dd__law_is_too_great : He.DefD := ⟨("_law_is_too_great", none), "_law_is_too_great", "_law_is_too_great", defArgs st__law_is_too_great, defBody st__law_is_too_great, defScope st__law_is_too_great, [], []⟩
def dd__law_far_right : He.DefD := ⟨("_law_far_right", none), "_law_far_right", "_law_far_right", defArgs st__law_far_right, defBody st__law_far_right, defScope st__law_far_right, [], []⟩
def dd_law : He.DefD := ⟨("law", none), "law", "law", defArgs st_law, defBody st_law, defScope st_law, [], []⟩
def fn : List He.DefD := [dd_common_divisor, dd_fraction, dd_times, dd_over, dd_is_small, dd_pairs_of, dd_form_of, dd_plus, dd_added, dd_plain_form, dd_summed, dd_form_sum, dd_choose, dd_raised, dd_term_at, dd_at_count, dd_plain_sum, dd_plain_times, dd_one_form, dd__law_mixed, dd__law_begun, dd__law_next, dd__law_around, dd__law_lowest, dd__law_times, dd__law_plus, dd__law_pairs, dd__law_together, dd__law_share, dd__law_mono, dd__law_form, dd__law_plain, dd__law_power, dd__law_term, dd__law_worth, dd__law_is_form, dd__law_one, dd__law_is_too_great, dd__law_far_right, dd_law]
def xh : Xh := ⟨clX, ["TooGreat"], []⟩
def li : List (Str × D) := [("MINUS", (.tup [(.int (-1)), (.int 1)])), ("NOUGHT", (.tup [(.int 0), (.int 1)]))]
def fa : List He.Fa := [.glo "common_divisor", .glo "fraction", .glo "times", .glo "over", .glo "is_small", .glo "pairs_of", .glo "form_of", .glo "plus", .glo "added", .glo "plain_form", .glo "summed", .glo "form_sum", .glo "choose", .glo "raised", .glo "term_at", .glo "at_count", .glo "plain_sum", .glo "plain_times", .glo "one_form", .glo "_law_mixed", .glo "_law_begun", .glo "_law_next", .glo "_law_around", .glo "_law_lowest", .glo "_law_times", .glo "_law_plus", .glo "_law_pairs", .glo "_law_together", .glo "_law_share", .glo "_law_mono", .glo "_law_form", .glo "_law_plain", .glo "_law_power", .glo "_law_term", .glo "_law_worth", .glo "_law_is_form", .glo "_law_one", .glo "_law_is_too_great", .glo "_law_far_right", .glo "law", .free "ValueError", .free "abs", .free "all", .free "dict", .free "enumerate", .free "int", .free "isinstance", .free "len", .free "list", .free "max", .free "range", .free "sorted", .free "sum", .free "tuple", .int "GREATEST" 10000000000000000000000000000000000000000000000000000000000000000000000000000000000000000000000000000000000000000000000000000000000000000000000000000000000000000000000000000000000000000000000000000000000000000000000000000000000000000000000000000000000000000000000000000000000000000000000000000000000000000000000000000000000000000000000000000000000000000000000000000000000000000000000000000000000000000000000000000000000000000000000000000000000000000000000000000000000000000000000000000000000000000000000000000000000000000000000000000000000000000000000000000000000000000000000000000000000000000000000000000000000000000000000000000000000000000000000000000000000000000000000000000000000000000000000000000000000000000000000000000000000000000000000000000000000000000000000000000000000000000000000000000000000000000000000000000000000000000000000000000000000000000000000000000000000000000000000000000000000000000000000000000000000000000000000000000000000000000000000000000000000000000000000000000000000000000, .int "MOST_PAIRS" 1000, .int "MOST_PLACE" 99]
theorem txt {K : Fg} {h : Heap} {mg : Str → Option Value} (X : K.In h) (G : h.Ns mainGlobals mg) (c : He.SaysD fa fn K) (hd : NoDig K) (hl : ∀ (i : Nat) (p : Str × D), li[i]? = some p → litF K p = true) (hx : xhB xh K = true) : Txt K mg where
  d_common_divisor := (c.def_ 0 (d := dd_common_divisor) rfl).elim fun fd F => ⟨_, fd, fun_of F, He.glo_ok X G (c.fact 0 (f := .glo "common_divisor") rfl), F.bindsN fun _ _ _ _ _ _ us hl => match us, hl with | [_, _], _ => rfl⟩
  d_fraction := (c.def_ 1 (d := dd_fraction) rfl).elim fun fd F => ⟨_, fd, fun_of F, He.glo_ok X G (c.fact 1 (f := .glo "fraction") rfl), F.bindsN fun _ _ _ _ _ _ us hl => match us, hl with | [_, _], _ => rfl⟩
  d_times := (c.def_ 2 (d := dd_times) rfl).elim fun fd F => ⟨_, fd, fun_of F, He.glo_ok X G (c.fact 2 (f := .glo "times") rfl), F.bindsN fun _ _ _ _ _ _ us hl => match us, hl with | [_, _], _ => rfl⟩
  d_over := (c.def_ 3 (d := dd_over) rfl).elim fun fd F => ⟨_, fd, fun_of F, He.glo_ok X G (c.fact 3 (f := .glo "over") rfl), F.bindsN fun _ _ _ _ _ _ us hl => match us, hl with | [_, _], _ => rfl⟩
  d_is_small := (c.def_ 4 (d := dd_is_small) rfl).elim fun fd F => ⟨_, fd, fun_of F, He.glo_ok X G (c.fact 4 (f := .glo "is_small") rfl), F.bindsN fun _ _ _ _ _ _ us hl => match us, hl with | [_], _ => rfl⟩
  d_pairs_of := (c.def_ 5 (d := dd_pairs_of) rfl).elim fun fd F => ⟨_, fd, fun_of F, He.glo_ok X G (c.fact 5 (f := .glo "pairs_of") rfl), F.bindsN fun _ _ _ _ _ _ us hl => match us, hl with | [_], _ => rfl⟩
  d_form_of := (c.def_ 6 (d := dd_form_of) rfl).elim fun fd F => ⟨_, fd, fun_of F, He.glo_ok X G (c.fact 6 (f := .glo "form_of") rfl), F.bindsN fun _ _ _ _ _ _ us hl => match us, hl with | [_], _ => rfl⟩
  d_plus := (c.def_ 7 (d := dd_plus) rfl).elim fun fd F => ⟨_, fd, fun_of F, He.glo_ok X G (c.fact 7 (f := .glo "plus") rfl), F.bindsN fun _ _ _ _ _ _ us hl => match us, hl with | [_, _], _ => rfl⟩
  d_added := (c.def_ 8 (d := dd_added) rfl).elim fun fd F => ⟨_, fd, fun_of F, He.glo_ok X G (c.fact 8 (f := .glo "added") rfl), F.bindsN fun _ _ _ _ _ _ us hl => match us, hl with | [_, _, _], _ => rfl⟩
  d_plain_form := (c.def_ 9 (d := dd_plain_form) rfl).elim fun fd F => ⟨_, fd, fun_of F, He.glo_ok X G (c.fact 9 (f := .glo "plain_form") rfl), F.bindsN fun _ _ _ _ _ _ us hl => match us, hl with | [_, _, _], _ => rfl⟩
  d_summed := (c.def_ 10 (d := dd_summed) rfl).elim fun fd F => ⟨_, fd, fun_of F, He.glo_ok X G (c.fact 10 (f := .glo "summed") rfl), F.bindsN fun _ _ _ _ _ _ us hl => match us, hl with | [_, _], _ => rfl⟩
  d_form_sum := (c.def_ 11 (d := dd_form_sum) rfl).elim fun fd F => ⟨_, fd, fun_of F, He.glo_ok X G (c.fact 11 (f := .glo "form_sum") rfl), F.bindsN fun _ _ _ _ _ _ us hl => match us, hl with | [_, _], _ => rfl⟩
  d_choose := (c.def_ 12 (d := dd_choose) rfl).elim fun fd F => ⟨_, fd, fun_of F, He.glo_ok X G (c.fact 12 (f := .glo "choose") rfl), F.bindsN fun _ _ _ _ _ _ us hl => match us, hl with | [_, _], _ => rfl⟩
  d_raised := (c.def_ 13 (d := dd_raised) rfl).elim fun fd F => ⟨_, fd, fun_of F, He.glo_ok X G (c.fact 13 (f := .glo "raised") rfl), F.bindsN fun _ _ _ _ _ _ us hl => match us, hl with | [_, _], _ => rfl⟩
  d_term_at := (c.def_ 14 (d := dd_term_at) rfl).elim fun fd F => ⟨_, fd, fun_of F, He.glo_ok X G (c.fact 14 (f := .glo "term_at") rfl), F.bindsN fun _ _ _ _ _ _ us hl => match us, hl with | [_, _, _], _ => rfl⟩
  d_at_count := (c.def_ 15 (d := dd_at_count) rfl).elim fun fd F => ⟨_, fd, fun_of F, He.glo_ok X G (c.fact 15 (f := .glo "at_count") rfl), F.bindsN fun _ _ _ _ _ _ us hl => match us, hl with | [_, _], _ => rfl⟩
  d_plain_sum := (c.def_ 16 (d := dd_plain_sum) rfl).elim fun fd F => ⟨_, fd, fun_of F, He.glo_ok X G (c.fact 16 (f := .glo "plain_sum") rfl), F.bindsN fun _ _ _ _ _ _ us hl => match us, hl with | [_, _], _ => rfl⟩
  d_plain_times := (c.def_ 17 (d := dd_plain_times) rfl).elim fun fd F => ⟨_, fd, fun_of F, He.glo_ok X G (c.fact 17 (f := .glo "plain_times") rfl), F.bindsN fun _ _ _ _ _ _ us hl => match us, hl with | [_, _], _ => rfl⟩
  d_one_form := (c.def_ 18 (d := dd_one_form) rfl).elim fun fd F => ⟨_, fd, fun_of F, He.glo_ok X G (c.fact 18 (f := .glo "one_form") rfl), F.bindsN fun _ _ _ _ _ _ us hl => match us, hl with | [_, _, _], _ => rfl⟩
  d__law_mixed := (c.def_ 19 (d := dd__law_mixed) rfl).elim fun fd F => ⟨_, fd, fun_of F, He.glo_ok X G (c.fact 19 (f := .glo "_law_mixed") rfl), F.bindsN fun _ _ _ _ _ _ us hl => match us, hl with | [_, _], _ => rfl⟩
  d__law_begun := (c.def_ 20 (d := dd__law_begun) rfl).elim fun fd F => ⟨_, fd, fun_of F, He.glo_ok X G (c.fact 20 (f := .glo "_law_begun") rfl), F.bindsN fun _ _ _ _ _ _ us hl => match us, hl with | [_, _, _], _ => rfl⟩
  d__law_next := (c.def_ 21 (d := dd__law_next) rfl).elim fun fd F => ⟨_, fd, fun_of F, He.glo_ok X G (c.fact 21 (f := .glo "_law_next") rfl), F.bindsN fun _ _ _ _ _ _ us hl => match us, hl with | [_, _], _ => rfl⟩
  d__law_around := (c.def_ 22 (d := dd__law_around) rfl).elim fun fd F => ⟨_, fd, fun_of F, He.glo_ok X G (c.fact 22 (f := .glo "_law_around") rfl), F.bindsN fun _ _ _ _ _ _ us hl => match us, hl with | [_, _], _ => rfl⟩
  d__law_lowest := (c.def_ 23 (d := dd__law_lowest) rfl).elim fun fd F => ⟨_, fd, fun_of F, He.glo_ok X G (c.fact 23 (f := .glo "_law_lowest") rfl), F.bindsN fun _ _ _ _ _ _ us hl => match us, hl with | [_, _], _ => rfl⟩
  d__law_times := (c.def_ 24 (d := dd__law_times) rfl).elim fun fd F => ⟨_, fd, fun_of F, He.glo_ok X G (c.fact 24 (f := .glo "_law_times") rfl), F.bindsN fun _ _ _ _ _ _ us hl => match us, hl with | [_, _], _ => rfl⟩
  d__law_plus := (c.def_ 25 (d := dd__law_plus) rfl).elim fun fd F => ⟨_, fd, fun_of F, He.glo_ok X G (c.fact 25 (f := .glo "_law_plus") rfl), F.bindsN fun _ _ _ _ _ _ us hl => match us, hl with | [_, _], _ => rfl⟩
  d__law_pairs := (c.def_ 26 (d := dd__law_pairs) rfl).elim fun fd F => ⟨_, fd, fun_of F, He.glo_ok X G (c.fact 26 (f := .glo "_law_pairs") rfl), F.bindsN fun _ _ _ _ _ _ us hl => match us, hl with | [_], _ => rfl⟩
  d__law_together := (c.def_ 27 (d := dd__law_together) rfl).elim fun fd F => ⟨_, fd, fun_of F, He.glo_ok X G (c.fact 27 (f := .glo "_law_together") rfl), F.bindsN fun _ _ _ _ _ _ us hl => match us, hl with | [_], _ => rfl⟩
  d__law_share := (c.def_ 28 (d := dd__law_share) rfl).elim fun fd F => ⟨_, fd, fun_of F, He.glo_ok X G (c.fact 28 (f := .glo "_law_share") rfl), F.bindsN fun _ _ _ _ _ _ us hl => match us, hl with | [_], _ => rfl⟩
  d__law_mono := (c.def_ 29 (d := dd__law_mono) rfl).elim fun fd F => ⟨_, fd, fun_of F, He.glo_ok X G (c.fact 29 (f := .glo "_law_mono") rfl), F.bindsN fun _ _ _ _ _ _ us hl => match us, hl with | [_], _ => rfl⟩
  d__law_form := (c.def_ 30 (d := dd__law_form) rfl).elim fun fd F => ⟨_, fd, fun_of F, He.glo_ok X G (c.fact 30 (f := .glo "_law_form") rfl), F.bindsN fun _ _ _ _ _ _ us hl => match us, hl with | [_, _, _], _ => rfl⟩
  d__law_plain := (c.def_ 31 (d := dd__law_plain) rfl).elim fun fd F => ⟨_, fd, fun_of F, He.glo_ok X G (c.fact 31 (f := .glo "_law_plain") rfl), F.bindsN fun _ _ _ _ _ _ us hl => match us, hl with | [_], _ => rfl⟩
  d__law_power := (c.def_ 32 (d := dd__law_power) rfl).elim fun fd F => ⟨_, fd, fun_of F, He.glo_ok X G (c.fact 32 (f := .glo "_law_power") rfl), F.bindsN fun _ _ _ _ _ _ us hl => match us, hl with | [_, _], _ => rfl⟩
  d__law_term := (c.def_ 33 (d := dd__law_term) rfl).elim fun fd F => ⟨_, fd, fun_of F, He.glo_ok X G (c.fact 33 (f := .glo "_law_term") rfl), F.bindsN fun _ _ _ _ _ _ us hl => match us, hl with | [_, _, _], _ => rfl⟩
  d__law_worth := (c.def_ 34 (d := dd__law_worth) rfl).elim fun fd F => ⟨_, fd, fun_of F, He.glo_ok X G (c.fact 34 (f := .glo "_law_worth") rfl), F.bindsN fun _ _ _ _ _ _ us hl => match us, hl with | [_, _], _ => rfl⟩
  d__law_is_form := (c.def_ 35 (d := dd__law_is_form) rfl).elim fun fd F => ⟨_, fd, fun_of F, He.glo_ok X G (c.fact 35 (f := .glo "_law_is_form") rfl), F.bindsN fun _ _ _ _ _ _ us hl => match us, hl with | [_], _ => rfl⟩
  d__law_one := (c.def_ 36 (d := dd__law_one) rfl).elim fun fd F => ⟨_, fd, fun_of F, He.glo_ok X G (c.fact 36 (f := .glo "_law_one") rfl), F.bindsN fun _ _ _ _ _ _ us hl => match us, hl with | [_, _, _], _ => rfl⟩
  d__law_is_too_great := (c.def_ 37 (d := dd__law_is_too_great) rfl).elim fun fd F => ⟨_, fd, fun_of F, He.glo_ok X G (c.fact 37 (f := .glo "_law_is_too_great") rfl), F.bindsN fun _ _ _ _ _ _ us hl => match us, hl with | [_], _ => rfl⟩
  d__law_far_right := (c.def_ 38 (d := dd__law_far_right) rfl).elim fun fd F => ⟨_, fd, fun_of F, He.glo_ok X G (c.fact 38 (f := .glo "_law_far_right") rfl), F.bindsN fun _ _ _ _ _ _ us hl => match us, hl with | [_], _ => rfl⟩
  d_law := (c.def_ 39 (d := dd_law) rfl).elim fun fd F => ⟨_, fd, fun_of F, He.glo_ok X G (c.fact 39 (f := .glo "law") rfl), F.bindsN fun _ _ _ _ _ _ us hl => match us, hl with | [_], _ => rfl⟩
  n_ValueError := He.free_ok X G (c.fact 40 (f := .free "ValueError") rfl)
  n_abs := He.free_ok X G (c.fact 41 (f := .free "abs") rfl)
  n_all := He.free_ok X G (c.fact 42 (f := .free "all") rfl)
  n_dict := He.free_ok X G (c.fact 43 (f := .free "dict") rfl)
  n_enumerate := He.free_ok X G (c.fact 44 (f := .free "enumerate") rfl)
  n_int := He.free_ok X G (c.fact 45 (f := .free "int") rfl)
  n_isinstance := He.free_ok X G (c.fact 46 (f := .free "isinstance") rfl)
  n_len := He.free_ok X G (c.fact 47 (f := .free "len") rfl)
  n_list := He.free_ok X G (c.fact 48 (f := .free "list") rfl)
  n_max := He.free_ok X G (c.fact 49 (f := .free "max") rfl)
  n_range := He.free_ok X G (c.fact 50 (f := .free "range") rfl)
  n_sorted := He.free_ok X G (c.fact 51 (f := .free "sorted") rfl)
  n_sum := He.free_ok X G (c.fact 52 (f := .free "sum") rfl)
  n_tuple := He.free_ok X G (c.fact 53 (f := .free "tuple") rfl)
  g_MINUS := fun _ => litF_ok X G (hl 0 _ rfl)
  g_NOUGHT := fun _ => litF_ok X G (hl 1 _ rfl)
  g_GREATEST := He.int_ok X G (c.fact 54 (f := .int "GREATEST" 10000000000000000000000000000000000000000000000000000000000000000000000000000000000000000000000000000000000000000000000000000000000000000000000000000000000000000000000000000000000000000000000000000000000000000000000000000000000000000000000000000000000000000000000000000000000000000000000000000000000000000000000000000000000000000000000000000000000000000000000000000000000000000000000000000000000000000000000000000000000000000000000000000000000000000000000000000000000000000000000000000000000000000000000000000000000000000000000000000000000000000000000000000000000000000000000000000000000000000000000000000000000000000000000000000000000000000000000000000000000000000000000000000000000000000000000000000000000000000000000000000000000000000000000000000000000000000000000000000000000000000000000000000000000000000000000000000000000000000000000000000000000000000000000000000000000000000000000000000000000000000000000000000000000000000000000000000000000000000000000000000000000000000000000000000000000000000) rfl)
  g_MOST_PAIRS := He.int_ok X G (c.fact 55 (f := .int "MOST_PAIRS" 1000) rfl)
  g_MOST_PLACE := He.int_ok X G (c.fact 56 (f := .int "MOST_PLACE" 99) rfl)
  dig := hd
  xc := (clsB_ok X G (both hx).1).1
  xn := (clsB_ok X G (both hx).1).2
  xl := (leB_ok X G (both (both hx).2).1).1
  xa := (leB_ok X G (both (both hx).2).1).2
  r_TooGreat := raB_ok X G (List.all_eq_true.mp (both (both (both hx).2).2).1 "TooGreat" (by decide))
end DL
set_option Elab.async false
set_option linter.all false
set_option maxRecDepth 100000
set_option maxHeartbeats 0
set_option autoImplicit false
namespace DL
open PySem PySem.Spec PyProof.Rows L2
abbrev R : PySem.W.OpenRow := PySem.W.OpenLaw.row PySem.Challenge.rw_roundless_k32_one_form
abbrev hk : PySem.W.Hook := hookX 4 fa fn li xh
def ob (s : PySem.W.SharedT) : He.AlD := obsXG 4 fa fn li xh (HandSHeadRun.getT s)
theorem ob_eq (s : PySem.W.SharedT) : ob s = hk.obs s.abs   := obsXG_eq (HandSHeadRun.getT_eq s)
def loose : List Str := "NOUGHT" :: "MOST_PAIRS" :: "MOST_PLACE" :: "GREATEST" :: "MINUS" :: "LoopError" :: "BadRow" :: "BadLoop" :: "Hindered" :: "BadPaper" :: "TooGreat" :: "BadQuestion" :: "OutOfPlace" :: "common_divisor" :: "fraction" :: "plus" :: "times" :: "over" :: "choose" :: "is_small" :: "pairs_of" :: "form_of" :: "added" :: "summed" :: "plain_form" :: "raised" :: "term_at" :: "form_sum" :: "at_count" :: "plain_sum" :: "plain_times" :: "one_form" :: "_law_mixed" :: "_law_begun" :: "_law_next" :: "_law_around" :: "_law_lowest" :: "_law_plus" :: "_law_times" :: "_law_pairs" :: "_law_together" :: "_law_share" :: "_law_mono" :: "_law_form" :: "_law_plain" :: "_law_power" :: "_law_term" :: "_law_worth" :: "_law_is_form" :: "_law_one" :: "_law_is_too_great" :: "_law_far_right" :: []
theorem run (w : World) : HandSHeadRun.RunEq R (PySem.W.view R.prog [57]) hk ob 4000 loose w := by
  intro os
  kernel_rfl
end DL
section
open PySem PySem.W PySem.Calls PyProof.Rows
theorem DL.holds_of (hm : ∀ ns : List Int, ns.length ≤ 63 → ∃ S, DL.m_law [.lst (ns.map .int)] [] = .ok (.bl true) S) : PySem.Challenge.rw_roundless_k32_one_form.Holds := by
  w_on; o_law
  refine HandSHeadRun.head_any (r := OpenLaw.row PySem.Challenge.rw_roundless_k32_one_form) (q := view (OpenLaw.row PySem.Challenge.rw_roundless_k32_one_form).prog [57]) (H := DL.hk) (ob := DL.ob) (M := 4000) (loose := DL.loose) (d := HandSHeadRun.topDef (OpenLaw.row PySem.Challenge.rw_roundless_k32_one_form).prog 57) (kwd := []) DL.ob_eq
    (by kernel_rfl) (fun s => by kernel_rfl) DL.run (by kernel_rfl) (by kernel_rfl) (by kernel_rfl) (by rfl) (by first | assumption | decide +kernel) (by decide +kernel) ⟨rfl, rfl, rfl, rfl, rfl, by decide +kernel⟩ ?hw ?hc
  case hw => w_witness2
  case hc =>
    refine DL.walkG (l := PySem.Challenge.rw_roundless_k32_one_form) (n := 63) (k := 9) (m := DL.m_law) rfl (by decide) (by kernel_rfl) ⟨rfl, by decide, by decide⟩ ?F hm
    intro w mg h Y G
    obtain ⟨K, KX, c⟩ := Y
    have e : (HandSHeadRun.topDef (OpenLaw.row PySem.Challenge.rw_roundless_k32_one_form).prog 57).name = ("law" : PySem.Str) := by kernel_rfl
    refine ⟨K, KX, fun base _ _ => ?_⟩
    rw [e]
    exact DL.ok_law (DL.txt KX G (DL.SaysX.all c).1 (DL.SaysX.all c).2.1 (DL.SaysX.all c).2.2.1 (DL.SaysX.all c).2.2.2)
end
set_option Elab.async false
set_option linter.all false
set_option maxRecDepth 100000
set_option maxHeartbeats 4000000
set_option autoImplicit false
/-! Typed things as data: their order, sorting. -/
namespace DL
open PySem L2
class Emb (κ : Type) where
  toD : κ → D
  py : κ → PyData
  deg : Nat
  pyOk : ∀ (S : Sto) (a : κ), toPy S (toD a) = some (py a)
  np : ∀ (a : κ) (k : Nat), toD a ≠ .ptr k
  al : ∀ a b : κ, PySem.W.alike (py a) (py b) = true
  dep : ∀ a : κ, (py a).depth ≤ deg
  inj : ∀ a b : κ, PyData.eqv (py a) (py b) = true → a = b
  cl : ∀ (n : Nat) (a : κ), D.closed n (toD a) = true
open Emb
section
variable {κ ν : Type} [Emb κ] [Emb ν]
theorem emb_pys (S : Sto) : ∀ xs : List κ, toPys S (xs.map toD) = some (xs.map py)
  | [] => rfl
  | x :: r => by unfold List.map toPys; rw [pyOk S x, emb_pys S r]
theorem emb_closed (n : Nat) : ∀ xs : List κ, closedL n (xs.map toD) = true
  | [] => rfl
  | x :: r => by unfold List.map closedL; rw [cl n x, emb_closed n r]; rfl
theorem emb_al : ∀ xs ys : List κ, PySem.W.alikeAll (xs.map py) (ys.map py) = true
  | [], _ => by unfold List.map PySem.W.alikeAll; rfl
  | _ :: _, [] => by unfold List.map PySem.W.alikeAll; rfl
  | x :: r, y :: q => by unfold List.map PySem.W.alikeAll; rw [al x y, emb_al r q]; rfl
theorem emb_dep : ∀ xs : List κ, PyData.depthAll (xs.map py) ≤ deg κ
  | [] => by simp [PyData.depthAll]
  | x :: r => by
    have h1 := dep x
    have h2 := emb_dep r
    simp only [List.map_cons, PyData.depthAll]
    omega
theorem emb_injs : ∀ xs ys : List κ, PyData.eqvAll (xs.map py) (ys.map py) = true → xs = ys
  | [], [], _ => rfl
  | [], _ :: _, h => by simp [PyData.eqvAll] at h
  | _ :: _, [], h => by simp [PyData.eqvAll] at h
  | x :: r, y :: q, h => by
    simp only [List.map_cons, PyData.eqvAll, Bool.and_eq_true] at h
    rw [inj x y h.1, emb_injs r q h.2]
theorem deref_emb (S : Sto) (a : κ) : deref S (toD a) = toD a := by
  have h := np a
  cases q : (toD a : D) with
  | ptr k => exact absurd q (h k)
  | _ => rfl
end
instance : Emb Int where
  toD := .int
  py := .int
  deg := 0
  pyOk := fun _ _ => rfl
  np := fun _ _ h => nomatch h
  al := fun a b => by simp [PySem.W.alike]
  dep := fun a => by simp [PyData.depth]
  inj := fun a b h => by simpa [PyData.eqv] using h
  cl := fun _ _ => rfl
instance : Emb Str where
  toD := .str
  py := .str
  deg := 0
  pyOk := fun _ _ => rfl
  np := fun _ _ h => nomatch h
  al := fun a b => by simp [PySem.W.alike]
  dep := fun a => by simp [PyData.depth]
  inj := fun a b h => by simpa [PyData.eqv] using h
  cl := fun _ _ => rfl
instance {α β : Type} [Emb α] [Emb β] : Emb (α × β) where
  toD := fun p => .tup [toD p.1, toD p.2]
  py := fun p => .tuple [py p.1, py p.2]
  deg := max (deg α) (deg β) + 1
  pyOk := fun S p => by unfold toPy toPys toPys toPys; rw [pyOk, pyOk]; rfl
  np := fun _ _ h => nomatch h
  al := fun a b => by simp [PySem.W.alike, PySem.W.alikeAll, al]
  dep := fun a => by
    have h1 := dep a.1
    have h2 := dep a.2
    simp only [PyData.depth, PyData.depthAll]
    omega
  inj := fun a b h => by
    simp only [PyData.eqv, PyData.eqvAll, Bool.and_eq_true] at h
    exact Prod.ext (inj _ _ h.1) (inj _ _ h.2.1)
  cl := fun n p => by unfold D.closed closedL closedL closedL; rw [cl, cl]; rfl
instance {α : Type} [Emb α] : Emb (List α) where
  toD := fun xs => .tup (xs.map toD)
  py := fun xs => .tuple (xs.map py)
  deg := deg α + 1
  pyOk := fun S xs => by unfold toPy; rw [emb_pys]; rfl
  np := fun _ _ h => nomatch h
  al := fun a b => by unfold PySem.W.alike; exact emb_al a b
  dep := fun a => by
    have := emb_dep a
    simp only [PyData.depth]
    omega
  inj := fun a b h => by
    simp only [PyData.eqv] at h
    exact emb_injs a b h
  cl := fun n xs => by unfold D.closed; exact emb_closed n xs
theorem toD_int (i : Int) : (toD i : D) = .int i := rfl
/-! ### order -/
section
variable {κ ν : Type} [Emb κ] [Emb ν]
def ltE (a b : κ) : Bool := PySem.W.dataLt (py a) (py b)
def leE (a b : κ) : Bool := !ltE b a
theorem leE_sort : (leE : κ → κ → Bool) = PySem.W.sortLe (PyProof.Rows.listOrd PyProof.Rows.itemOrd) false (fun a : κ => PySem.W.keyToks (py a)) := rfl
theorem leE_total : PySem.W.TotalLe (leE : κ → κ → Bool) := by rw [leE_sort]; exact PySem.W.sortLe_total _ _ _
theorem toks_inj {a b : κ} (h : PySem.W.keyToks (py a) = PySem.W.keyToks (py b)) : a = b := by
  obtain ⟨_, h2⟩ := PySem.W.toks_eqv (py a) (py b) (al a b)
  cases q : PyData.eqv (py a) (py b) with
  | true => exact inj a b q
  | false =>
    have e1 := h2 q [] [.inl 0]
    have e2 := h2 q [] []
    rw [h] at e1 e2
    rw [PySem.W.lex_pre] at e1 e2
    rw [← e2] at e1
    cases e1
theorem leE_anti {a b : κ} (h1 : leE a b = true) (h2 : leE b a = true) : a = b := by
  unfold leE ltE at h1 h2
  rw [Bool.not_eq_true'] at h1 h2
  exact toks_inj ((PyProof.Rows.listOrd PyProof.Rows.itemOrd).total _ _ h2 h1)
theorem ltE_irr (a : κ) : ltE a a = false := (PyProof.Rows.listOrd PyProof.Rows.itemOrd).irrefl _
theorem ltE_ne {a b : κ} (h : ltE a b = true) : a ≠ b := fun e => by subst e; rw [ltE_irr] at h; cases h
theorem ltE_trans {a b c : κ} (h : ltE a b = true) (g : ltE b c = true) : ltE a c = true := (PyProof.Rows.listOrd PyProof.Rows.itemOrd).trans _ _ _ h g
theorem leE_of_lt {a b : κ} (h : ltE a b = true) : leE a b = true := by
  unfold leE
  cases q : ltE b a with
  | false => rfl
  | true => exact absurd (ltE_trans h q) (by rw [ltE_irr]; decide)
theorem ltE_of_le {a b : κ} (h : leE a b = true) (hn : a ≠ b) : ltE a b = true := by
  cases q : ltE a b with
  | true => rfl
  | false => exact absurd (leE_anti h (by unfold leE; rw [q]; rfl)) hn
/-- pairs of unlike firsts -/
theorem ltE_fst {p q : κ × ν} (h : p.1 ≠ q.1) : ltE p q = ltE p.1 q.1 := by
  unfold ltE
  show PySem.W.dataLt (.tuple [py p.1, py p.2]) (.tuple [py q.1, py q.2]) = _
  rw [PySem.W.dataLt_pair (al _ _) (al _ _)]
  have : PyData.eqv (py p.1) (py q.1) = false := by
    cases e : PyData.eqv (py p.1) (py q.1) with
    | false => rfl
    | true => exact absurd (inj _ _ e) h
  rw [this]
  rfl
def srt (xs : List κ) : List κ := xs.mergeSort leE
theorem srt_perm (xs : List κ) : (srt xs).Perm xs := List.mergeSort_perm _ _
theorem srt_pair (xs : List κ) : (srt xs).Pairwise fun a b => leE a b = true := PySem.W.sort_pairwise leE_total xs
theorem srt_id {xs : List κ} (h : xs.Pairwise fun a b => leE a b = true) : srt xs = xs := List.mergeSort_of_pairwise h
theorem sorted_one {xs ys : List κ} (h1 : xs.Pairwise fun a b => leE a b = true) (h2 : ys.Pairwise fun a b => leE a b = true) (p : xs.Perm ys) : xs = ys := p.eq_of_pairwise (fun _ _ _ _ a b => leE_anti a b) h1 h2
theorem srt_len (xs : List κ) : (srt xs).length = xs.length := (srt_perm xs).length_eq
theorem srt_mem {xs : List κ} {a : κ} : a ∈ srt xs ↔ a ∈ xs := (srt_perm xs).mem_iff
class Sok (κ : Type) [Emb κ] : Prop where
  sok : (∀ a : κ, tupFull (py a) = true) ∨ ∀ a : κ, noTup (py a) = true
  low : deg κ ≤ 40
theorem sortD_emb [Sok κ] (S : Sto) (xs : List κ) (hl : xs.length ≤ sizeLine) : sortD S (xs.map toD) = some ((srt xs).map toD) := by
  unfold sortD
  rw [emb_pys]
  dsimp only
  have so : sortable (xs.map py) = true := by
    unfold sortable
    rw [Bool.and_eq_true, Bool.and_eq_true, Bool.or_eq_true]
    refine ⟨(Sok.sok (κ := κ)).imp (fun h => List.all_eq_true.mpr fun x hx => ?_) (fun h => List.all_eq_true.mpr fun x hx => ?_), List.all_eq_true.mpr fun x hx => List.all_eq_true.mpr fun y hy => ?_, List.all_eq_true.mpr fun x hx => decide_eq_true ?_⟩
    · obtain ⟨a, _, rfl⟩ := List.mem_map.mp hx; exact h a
    · obtain ⟨a, _, rfl⟩ := List.mem_map.mp hx; exact h a
    · obtain ⟨a, _, rfl⟩ := List.mem_map.mp hx
      obtain ⟨b, _, rfl⟩ := List.mem_map.mp hy
      exact al a b
    · obtain ⟨a, _, rfl⟩ := List.mem_map.mp hx
      exact Nat.le_trans (dep a) (Sok.low (κ := κ))
  rw [so, List.length_map, decide_eq_true hl]
  show some _ = some _
  congr 1
  unfold sortBy srt
  rw [show (xs.map toD).zip (xs.map py) = xs.map fun a : κ => ((toD a : D), py a) from by rw [List.zip_map']]
  rw [← PySem.W.sort_maps (r := leE) (s := PySem.W.dataLe false fun p : D × PyData => p.2) (fun a : κ => ((toD a : D), py a)) (fun a _ b _ => rfl), List.map_map]
  rfl
instance : Sok Int := ⟨.inr fun _ => rfl, by decide⟩
instance : Sok Str := ⟨.inr fun _ => rfl, by decide⟩
end
/-! ### rows of pairs: dicts -/
section
variable {κ ν : Type} [DecidableEq κ]
def getT : List (κ × ν) → κ → Option ν
  | [], _ => none
  | (k, v) :: r, q => if k = q then some v else getT r q
def replT : List (κ × ν) → κ → ν → List (κ × ν)
  | [], _, _ => []
  | (k, v) :: r, q, y => if k = q then (k, y) :: replT r q y else (k, v) :: replT r q y
def putT (kvs : List (κ × ν)) (q : κ) (y : ν) : List (κ × ν) := if (getT kvs q).isSome then replT kvs q y else kvs ++ [(q, y)]
def mergeT (kvs more : List (κ × ν)) : List (κ × ν) := more.foldl (fun acc p => putT acc p.1 p.2) kvs
def ND (kvs : List (κ × ν)) : Prop := (kvs.map (·.1)).Nodup
theorem getT_nil (q : κ) : getT ([] : List (κ × ν)) q = none := rfl
theorem getT_cons (k : κ) (v : ν) (r : List (κ × ν)) (q : κ) : getT ((k, v) :: r) q = if k = q then some v else getT r q := rfl
theorem getT_app (a b : List (κ × ν)) (q : κ) : getT (a ++ b) q = (getT a q).or (getT b q) := by
  induction a with
  | nil => rfl
  | cons p r ih =>
    show getT ((p.1, p.2) :: (r ++ b)) q = (getT ((p.1, p.2) :: r) q).or _
    rw [getT_cons, getT_cons]
    split
    · rfl
    · exact ih
theorem getT_repl (kvs : List (κ × ν)) (k q : κ) (v : ν) : getT (replT kvs k v) q = if q = k then (getT kvs k).map (fun _ => v) else getT kvs q := by
  induction kvs with
  | nil => show none = _; rw [getT_nil, getT_nil]; split <;> rfl
  | cons p r ih =>
    obtain ⟨k', v'⟩ := p
    show getT (if k' = k then (k', v) :: replT r k v else (k', v') :: replT r k v) q = _
    rw [getT_cons, getT_cons]
    by_cases h : k' = k
    · subst h
      rw [if_pos rfl, if_pos rfl, getT_cons]
      by_cases z : k' = q
      · subst z; rw [if_pos rfl, if_pos rfl]; rfl
      · rw [if_neg z, ih, if_neg (Ne.symm z), if_neg (Ne.symm z), if_neg z]
    · rw [if_neg h, if_neg h, getT_cons]
      by_cases z : k' = q
      · subst z; rw [if_pos rfl, if_neg h, if_pos rfl]
      · rw [if_neg z, ih]
        by_cases y : q = k
        · rw [if_pos y, if_pos y]
        · rw [if_neg y, if_neg y, if_neg z]
theorem getT_put (kvs : List (κ × ν)) (k q : κ) (v : ν) : getT (putT kvs k v) q = if q = k then some v else getT kvs q := by
  unfold putT
  split
  · rename_i h
    rw [getT_repl]
    split
    · cases e : getT kvs k with
      | none => rw [e] at h; cases h
      | some _ => rfl
    · rfl
  · rename_i h
    have h : getT kvs k = none := by simpa using h
    rw [getT_app, getT_cons, getT_nil]
    by_cases z : q = k
    · subst z
      rw [h]
      simp
    · rw [if_neg z, if_neg (Ne.symm z)]
      cases getT kvs q <;> rfl
theorem repl_keys (kvs : List (κ × ν)) (k : κ) (v : ν) : (replT kvs k v).map (·.1) = kvs.map (·.1) := by
  induction kvs with
  | nil => rfl
  | cons p r ih =>
    unfold replT
    split <;> rw [List.map_cons, ih] <;> rfl
theorem getT_none {kvs : List (κ × ν)} {q : κ} : getT kvs q = none ↔ q ∉ kvs.map (·.1) := by
  induction kvs with
  | nil => exact ⟨fun _ h => (nomatch h), fun _ => rfl⟩
  | cons p r ih =>
    obtain ⟨k', v'⟩ := p
    rw [getT_cons]
    by_cases h : k' = q
    · subst h; rw [if_pos rfl]; exact ⟨fun z => (nomatch z), fun z => absurd (List.mem_cons_self ..) z⟩
    · rw [if_neg h, ih]
      exact ⟨fun z y => by
        rcases List.mem_cons.mp y with y | y
        · exact h y.symm
        · exact z y, fun z y => z (List.mem_cons_of_mem _ y)⟩
theorem nd_put {kvs : List (κ × ν)} (h : ND kvs) (k : κ) (v : ν) : ND (putT kvs k v) := by
  unfold putT
  split
  · unfold ND; rw [repl_keys]; exact h
  · rename_i z
    have z : getT kvs k = none := by simpa using z
    unfold ND
    rw [List.map_append]
    refine List.nodup_append.mpr ⟨h, by simp, fun a ha b hb e => ?_⟩
    have : b = k := by simpa using hb
    subst this; subst e
    exact getT_none.mp z ha
theorem getT_mem {kvs : List (κ × ν)} {k : κ} {v : ν} (h : getT kvs k = some v) : (k, v) ∈ kvs := by
  induction kvs with
  | nil => cases h
  | cons p r ih =>
    obtain ⟨k', v'⟩ := p
    rw [getT_cons] at h
    split at h
    · rename_i e; subst e; cases h; exact List.mem_cons_self
    · exact List.mem_cons_of_mem _ (ih h)
theorem mem_getT {kvs : List (κ × ν)} (hn : ND kvs) {k : κ} {v : ν} (h : (k, v) ∈ kvs) : getT kvs k = some v := by
  induction kvs with
  | nil => cases h
  | cons p r ih =>
    obtain ⟨k', v'⟩ := p
    unfold ND at hn
    rw [List.map_cons, List.nodup_cons] at hn
    rw [getT_cons]
    rcases List.mem_cons.mp h with e | h
    · cases e; rw [if_pos rfl]
    · have : k' ≠ k := fun z => by subst z; exact hn.1 (List.mem_map.mpr ⟨_, h, rfl⟩)
      rw [if_neg this]
      exact ih hn.2 h
theorem nd_pairs {kvs : List (κ × ν)} (h : ND kvs) : kvs.Nodup := by
  unfold ND at h
  exact (List.pairwise_map.mp h).imp fun a b => a (congrArg (·.1) b)
theorem perm_of_get {a b : List (κ × ν)} (ha : ND a) (hb : ND b) (h : ∀ q, getT a q = getT b q) : a.Perm b :=
  (List.perm_ext_iff_of_nodup (nd_pairs ha) (nd_pairs hb)).mpr fun p => ⟨fun hp => getT_mem (by rw [← h]; exact mem_getT ha hp), fun hp => getT_mem (by rw [h]; exact mem_getT hb hp)⟩
theorem nd_perm {a b : List (κ × ν)} (h : a.Perm b) (ha : ND a) : ND b := (h.map _).nodup_iff.mp ha
theorem get_perm {a b : List (κ × ν)} (h : a.Perm b) (ha : ND a) (q : κ) : getT a q = getT b q := by
  have hb := nd_perm h ha
  cases e : getT a q with
  | some v => exact (mem_getT hb (h.mem_iff.mp (getT_mem e))).symm
  | none =>
    rw [getT_none] at e
    exact (getT_none.mpr fun z => e ((h.map _).mem_iff.mpr z)).symm
theorem nd_filter {a : List (κ × ν)} (f : κ × ν → Bool) (ha : ND a) : ND (a.filter f) := by
  unfold ND at *
  exact (List.filter_sublist.map _).nodup ha
theorem get_filter {a : List (κ × ν)} (f : κ × ν → Bool) (ha : ND a) (q : κ) : getT (a.filter f) q = (getT a q).filter fun v => f (q, v) := by
  cases e : getT a q with
  | none =>
    rw [getT_none] at e
    exact getT_none.mpr fun z => e ((List.filter_sublist.map _).subset z)
  | some v =>
    have hm := getT_mem e
    cases hf : f (q, v) with
    | true =>
      rw [mem_getT (nd_filter f ha) (List.mem_filter.mpr ⟨hm, hf⟩)]
      simp [Option.filter, hf]
    | false =>
      rw [show (some v).filter (fun v => f (q, v)) = none by simp [Option.filter, hf]]
      refine getT_none.mpr fun z => ?_
      obtain ⟨p, hp, e2⟩ := List.mem_map.mp z
      obtain ⟨hp1, hp2⟩ := List.mem_filter.mp hp
      have : p.2 = v := by
        have := mem_getT ha (show (q, p.2) ∈ a by rw [← e2]; exact hp1)
        rw [e] at this; cases this; rfl
      rw [show p = (q, v) from Prod.ext e2 this, hf] at hp2
      cases hp2
theorem merge_new : ∀ {b a : List (κ × ν)}, ND (a ++ b) → mergeT a b = a ++ b
  | [], a, _ => by rw [List.append_nil]; rfl
  | p :: r, a, h => by
    have e : putT a p.1 p.2 = a ++ [p] := by
      unfold putT
      have : getT a p.1 = none := getT_none.mpr fun z => by
        unfold ND at h
        rw [List.map_append] at h
        exact (List.nodup_append.mp h).2.2 p.1 z p.1 (by simp) rfl
      rw [this]
      rfl
    show mergeT (putT a p.1 p.2) r = _
    rw [e, merge_new (by rw [List.append_assoc]; exact h), List.append_assoc]
    rfl
theorem merge_id {b : List (κ × ν)} (h : ND b) : mergeT [] b = b := merge_new h
theorem put_len (kvs : List (κ × ν)) (k : κ) (v : ν) : (putT kvs k v).length ≤ kvs.length + 1 := by
  unfold putT
  split
  · have := congrArg List.length (repl_keys kvs k v)
    rw [List.length_map, List.length_map] at this
    omega
  · rw [List.length_append]; exact Nat.le_refl _
theorem put_all {P : κ × ν → Prop} {kvs : List (κ × ν)} (h : ∀ p ∈ kvs, P p) {k : κ} {v : ν} (hv : P (k, v)) : ∀ p ∈ putT kvs k v, P p := by
  have rp : ∀ {kvs : List (κ × ν)}, (∀ p ∈ kvs, P p) → ∀ p ∈ replT kvs k v, P p := by
    intro kvs
    induction kvs with
    | nil => exact fun _ _ z => nomatch z
    | cons p r ih =>
      obtain ⟨k', v'⟩ := p
      intro h p hp
      unfold replT at hp
      split at hp
      · rename_i e
        subst e
        rcases List.mem_cons.mp hp with rfl | hp
        · exact hv
        · exact ih (fun q hq => h q (List.mem_cons_of_mem _ hq)) p hp
      · rcases List.mem_cons.mp hp with rfl | hp
        · exact h _ List.mem_cons_self
        · exact ih (fun q hq => h q (List.mem_cons_of_mem _ hq)) p hp
  unfold putT
  split
  · exact rp h
  · intro p hp
    rcases List.mem_append.mp hp with hp | hp
    · exact h p hp
    · rw [List.mem_singleton.mp hp]; exact hv
end
/-! ### rows in order -/
section
variable {κ ν : Type} [Emb κ] [Emb ν] [DecidableEq κ]
def Inc (xs : List (κ × ν)) : Prop := xs.Pairwise fun p q => ltE p.1 q.1 = true
theorem inc_nd {xs : List (κ × ν)} (h : Inc xs) : ND xs := by
  unfold ND
  exact List.pairwise_map.mpr (h.imp fun a => ltE_ne a)
theorem inc_sorted {xs : List (κ × ν)} (h : Inc xs) : xs.Pairwise fun a b => leE a b = true := h.imp fun {a b} q => leE_of_lt (by rw [ltE_fst (ltE_ne q)]; exact q)
theorem inc_srt {xs : List (κ × ν)} (h : ND xs) : Inc (srt xs) := by
  have h1 := srt_pair xs
  have h2 := nd_perm (srt_perm xs).symm h
  unfold ND at h2
  exact (h1.and (List.pairwise_map.mp h2)).imp fun {a b} ⟨q1, q2⟩ => by
    have := ltE_of_le q1 fun e => q2 (congrArg (·.1) e)
    rwa [ltE_fst q2] at this
theorem inc_one {a b : List (κ × ν)} (ha : Inc a) (hb : Inc b) (h : ∀ q, getT a q = getT b q) : a = b := sorted_one (inc_sorted ha) (inc_sorted hb) (perm_of_get (inc_nd ha) (inc_nd hb) h)
theorem srt_inc {xs : List (κ × ν)} (h : Inc xs) : srt xs = xs := srt_id (inc_sorted h)
theorem get_srt {xs : List (κ × ν)} (h : ND xs) (q : κ) : getT (srt xs) q = getT xs q := (get_perm (srt_perm xs).symm h q).symm
end
end DL
set_option Elab.async false
set_option linter.all false
set_option maxRecDepth 100000
set_option maxHeartbeats 4000000
set_option autoImplicit false
/-! Typed dicts in the store. -/
namespace DL
open PySem L2
open Emb
/-- what may be a key: texts, numbers (pk), tuples -/
class KeyE (κ : Type) [Emb κ] [DecidableEq κ] where
  pk : Bool
  plain : pk = true → ∀ a : κ, isKey (toD a) = true ∧ ∀ b : κ, keyEq (toD a) (toD b) = decide (a = b)
  nest : pk = false → ∀ a : κ, isKey (toD a) = false ∧ isKeyN (toD a) = true ∧ ∀ b : κ, eqN (toD a) (toD b) = decide (a = b)
/-- things that can be tuple keys, and stand in such -/
class NkE (κ : Type) [Emb κ] where
  nk : κ → NestedKey
  nkOk : ∀ a : κ, keyN (toD a) = some (nk a)
  nkInj : ∀ a b : κ, nk a = nk b → a = b
  kdeg : Nat
  nkDep : ∀ a : κ, (nk a).depth ≤ kdeg
open NkE
instance : NkE Int where
  nk := .num
  nkOk := fun _ => by unfold keyN; rfl
  nkInj := fun a b h => by cases h; rfl
  kdeg := 0
  nkDep := fun a => by simp [NestedKey.depth]
instance : NkE Str where
  nk := .text
  nkOk := fun _ => by unfold keyN; rfl
  nkInj := fun a b h => by cases h; rfl
  kdeg := 0
  nkDep := fun a => by simp [NestedKey.depth]
section
variable {α β : Type} [Emb α] [Emb β] [NkE α] [NkE β]
theorem nks_ok : ∀ xs : List α, keyNs (xs.map toD) = some (xs.map nk)
  | [] => by unfold List.map keyNs; rfl
  | x :: r => by unfold List.map keyNs; rw [nkOk x, nks_ok r]
theorem nks_inj : ∀ xs ys : List α, xs.map nk = ys.map nk → xs = ys
  | [], [], _ => rfl
  | [], _ :: _, h => nomatch h
  | _ :: _, [], h => nomatch h
  | x :: r, y :: q, h => by
    simp only [List.map_cons, List.cons.injEq] at h
    rw [nkInj x y h.1, nks_inj r q h.2]
theorem nks_dep : ∀ xs : List α, NestedKey.depthAll (xs.map nk) ≤ kdeg α
  | [] => by simp [NestedKey.depthAll]
  | x :: r => by
    have h1 := nkDep x
    have h2 := nks_dep r
    simp only [List.map_cons, NestedKey.depthAll]
    omega
instance : NkE (α × β) where
  nk := fun p => .tup [nk p.1, nk p.2]
  nkOk := fun p => by
    show keyN (.tup [toD p.1, toD p.2]) = _
    unfold keyN keyNs keyNs keyNs
    rw [nkOk, nkOk]; rfl
  nkInj := fun a b h => by
    simp only [NestedKey.tup.injEq, List.cons.injEq] at h
    exact Prod.ext (nkInj _ _ h.1) (nkInj _ _ h.2.1)
  kdeg := max (kdeg α) (kdeg β) + 1
  nkDep := fun a => by
    have h1 := nkDep a.1
    have h2 := nkDep a.2
    simp only [NestedKey.depth, NestedKey.depthAll]
    omega
instance : NkE (List α) where
  nk := fun xs => .tup (xs.map nk)
  nkOk := fun xs => by
    show keyN (.tup (xs.map toD)) = _
    unfold keyN
    rw [nks_ok]; rfl
  nkInj := fun a b h => by
    simp only [NestedKey.tup.injEq] at h
    exact nks_inj _ _ h
  kdeg := kdeg α + 1
  nkDep := fun a => by
    have := nks_dep a
    simp only [NestedKey.depth]
    omega
end
theorem nest_of {κ : Type} [Emb κ] [DecidableEq κ] [NkE κ] (ht : ∀ a : κ, ∃ ds, (toD a : D) = .tup ds) (hd : kdeg κ ≤ 8) (a : κ) : isKey (toD a) = false ∧ isKeyN (toD a) = true ∧ ∀ b : κ, eqN (toD a) (toD b) = decide (a = b) := by
  obtain ⟨ds, e⟩ := ht a
  refine ⟨by rw [e]; rfl, ?_, fun b => ?_⟩
  · have h := nkOk a
    rw [e] at h ⊢
    unfold isKeyN
    dsimp only
    rw [h]
    exact decide_eq_true (Nat.le_trans (nkDep a) hd)
  · rw [eqN_dec (nkOk a) (nkOk b)]
    by_cases h : a = b
    · subst h; rw [decide_eq_true rfl, decide_eq_true rfl]
    · rw [decide_eq_false h, decide_eq_false fun z => h (nkInj _ _ z)]
instance : KeyE Str where
  pk := true
  plain := fun _ a => ⟨rfl, fun b => by
    show keyEq (kD (.inr a)) (kD (.inr b)) = _
    rw [keyEq_kD]
    by_cases h : a = b
    · subst h; rw [decide_eq_true rfl, decide_eq_true rfl]
    · rw [decide_eq_false h, decide_eq_false fun z => h (by cases z; rfl)]⟩
  nest := fun h => nomatch h
instance : KeyE Int where
  pk := true
  plain := fun _ a => ⟨rfl, fun b => by
    show keyEq (kD (.inl a)) (kD (.inl b)) = _
    rw [keyEq_kD]
    by_cases h : a = b
    · subst h; rw [decide_eq_true rfl, decide_eq_true rfl]
    · rw [decide_eq_false h, decide_eq_false fun z => h (by cases z; rfl)]⟩
  nest := fun h => nomatch h
section
variable {κ ν : Type} [Emb κ] [Emb ν] [DecidableEq κ] [KeyE κ]
def kvD (kvs : List (κ × ν)) : List (D × D) := kvs.map fun p => (toD p.1, toD p.2)
theorem kvD_len (kvs : List (κ × ν)) : (kvD kvs).length = kvs.length := List.length_map _
theorem lookD_kv (hp : KeyE.pk κ = true) (kvs : List (κ × ν)) (k : κ) : lookD (kvD kvs) (toD k) = (getT kvs k).map toD := by
  induction kvs with
  | nil => rfl
  | cons p r ih =>
    show (if keyEq (toD p.1) (toD k) = true then some (toD p.2) else lookD (kvD r) (toD k)) = Option.map toD (if p.1 = k then some p.2 else getT r k)
    rw [((KeyE.plain hp p.1).2 k), ih]
    by_cases h : p.1 = k
    · rw [decide_eq_true h, if_pos h, if_pos rfl]; rfl
    · rw [decide_eq_false h, if_neg h, if_neg Bool.false_ne_true]
theorem lookN_kv (hp : KeyE.pk κ = false) (kvs : List (κ × ν)) (k : κ) : lookN (kvD kvs) (toD k) = (getT kvs k).map toD := by
  induction kvs with
  | nil => rfl
  | cons p r ih =>
    show (if eqN (toD p.1) (toD k) = true then some (toD p.2) else lookN (kvD r) (toD k)) = Option.map toD (if p.1 = k then some p.2 else getT r k)
    rw [((KeyE.nest hp p.1).2.2 k), ih]
    by_cases h : p.1 = k
    · rw [decide_eq_true h, if_pos h, if_pos rfl]; rfl
    · rw [decide_eq_false h, if_neg h, if_neg Bool.false_ne_true]
theorem replD_kv (hp : KeyE.pk κ = true) (kvs : List (κ × ν)) (k : κ) (v : ν) : replD (kvD kvs) (toD k) (toD v) = kvD (replT kvs k v) := by
  induction kvs with
  | nil => rfl
  | cons p r ih =>
    show (if keyEq (toD p.1) (toD k) = true then (toD p.1, toD v) :: replD (kvD r) (toD k) (toD v) else (toD p.1, toD p.2) :: replD (kvD r) (toD k) (toD v)) = kvD (if p.1 = k then (p.1, v) :: replT r k v else (p.1, p.2) :: replT r k v)
    rw [((KeyE.plain hp p.1).2 k), ih]
    by_cases h : p.1 = k
    · rw [decide_eq_true h, if_pos h, if_pos rfl]; rfl
    · rw [decide_eq_false h, if_neg h, if_neg Bool.false_ne_true]; rfl
theorem replN_kv (hp : KeyE.pk κ = false) (kvs : List (κ × ν)) (k : κ) (v : ν) : replN (kvD kvs) (toD k) (toD v) = kvD (replT kvs k v) := by
  induction kvs with
  | nil => rfl
  | cons p r ih =>
    show (if eqN (toD p.1) (toD k) = true then (toD p.1, toD v) :: replN (kvD r) (toD k) (toD v) else (toD p.1, toD p.2) :: replN (kvD r) (toD k) (toD v)) = kvD (if p.1 = k then (p.1, v) :: replT r k v else (p.1, p.2) :: replT r k v)
    rw [((KeyE.nest hp p.1).2.2 k), ih]
    by_cases h : p.1 = k
    · rw [decide_eq_true h, if_pos h, if_pos rfl]; rfl
    · rw [decide_eq_false h, if_neg h, if_neg Bool.false_ne_true]; rfl
theorem putD_kv (hp : KeyE.pk κ = true) (kvs : List (κ × ν)) (k : κ) (v : ν) : putD (kvD kvs) (toD k) (toD v) = kvD (putT kvs k v) := by
  unfold putD putT
  rw [lookD_kv hp, replD_kv hp, Option.isSome_map]
  cases (getT kvs k).isSome with
  | true => rfl
  | false => show kvD kvs ++ _ = kvD (kvs ++ _); unfold kvD; rw [List.map_append]; rfl
theorem putN_kv (hp : KeyE.pk κ = false) (kvs : List (κ × ν)) (k : κ) (v : ν) : putN (kvD kvs) (toD k) (toD v) = kvD (putT kvs k v) := by
  unfold putN putT
  rw [lookN_kv hp, replN_kv hp, Option.isSome_map]
  cases (getT kvs k).isSome with
  | true => rfl
  | false => show kvD kvs ++ _ = kvD (kvs ++ _); unfold kvD; rw [List.map_append]; rfl
theorem mergeD_kv (hp : KeyE.pk κ = true) : ∀ (more kvs : List (κ × ν)), mergeD (kvD kvs) (kvD more) = kvD (mergeT kvs more)
  | [], _ => rfl
  | p :: r, kvs => by
    show mergeD (putD (kvD kvs) (toD p.1) (toD p.2)) (kvD r) = kvD (mergeT (putT kvs p.1 p.2) r)
    rw [putD_kv hp, mergeD_kv hp r]
theorem mergeN_kv (hp : KeyE.pk κ = false) : ∀ (more kvs : List (κ × ν)), mergeN (kvD kvs) (kvD more) = kvD (mergeT kvs more)
  | [], _ => rfl
  | p :: r, kvs => by
    show mergeN (putN (kvD kvs) (toD p.1) (toD p.2)) (kvD r) = kvD (mergeT (putT kvs p.1 p.2) r)
    rw [putN_kv hp, mergeN_kv hp r]
/-- u is the dict of these -/
def IsDic (u : D) (kvs : List (κ × ν)) : Prop := (kvs = [] ∧ u = .dct []) ∨ (KeyE.pk κ = true ∧ u = .dct (kvD kvs)) ∨ (KeyE.pk κ = false ∧ u = .dcn (kvD kvs))
theorem isDic_nil : IsDic (.dct []) ([] : List (κ × ν)) := .inl ⟨rfl, rfl⟩
theorem isDic_closed {u : D} {kvs : List (κ × ν)} (h : IsDic u kvs) (n : Nat) : D.closed n u = true := by
  have key : ∀ kvs : List (κ × ν), closedK n (kvD kvs) = true := fun kvs => by
    induction kvs with
    | nil => rfl
    | cons p r ih => show closedK n ((toD p.1, toD p.2) :: kvD r) = true; unfold closedK; rw [cl, cl, ih]; rfl
  rcases h with ⟨_, rfl⟩ | ⟨_, rfl⟩ | ⟨_, rfl⟩
  · rfl
  · unfold D.closed; exact key kvs
  · unfold D.closed; exact key kvs
theorem dic_deref {S : Sto} {j : Nat} {u : D} {kvs : List (κ × ν)} (h : IsDic u kvs) (hj : S[j]? = some u) : deref S (.ptr j) = u := by
  unfold deref
  dsimp only
  rw [show S.getD j .non = u by rw [List.getD_eq_getElem?_getD, hj]; rfl]
  rcases h with ⟨_, rfl⟩ | ⟨_, rfl⟩ | ⟨_, rfl⟩ <;> rfl
theorem dic_isDct {S : Sto} {j : Nat} {u : D} {kvs : List (κ × ν)} (h : IsDic u kvs) (hj : S[j]? = some u) : isDct S (.ptr j) = true := by
  unfold isDct
  rw [dic_deref h hj]
  rcases h with ⟨_, rfl⟩ | ⟨_, rfl⟩ | ⟨_, rfl⟩ <;> rfl
theorem dic_lookU {S : Sto} {j : Nat} {u : D} {kvs : List (κ × ν)} (h : IsDic u kvs) (hj : S[j]? = some u) (k : κ) : lookU S (.ptr j) (toD k) = some ((getT kvs k).map toD) := by
  unfold lookU
  rw [dic_deref h hj]
  rcases h with ⟨rfl, rfl⟩ | ⟨hp, rfl⟩ | ⟨hp, rfl⟩
  · dsimp only
    cases hp : KeyE.pk κ with
    | true => rw [if_pos (KeyE.plain hp k).1]; rfl
    | false =>
      rw [if_neg (by rw [(KeyE.nest hp k).1]; decide)]
      first
        | (rw [if_pos (by simp [(KeyE.nest hp k).2.1])]; rfl)
        | rfl
  · dsimp only
    rw [if_pos (KeyE.plain hp k).1, lookD_kv hp]
  · dsimp only
    rw [if_pos (KeyE.nest hp k).2.1, lookN_kv hp]
theorem dic_putU {u : D} {kvs : List (κ × ν)} (h : IsDic u kvs) (hl : kvs.length < sizeLine) (k : κ) (v : ν) : ∃ u', putU u (toD k) (toD v) = some u' ∧ IsDic u' (putT kvs k v) := by
  rcases h with ⟨rfl, rfl⟩ | ⟨hp, rfl⟩ | ⟨hp, rfl⟩
  · cases hp : KeyE.pk κ with
    | true =>
      refine ⟨.dct (kvD (putT ([] : List (κ × ν)) k v)), ?_, .inr (.inl ⟨hp, rfl⟩)⟩
      unfold putU
      dsimp only
      rw [if_pos (KeyE.plain hp k).1]
      rfl
    | false =>
      refine ⟨.dcn (kvD (putT ([] : List (κ × ν)) k v)), ?_, .inr (.inr ⟨hp, rfl⟩)⟩
      unfold putU
      dsimp only
      rw [if_neg (by rw [(KeyE.nest hp k).1]; decide), (KeyE.nest hp k).2.1]
      rfl
  · refine ⟨.dct (kvD (putT kvs k v)), ?_, .inr (.inl ⟨hp, rfl⟩)⟩
    unfold putU
    dsimp only
    rw [if_pos (KeyE.plain hp k).1, kvD_len, if_pos hl, putD_kv hp]
  · refine ⟨.dcn (kvD (putT kvs k v)), ?_, .inr (.inr ⟨hp, rfl⟩)⟩
    unfold putU
    dsimp only
    rw [(KeyE.nest hp k).2.1, kvD_len, decide_eq_true hl, putN_kv hp]
    rfl
theorem pairsOf_kv : ∀ kvs : List (κ × ν), pairsOf (kvs.map toD) = some (kvD kvs)
  | [] => rfl
  | p :: r => by
    show pairsOf (.tup [toD p.1, toD p.2] :: r.map toD) = some ((toD p.1, toD p.2) :: kvD r)
    unfold pairsOf
    rw [pairsOf_kv r]
    rfl
theorem dictOf_kv (kvs : List (κ × ν)) : ∃ u, dictOf (kvD kvs) = some u ∧ IsDic u (mergeT [] kvs) := by
  unfold dictOf
  cases kvs with
  | nil => exact ⟨.dct [], rfl, .inl ⟨rfl, rfl⟩⟩
  | cons p r =>
    cases hp : KeyE.pk κ with
    | true =>
      have e : (kvD (p :: r)).all (fun p => isKey p.1) = true := List.all_eq_true.mpr fun q hq => by
        obtain ⟨a, _, rfl⟩ := List.mem_map.mp hq
        exact (KeyE.plain hp a.1).1
      rw [e]
      exact ⟨_, rfl, .inr (.inl ⟨hp, congrArg D.dct (mergeD_kv hp (p :: r) [])⟩)⟩
    | false =>
      have e : (kvD (p :: r)).all (fun p => isKey p.1) = false := by
        show (isKey (toD p.1) && _) = false
        rw [(KeyE.nest hp p.1).1]; rfl
      have e2 : (kvD (p :: r)).all (fun p => isKeyN p.1) = true := List.all_eq_true.mpr fun q hq => by
        obtain ⟨a, _, rfl⟩ := List.mem_map.mp hq
        exact (KeyE.nest hp a.1).2.1
      rw [e, e2]
      exact ⟨_, rfl, .inr (.inr ⟨hp, congrArg D.dcn (mergeN_kv hp (p :: r) [])⟩)⟩
theorem dict_of (S : Sto) (kvs : List (κ × ν)) : ∃ u, gDict S [.lst (kvs.map toD)] = some u ∧ gDict S [.tup (kvs.map toD)] = some u ∧ IsDic u (mergeT [] kvs) := by
  obtain ⟨u, h1, h2⟩ := dictOf_kv kvs
  refine ⟨u, ?_, ?_, h2⟩
  · show (pairsOf (kvs.map toD)).bind dictOf = some u
    rw [pairsOf_kv]; exact h1
  · show (pairsOf (kvs.map toD)).bind dictOf = some u
    rw [pairsOf_kv]; exact h1
/-- the pairs of a dict that is walked -/
theorem dic_items {S : Sto} {j : Nat} {u : D} {kvs : List (κ × ν)} (h : IsDic u kvs) (hj : S[j]? = some u) : lckOf (S.set j (.lck u)) (.ptr j) = some (kvD kvs) := by
  have hlt := (List.getElem?_eq_some_iff.mp hj).1
  unfold lckOf
  dsimp only
  rw [List.getElem?_set_self hlt]
  rcases h with ⟨rfl, rfl⟩ | ⟨_, rfl⟩ | ⟨_, rfl⟩ <;> rfl
end
end DL
set_option Elab.async false
set_option linter.all false
set_option maxRecDepth 100000
set_option maxHeartbeats 4000000
set_option autoImplicit false
/-! Plain tools, for every law. -/
namespace DL
open PySem L2
open Emb
theorem take_app {S : Sto} {a : D} : (S ++ [a]).take S.length = S := List.take_left' rfl
theorem set_app {S : Sto} {a b : D} : (S ++ [a]).set S.length b = S ++ [b] := by
  rw [List.set_append_right _ _ (Nat.le_refl _), Nat.sub_self]
  rfl
theorem get_app {S : Sto} {a : D} : (S ++ [a])[S.length]? = some a := by
  rw [List.getElem?_append_right (Nat.le_refl _), Nat.sub_self]
  rfl
/-- a def that drops what it made -/
theorem m_defJ {n : Nat} {b : RS} {ds : List D} {S : Sto} {d : D} (hS : Sane S) (hd : D.closed S.length d = true) (h : (b (ds.map some ++ List.replicate (n - ds.length) none) S).post NoS (fun z S1 => z = d ∧ S1.take S.length = S) NoS NoS) : mDef n b ds S = .ok d S :=
  same_of (m_def (h.mono (fun _ _ z => z.elim) (fun z S1 ⟨e1, e2⟩ => by
    rw [e1, hd, e2, show closedL S.length S = true from hS]
    exact ⟨rfl, rfl, rfl⟩) (fun _ _ z => z) (fun _ _ z => z)))
theorem o_getU {S : Sto} {k : Nat} {q v : D} {kvs : List (D × D)} {Q : D → Sto → Prop} (h : S[k]? = some (.dct kvs)) (hq : isKey q = true) (e : lookD kvs q = some v) (f : Q v S) : (Res.lift (gGetU S (.ptr k) q) S).post Q :=
  p_lift (by
    have hd : deref S (.ptr k) = .dct kvs := by
      unfold deref
      dsimp only
      rw [show S.getD k .non = .dct kvs by rw [List.getD_eq_getElem?_getD, h]; rfl]
    unfold gGetU lookU
    rw [hd]
    dsimp only
    rw [if_pos hq, e]) f
theorem s_putU {δ : Sl} {S : Sto} {d k v : RE} {N B C : Sl → Sto → Prop} {T : D → Sto → Prop} (h : (v δ S).post fun z S1 => (d δ S1).post fun x S2 => (k δ S2).post fun y S3 => ∃ n u u', x = .ptr n ∧ S3[n]? = some u ∧ putU u y z = some u' ∧ N δ (S3.set n u')) : (sPutU d k v δ S).post N T B C :=
  p_out (h.mono fun z S1 q => p_out (q.mono fun x S2 q => p_out (q.mono fun y S3 ⟨n, u, u', e1, e2, e3, q'⟩ => by
    subst e1
    dsimp only
    rw [e2]
    dsimp only
    rw [e3]
    exact q')))
theorem deref_at {S : Sto} {k : Nat} {xs : List D} (h : S[k]? = some (.lst xs)) : deref S (.ptr k) = .lst xs := by
  unfold deref
  dsimp only
  rw [show S.getD k .non = .lst xs by rw [List.getD_eq_getElem?_getD, h]; rfl]
theorem pow6 {δ : Sl} {S : Sto} {Q : D → Sto → Prop} {n : Nat} (hn : n ≤ 1000) (h : Q (.int (10 ^ n)) S) : (Res.lift (gPow S (.int 10) (.int n)) S).post Q := o_pow ⟨by omega, by omega, by decide⟩ (by
  have e : (n : Int).toNat = n := by omega
  rw [e]; exact h)
theorem p_get2 {a k x : RE} {δ : Sl} {S : Sto} {Q : D → Sto → Prop} (h : (a δ S).post fun d S1 => isDct S1 d = true ∧ (k δ S1).post fun q S2 => (x δ S2).post fun z S3 => ∃ o, lookU S3 d q = some o ∧ Q (o.getD z) S3) : (rGet2 a k x δ S).post Q :=
  p_bind (h.mono fun d S1 ⟨e, q⟩ => by
    rw [if_pos e]
    exact p_bind (q.mono fun y S2 q => p_bind (q.mono fun z S3 ⟨o, e2, q⟩ => p_lift (by rw [e2]; rfl) q)))
theorem p_items {a : RE} {δ : Sl} {S : Sto} {Q : List D → Sto → Prop} (h : (a δ S).post fun d S1 => ∃ kvs, lckOf S1 d = some kvs ∧ Q (pairsD kvs) S1) : (rItems a δ S).post Q := p_bind (h.mono fun d S1 ⟨kvs, e, q⟩ => p_lift (by rw [e]; rfl) q)
theorem s_lockN {i k : Nat} {δ : Sl} {S : Sto} {u : D} {r : RS} {N B C : Sl → Sto → Prop} {T : D → Sto → Prop} (e : δ[i]? = some (some (.ptr k))) (hk : S[k]? = some u) (hu : (∃ kvs, u = .dct kvs) ∨ ∃ kvs, u = .dcn kvs)
    (h : (r δ (S.set k (.lck u))).post (fun δ' S1 => S1[k]? = some (.lck u) ∧ N δ' (S1.set k u)) (fun z S1 => S1[k]? = some (.lck u) ∧ T z (S1.set k u)) NoS NoS) : (sLock i r δ S).post N T B C := by
  have hL : lockAt δ S i = some (k, u) := by
    unfold lockAt
    rw [e]
    dsimp only
    rw [hk]
    rcases hu with ⟨kvs, rfl⟩ | ⟨kvs, rfl⟩ <;> rfl
  unfold sLock
  rw [hL]
  dsimp only
  cases q : r δ (S.set k (.lck u)) with
  | rt z S1 =>
    rw [q] at h
    obtain ⟨h1, hT⟩ : S1[k]? = some (.lck u) ∧ T z (S1.set k u) := h
    unfold unlkO unlk
    dsimp only
    rw [h1]
    exact hT
  | nx δ' S1 =>
    rw [q] at h
    obtain ⟨h1, hT⟩ : S1[k]? = some (.lck u) ∧ N δ' (S1.set k u) := h
    unfold unlkO unlk
    dsimp only
    rw [h1]
    exact hT
  | _ => rw [q] at h; exact h.elim
theorem unset {S : Sto} {k : Nat} {u x : D} (hk : S[k]? = some u) : (S.set k x).set k u = S := by
  have hlt := (List.getElem?_eq_some_iff.mp hk).1
  rw [List.set_set]
  have := (List.getElem?_eq_some_iff.mp hk).2
  rw [← this]
  exact List.set_getElem_self hlt
/-- a walk over a locked dict that leaves the store -/
theorem s_lockS {κ ν : Type} [Emb κ] [Emb ν] [DecidableEq κ] [KeyE κ] {i k : Nat} {δ : Sl} {S : Sto} {u : D} {kvs : List (κ × ν)} {r : RS} {N B C : Sl → Sto → Prop} {T : D → Sto → Prop} (hd : IsDic u kvs) (hk : S[k]? = some u) (e : δ[i]? = some (some (.ptr k)))
    (h : (r δ (S.set k (.lck u))).post (fun δ' S1 => S1 = S.set k (.lck u) ∧ N δ' S) (fun z S1 => S1 = S.set k (.lck u) ∧ T z S) NoS NoS) : (sLock i r δ S).post N T B C := by
  have hlt := (List.getElem?_eq_some_iff.mp hk).1
  refine s_lockN e hk (by rcases hd with ⟨_, rfl⟩ | ⟨_, rfl⟩ | ⟨_, rfl⟩ <;> first | exact .inl ⟨_, rfl⟩ | exact .inr ⟨_, rfl⟩) (h.mono ?_ ?_ (fun _ _ z => z) (fun _ _ z => z))
  · rintro δ' S1 ⟨rfl, hN⟩
    exact ⟨List.getElem?_set_self hlt, by rw [unset hk]; exact hN⟩
  · rintro z S1 ⟨rfl, hT⟩
    exact ⟨List.getElem?_set_self hlt, by rw [unset hk]; exact hT⟩
/-- a comprehension over things of a kind, that leaves the store -/
theorem lcT {α β : Type} (ta : α → D) (tb : β → D) (f : α → Option β) {g : RG} {t : RB} {e : RE} {δ : Sl} {S : Sto} : ∀ {xs : List α}, (∀ a ∈ xs, ∃ δ1, g (ta a) δ S = .ok δ1 S ∧ ((f a = none ∧ t δ1 S = .ok false S) ∨ ∃ b, f a = some b ∧ t δ1 S = .ok true S ∧ e δ1 S = .ok (tb b) S)) → lcL g t e (xs.map ta) δ S = .ok ((xs.filterMap f).map tb) S
  | [], _ => rfl
  | x :: xs, h => by
    have ih := lcT ta tb f (g := g) (t := t) (e := e) (δ := δ) (S := S) (xs := xs) fun y hy => h y (List.mem_cons_of_mem _ hy)
    obtain ⟨δ1, h1, h2⟩ := h x List.mem_cons_self
    rw [List.map_cons]
    unfold lcL
    rw [h1]
    show (t δ1 S).bind _ = _
    rw [List.filterMap_cons]
    rcases h2 with ⟨e1, e2⟩ | ⟨y, e1, e2, e3⟩
    · rw [e2, e1]
      exact ih
    · rw [e2, e1]
      show (e δ1 S).bind _ = _
      rw [e3]
      show (lcL g t e (xs.map ta) δ S).bind _ = _
      rw [ih]
      rfl
/-- each turn one thing -/
theorem lcTm {α β : Type} (ta : α → D) (tb : β → D) (f : α → β) {g : RG} {e : RE} {δ : Sl} {S : Sto} {xs : List α} (h : ∀ a ∈ xs, ∃ δ1, g (ta a) δ S = .ok δ1 S ∧ e δ1 S = .ok (tb (f a)) S) : lcL g bYes e (xs.map ta) δ S = .ok ((xs.map f).map tb) S := by
  rw [lcT ta tb (fun a => some (f a)) fun a ha => by
    obtain ⟨δ1, h1, h2⟩ := h a ha
    exact ⟨δ1, h1, .inr ⟨_, rfl, rfl, h2⟩⟩]
  rw [show xs.filterMap (fun a => some (f a)) = xs.map f from congrFun (List.filterMap_eq_map) xs]
/-- each turn the thing itself, or nothing -/
theorem lcTf {α : Type} (ta tb : α → D) (p : α → Bool) {g : RG} {t : RB} {e : RE} {δ : Sl} {S : Sto} {xs : List α} (h : ∀ a ∈ xs, ∃ δ1, g (ta a) δ S = .ok δ1 S ∧ t δ1 S = .ok (p a) S ∧ (p a = true → e δ1 S = .ok (tb a) S)) : lcL g t e (xs.map ta) δ S = .ok ((xs.filter p).map tb) S := by
  rw [lcT ta tb (fun a => if p a = true then some a else none) fun a ha => by
    obtain ⟨δ1, h1, h2, h3⟩ := h a ha
    refine ⟨δ1, h1, ?_⟩
    cases q : p a with
    | true => exact .inr ⟨a, by simp, by rw [h2, q], h3 q⟩
    | false => exact .inl ⟨by simp, by rw [h2, q]⟩]
  congr 2
  clear h
  induction xs with
  | nil => rfl
  | cons x r ih =>
    rw [List.filterMap_cons, List.filter_cons, ih]
    cases p x <;> rfl
/-- a def that leaves what it made -/
theorem m_defK {n : Nat} {b : RS} {ds : List D} {S : Sto} {Q : D → Sto → Prop} (h : (b (ds.map some ++ List.replicate (n - ds.length) none) S).post (fun _ S1 => Q .non S1) Q NoS NoS) : (mDefK n b ds S).post Q := by
  unfold mDefK
  cases q : b (ds.map some ++ List.replicate (n - ds.length) none) S with
  | nx δ S1 => rw [q] at h; exact h
  | rt d S1 => rw [q] at h; exact h
  | _ => rw [q] at h; exact h.elim
theorem p_sortIt {a : RE} {δ : Sl} {S : Sto} {Q : D → Sto → Prop} (h : (a δ S).post fun d S1 => ∃ xs, (itemsOf (deref S1 d)).bind (sortD S1) = some xs ∧ Q (.lst xs) S1) : (rSortItems a δ S).post Q :=
  p_bind (h.mono fun d S1 ⟨xs, e, q⟩ => p_lift (a := .lst xs) (by rw [e]; rfl) q)
/-- the loop's law over things of a kind: I what is left -/
theorem s_forT {α : Type} (ta : α → D) {g : RG} {b : RS} {N B C : Sl → Sto → Prop} {T : D → Sto → Prop} (I : List α → Sl → Sto → Prop) (step : ∀ x xs δ S, I (x :: xs) δ S → (g (ta x) δ S).post fun δ1 S1 => (b δ1 S1).post (fun δ2 S2 => I xs δ2 S2) T N fun δ2 S2 => I xs δ2 S2) (fin : ∀ δ S, I [] δ S → N δ S)
    (xs : List α) (δ : Sl) (S : Sto) (h : I xs δ S) : (forL g b (xs.map ta) δ S).post N T B C :=
  s_forL (fun ds δ S => ∃ xs : List α, ds = xs.map ta ∧ I xs δ S) (fun x ds δ S ⟨xs, e, h⟩ => by
    cases xs with
    | nil => cases e
    | cons y ys =>
      rw [List.map_cons, List.cons.injEq] at e
      obtain ⟨rfl, rfl⟩ := e
      exact (step y ys δ S h).mono fun δ1 S1 q => q.mono (fun _ _ z => ⟨ys, rfl, z⟩) (fun _ _ z => z) (fun _ _ z => z) (fun _ _ z => ⟨ys, rfl, z⟩)) (fun δ S ⟨xs, e, h⟩ => by
    cases xs with
    | nil => exact fin δ S h
    | cons y ys => cases e) (xs.map ta) δ S ⟨xs, rfl, h⟩
mutual
theorem eqv_refl : ∀ x : PyData, fitP x = true → PyData.eqv x x = true
  | .none, _ => by simp [PyData.eqv]
  | .bool b, _ => by simp [PyData.eqv]
  | .int i, _ => by simp [PyData.eqv]
  | .str x, _ => by simp [PyData.eqv]
  | .list xs, h => by simp only [PyData.eqv]; exact eqvs_refl xs (by unfold fitP at h; exact h)
  | .tuple xs, h => by simp only [PyData.eqv]; exact eqvs_refl xs (by unfold fitP at h; exact h)
  | .dict _, h => by unfold fitP at h; cases h
theorem eqvs_refl : ∀ xs : List PyData, fitPs xs = true → PyData.eqvAll xs xs = true
  | [], _ => by simp [PyData.eqvAll]
  | x :: r, h => by
    unfold fitPs at h
    rw [Bool.and_eq_true] at h
    simp only [PyData.eqvAll, eqv_refl x h.1, eqvs_refl r h.2, Bool.and_self]
end
end DL
set_option Elab.async false
set_option linter.all false
set_option maxRecDepth 100000
set_option maxHeartbeats 4000000
set_option autoImplicit false
/-! Products of boxes, kinds, fractions: typed. -/
namespace DL
open PySem L2
open Emb
/-! ### fractions -/
instance : Emb Rat where
  toD := fun q => .tup [.int q.num, .int q.den]
  py := fun q => .tuple [.int q.num, .int q.den]
  deg := 1
  pyOk := fun _ _ => rfl
  np := fun _ _ h => nomatch h
  al := fun a b => by simp [PySem.W.alike, PySem.W.alikeAll]
  dep := fun a => by simp [PyData.depth, PyData.depthAll]
  inj := fun a b h => by
    simp only [PyData.eqv, PyData.eqvAll, Bool.and_eq_true, beq_iff_eq] at h
    exact Rat.ext h.1 (Int.ofNat.inj h.2.1)
  cl := fun _ _ => rfl
theorem rat_nd (q : Rat) : (q.num : Rat) / ((q.den : Nat) : Rat) = q := by
  have h := Rat.num_divInt_den q
  rw [Rat.divInt_eq_div] at h
  exact_mod_cast h
theorem toD_rat (q : Rat) : (toD q : D) = .tup [.int q.num, .int q.den] := rfl
theorem rat_of {a b : Int} (hb : 0 < b) : ((a : Rat) / (b : Rat)).num = a.fdiv (Int.gcd a b) ∧ (((a : Rat) / (b : Rat)).den : Int) = b.fdiv (Int.gcd a b) := by
  have hg : 0 < Int.gcd a b := Int.gcd_pos_of_ne_zero_right _ (by omega)
  have d1 : (Int.gcd a b : Int) ∣ a := Int.gcd_dvd_left ..
  have d2 : (Int.gcd a b : Int) ∣ b := Int.gcd_dvd_right ..
  rw [Int.fdiv_eq_ediv_of_nonneg _ (by omega), Int.fdiv_eq_ediv_of_nonneg _ (by omega)]
  have y0 : 0 < b / (Int.gcd a b : Int) := Int.ediv_pos_of_pos_of_dvd hb (by omega) d2
  have cop : Int.gcd (a / (Int.gcd a b : Int)) (b / (Int.gcd a b : Int)) = 1 := by
    have := Int.gcd_ediv d1 d2
    rw [this]
    exact Nat.div_self (by simpa using hg)
  obtain ⟨n, hn⟩ : ∃ n : Nat, b / (Int.gcd a b : Int) = n := ⟨(b / (Int.gcd a b : Int)).toNat, by omega⟩
  have hn0 : n ≠ 0 := by omega
  have hc : (a / (Int.gcd a b : Int)).natAbs.Coprime n := by
    unfold Nat.Coprime
    rw [hn] at cop
    exact cop
  have e : (a : Rat) / (b : Rat) = Rat.mk' (a / (Int.gcd a b : Int)) n hn0 hc := by
    have h1 := rat_nd (Rat.mk' (a / (Int.gcd a b : Int)) n hn0 hc)
    have h1 : ((a / (Int.gcd a b : Int) : Int) : Rat) / ((n : Nat) : Rat) = Rat.mk' (a / (Int.gcd a b : Int)) n hn0 hc := h1
    rw [← h1]
    have hb' : (b : Rat) ≠ 0 := by simp; omega
    have hn' : (n : Rat) ≠ 0 := by simp; omega
    have hx : a * (n : Int) = (a / (Int.gcd a b : Int)) * b := by
      rw [← hn]
      obtain ⟨x, hx⟩ := d1
      obtain ⟨y, hy⟩ := d2
      have hgg : (Int.gcd a b : Int) ≠ 0 := by omega
      generalize (Int.gcd a b : Int) = g at *
      subst hx; subst hy
      rw [Int.mul_ediv_cancel_left _ hgg, Int.mul_ediv_cancel_left _ hgg]
      grind
    have hx' : (a : Rat) * (n : Rat) = ((a / (Int.gcd a b : Int) : Int) : Rat) * (b : Rat) := by exact_mod_cast hx
    generalize ((a / (Int.gcd a b : Int) : Int) : Rat) = z at *
    grind
  rw [e]
  exact ⟨rfl, hn.symm⟩
theorem rat_add (x y : Rat) : x + y = ((x.num * y.den + y.num * x.den : Int) : Rat) / ((x.den * y.den : Int) : Rat) := by
  have h1 := rat_nd x
  have h2 := rat_nd y
  have hx : ((x.den : Nat) : Rat) ≠ 0 := by have := x.den_nz; simp; omega
  have hy : ((y.den : Nat) : Rat) ≠ 0 := by have := y.den_nz; simp; omega
  have e1 : ((x.num * y.den + y.num * x.den : Int) : Rat) = (x.num : Rat) * (y.den : Rat) + (y.num : Rat) * (x.den : Rat) := by push_cast; rfl
  have e2 : ((x.den * y.den : Int) : Rat) = (x.den : Rat) * (y.den : Rat) := by push_cast; rfl
  rw [e1, e2]
  generalize (x.num : Rat) = a at *
  generalize (y.num : Rat) = b at *
  generalize (x.den : Rat) = c at *
  generalize (y.den : Rat) = d at *
  subst h1; subst h2
  grind
theorem rat_mul (x y : Rat) : x * y = ((x.num * y.num : Int) : Rat) / ((x.den * y.den : Int) : Rat) := by
  have h1 := rat_nd x
  have h2 := rat_nd y
  have hx : ((x.den : Nat) : Rat) ≠ 0 := by have := x.den_nz; simp; omega
  have hy : ((y.den : Nat) : Rat) ≠ 0 := by have := y.den_nz; simp; omega
  have e1 : ((x.num * y.num : Int) : Rat) = (x.num : Rat) * (y.num : Rat) := by push_cast; rfl
  have e2 : ((x.den * y.den : Int) : Rat) = (x.den : Rat) * (y.den : Rat) := by push_cast; rfl
  rw [e1, e2]
  generalize (x.num : Rat) = a at *
  generalize (y.num : Rat) = b at *
  generalize (x.den : Rat) = c at *
  generalize (y.den : Rat) = d at *
  subst h1; subst h2
  grind
/-- not greater than B, above and below -/
def RB' (B : Nat) (q : Rat) : Prop := q.num.natAbs ≤ B ∧ q.den ≤ B
theorem rb_of {a b : Int} {B : Nat} (hb : 0 < b) (ha : a.natAbs ≤ B) (hb2 : b.natAbs ≤ B) : RB' B ((a : Rat) / (b : Rat)) := by
  obtain ⟨h1, h2⟩ := rat_of (a := a) hb
  have hg : 0 < Int.gcd a b := Int.gcd_pos_of_ne_zero_right _ (by omega)
  have bd : ∀ (z : Int), (Int.fdiv z (Int.gcd a b)).natAbs ≤ z.natAbs := fun z => by
    rw [Int.fdiv_eq_ediv_of_nonneg _ (by omega)]
    exact Int.natAbs_ediv_le_natAbs z _
  refine ⟨by rw [h1]; exact Nat.le_trans (bd a) ha, ?_⟩
  have := Nat.le_trans (bd b) hb2
  rw [← h2] at this
  simpa using this
theorem rb_mono {B C : Nat} {q : Rat} (h : RB' B q) (hc : B ≤ C) : RB' C q := ⟨Nat.le_trans h.1 hc, Nat.le_trans h.2 hc⟩
theorem rb_add {A B : Nat} {x y : Rat} (hx : RB' A x) (hy : RB' B y) : RB' (2 * (A * B)) (x + y) := by
  rw [rat_add]
  have hp : (0 : Int) < x.den * y.den := by
    have := x.den_pos
    have := y.den_pos
    exact Int.mul_pos (by omega) (by omega)
  refine rb_of hp ?_ ?_
  · have h1 : (x.num * y.den).natAbs ≤ A * B := by rw [Int.natAbs_mul]; exact Nat.mul_le_mul hx.1 (by simpa using hy.2)
    have h2 : (y.num * x.den).natAbs ≤ A * B := by rw [Int.natAbs_mul, Nat.mul_comm]; exact Nat.mul_le_mul (by simpa using hx.2) hy.1
    omega
  · have : ((x.den * y.den : Int)).natAbs ≤ A * B := by rw [Int.natAbs_mul]; exact Nat.mul_le_mul (by simpa using hx.2) (by simpa using hy.2)
    omega
theorem rat_num0 {q : Rat} : q.num = 0 ↔ q = 0 := Rat.num_eq_zero
/-! ### products of boxes, kinds -/
abbrev Mono := List (Str × Int)
structure Kind where
  m : Mono
  p : Int
  b : Int
  deriving DecidableEq
instance : Emb Kind where
  toD := fun k => .tup [toD k.m, .int k.p, .int k.b]
  py := fun k => .tuple [py k.m, .int k.p, .int k.b]
  deg := deg Mono + 1
  pyOk := fun S k => by unfold toPy toPys toPys toPys toPys; rw [pyOk]; rfl
  np := fun _ _ h => nomatch h
  al := fun a b => by simp [PySem.W.alike, PySem.W.alikeAll, al]
  dep := fun a => by
    have h1 := dep a.m
    simp only [PyData.depth, PyData.depthAll]
    omega
  inj := fun a b h => by
    simp only [PyData.eqv, PyData.eqvAll, Bool.and_eq_true, beq_iff_eq] at h
    have h1 := inj _ _ h.1
    obtain ⟨_, _, _⟩ := a
    obtain ⟨_, _, _⟩ := b
    simp only [Kind.mk.injEq]
    exact ⟨h1, h.2.1, h.2.2.1⟩
  cl := fun n k => by unfold D.closed closedL closedL closedL closedL; rw [cl]; rfl
theorem toD_kind (k : Kind) : (toD k : D) = .tup [toD k.m, .int k.p, .int k.b] := rfl
instance : NkE Kind where
  nk := fun k => .tup [NkE.nk k.m, .num k.p, .num k.b]
  nkOk := fun k => by
    show keyN (.tup [toD k.m, .int k.p, .int k.b]) = _
    unfold keyN keyNs keyNs keyNs keyNs
    rw [NkE.nkOk]; unfold keyN; rfl
  nkInj := fun a b h => by
    simp only [NestedKey.tup.injEq, List.cons.injEq, NestedKey.num.injEq] at h
    have h1 := NkE.nkInj _ _ h.1
    obtain ⟨_, _, _⟩ := a
    obtain ⟨_, _, _⟩ := b
    simp only [Kind.mk.injEq]
    exact ⟨h1, h.2.1, h.2.2.1⟩
  kdeg := NkE.kdeg Mono + 1
  nkDep := fun a => by
    have h1 := NkE.nkDep a.m
    simp only [NestedKey.depth, NestedKey.depthAll]
    omega
instance : KeyE Mono where
  pk := false
  plain := fun h => nomatch h
  nest := fun _ a => nest_of (fun a => ⟨_, rfl⟩) (by decide) a
instance : KeyE Kind where
  pk := false
  plain := fun h => nomatch h
  nest := fun _ a => nest_of (fun a => ⟨_, rfl⟩) (by decide) a
instance : Sok (Str × Int) := ⟨.inl fun _ => rfl, by decide⟩
instance : Sok (Mono × Int) := ⟨.inl fun _ => rfl, by decide⟩
instance : Sok (Mono × Rat) := ⟨.inl fun _ => rfl, by decide⟩
instance : Sok (Kind × Rat) := ⟨.inl fun _ => rfl, by decide⟩
end DL
set_option Elab.async false
set_option linter.all false
set_option maxRecDepth 100000
set_option maxHeartbeats 4000000
set_option autoImplicit false
/-! Draws: the state, numbers, fractions. -/
namespace DL
open PySem L2
open Emb
local macro_rules | `(tactic| walk_at "1") => `(tactic| with_reducible first
  | refine s_seq ?_ | refine s_asg ?_ | refine s_ret ?_ | refine s_if ?_ | refine s_expr ?_ | refine s_next ?_ | refine s_brk ?_ | refine s_cont ?_ | refine s_for ?_ | refine s_while ?_
  | refine p_c ?_ | refine p_bin ?_ | refine p_as ?_ | refine p_cons ?_ | refine p_nil ?_ | refine p_un ?_ | refine p_call ?_ | refine p_if ?_ | refine p_own ?_
  | refine p_keep ?_ | refine p_tru ?_ | refine p_and ?_ | refine p_or ?_ | refine p_not ?_ | refine p_val ?_ | refine p_rand ?_ | refine p_ror ?_ | refine p_rnot ?_ | refine p_chain ?_ | refine p_bif ?_
  | refine o_add ?_ | refine o_sub ?_ | refine o_ltU ?_ | refine o_leU ?_ | refine o_gtU ?_ | refine o_geU ?_ | refine o_neg ?_ | refine o_eqI ?_ | refine o_neI ?_ | refine o_abs ?_ | refine o_tru ?_ | refine p_true ?_ | refine p_false ?_
  | refine o_lenT ?_ | refine o_lenL ?_
  | refine s_par ?_ | refine p_yes ?_ | refine p_lc ?_ | refine p_seq ?_ | refine s_gnil ?_ | refine s_gcons ?_ | refine s_gtux ?_ | refine p_onone ?_ | refine p_osome ?_)
local macro_rules | `(tactic| walk_at "2") => `(tactic| first
  | walk_at "1"
  | (with_reducible refine p_var2 ?_)
  | ((with_reducible refine s_name ?_ ?_); (· exact Nat.le_of_ble_eq_true rfl); dsimp only [List.set_cons_zero, List.set_cons_succ])
  | (with_reducible refine p_tup ?_) | ((with_reducible refine ⟨?_, ?_⟩); (· exact Nat.le_of_ble_eq_true rfl))
  | ((with_reducible refine p_ex2 (x := ?_) (y := ?_) ?_ ?_); rotate_left; rotate_left; (· rfl); refine ⟨?_, ?_, ?_⟩; (· exact Nat.le_of_ble_eq_true rfl); (· exact Nat.le_of_ble_eq_true rfl); dsimp only [List.set_cons_zero, List.set_cons_succ])
  | ((with_reducible refine p_isT ?_ ?_); (· rfl)) | ((with_reducible refine p_isF ?_ ?_); (· rfl))
  | ((with_reducible refine p_ex (x := ?_) ?_ ?_); rotate_left; (· rfl)))
local macro_rules | `(tactic| walk_at "3") => `(tactic| repeat (first | walk_at "2" | (with_reducible refine p_lst ?_)))
def stD (ns : List Int) (a : Int) : D := .dct [(.str "script", .lst (ns.map .int)), (.str "at", .int a), (.str "rest", .ptr 0)]
/-- the state of the draws: slots 0 and 1 of the store -/
structure Sta (c : Nat) (S : Sto) : Prop where
  ex : ∃ (ns rs : List Int) (a : Int), S[0]? = some (.lst (rs.map .int)) ∧ S[1]? = some (stD ns a) ∧ rs.length = ns.length ∧ 0 ≤ a ∧ a ≤ c
  sane : Sane S
/-- on to another store: the state goes on, all else stays -/
structure Go (c : Nat) (S S' : Sto) : Prop where
  sta : Sta c S'
  len : S'.length = S.length
  rest : ∀ k, 2 ≤ k → S'[k]? = S[k]?
theorem Sta.len {c : Nat} {S : Sto} (h : Sta c S) : 2 ≤ S.length := by
  obtain ⟨ns, rs, a, h1, h2, _⟩ := h.ex
  have := (List.getElem?_eq_some_iff.mp h2).1
  omega
theorem Go.trans {c c' : Nat} {S S1 S2 : Sto} (h : Go c S S1) (g : Go c' S1 S2) : Go c' S S2 := ⟨g.sta, g.len.trans h.len, fun k hk => (g.rest k hk).trans (h.rest k hk)⟩
theorem Go.refl {c : Nat} {S : Sto} (h : Sta c S) : Go c S S := ⟨h, rfl, fun _ _ => rfl⟩
/-- more is made behind -/
theorem Sta.app {c : Nat} {S : Sto} {u : D} (h : Sta c S) (hu : D.closed (S.length + 1) u = true) : Sta c (S ++ [u]) := by
  obtain ⟨ns, rs, a, h1, h2, h3, h4, h5⟩ := h.ex
  have l := h.len
  exact ⟨⟨ns, rs, a, by rw [List.getElem?_append_left (by omega)]; exact h1, by rw [List.getElem?_append_left (by omega)]; exact h2, h3, h4, h5⟩, sane_app h.sane hu⟩
/-! ### products of boxes that are drawn -/
/-- the boxes that are drawn -/
def fiveB : List Str := ["b", "ab", "abc", "x"]
def nice (x : Str) : Bool := (decide (x.length ≤ 8) && x.cps.toList.all fun c => decide (c < 128)) && decide (x ∈ fiveB)
def degT (m : Mono) : Int := (m.map (·.2)).sum
theorem deg_pos {m : Mono} (h : ∀ p ∈ m, nice p.1 = true ∧ 1 ≤ p.2) : (m.length : Int) ≤ degT m ∧ ∀ p ∈ m, p.2 ≤ degT m := by
  induction m with
  | nil => exact ⟨Int.le_refl _, fun _ z => nomatch z⟩
  | cons p r ih =>
    obtain ⟨h1, h2⟩ := ih fun q hq => h q (List.mem_cons_of_mem _ hq)
    have h3 := (h p List.mem_cons_self).2
    unfold degT at *
    simp only [List.map_cons, List.sum_cons, List.length_cons]
    refine ⟨by omega, fun q hq => ?_⟩
    rcases List.mem_cons.mp hq with rfl | hq
    · omega
    · have := h2 q hq; omega
/-- a product that is drawn: in order, of degree up to n -/
structure MonO (n : Nat) (m : Mono) : Prop where
  inc : Inc m
  nc : ∀ p ∈ m, nice p.1 = true ∧ 1 ≤ p.2
  dg : degT m ≤ n
end DL
set_option Elab.async false
set_option linter.all false
set_option maxRecDepth 100000
set_option maxHeartbeats 4000000
set_option autoImplicit false
/-! Items of tuples. -/
namespace DL
open PySem L2
open Emb
theorem o_ix0 {S : Sto} {a : D} {r : List D} {Q : D → Sto → Prop} (h : Q a S) : (Res.lift (gIx S (.tup (a :: r)) (.int 0)) S).post Q := o_ixT atI_0 h
theorem o_ix1 {S : Sto} {a b : D} {r : List D} {Q : D → Sto → Prop} (h : Q b S) : (Res.lift (gIx S (.tup (a :: b :: r)) (.int 1)) S).post Q := o_ixT atI_1 h
theorem o_ix2 {S : Sto} {a b c : D} {r : List D} {Q : D → Sto → Prop} (h : Q c S) : (Res.lift (gIx S (.tup (a :: b :: c :: r)) (.int 2)) S).post Q := o_ixT atI_2 h
theorem o_ix0L {S : Sto} {a : D} {r : List D} {Q : D → Sto → Prop} (h : Q a S) : (Res.lift (gIx S (.lst (a :: r)) (.int 0)) S).post Q := o_ixL atI_0 h
theorem o_ix1L {S : Sto} {a b : D} {r : List D} {Q : D → Sto → Prop} (h : Q b S) : (Res.lift (gIx S (.lst (a :: b :: r)) (.int 1)) S).post Q := o_ixL atI_1 h
theorem o_ix2L {S : Sto} {a b c : D} {r : List D} {Q : D → Sto → Prop} (h : Q c S) : (Res.lift (gIx S (.lst (a :: b :: c :: r)) (.int 2)) S).post Q := o_ixL atI_2 h
theorem s_gtupl {u : List D → Sl → Sto → Res Sl} {ds : List D} {δ : Sl} {S : Sto} {QS : Sl → Sto → Prop} (h : (u ds δ S).post QS) : (gTup u (.tup ds) δ S).post QS := s_gtup rfl h
end DL
set_option Elab.async false
set_option linter.all false
set_option maxRecDepth 100000
set_option maxHeartbeats 4000000
set_option autoImplicit false
/-! Rows of fractions, by the law. -/
namespace DL
open PySem L2
open Emb
local macro_rules | `(tactic| walk_at "1") => `(tactic| with_reducible first
  | refine s_seq ?_ | refine s_asg ?_ | refine s_ret ?_ | refine s_if ?_ | refine s_expr ?_ | refine s_next ?_ | refine s_brk ?_ | refine s_cont ?_ | refine s_for ?_ | refine s_while ?_
  | refine p_c ?_ | refine p_bin ?_ | refine p_as ?_ | refine p_cons ?_ | refine p_nil ?_ | refine p_un ?_ | refine p_call ?_ | refine p_if ?_ | refine p_own ?_
  | refine p_keep ?_ | refine p_tru ?_ | refine p_and ?_ | refine p_or ?_ | refine p_not ?_ | refine p_val ?_ | refine p_rand ?_ | refine p_ror ?_ | refine p_rnot ?_ | refine p_chain ?_ | refine p_bif ?_
  | refine o_add ?_ | refine o_sub ?_ | refine o_ltU ?_ | refine o_leU ?_ | refine o_gtU ?_ | refine o_geU ?_ | refine o_neg ?_ | refine o_eqI ?_ | refine o_neI ?_ | refine o_abs ?_ | refine o_tru ?_ | refine p_true ?_ | refine p_false ?_
  | refine o_lenT ?_ | refine o_lenL ?_ | refine o_ix0 ?_ | refine o_ix1 ?_ | refine o_ix2 ?_ | refine o_ix0L ?_ | refine o_ix1L ?_ | refine o_ix2L ?_
  | refine s_par ?_ | refine p_yes ?_ | refine p_seq ?_ | refine s_gnil ?_ | refine s_gcons ?_ | refine s_gtux ?_ | refine s_gtupl ?_ | refine p_onone ?_ | refine p_osome ?_ | refine p_get2 ?_ | refine s_putU ?_ | refine p_sortIt ?_)
local macro_rules | `(tactic| walk_at "2") => `(tactic| first
  | walk_at "1"
  | (with_reducible refine p_var2 ?_)
  | ((with_reducible refine s_name ?_ ?_); (· exact Nat.le_of_ble_eq_true rfl); dsimp only [List.set_cons_zero, List.set_cons_succ])
  | (with_reducible refine p_tup ?_) | (with_reducible refine p_lst ?_) | ((with_reducible refine ⟨?_, ?_⟩); (· exact Nat.le_of_ble_eq_true rfl))
  | ((with_reducible refine p_ex2 (x := ?_) (y := ?_) ?_ ?_); rotate_left; rotate_left; (· rfl); refine ⟨?_, ?_, ?_⟩; (· exact Nat.le_of_ble_eq_true rfl); (· exact Nat.le_of_ble_eq_true rfl); dsimp only [List.set_cons_zero, List.set_cons_succ])
  | ((with_reducible refine p_isT ?_ ?_); (· rfl)) | ((with_reducible refine p_isF ?_ ?_); (· rfl))
  | ((with_reducible refine p_ex (x := ?_) ?_ ?_); rotate_left; (· rfl)))
local macro_rules | `(tactic| walk_at "3") => `(tactic| repeat walk_at "2")
/-! ### comprehensions over rows of pairs -/
section
variable {κ ν β : Type} [Emb κ] [Emb ν]
def in2 (δ : Sl) (a b : Nat) (x y : D) : Sl := ((wipeD δ [a, b]).set a (some x)).set b (some y)
theorem wipe_len : ∀ (vs : List Nat) (δ : Sl), (wipeD δ vs).length = δ.length
  | [], _ => rfl
  | v :: vs, δ => by show ((wipeD δ vs).set v none).length = _; rw [List.length_set, wipe_len vs δ]
theorem g2 {δ : Sl} {S : Sto} {a b : Nat} {x y : D} (ha : a < δ.length) (hb : b < δ.length) (t : List D → D) (ht : t = D.tup ∨ t = D.tux) : gTup (gCons (gName a) (gCons (gName b) gNil)) (t [x, y]) (wipeD δ [a, b]) S = .ok (in2 δ a b x y) S := by
  have e : gTup (gCons (gName a) (gCons (gName b) gNil)) (t [x, y]) (wipeD δ [a, b]) S = gCons (gName a) (gCons (gName b) gNil) [x, y] (wipeD δ [a, b]) S := by rcases ht with rfl | rfl <;> rfl
  rw [e]
  show (gName a x (wipeD δ [a, b]) S).bind (fun δ1 S1 => (gName b y δ1 S1).bind fun δ2 S2 => Res.ok δ2 S2) = _
  unfold gName
  rw [if_pos (by rw [wipe_len]; exact ha)]
  show (Res.bind (if b < ((wipeD δ [a, b]).set a (some x)).length then Res.ok _ S else .stuck) _) = _
  rw [if_pos (by rw [List.length_set, wipe_len]; exact hb)]
  rfl
theorem p_lcRows (rows : List (κ × ν)) (f : κ × ν → β) (tb : β → D) {a b : Nat} {it : RA} {e : RE} {δ : Sl} {S : Sto} {Q : D → Sto → Prop} (hi : it δ S = .ok (rows.map toD) S) (ha : a < δ.length) (hb : b < δ.length) (hl : rows.length ≤ sizeLine)
    (he : ∀ p ∈ rows, e (in2 δ a b (toD p.1) (toD p.2)) S = .ok (tb (f p)) S) (h : Q (.lst ((rows.map f).map tb)) S) : (rLc it (gTup (gCons (gName a) (gCons (gName b) gNil))) [a, b] bYes e δ S).post Q := by
  refine p_lc ?_
  refine Res.post.of_eq hi ?_
  refine Res.post.of_eq (lcTm toD tb f fun p hp => ⟨_, g2 ha hb D.tup (.inl rfl), he p hp⟩) ⟨by rw [List.length_map, List.length_map]; exact hl, h⟩
theorem p_lcItems [DecidableEq κ] [KeyE κ] (rows : List (κ × ν)) (f : κ × ν → Bool) (tb : κ × ν → D) {a b i j : Nat} {t : RB} {e : RE} {δ : Sl} {S : Sto} {u : D} {Q : D → Sto → Prop} (hd : IsDic u rows) (hj : S[j]? = some u) (hv : δ[i]? = some (some (.ptr j))) (ha : a < δ.length) (hb : b < δ.length) (hl : rows.length ≤ sizeLine)
    (ht : ∀ p ∈ rows, t (in2 δ a b (toD p.1) (toD p.2)) (S.set j (.lck u)) = .ok (f p) (S.set j (.lck u)))
    (he : ∀ p ∈ rows, f p = true → e (in2 δ a b (toD p.1) (toD p.2)) (S.set j (.lck u)) = .ok (tb p) (S.set j (.lck u))) (h : Q (.lst ((rows.filter f).map tb)) (S.set j (.lck u))) :
    (rLc (rItems (rVar i)) (gTup (gCons (gName a) (gCons (gName b) gNil))) [a, b] t e δ (S.set j (.lck u))).post Q := by
  refine p_lc ?_
  refine p_items ?_
  refine p_var hv ?_
  refine ⟨_, dic_items hd hj, ?_⟩
  rw [show pairsD (kvD rows) = rows.map (fun p : κ × ν => D.tux [toD p.1, toD p.2]) from by unfold pairsD kvD; rw [List.map_map]; rfl]
  have hf : (rows.filter f).length ≤ rows.length := List.length_filter_le _ _
  refine Res.post.of_eq (lcTf (fun p : κ × ν => D.tux [toD p.1, toD p.2]) tb f fun p hp => ⟨_, g2 ha hb D.tux (.inr rfl), ht p hp, he p hp⟩) ⟨by rw [List.length_map]; omega, h⟩
end
/-! ### rows of fractions -/
def fz {κ : Type} (p : κ × Rat) : Bool := !decide (p.2 = 0)
theorem num_beq (q : Rat) : (q.num == 0) = decide (q = 0) := by
  by_cases h : q = 0
  · subst h; rfl
  · rw [decide_eq_false h]
    exact beq_eq_false_iff_ne.mpr fun z => h (rat_num0.mp z)
def rowsT {κ : Type} [Emb κ] (kvs : List (κ × Rat)) : List (κ × Rat) := srt (kvs.filter fz)
theorem den_pos' (q : Rat) : (0 : Int) < q.den := by have := q.den_pos; omega
section
variable {κ : Type} [Emb κ] [DecidableEq κ] [KeyE κ] [Sok (κ × Rat)]
theorem lpairs_spec {S : Sto} {j : Nat} {u : D} {kvs : List (κ × Rat)} (hS : Sane S) (hd : IsDic u kvs) (hj : S[j]? = some u) (hl : kvs.length ≤ sizeLine) : m__law_pairs [.ptr j] S = .ok (toD (rowsT kvs)) S := by
  have ln : (kvs.filter fz).length ≤ kvs.length := List.length_filter_le _ _
  refine m_defJ hS (cl _ _) ?_
  show (b__law_pairs [some (.ptr j), none, none] S).post _ _ _ _
  unfold b__law_pairs
  refine s_lockS hd hj rfl ?_
  walk_at "3"
  refine p_lcItems kvs fz toD hd hj rfl (Nat.le_of_ble_eq_true rfl) (Nat.le_of_ble_eq_true rfl) hl (fun p hp => ?_) (fun p hp _ => ?_) ?_
  · refine exact_of ?_
    dsimp only [in2, wipeD, List.set_cons_zero, List.set_cons_succ]
    rw [toD_rat]
    walk_at "3"
    refine ⟨?_, rfl⟩
    rw [num_beq]
    rfl
  · refine exact_of ?_
    dsimp only [in2, wipeD, List.set_cons_zero, List.set_cons_succ]
    walk_at "3"
    exact ⟨rfl, rfl⟩
  · walk_at "3"
    refine p_lift (a := .lst ((rowsT kvs).map toD)) (show Option.map D.lst (sortD _ ((kvs.filter fz).map toD)) = _ from by rw [sortD_emb _ _ (by omega)]; rfl) ?_
    walk_at "3"
    refine p_lift (show gTuple _ [.lst ((rowsT kvs).map toD)] = some (.tup ((rowsT kvs).map toD)) from rfl) ?_
    exact ⟨rfl, rfl, List.take_length⟩
end
end DL
set_option Elab.async false
set_option linter.all false
set_option maxRecDepth 100000
set_option maxHeartbeats 4000000
set_option autoImplicit false
/-! Sums of rows. -/
namespace DL
open PySem L2
open Emb
local macro_rules | `(tactic| walk_at "1") => `(tactic| with_reducible first
  | refine s_seq ?_ | refine s_asg ?_ | refine s_ret ?_ | refine s_if ?_ | refine s_expr ?_ | refine s_next ?_ | refine s_brk ?_ | refine s_cont ?_ | refine s_for ?_ | refine s_while ?_
  | refine p_c ?_ | refine p_bin ?_ | refine p_as ?_ | refine p_cons ?_ | refine p_nil ?_ | refine p_un ?_ | refine p_call ?_ | refine p_if ?_ | refine p_own ?_
  | refine p_keep ?_ | refine p_tru ?_ | refine p_and ?_ | refine p_or ?_ | refine p_not ?_ | refine p_val ?_ | refine p_rand ?_ | refine p_ror ?_ | refine p_rnot ?_ | refine p_chain ?_ | refine p_bif ?_
  | refine o_add ?_ | refine o_sub ?_ | refine o_ltU ?_ | refine o_leU ?_ | refine o_gtU ?_ | refine o_geU ?_ | refine o_neg ?_ | refine o_eqI ?_ | refine o_neI ?_ | refine o_abs ?_ | refine o_tru ?_ | refine p_true ?_ | refine p_false ?_
  | refine o_lenT ?_ | refine o_lenL ?_ | refine o_ix0 ?_ | refine o_ix1 ?_ | refine o_ix2 ?_ | refine o_ix0L ?_ | refine o_ix1L ?_ | refine o_ix2L ?_
  | refine s_par ?_ | refine p_yes ?_ | refine p_seq ?_ | refine s_gnil ?_ | refine s_gcons ?_ | refine s_gtux ?_ | refine s_gtupl ?_ | refine p_onone ?_ | refine p_osome ?_ | refine p_get2 ?_ | refine s_putU ?_ | refine p_sortIt ?_)
local macro_rules | `(tactic| walk_at "2") => `(tactic| first
  | walk_at "1"
  | (with_reducible refine p_var2 ?_)
  | ((with_reducible refine s_name ?_ ?_); (· exact Nat.le_of_ble_eq_true rfl); dsimp only [List.set_cons_zero, List.set_cons_succ])
  | (with_reducible refine p_tup ?_) | (with_reducible refine p_lst ?_) | ((with_reducible refine ⟨?_, ?_⟩); (· exact Nat.le_of_ble_eq_true rfl))
  | ((with_reducible refine p_ex2 (x := ?_) (y := ?_) ?_ ?_); rotate_left; rotate_left; (· rfl); refine ⟨?_, ?_, ?_⟩; (· exact Nat.le_of_ble_eq_true rfl); (· exact Nat.le_of_ble_eq_true rfl); dsimp only [List.set_cons_zero, List.set_cons_succ])
  | ((with_reducible refine p_isT ?_ ?_); (· rfl)) | ((with_reducible refine p_isF ?_ ?_); (· rfl))
  | ((with_reducible refine p_ex (x := ?_) ?_ ?_); rotate_left; (· rfl)))
local macro_rules | `(tactic| walk_at "3") => `(tactic| repeat walk_at "2")
/-! ### sums of rows -/
section
variable {κ : Type} [DecidableEq κ]
def at0 (kvs : List (κ × Rat)) (q : κ) : Rat := (getT kvs q).getD 0
def addT (acc : List (κ × Rat)) (k : κ) (q : Rat) : List (κ × Rat) := putT acc k ((getT acc k).getD 0 + q)
def sumT (one other : List (κ × Rat)) : List (κ × Rat) := other.foldl (fun acc p => addT acc p.1 p.2) (mergeT [] one)
theorem at0_put (kvs : List (κ × Rat)) (k q : κ) (v : Rat) : at0 (putT kvs k v) q = if q = k then v else at0 kvs q := by
  unfold at0
  rw [getT_put]
  split <;> rfl
theorem at0_add (kvs : List (κ × Rat)) (k q : κ) (v : Rat) : at0 (addT kvs k v) q = if q = k then at0 kvs k + v else at0 kvs q := at0_put _ _ _ _
theorem at0_nil (q : κ) : at0 ([] : List (κ × Rat)) q = 0 := rfl
theorem at0_cons (k q : κ) (v : Rat) (r : List (κ × Rat)) : at0 ((k, v) :: r) q = if k = q then v else at0 r q := by
  unfold at0
  rw [getT_cons]
  split <;> rfl
theorem nd_add {kvs : List (κ × Rat)} (h : ND kvs) (k : κ) (v : Rat) : ND (addT kvs k v) := nd_put h _ _
theorem nd_tail {p : κ × Rat} {r : List (κ × Rat)} (h : ND (p :: r)) : p.1 ∉ r.map (·.1) ∧ ND r := by
  unfold ND at h
  rw [List.map_cons, List.nodup_cons] at h
  exact h
theorem at0_none {kvs : List (κ × Rat)} {q : κ} (h : q ∉ kvs.map (·.1)) : at0 kvs q = 0 := by
  unfold at0
  rw [getT_none.mpr h]
  rfl
theorem at0_fold : ∀ (other acc : List (κ × Rat)), ND other → ∀ q, at0 (other.foldl (fun acc p => addT acc p.1 p.2) acc) q = at0 acc q + at0 other q
  | [], acc, _, q => by rw [at0_nil]; show at0 acc q = _; grind
  | p :: r, acc, h, q => by
    obtain ⟨h1, h2⟩ := nd_tail h
    show at0 (r.foldl _ (addT acc p.1 p.2)) q = _
    rw [at0_fold r _ h2, at0_add, show p :: r = (p.1, p.2) :: r from rfl, at0_cons]
    by_cases z : q = p.1
    · subst z
      rw [if_pos rfl, if_pos rfl, at0_none h1]
      grind
    · rw [if_neg z, if_neg (Ne.symm z)]
theorem nd_fold : ∀ (other acc : List (κ × Rat)), ND acc → ND (other.foldl (fun acc p => addT acc p.1 p.2) acc)
  | [], _, h => h
  | _ :: r, _, h => nd_fold r _ (nd_add h _ _)
theorem len_fold : ∀ (other acc : List (κ × Rat)), (other.foldl (fun acc p => addT acc p.1 p.2) acc).length ≤ acc.length + other.length
  | [], _ => Nat.le_refl _
  | p :: r, acc => by
    have h1 := len_fold r (addT acc p.1 p.2)
    have h2 := put_len acc p.1 ((getT acc p.1).getD 0 + p.2)
    have h2 : (addT acc p.1 p.2).length ≤ acc.length + 1 := h2
    rw [List.length_cons]
    show (r.foldl _ (addT acc p.1 p.2)).length ≤ _
    omega
theorem at0_sum {one other : List (κ × Rat)} (h1 : ND one) (h2 : ND other) (q : κ) : at0 (sumT one other) q = at0 one q + at0 other q := by
  unfold sumT
  rw [at0_fold other _ h2, merge_id h1]
theorem nd_sum {one other : List (κ × Rat)} (h1 : ND one) : ND (sumT one other) := by
  unfold sumT
  rw [merge_id h1]
  exact nd_fold _ _ h1
theorem len_sum {one other : List (κ × Rat)} (h1 : ND one) : (sumT one other).length ≤ one.length + other.length := by
  unfold sumT
  rw [merge_id h1]
  exact len_fold _ _
/-- bounds on the way: what is left to come is as it was -/
def Bnd (B C : Nat) (acc rest : List (κ × Rat)) : Prop := (∀ p ∈ acc, RB' C p.2) ∧ ∀ p ∈ rest, RB' B p.2 ∧ ∀ w, getT acc p.1 = some w → RB' B w
theorem bnd_step {B C : Nat} (hC : 2 * (B * B) ≤ C) (hB : B ≤ C) (h1B : 1 ≤ B) {acc r : List (κ × Rat)} {p : κ × Rat} (h : Bnd B C acc (p :: r)) (hn : ND (p :: r)) : Bnd B C (addT acc p.1 p.2) r := by
  obtain ⟨h1, h2⟩ := h
  have hp := h2 p List.mem_cons_self
  refine ⟨put_all h1 ?_, fun q hq => ⟨(h2 q (List.mem_cons_of_mem _ hq)).1, fun w hw => ?_⟩⟩
  · show RB' C ((getT acc p.1).getD 0 + p.2)
    refine rb_mono (rb_add (A := B) (B := B) ?_ hp.1) hC
    cases e : getT acc p.1 with
    | none => exact ⟨Nat.zero_le _, h1B⟩
    | some w => exact hp.2 w e
  · unfold addT at hw
    rw [getT_put, if_neg (fun z : q.1 = p.1 => (nd_tail hn).1 (by rw [← z]; exact List.mem_map.mpr ⟨q, hq, rfl⟩))] at hw
    exact (h2 q (List.mem_cons_of_mem _ hq)).2 w hw
theorem bnd_init {B C : Nat} (hB : B ≤ C) {one other : List (κ × Rat)} (h1 : ∀ p ∈ one, RB' B p.2) (h2 : ∀ p ∈ other, RB' B p.2) : Bnd B C one other :=
  ⟨fun p hp => rb_mono (h1 p hp) hB, fun p hp => ⟨h2 p hp, fun _ hw => h1 _ (getT_mem hw)⟩⟩
end
section
variable {κ : Type} [Emb κ] [DecidableEq κ]
theorem nd_rows {kvs : List (κ × Rat)} (h : ND kvs) : Inc (rowsT kvs) := inc_srt (nd_filter _ h)
theorem at0_rows {kvs : List (κ × Rat)} (h : ND kvs) (q : κ) : at0 (rowsT kvs) q = at0 kvs q := by
  unfold at0 rowsT
  rw [get_srt (nd_filter _ h), get_filter _ h]
  cases e : getT kvs q with
  | none => rfl
  | some w =>
    by_cases z : w = 0
    · subst z; rfl
    · have : (some w).filter (fun v => fz (q, v)) = some w := by simp [Option.filter, fz, z]
      rw [this]
theorem rows_nz {kvs : List (κ × Rat)} : ∀ p ∈ rowsT kvs, p ∈ kvs ∧ p.2 ≠ 0 := fun p hp => by
  obtain ⟨h1, h2⟩ := List.mem_filter.mp (srt_mem.mp hp)
  exact ⟨h1, fun z => by unfold fz at h2; rw [z] at h2; exact absurd h2 (by decide)⟩
theorem rows_len (kvs : List (κ × Rat)) : (rowsT kvs).length ≤ kvs.length := by
  unfold rowsT
  rw [srt_len]
  exact List.length_filter_le _ _
/-- rows in order without noughts: what they are at each place tells them -/
theorem rows_one {a b : List (κ × Rat)} (ha : Inc a) (hb : Inc b) (za : ∀ p ∈ a, p.2 ≠ 0) (zb : ∀ p ∈ b, p.2 ≠ 0) (h : ∀ q, at0 a q = at0 b q) : a = b := by
  refine inc_one ha hb fun q => ?_
  have h := h q
  unfold at0 at h
  cases e : getT a q with
  | none =>
    cases e2 : getT b q with
    | none => rfl
    | some w => rw [e, e2] at h; exact absurd h.symm (zb _ (getT_mem e2))
  | some v =>
    cases e2 : getT b q with
    | none => rw [e, e2] at h; exact absurd h (za _ (getT_mem e))
    | some w => rw [e, e2] at h; exact congrArg some h
theorem rows_ext {a b : List (κ × Rat)} (ha : ND a) (hb : ND b) (h : ∀ q, at0 a q = at0 b q) : rowsT a = rowsT b :=
  rows_one (nd_rows ha) (nd_rows hb) (fun p hp => (rows_nz p hp).2) (fun p hp => (rows_nz p hp).2) fun q => by rw [at0_rows ha, at0_rows hb, h]
end
/-! ### the walk of a sum -/
/-- m adds a fraction to a dict's -/
def Adds (κ : Type) [Emb κ] [DecidableEq κ] [KeyE κ] (m : Mir) : Prop := ∀ {S : Sto} {j : Nat} {u : D} {kvs : List (κ × Rat)}, Sane S → IsDic u kvs → S[j]? = some u → kvs.length < sizeLine → ∀ (k : κ) (q : Rat) {B : Nat}, B ≤ 2 ^ 4000 → (∀ p ∈ kvs, RB' B p.2) → RB' B q →
  ∃ u', m [.ptr j, toD k, toD q] S = .ok .non (S.set j u') ∧ IsDic u' (addT kvs k q)
section
variable {κ : Type} [Emb κ] [DecidableEq κ] [KeyE κ]
theorem sum_post {m : Mir} (hm : Adds κ m) {S : Sto} (hS : Sane S) {one other : List (κ × Rat)} (n1 : ND one) (n2 : ND other) {B C : Nat} (hC : 2 * (B * B) ≤ C) (hB : B ≤ C) (h1B : 1 ≤ B) (hC2 : C ≤ 2 ^ 4000) (b1 : ∀ p ∈ one, RB' B p.2) (b2 : ∀ p ∈ other, RB' B p.2) (hl : one.length + other.length < sizeLine)
    {rest : RS} {N B' C' : Sl → Sto → Prop} {T : D → Sto → Prop} (h : ∀ u o3 o4, IsDic u (sumT one other) → (rest [some (toD one), some (toD other), some (.ptr S.length), o3, o4] (S ++ [u])).post N T B' C') :
    ((sSeq (sAsg (rOwn (rAs gDict (rCons (rVar 0) rNil))) (gName 2)) (sSeq (sFor (rSeq (rVar 1)) (gTup (gCons (gName 3) (gCons (gName 4) gNil))) (sExpr (rCall m (rCons (rVar 2) (rCons (rVar 3) (rCons (rVar 4) rNil)))))) rest)) [some (toD one), some (toD other), none, none, none] S).post N T B' C' := by
  obtain ⟨u, _, e, hu⟩ := dict_of S one
  walk_at "3"
  refine p_lift (show gDict S [toD one] = some u from e) ?_
  walk_at "3"
  refine .inr (.inl ⟨other.map toD, rfl, ?_⟩)
  refine s_forT toD (fun xs δ S2 => ∃ acc u o3 o4, S2 = S ++ [u] ∧ IsDic u acc ∧ xs.foldl (fun acc p => addT acc p.1 p.2) acc = sumT one other ∧ ND xs ∧ Bnd B C acc xs ∧ acc.length + xs.length < sizeLine ∧ δ = [some (toD one), some (toD other), some (.ptr S.length), o3, o4]) ?_ ?_ _ _ _ ⟨mergeT [] one, u, none, none, rfl, hu, rfl, n2, ?_, ?_, rfl⟩
  · rintro x xs δ S2 ⟨acc, u, o3, o4, rfl, hu, hf, hn, hb, hl, rfl⟩
    show (gTup _ (.tup [toD x.1, toD x.2]) _ _).post _
    walk_at "3"
    rw [List.length_cons] at hl
    obtain ⟨u', e', hu'⟩ := hm (sane_app hS (isDic_closed hu _)) hu (get_app (S := S)) (by omega) x.1 x.2 hC2 hb.1 (rb_mono (hb.2 x List.mem_cons_self).1 hB)
    refine Res.post.of_eq e' ?_
    rw [set_app]
    refine ⟨addT acc x.1 x.2, u', _, _, rfl, hu', hf, (nd_tail hn).2, bnd_step hC hB h1B hb hn, ?_, rfl⟩
    have : (addT acc x.1 x.2).length ≤ acc.length + 1 := put_len _ _ _
    omega
  · rintro δ S2 ⟨acc, u, o3, o4, rfl, hu, hf, hn, hb, hl, rfl⟩
    exact h u o3 o4 (by rw [← hf]; exact hu)
  · rw [merge_id n1]; exact bnd_init hB b1 b2
  · rw [merge_id n1]; exact hl
variable [Sok (κ × Rat)]
end
end DL
set_option Elab.async false
set_option linter.all false
set_option maxRecDepth 100000
set_option maxHeartbeats 4000000
set_option autoImplicit false
/-! Forms that are drawn. -/
namespace DL
open PySem L2
open Emb
local macro_rules | `(tactic| walk_at "1") => `(tactic| with_reducible first
  | refine s_seq ?_ | refine s_asg ?_ | refine s_ret ?_ | refine s_if ?_ | refine s_expr ?_ | refine s_next ?_ | refine s_brk ?_ | refine s_cont ?_ | refine s_for ?_ | refine s_while ?_
  | refine p_c ?_ | refine p_bin ?_ | refine p_as ?_ | refine p_cons ?_ | refine p_nil ?_ | refine p_un ?_ | refine p_call ?_ | refine p_if ?_ | refine p_own ?_
  | refine p_keep ?_ | refine p_tru ?_ | refine p_and ?_ | refine p_or ?_ | refine p_not ?_ | refine p_val ?_ | refine p_rand ?_ | refine p_ror ?_ | refine p_rnot ?_ | refine p_chain ?_ | refine p_bif ?_
  | refine o_add ?_ | refine o_sub ?_ | refine o_ltU ?_ | refine o_leU ?_ | refine o_gtU ?_ | refine o_geU ?_ | refine o_neg ?_ | refine o_eqI ?_ | refine o_neI ?_ | refine o_abs ?_ | refine o_tru ?_ | refine p_true ?_ | refine p_false ?_
  | refine o_lenT ?_ | refine o_lenL ?_ | refine o_ix0 ?_ | refine o_ix1 ?_ | refine o_ix2 ?_ | refine o_ix0L ?_ | refine o_ix1L ?_ | refine o_ix2L ?_
  | refine s_par ?_ | refine p_yes ?_ | refine p_seq ?_ | refine s_gnil ?_ | refine s_gcons ?_ | refine s_gtux ?_ | refine s_gtupl ?_ | refine p_onone ?_ | refine p_osome ?_ | refine p_get2 ?_ | refine s_putU ?_ | refine p_sortIt ?_)
local macro_rules | `(tactic| walk_at "2") => `(tactic| first
  | walk_at "1"
  | (with_reducible refine p_var2 ?_)
  | ((with_reducible refine s_name ?_ ?_); (· exact Nat.le_of_ble_eq_true rfl); dsimp only [List.set_cons_zero, List.set_cons_succ])
  | (with_reducible refine p_tup ?_) | (with_reducible refine p_lst ?_) | ((with_reducible refine ⟨?_, ?_⟩); (· exact Nat.le_of_ble_eq_true rfl))
  | ((with_reducible refine p_ex2 (x := ?_) (y := ?_) ?_ ?_); rotate_left; rotate_left; (· rfl); refine ⟨?_, ?_, ?_⟩; (· exact Nat.le_of_ble_eq_true rfl); (· exact Nat.le_of_ble_eq_true rfl); dsimp only [List.set_cons_zero, List.set_cons_succ])
  | ((with_reducible refine p_isT ?_ ?_); (· rfl)) | ((with_reducible refine p_isF ?_ ?_); (· rfl))
  | ((with_reducible refine p_ex (x := ?_) ?_ ?_); rotate_left; (· rfl)))
local macro_rules | `(tactic| walk_at "3") => `(tactic| repeat walk_at "2")
/-! ### forms that are drawn -/
end DL
set_option Elab.async false
set_option linter.all false
set_option maxRecDepth 100000
set_option maxHeartbeats 4000000
set_option autoImplicit false
/-! The program's fractions, sums of rows. -/
namespace DL
open PySem L2
open Emb
local macro_rules | `(tactic| walk_at "1") => `(tactic| with_reducible first
  | refine s_seq ?_ | refine s_asg ?_ | refine s_ret ?_ | refine s_if ?_ | refine s_expr ?_ | refine s_next ?_ | refine s_brk ?_ | refine s_cont ?_ | refine s_for ?_ | refine s_while ?_
  | refine p_c ?_ | refine p_bin ?_ | refine p_as ?_ | refine p_cons ?_ | refine p_nil ?_ | refine p_un ?_ | refine p_call ?_ | refine p_if ?_ | refine p_own ?_
  | refine p_keep ?_ | refine p_tru ?_ | refine p_and ?_ | refine p_or ?_ | refine p_not ?_ | refine p_val ?_ | refine p_rand ?_ | refine p_ror ?_ | refine p_rnot ?_ | refine p_chain ?_ | refine p_bif ?_
  | refine o_add ?_ | refine o_sub ?_ | refine o_ltU ?_ | refine o_leU ?_ | refine o_gtU ?_ | refine o_geU ?_ | refine o_neg ?_ | refine o_eqI ?_ | refine o_neI ?_ | refine o_abs ?_ | refine o_tru ?_ | refine p_true ?_ | refine p_false ?_
  | refine o_lenT ?_ | refine o_lenL ?_ | refine o_ix0 ?_ | refine o_ix1 ?_ | refine o_ix2 ?_ | refine o_ix0L ?_ | refine o_ix1L ?_ | refine o_ix2L ?_
  | refine s_par ?_ | refine p_yes ?_ | refine p_seq ?_ | refine s_gnil ?_ | refine s_gcons ?_ | refine s_gtux ?_ | refine s_gtupl ?_ | refine p_onone ?_ | refine p_osome ?_ | refine p_get2 ?_ | refine s_putU ?_ | refine p_sortIt ?_)
local macro_rules | `(tactic| walk_at "2") => `(tactic| first
  | walk_at "1"
  | (with_reducible refine p_var2 ?_)
  | ((with_reducible refine s_name ?_ ?_); (· exact Nat.le_of_ble_eq_true rfl); dsimp only [List.set_cons_zero, List.set_cons_succ])
  | (with_reducible refine p_tup ?_) | (with_reducible refine p_lst ?_) | ((with_reducible refine ⟨?_, ?_⟩); (· exact Nat.le_of_ble_eq_true rfl))
  | ((with_reducible refine p_ex2 (x := ?_) (y := ?_) ?_ ?_); rotate_left; rotate_left; (· rfl); refine ⟨?_, ?_, ?_⟩; (· exact Nat.le_of_ble_eq_true rfl); (· exact Nat.le_of_ble_eq_true rfl); dsimp only [List.set_cons_zero, List.set_cons_succ])
  | ((with_reducible refine p_isT ?_ ?_); (· rfl)) | ((with_reducible refine p_isF ?_ ?_); (· rfl))
  | ((with_reducible refine p_ex (x := ?_) ?_ ?_); rotate_left; (· rfl)))
local macro_rules | `(tactic| walk_at "3") => `(tactic| repeat walk_at "2")
theorem gcd_spec (a b : Int) (S : Sto) (hS : Sane S) : m_common_divisor [.int a, .int b] S = .ok (.int (Int.gcd a b)) S := by
  refine m_defS hS rfl ?_
  show (b_common_divisor [some (.int a), some (.int b)] S).post _ _ _ _
  unfold b_common_divisor
  repeat walk_at "2"
  refine s_whileL (fun n δ S1 => S1 = S ∧ ∃ x y : Nat, y ≤ n ∧ Nat.gcd x y = Int.gcd a b ∧ δ = [some (.int x), some (.int y)]) ?_ b.natAbs _ _ _ ⟨rfl, a.natAbs, b.natAbs, Nat.le_refl _, rfl, rfl⟩ (by show b.natAbs < (b.natAbs : Int).natAbs + 1; omega)
  rintro n δ S1 ⟨rfl, x, y, hn, hg, rfl⟩
  repeat walk_at "2"
  constructor
  · intro h
    have h : (0 : Int) < y := of_decide_eq_true h
    have hy : 0 < y := by omega
    obtain ⟨m, rfl⟩ : ∃ m, n = m + 1 := ⟨n - 1, by omega⟩
    refine ⟨m, rfl, ?_⟩
    repeat walk_at "2"
    refine o_mod (by omega) ?_
    repeat walk_at "2"
    have e : Int.fmod x y = ((x % y : Nat) : Int) := by rw [Int.fmod_eq_emod_of_nonneg _ (by omega)]; rfl
    have l : x % y < y := Nat.mod_lt _ hy
    refine ⟨rfl, y, x % y, by omega, ?_, by rw [e]⟩
    rw [← hg, Nat.gcd_comm y, ← Nat.gcd_rec, Nat.gcd_comm]
  · intro h
    have h : ¬ (0 : Int) < y := of_decide_eq_false h
    have hy : y = 0 := by omega
    subst hy
    repeat walk_at "2"
    have e : x = Int.gcd a b := by rw [← hg, Nat.gcd_zero_right]
    rw [e]
    exact ⟨rfl, rfl⟩
def GG : Int := 10000000000000000000000000000000000000000000000000000000000000000000000000000000000000000000000000000000000000000000000000000000000000000000000000000000000000000000000000000000000000000000000000000000000000000000000000000000000000000000000000000000000000000000000000000000000000000000000000000000000000000000000000000000000000000000000000000000000000000000000000000000000000000000000000000000000000000000000000000000000000000000000000000000000000000000000000000000000000000000000000000000000000000000000000000000000000000000000000000000000000000000000000000000000000000000000000000000000000000000000000000000000000000000000000000000000000000000000000000000000000000000000000000000000000000000000000000000000000000000000000000000000000000000000000000000000000000000000000000000000000000000000000000000000000000000000000000000000000000000000000000000000000000000000000000000000000000000000000000000000000000000000000000000000000000000000000000000000000000000000000000000000000000000000000000000000000000
def smallB (i : Int) : Bool := decide (0 - GG ≤ i) && decide (i ≤ GG)
theorem is_small_spec (i : Int) (S : Sto) (hS : Sane S) : m_is_small [.int i] S = .ok (.bl (smallB i)) S := by
  refine m_defS hS rfl ?_
  show (b_is_small [some (.int i)] S).post _ _ _ _
  have hb : b_is_small = (sRet (rChain gLeU gLeU (rBin gSub (rC (.int 0)) (rC (.int GG))) (rVar 0) (rC (.int GG)))) := rfl
  rw [hb]
  unfold smallB
  generalize GG = g
  repeat walk_at "2"
  refine ⟨fun h1 => ?_, fun h1 => ?_⟩
  · repeat walk_at "2"
    refine ⟨?_, rfl⟩
    rw [h1, Bool.true_and]
  · refine ⟨?_, rfl⟩
    rw [h1, Bool.false_and]
theorem fraction_spec (a b : Int) (hb : 0 < b) (hl : b.natAbs < 2 ^ 8990) (S : Sto) (hS : Sane S) : m_fraction [.int a, .int b] S = .ok (toD ((a : Rat) / (b : Rat))) S := by
  obtain ⟨k, rfl⟩ : ∃ k : Nat, b = k := ⟨b.toNat, by omega⟩
  have hg : 0 < Int.gcd a k := Int.gcd_pos_of_ne_zero_right _ (by omega)
  have hgk : Int.gcd a k ≤ k := Nat.gcd_le_right (n := k) a.natAbs (by omega)
  have lg : ((Int.gcd a k : Nat) : Int).natAbs.log2 < 9000 := log_of (b := 8990) (by have : (k : Int).natAbs = k := rfl; omega) (by decide)
  have e := rat_of (a := a) (b := k) hb
  rw [toD_rat, e.1, e.2]
  refine m_defS hS rfl ?_
  show (b_fraction [some (.int a), some (.int k), none] S).post _ _ _ _
  unfold b_fraction
  walk_at "3"
  refine Res.post.of_eq (gcd_spec a k S hS) ?_
  walk_at "3"
  refine ⟨fun _ => ?_, fun z => absurd (of_decide_eq_false z) (by omega)⟩
  walk_at "3"
  refine o_mul (fits_r (by decide)) ?_
  rw [Int.mul_one]
  walk_at "3"
  refine o_div ⟨by omega, lg⟩ ?_
  walk_at "3"
  refine o_div ⟨by omega, lg⟩ ?_
  walk_at "3"
  exact ⟨rfl, rfl⟩
theorem plus_spec (x y : Rat) {B : Nat} (hx : RB' B x) (hy : RB' B y) (hB : B ≤ 2 ^ 4000) (S : Sto) (hS : Sane S) : m_plus [toD x, toD y] S = .ok (toD (x + y)) S := by
  refine m_defS hS (cl _ _) ?_
  show (b_plus [some (.tup [.int x.num, .int x.den]), some (.tup [.int y.num, .int y.den])] S).post _ _ _ _
  unfold b_plus
  have f : ∀ {a b : Int}, a.natAbs ≤ B → b.natAbs ≤ B → mulFits a b = true := fun h1 h2 => fits_of (a := 4001) (b := 4001) (by omega) (by omega) (by decide)
  have dx : ((x.den : Int)).natAbs ≤ B := hx.2
  have dy : ((y.den : Int)).natAbs ≤ B := hy.2
  walk_at "3"
  refine o_mul (f hx.1 dy) ?_
  walk_at "3"
  refine o_mul (f hy.1 dx) ?_
  walk_at "3"
  refine o_mul (f dx dy) ?_
  walk_at "3"
  refine Res.post.of_eq (fraction_spec _ _ (Int.mul_pos (den_pos' x) (den_pos' y)) ?_ S hS) ⟨by rw [rat_add], rfl⟩
  rw [Int.natAbs_mul]
  have := Nat.mul_le_mul (Nat.le_trans dx hB) (Nat.le_trans dy hB)
  exact Nat.lt_of_le_of_lt this (by rw [← Nat.pow_add]; exact Nat.pow_lt_pow_right (by decide) (by decide))
theorem times_spec (x y : Rat) {B : Nat} (hx : RB' B x) (hy : RB' B y) (hB : B ≤ 2 ^ 4000) (S : Sto) (hS : Sane S) : m_times [toD x, toD y] S = .ok (toD (x * y)) S := by
  refine m_defS hS (cl _ _) ?_
  show (b_times [some (.tup [.int x.num, .int x.den]), some (.tup [.int y.num, .int y.den])] S).post _ _ _ _
  unfold b_times
  have f : ∀ {a b : Int}, a.natAbs ≤ B → b.natAbs ≤ B → mulFits a b = true := fun h1 h2 => fits_of (a := 4001) (b := 4001) (by omega) (by omega) (by decide)
  have dx : ((x.den : Int)).natAbs ≤ B := hx.2
  have dy : ((y.den : Int)).natAbs ≤ B := hy.2
  walk_at "3"
  refine o_mul (f hx.1 hy.1) ?_
  walk_at "3"
  refine o_mul (f dx dy) ?_
  walk_at "3"
  refine Res.post.of_eq (fraction_spec _ _ (Int.mul_pos (den_pos' x) (den_pos' y)) ?_ S hS) ⟨by rw [rat_mul], rfl⟩
  rw [Int.natAbs_mul]
  have := Nat.mul_le_mul (Nat.le_trans dx hB) (Nat.le_trans dy hB)
  exact Nat.lt_of_le_of_lt this (by rw [← Nat.pow_add]; exact Nat.pow_lt_pow_right (by decide) (by decide))
theorem small_nat : (10 : Nat) ^ 1000 = GG.toNat := by decide +kernel
theorem smallB_of {i : Int} (h : i.natAbs ≤ 10 ^ 1000) : smallB i = true := by
  rw [small_nat] at h
  have g0 : 0 ≤ GG := by decide +kernel
  unfold smallB
  generalize GG = g at *
  rw [decide_eq_true (by omega), decide_eq_true (by omega)]
  rfl
theorem o_neRat {S : Sto} {q : Rat} {Q : D → Sto → Prop} (h : Q (.bl (!decide (q = 0))) S) : (Res.lift (gNe S (toD q) (.tup [.int 0, .int 1])) S).post Q :=
  o_neg_ (d := .tup [.int q.num, .int q.den]) (u := .tuple ([q.num, (q.den : Int)].map .int)) (v := .tuple ([0, 1].map .int)) rfl rfl (shaped_ints _).2 (shaped_ints _).2 (by
    have e : PyData.eqv (.tuple ([q.num, (q.den : Int)].map .int)) (.tuple ([0, 1].map .int)) = decide (q = 0) := by
      simp only [List.map_cons, List.map_nil, PyData.eqv, PyData.eqvAll, Bool.and_true]
      by_cases z : q = 0
      · subst z; rfl
      · rw [decide_eq_false z, num_beq, decide_eq_false z]; rfl
    rw [e]; exact h)
theorem all_true {α : Type} {xs : List α} {f : α → Bool} (h : ∀ a ∈ xs, f a = true) : (xs.map f).all id = true := List.all_eq_true.mpr fun b hb => by
  obtain ⟨a, ha, rfl⟩ := List.mem_map.mp hb
  exact h a ha
section
variable {κ : Type} [Emb κ] [DecidableEq κ] [KeyE κ]
theorem added_spec {S : Sto} {j : Nat} {u : D} {kvs : List (κ × Rat)} (hS : Sane S) (hd : IsDic u kvs) (hj : S[j]? = some u) (hl : kvs.length < sizeLine) (k : κ) (q : Rat) {B : Nat} (hB : B ≤ 2 ^ 4000) (hb : ∀ p ∈ kvs, RB' B p.2) (hq : RB' B q) :
    ∃ u', m_added [.ptr j, toD k, toD q] S = .ok .non (S.set j u') ∧ IsDic u' (addT kvs k q) := by
  obtain ⟨u', e', hu'⟩ := dic_putU hd hl k ((getT kvs k).getD 0 + q)
  refine ⟨u', ?_, hu'⟩
  have hlt := (List.getElem?_eq_some_iff.mp hj).1
  refine exact_of (m_def ?_)
  show (b_added [some (.ptr j), some (toD k), some (toD q)] S).post _ _ _ _
  unfold b_added
  walk_at "3"
  refine ⟨dic_isDct hd hj, ?_⟩
  walk_at "3"
  refine ⟨_, dic_lookU hd hj k, ?_⟩
  have ev : ((getT kvs k).map toD).getD (.tup [.int 0, .int 1]) = toD ((getT kvs k).getD 0) := by cases getT kvs k <;> rfl
  rw [ev]
  walk_at "3"
  refine Res.post.of_eq (plus_spec _ q ?_ hq hB S hS) ?_
  · cases e : getT kvs k with
    | none => exact ⟨Nat.zero_le _, by have := hq.2; have := q.den_pos; show 1 ≤ B; omega⟩
    | some w => exact hb _ (getT_mem e)
  walk_at "3"
  refine ⟨j, u, u', rfl, hj, e', ?_⟩
  have ln : (S.set j u').length = S.length := List.length_set
  have tk : (S.set j u').take S.length = S.set j u' := by rw [← ln, List.take_length]
  rw [tk]
  refine ⟨?_, rfl, rfl⟩
  have := sane_set hS (isDic_closed hu' S.length) (k := j)
  unfold Sane at this
  rwa [ln] at this
theorem added_adds : Adds κ m_added := fun hS hd hj hl k q _ hB hb hq => added_spec hS hd hj hl k q hB hb hq
theorem summed_spec {S : Sto} (hS : Sane S) {one other : List (κ × Rat)} (n1 : ND one) (n2 : ND other) {B C : Nat} (hC : 2 * (B * B) ≤ C) (hB : B ≤ C) (h1B : 1 ≤ B) (hC2 : C ≤ 2 ^ 4000) (b1 : ∀ p ∈ one, RB' B p.2) (b2 : ∀ p ∈ other, RB' B p.2) (hl : one.length + other.length < sizeLine) :
    (m_summed [toD one, toD other] S).post fun d S' => ∃ u, d = .ptr S.length ∧ S' = S ++ [u] ∧ IsDic u (sumT one other) := by
  refine m_defK ?_
  show (b_summed [some (toD one), some (toD other), none, none, none] S).post _ _ _ _
  unfold b_summed
  refine sum_post added_adds hS n1 n2 hC hB h1B hC2 b1 b2 hl fun u o3 o4 hu => ?_
  exact s_ret (p_var rfl ⟨u, rfl, rfl, hu⟩)
variable [Sok (κ × Rat)]
/-- what may be told -/
structure Fine' (kvs : List (κ × Rat)) : Prop where
  len : kvs.length ≤ 1000
  rb : ∀ p ∈ kvs, RB' (10 ^ 1000) p.2
theorem pairs_of_spec {S : Sto} {j : Nat} {u : D} {kvs : List (κ × Rat)} (hS : Sane S) (hd : IsDic u kvs) (hj : S[j]? = some u) (hl : kvs.length ≤ sizeLine) (hf : Fine' (rowsT kvs)) : m_pairs_of [.ptr j] S = .ok (toD (rowsT kvs)) S := by
  have ln : (kvs.filter fz).length ≤ kvs.length := List.length_filter_le _ _
  have sl : 2000 ≤ sizeLine := by decide
  refine m_defJ hS (cl _ _) ?_
  show (b_pairs_of [some (.ptr j), none, none, none] S).post _ _ _ _
  unfold b_pairs_of
  refine s_seq ?_
  refine s_lockS hd hj rfl ?_
  walk_at "3"
  refine p_lcItems kvs fz toD hd hj rfl (Nat.le_of_ble_eq_true rfl) (Nat.le_of_ble_eq_true rfl) hl (fun p hp => ?_) (fun p hp _ => ?_) ?_
  · refine exact_of ?_
    dsimp only [in2, wipeD, List.set_cons_zero, List.set_cons_succ]
    walk_at "3"
    refine o_neRat ?_
    walk_at "3"
    exact ⟨rfl, rfl⟩
  · refine exact_of ?_
    dsimp only [in2, wipeD, List.set_cons_zero, List.set_cons_succ]
    walk_at "3"
    exact ⟨rfl, rfl⟩
  · walk_at "3"
    refine p_lift (a := .lst ((rowsT kvs).map toD)) (show Option.map D.lst (sortD _ ((kvs.filter fz).map toD)) = _ from by rw [sortD_emb _ _ (by omega)]; rfl) ?_
    walk_at "3"
    refine p_lift (show gTuple _ [.lst ((rowsT kvs).map toD)] = some (.tup ((rowsT kvs).map toD)) from rfl) ?_
    walk_at "3"
    refine ⟨rfl, ?_⟩
    walk_at "3"
    refine ⟨fun z => absurd (of_decide_eq_true z) (by rw [List.length_map]; have := hf.len; omega), fun _ => ?_⟩
    walk_at "3"
    refine p_lcRows (rowsT kvs) (fun p => smallB p.2.num && smallB p.2.den) D.bl (exact_of (p_seq (p_var rfl (.inr (.inl ⟨_, rfl, rfl, rfl⟩))))) (Nat.le_of_ble_eq_true rfl) (Nat.le_of_ble_eq_true rfl) (Nat.le_trans hf.len (by omega)) (fun p hp => ?_) ?_
    · refine exact_of ?_
      dsimp only [in2, wipeD, List.set_cons_zero, List.set_cons_succ]
      rw [toD_rat]
      walk_at "3"
      refine Res.post.of_eq (is_small_spec _ S hS) ⟨smallB p.2.num, rfl, fun z => ?_, fun z => ?_⟩
      · walk_at "3"
        refine Res.post.of_eq (is_small_spec _ S hS) ⟨by rw [z]; rfl, rfl⟩
      · exact ⟨by rw [z]; rfl, rfl⟩
    · walk_at "3"
      refine o_all ?_
      rw [all_true fun p hp => by
        have := hf.rb p hp
        rw [smallB_of this.1, smallB_of (i := (p.2.den : Int)) this.2]
        rfl]
      walk_at "3"
      exact ⟨rfl, List.take_length⟩
/-- a dict made of pairs, told -/
theorem plain_times_spec {S : Sto} (hS : Sane S) {rows : List (κ × Rat)} (n1 : ND rows) (q : Rat) {B : Nat} (hB : B ≤ 2 ^ 4000) (hq : RB' B q) (b1 : ∀ p ∈ rows, RB' B p.2) (hl : rows.length ≤ sizeLine) (hf : Fine' (rowsT (rows.map fun p => (p.1, q * p.2)))) :
    m_plain_times [toD q, toD rows] S = .ok (toD (rowsT (rows.map fun p => (p.1, q * p.2)))) S := by
  refine m_defJ hS (cl _ _) ?_
  show (b_plain_times [some (toD q), some (toD rows), none, none] S).post _ _ _ _
  unfold b_plain_times
  walk_at "3"
  refine p_lcRows rows (fun p => (p.1, q * p.2)) toD (exact_of (p_seq (p_var rfl (.inr (.inl ⟨_, rfl, rfl, rfl⟩))))) (Nat.le_of_ble_eq_true rfl) (Nat.le_of_ble_eq_true rfl) hl (fun p hp => ?_) ?_
  · refine exact_of ?_
    dsimp only [in2, wipeD, List.set_cons_zero, List.set_cons_succ]
    walk_at "3"
    refine Res.post.of_eq (times_spec q p.2 hq (b1 p hp) hB S hS) ?_
    walk_at "3"
    exact ⟨rfl, rfl⟩
  · walk_at "3"
    obtain ⟨u, e, _, hu⟩ := dict_of S (rows.map fun p => (p.1, q * p.2))
    refine p_lift e ?_
    walk_at "3"
    have nm : ND (rows.map fun p => (p.1, q * p.2)) := by
      unfold ND at *
      rw [List.map_map]
      exact n1
    rw [merge_id nm] at hu
    refine Res.post.of_eq (pairs_of_spec (sane_app hS (isDic_closed hu _)) hu get_app (by rw [List.length_map]; exact hl) hf) ⟨rfl, take_app⟩
theorem plain_sum_spec {S : Sto} (hS : Sane S) {one other : List (κ × Rat)} (n1 : ND one) (n2 : ND other) {B C : Nat} (hC : 2 * (B * B) ≤ C) (hB : B ≤ C) (h1B : 1 ≤ B) (hC2 : C ≤ 2 ^ 4000) (b1 : ∀ p ∈ one, RB' B p.2) (b2 : ∀ p ∈ other, RB' B p.2) (hl : one.length + other.length < sizeLine) (hf : Fine' (rowsT (sumT one other))) :
    m_plain_sum [toD one, toD other] S = .ok (toD (rowsT (sumT one other))) S := by
  refine m_defJ hS (cl _ _) ?_
  show (b_plain_sum [some (toD one), some (toD other)] S).post _ _ _ _
  unfold b_plain_sum
  walk_at "3"
  refine (summed_spec hS n1 n2 hC hB h1B hC2 b1 b2 hl).mono ?_
  rintro _ _ ⟨u, rfl, rfl, hu⟩
  walk_at "3"
  have ls := len_sum (other := other) n1
  refine Res.post.of_eq (pairs_of_spec (sane_app hS (isDic_closed hu _)) hu get_app (by omega) hf) ⟨rfl, take_app⟩
end
/-- forms that may be told -/
structure FineK (kvs : List (Kind × Rat)) : Prop where
  fine : Fine' kvs
  kinds : ∀ p ∈ kvs, p.1.p ≤ 99 ∧ p.1.b.natAbs ≤ 10 ^ 1000
theorem form_of_spec {S : Sto} {j : Nat} {u : D} {kvs : List (Kind × Rat)} (hS : Sane S) (hd : IsDic u kvs) (hj : S[j]? = some u) (hl : kvs.length ≤ sizeLine) (hf : FineK (rowsT kvs)) : m_form_of [.ptr j] S = .ok (toD (rowsT kvs)) S := by
  refine m_defJ hS (cl _ _) ?_
  show (b_form_of [some (.ptr j), none, none, none] S).post _ _ _ _
  unfold b_form_of
  have sl : 2000 ≤ sizeLine := by decide
  walk_at "3"
  refine Res.post.of_eq (pairs_of_spec hS hd hj hl hf.fine) ?_
  walk_at "3"
  refine p_lcRows (rowsT kvs) (fun p => decide (p.1.p ≤ 99) && smallB p.1.b) D.bl (exact_of (p_seq (p_var rfl (.inr (.inl ⟨_, rfl, rfl, rfl⟩))))) (Nat.le_of_ble_eq_true rfl) (Nat.le_of_ble_eq_true rfl) (Nat.le_trans hf.fine.len (by omega)) (fun p hp => ?_) ?_
  · refine exact_of ?_
    dsimp only [in2, wipeD, List.set_cons_zero, List.set_cons_succ]
    rw [toD_kind]
    walk_at "3"
    refine ⟨fun z => ?_, fun z => ?_⟩
    · walk_at "3"
      refine Res.post.of_eq (is_small_spec _ S hS) ⟨by rw [z]; rfl, rfl⟩
    · exact ⟨by rw [z]; rfl, rfl⟩
  · walk_at "3"
    refine o_all ?_
    rw [all_true fun p hp => by
      have := hf.kinds p hp
      rw [smallB_of this.2, decide_eq_true this.1]
      rfl]
    walk_at "3"
    exact ⟨rfl, List.take_length⟩
theorem form_sum_spec {S : Sto} (hS : Sane S) {one other : List (Kind × Rat)} (n1 : ND one) (n2 : ND other) {B C : Nat} (hC : 2 * (B * B) ≤ C) (hB : B ≤ C) (h1B : 1 ≤ B) (hC2 : C ≤ 2 ^ 4000) (b1 : ∀ p ∈ one, RB' B p.2) (b2 : ∀ p ∈ other, RB' B p.2) (hl : one.length + other.length < sizeLine) (hf : FineK (rowsT (sumT one other))) :
    m_form_sum [toD one, toD other] S = .ok (toD (rowsT (sumT one other))) S := by
  refine m_defJ hS (cl _ _) ?_
  show (b_form_sum [some (toD one), some (toD other)] S).post _ _ _ _
  unfold b_form_sum
  walk_at "3"
  refine (summed_spec hS n1 n2 hC hB h1B hC2 b1 b2 hl).mono ?_
  rintro _ _ ⟨u, rfl, rfl, hu⟩
  walk_at "3"
  have ls := len_sum (other := other) n1
  refine Res.post.of_eq (form_of_spec (sane_app hS (isDic_closed hu _)) hu get_app (by omega) hf) ⟨rfl, take_app⟩
end DL
set_option Elab.async false
set_option linter.all false
set_option maxRecDepth 100000
set_option maxHeartbeats 4000000
set_option autoImplicit false
/-! What is shown. -/
namespace DL
open PySem L2
open Emb
local macro_rules | `(tactic| walk_at "1") => `(tactic| with_reducible first
  | refine s_seq ?_ | refine s_asg ?_ | refine s_ret ?_ | refine s_if ?_ | refine s_expr ?_ | refine s_next ?_ | refine s_brk ?_ | refine s_cont ?_ | refine s_for ?_ | refine s_while ?_
  | refine p_c ?_ | refine p_bin ?_ | refine p_as ?_ | refine p_cons ?_ | refine p_nil ?_ | refine p_un ?_ | refine p_call ?_ | refine p_if ?_ | refine p_own ?_
  | refine p_keep ?_ | refine p_tru ?_ | refine p_and ?_ | refine p_or ?_ | refine p_not ?_ | refine p_val ?_ | refine p_rand ?_ | refine p_ror ?_ | refine p_rnot ?_ | refine p_chain ?_ | refine p_bif ?_
  | refine o_add ?_ | refine o_sub ?_ | refine o_ltU ?_ | refine o_leU ?_ | refine o_gtU ?_ | refine o_geU ?_ | refine o_neg ?_ | refine o_eqI ?_ | refine o_neI ?_ | refine o_abs ?_ | refine o_tru ?_ | refine p_true ?_ | refine p_false ?_
  | refine o_lenT ?_ | refine o_lenL ?_ | refine o_ix0 ?_ | refine o_ix1 ?_ | refine o_ix2 ?_ | refine o_ix0L ?_ | refine o_ix1L ?_ | refine o_ix2L ?_
  | refine s_par ?_ | refine p_yes ?_ | refine p_seq ?_ | refine s_gnil ?_ | refine s_gcons ?_ | refine s_gtux ?_ | refine s_gtupl ?_ | refine p_onone ?_ | refine p_osome ?_ | refine p_get2 ?_ | refine s_putU ?_ | refine p_sortIt ?_)
local macro_rules | `(tactic| walk_at "2") => `(tactic| first
  | walk_at "1"
  | (with_reducible refine p_var2 ?_)
  | ((with_reducible refine s_name ?_ ?_); (· exact Nat.le_of_ble_eq_true rfl); dsimp only [List.set_cons_zero, List.set_cons_succ])
  | (with_reducible refine p_tup ?_) | (with_reducible refine p_lst ?_) | ((with_reducible refine ⟨?_, ?_⟩); (· exact Nat.le_of_ble_eq_true rfl))
  | ((with_reducible refine p_ex2 (x := ?_) (y := ?_) ?_ ?_); rotate_left; rotate_left; (· rfl); refine ⟨?_, ?_, ?_⟩; (· exact Nat.le_of_ble_eq_true rfl); (· exact Nat.le_of_ble_eq_true rfl); dsimp only [List.set_cons_zero, List.set_cons_succ])
  | ((with_reducible refine p_isT ?_ ?_); (· rfl)) | ((with_reducible refine p_isF ?_ ?_); (· rfl))
  | ((with_reducible refine p_ex (x := ?_) ?_ ?_); rotate_left; (· rfl)))
local macro_rules | `(tactic| walk_at "3") => `(tactic| repeat walk_at "2")
mutual
theorem fit_lay : ∀ {x : PyData}, fitP x = true → x.canLay0 = true
  | .none, _ => by simp [PyData.canLay0]
  | .bool _, _ => by simp [PyData.canLay0]
  | .int _, _ => by simp [PyData.canLay0]
  | .str _, h => by unfold fitP at h; simp [PyData.canLay0, h]
  | .list xs, h => by unfold fitP at h; simp only [PyData.canLay0]; exact fits_lay h
  | .tuple xs, h => by unfold fitP at h; simp only [PyData.canLay0]; exact fits_lay h
  | .dict _, h => by unfold fitP at h; cases h
theorem fits_lay : ∀ {xs : List PyData}, fitPs xs = true → PyData.canLayAll0 xs = true
  | [], _ => by simp [PyData.canLayAll0]
  | x :: r, h => by
    unfold fitPs at h
    rw [Bool.and_eq_true] at h
    simp only [PyData.canLayAll0, fit_lay h.1, fits_lay h.2, Bool.and_self]
end
theorem fit_shaped {x : PyData} (h : fitP x = true) (hd : x.depth ≤ 64) : SeqAt.shaped x = true := by
  unfold SeqAt.shaped
  rw [fit_lay h, decide_eq_true hd]
  rfl
/-! ### what is shown -/
def FitE {κ : Type} [Emb κ] (w : Nat) (x : κ) : Prop := fitP (py x) = true ∧ wtP (py x) ≤ w
theorem fitE_le {κ : Type} [Emb κ] {v w : Nat} {x : κ} (h : FitE v x) (hv : v ≤ w) : FitE w x := ⟨h.1, Nat.le_trans h.2 hv⟩
theorem fitE_int {i : Int} (h : i.natAbs ≤ 10 ^ 1000) : FitE 1006 i := by
  refine ⟨?_, ?_⟩
  · show fitP (.int i) = true
    unfold fitP
    exact decide_eq_true (Nat.lt_of_le_of_lt h (Nat.pow_lt_pow_right (by decide) (by decide)))
  · show wtP (.int i) ≤ 1006
    unfold wtP
    exact Nat.le_refl _
theorem fitE_small {i : Int} {B : Nat} (h : i.natAbs ≤ B) (hB : B ≤ 10 ^ 100) : FitE 1006 i := fitE_int (Nat.le_trans h (Nat.le_trans hB (Nat.pow_le_pow_right (by decide) (by decide))))
theorem fitE_str {x : Str} (h : nice x = true) : FitE 82 x := by
  unfold nice at h
  have h := (Bool.and_eq_true_iff.mp h).1
  rw [Bool.and_eq_true, decide_eq_true_eq, List.all_eq_true] at h
  refine ⟨?_, ?_⟩
  · show fitP (.str x) = true
    unfold fitP
    exact okS_ok fun c hc => by have := of_decide_eq_true (h.2 c hc); omega
  · show wtP (.str x) ≤ 82
    unfold wtP
    omega
theorem fitE_pair {α β : Type} [Emb α] [Emb β] {a b : Nat} {p : α × β} (h1 : FitE a p.1) (h2 : FitE b p.2) : FitE (a + b + 7) p := by
  refine ⟨?_, ?_⟩
  · show fitP (.tuple [py p.1, py p.2]) = true
    unfold fitP fitPs fitPs fitPs
    rw [h1.1, h2.1]; rfl
  · show wtP (.tuple [py p.1, py p.2]) ≤ _
    unfold wtP wtPs wtPs wtPs
    have := h1.2
    have := h2.2
    omega
theorem fitE_list {α : Type} [Emb α] {w : Nat} : ∀ {xs : List α}, (∀ x ∈ xs, FitE w x) → fitPs (xs.map py) = true ∧ wtPs (xs.map py) ≤ xs.length * (w + 2)
  | [], _ => ⟨by unfold List.map fitPs; rfl, by unfold List.map wtPs; simp⟩
  | x :: r, h => by
    obtain ⟨h1, h2⟩ := fitE_list fun y hy => h y (List.mem_cons_of_mem _ hy)
    have hx := h x List.mem_cons_self
    unfold List.map fitPs wtPs
    rw [hx.1, h1, List.length_cons, Nat.succ_mul]
    refine ⟨rfl, ?_⟩
    have := hx.2
    omega
theorem fitE_tuple {α : Type} [Emb α] {w n : Nat} {xs : List α} (h : ∀ x ∈ xs, FitE w x) (hn : xs.length ≤ n) : FitE (n * (w + 2) + 3) xs := by
  obtain ⟨h1, h2⟩ := fitE_list h
  refine ⟨?_, ?_⟩
  · show fitP (.tuple (xs.map py)) = true
    unfold fitP; exact h1
  · show wtP (.tuple (xs.map py)) ≤ _
    unfold wtP
    have := Nat.mul_le_mul_right (w + 2) hn
    omega
theorem fitE_rat {q : Rat} (h : RB' (10 ^ 1000) q) : FitE 2019 q := by
  have h1 := fitE_int h.1
  have h2 := fitE_int (i := (q.den : Int)) h.2
  exact fitE_pair (p := (q.num, (q.den : Int))) h1 h2
theorem mono_len {n : Nat} {m : Mono} (h : MonO n m) : m.length ≤ n ∧ ∀ p ∈ m, p.2.natAbs ≤ n := by
  obtain ⟨h1, h2⟩ := deg_pos h.nc
  have := h.dg
  refine ⟨by omega, fun p hp => ?_⟩
  have := h2 p hp
  have := (h.nc p hp).2
  omega
theorem fitE_mono {n : Nat} {m : Mono} (h : MonO n m) (hn : n ≤ 12) : FitE 13200 m := by
  obtain ⟨h1, h2⟩ := mono_len h
  refine fitE_le (fitE_tuple (w := 82 + 1006 + 7) (n := 12) (fun p hp => fitE_pair (fitE_str (h.nc p hp).1) (fitE_small (h2 p hp) (Nat.le_trans hn (by decide)))) (by omega)) (by decide)
theorem fitE_kind {n : Nat} {k : Kind} (h : MonO n k.m) (hp : k.p.natAbs ≤ 10 ^ 1000) (hb : k.b.natAbs ≤ 10 ^ 1000) (hn : n ≤ 12) : FitE 15300 k := by
  have h1 := fitE_mono h hn
  have h2 := fitE_int hp
  have h3 := fitE_int hb
  refine ⟨?_, ?_⟩
  · show fitP (.tuple [py k.m, .int k.p, .int k.b]) = true
    unfold fitP fitPs fitPs fitPs fitPs
    rw [h1.1, show fitP (.int k.p) = true from h2.1, show fitP (.int k.b) = true from h3.1]; rfl
  · show wtP (.tuple [py k.m, .int k.p, .int k.b]) ≤ _
    unfold wtP wtPs wtPs wtPs wtPs
    have := h1.2
    have : wtP (.int k.p) ≤ 1006 := h2.2
    have : wtP (.int k.b) ≤ 1006 := h3.2
    omega
/-! equality of what is shown -/
theorem eqv_fit {κ : Type} [Emb κ] [DecidableEq κ] {a b : κ} (h : fitP (py a) = true) : PyData.eqv (py a) (py b) = decide (a = b) := by
  by_cases e : a = b
  · subst e; rw [eqv_refl _ h, decide_eq_true rfl]
  · rw [decide_eq_false e]
    cases q : PyData.eqv (py a) (py b) with
    | false => rfl
    | true => exact absurd (inj _ _ q) e
theorem eqvs_fit {κ : Type} [Emb κ] [DecidableEq κ] {a b : List κ} (h : fitPs (a.map py) = true) : PyData.eqvAll (a.map py) (b.map py) = decide (a = b) := by
  by_cases e : a = b
  · subst e; rw [eqvs_refl _ h, decide_eq_true rfl]
  · rw [decide_eq_false e]
    cases q : PyData.eqvAll (a.map py) (b.map py) with
    | false => rfl
    | true => exact absurd (emb_injs _ _ q) e
theorem o_eqEmb {κ : Type} [Emb κ] [DecidableEq κ] {S : Sto} {a b : κ} {Q : D → Sto → Prop} (ha : fitP (py a) = true) (hb : fitP (py b) = true) (hd : deg κ ≤ 64) (h : Q (.bl (decide (a = b))) S) : (Res.lift (gEq S (toD a) (toD b)) S).post Q :=
  o_eqg (by rw [deref_emb, pyOk]) (by rw [deref_emb, pyOk]) (fit_shaped ha (Nat.le_trans (dep a) hd)) (fit_shaped hb (Nat.le_trans (dep b) hd)) (by rw [eqv_fit ha]; exact h)
theorem o_neEmb {κ : Type} [Emb κ] [DecidableEq κ] {S : Sto} {a b : κ} {Q : D → Sto → Prop} (ha : fitP (py a) = true) (hb : fitP (py b) = true) (hd : deg κ ≤ 64) (h : Q (.bl (!decide (a = b))) S) : (Res.lift (gNe S (toD a) (toD b)) S).post Q :=
  o_neg_ (by rw [deref_emb, pyOk]) (by rw [deref_emb, pyOk]) (fit_shaped ha (Nat.le_trans (dep a) hd)) (fit_shaped hb (Nat.le_trans (dep b) hd)) (by rw [eqv_fit ha]; exact h)
theorem lst_shaped {κ : Type} [Emb κ] {a : List κ} (ha : fitPs (a.map py) = true) (hd : deg κ + 1 ≤ 64) : SeqAt.shaped (.list (a.map py)) = true :=
  fit_shaped (by unfold fitP; exact ha) (by have := emb_dep a; simp only [PyData.depth]; omega)
theorem o_neLst {κ : Type} [Emb κ] [DecidableEq κ] {S : Sto} {a b : List κ} {Q : D → Sto → Prop} (ha : fitPs (a.map py) = true) (hb : fitPs (b.map py) = true) (hd : deg κ + 1 ≤ 64) (h : Q (.bl (!decide (a = b))) S) : (Res.lift (gNe S (.lst (a.map toD)) (.lst (b.map toD))) S).post Q :=
  o_neg_ (u := .list (a.map py)) (v := .list (b.map py)) (by show (toPys S (a.map toD)).map PyData.list = _; rw [emb_pys]; rfl) (by show (toPys S (b.map toD)).map PyData.list = _; rw [emb_pys]; rfl) (lst_shaped ha hd) (lst_shaped hb hd) (by simp only [PyData.eqv]; rw [eqvs_fit ha]; exact h)
end DL
set_option Elab.async false
set_option linter.all false
set_option maxRecDepth 100000
set_option maxHeartbeats 4000000
set_option autoImplicit false
/-! What is shown of rows. -/
namespace DL
open PySem L2
open Emb
theorem b21 {q : Rat} (h : RB' (10 ^ 21) q) : RB' (10 ^ 30) q := rb_mono h (by decide)
end DL
set_option Elab.async false
set_option linter.all false
set_option maxRecDepth 100000
set_option maxHeartbeats 4000000
set_option autoImplicit false
/-! Products of terms of the count: plain. -/
namespace DL
open PySem L2
open Emb
def bin : Nat → Nat → Nat
  | _, 0 => 1
  | 0, _ + 1 => 0
  | n + 1, k + 1 => bin n k + bin n (k + 1)
theorem bin_gt : ∀ {n k : Nat}, n < k → bin n k = 0
  | 0, k + 1, _ => rfl
  | n + 1, k + 1, h => by
    show bin n k + bin n (k + 1) = 0
    rw [bin_gt (by omega), bin_gt (by omega)]
theorem bin_le : ∀ n k : Nat, bin n k ≤ 2 ^ n
  | n, 0 => by cases n <;> exact Nat.one_le_two_pow
  | 0, k + 1 => by show 0 ≤ _; omega
  | n + 1, k + 1 => by
    show bin n k + bin n (k + 1) ≤ 2 ^ (n + 1)
    have h1 := bin_le n k
    have h2 := bin_le n (k + 1)
    rw [Nat.pow_succ]; omega
theorem bin_step : ∀ {n k : Nat}, k ≤ n → bin n (k + 1) * (k + 1) = bin n k * (n - k)
  | 0, k, h => by
    obtain rfl : k = 0 := by omega
    rfl
  | n + 1, 0, _ => by
    show (bin n 0 + bin n 1) * 1 = bin (n + 1) 0 * (n + 1 - 0)
    have h : bin n 1 * 1 = bin n 0 * (n - 0) := bin_step (Nat.zero_le _)
    have e : bin n 0 = 1 := by cases n <;> rfl
    have e2 : bin (n + 1) 0 = 1 := rfl
    rw [e, e2]; rw [e] at h; omega
  | n + 1, k + 1, h => by
    have h1 : bin n (k + 1) * (k + 1) = bin n k * (n - k) := bin_step (by omega)
    show (bin n (k + 1) + bin n (k + 2)) * (k + 2) = (bin n k + bin n (k + 1)) * (n + 1 - (k + 1))
    rw [show n + 1 - (k + 1) = n - k by omega]
    by_cases q : k + 1 ≤ n
    · have h2 : bin n (k + 2) * (k + 2) = bin n (k + 1) * (n - (k + 1)) := bin_step q
      obtain ⟨m, rfl⟩ : ∃ m, n = k + 1 + m := ⟨n - (k + 1), by omega⟩
      rw [show k + 1 + m - (k + 1) = m by omega] at h2
      rw [show k + 1 + m - k = m + 1 by omega] at h1 ⊢
      generalize bin (k + 1 + m) (k + 1) = A at *
      generalize bin (k + 1 + m) (k + 2) = B at *
      generalize bin (k + 1 + m) k = C at *
      grind
    · obtain rfl : n = k := by omega
      rw [bin_gt (show n < n + 1 by omega), bin_gt (show n < n + 2 by omega), Nat.sub_self]
      simp
/-! ### factorials, trinomials -/
def fac : Nat → Nat
  | 0 => 1
  | n + 1 => (n + 1) * fac n
theorem fac_pos : ∀ n, 0 < fac n
  | 0 => Nat.one_pos
  | n + 1 => Nat.mul_pos (Nat.succ_pos n) (fac_pos n)
theorem bin_zero (n : Nat) : bin n 0 = 1 := by cases n <;> rfl
end DL
set_option Elab.async false
set_option linter.all false
set_option maxRecDepth 100000
set_option maxHeartbeats 4000000
set_option autoImplicit false
/-! The program: powers, ways to choose. -/
namespace DL
open PySem L2
open Emb
local macro_rules | `(tactic| walk_at "1") => `(tactic| with_reducible first
  | refine s_seq ?_ | refine s_asg ?_ | refine s_ret ?_ | refine s_if ?_ | refine s_expr ?_ | refine s_next ?_ | refine s_brk ?_ | refine s_cont ?_ | refine s_for ?_ | refine s_while ?_
  | refine p_c ?_ | refine p_bin ?_ | refine p_as ?_ | refine p_cons ?_ | refine p_nil ?_ | refine p_un ?_ | refine p_call ?_ | refine p_if ?_ | refine p_own ?_
  | refine p_keep ?_ | refine p_tru ?_ | refine p_and ?_ | refine p_or ?_ | refine p_not ?_ | refine p_val ?_ | refine p_rand ?_ | refine p_ror ?_ | refine p_rnot ?_ | refine p_chain ?_ | refine p_bif ?_
  | refine o_add ?_ | refine o_sub ?_ | refine o_ltU ?_ | refine o_leU ?_ | refine o_gtU ?_ | refine o_geU ?_ | refine o_neg ?_ | refine o_eqI ?_ | refine o_neI ?_ | refine o_abs ?_ | refine o_tru ?_ | refine p_true ?_ | refine p_false ?_
  | refine o_lenT ?_ | refine o_lenL ?_ | refine o_ix0 ?_ | refine o_ix1 ?_ | refine o_ix2 ?_ | refine o_ix0L ?_ | refine o_ix1L ?_ | refine o_ix2L ?_
  | refine s_par ?_ | refine p_yes ?_ | refine p_seq ?_ | refine s_gnil ?_ | refine s_gcons ?_ | refine s_gtux ?_ | refine s_gtupl ?_ | refine p_onone ?_ | refine p_osome ?_ | refine p_get2 ?_ | refine s_putU ?_ | refine p_sortIt ?_)
local macro_rules | `(tactic| walk_at "2") => `(tactic| first
  | walk_at "1"
  | (with_reducible refine p_var2 ?_)
  | ((with_reducible refine s_name ?_ ?_); (· exact Nat.le_of_ble_eq_true rfl); dsimp only [List.set_cons_zero, List.set_cons_succ])
  | (with_reducible refine p_tup ?_) | (with_reducible refine p_lst ?_) | ((with_reducible refine ⟨?_, ?_⟩); (· exact Nat.le_of_ble_eq_true rfl))
  | ((with_reducible refine p_ex2 (x := ?_) (y := ?_) ?_ ?_); rotate_left; rotate_left; (· rfl); refine ⟨?_, ?_, ?_⟩; (· exact Nat.le_of_ble_eq_true rfl); (· exact Nat.le_of_ble_eq_true rfl); dsimp only [List.set_cons_zero, List.set_cons_succ])
  | ((with_reducible refine p_isT ?_ ?_); (· rfl)) | ((with_reducible refine p_isF ?_ ?_); (· rfl))
  | ((with_reducible refine p_ex (x := ?_) ?_ ?_); rotate_left; (· rfl)))
local macro_rules | `(tactic| walk_at "3") => `(tactic| repeat walk_at "2")
theorem choose_spec (n j : Nat) (hn : n ≤ 200) (hj : j ≤ 300) (S : Sto) (hS : Sane S) : m_choose [.int n, .int j] S = .ok (.int (bin n j)) S := by
  refine m_defS hS rfl ?_
  show (b_choose [some (.int n), some (.int j), none, none] S).post _ _ _ _
  unfold b_choose
  walk_at "3"
  refine ⟨fun h => ?_, fun h => ?_⟩
  · have h : (n : Int) < j := of_decide_eq_true h
    walk_at "3"
    rw [bin_gt (by omega)]
    exact ⟨rfl, rfl⟩
  · have h : ¬ (n : Int) < j := of_decide_eq_false h
    walk_at "3"
    with_reducible refine p_range1 ?_
    walk_at "3"
    refine ⟨by omega, by omega, ?_⟩
    refine s_forL (fun xs δ S1 => S1 = S ∧ ∃ i z, i ≤ j ∧ xs = (rangeD 0 j).drop i ∧ δ = [some (.int n), some (.int j), some (.int (bin n i)), z]) ?_ ?_ _ _ _ ⟨rfl, 0, none, Nat.zero_le _, rfl, by cases n <;> rfl⟩
    · rintro x xs δ S1 ⟨rfl, i, z, hi, e, rfl⟩
      have hx := range_cons e
      obtain ⟨rfl, hlt, rfl⟩ := hx
      walk_at "3"
      have b1 := bin_le n i
      have b2 : 2 ^ n ≤ 2 ^ 200 := Nat.pow_le_pow_right (by decide) hn
      have b3 : (bin n i : Int).natAbs < 2 ^ 201 := by
        show bin n i < 2 ^ 201
        exact Nat.lt_of_le_of_lt (Nat.le_trans b1 b2) (by decide)
      have b4 : ((n : Int) - (i : Int)).natAbs < 2 ^ 9 := by omega
      refine o_mul (fits_of (a := 201) (b := 9) b3 b4 (by decide)) ?_
      walk_at "3"
      have b5 : ((i : Int) + 1).natAbs < 2 ^ 9 := by omega
      refine o_div ⟨by omega, log_of (b := 9) b5 (by decide)⟩ ?_
      walk_at "3"
      refine ⟨rfl, i + 1, some (.int i), by omega, rfl, ?_⟩
      have st := bin_step (n := n) (k := i) (by omega)
      have e : ((bin n i : Int) * (n - i)).fdiv (i + 1) = (bin n (i + 1) : Int) := by
        have e1 : ((bin n i : Int) * (n - i)) = ((bin n (i + 1) : Int) * (i + 1)) := by
          rw [show ((n : Int) - i) = ((n - i : Nat) : Int) by omega, show ((i : Int) + 1) = ((i + 1 : Nat) : Int) by omega, ← Int.natCast_mul, ← Int.natCast_mul, st]
        rw [e1]
        exact Int.mul_fdiv_cancel _ (by omega)
      rw [e]
    · rintro δ S1 ⟨rfl, i, z, hi, e, rfl⟩
      have : i = j := by have := range_nil e; omega
      subst this
      walk_at "3"
      exact ⟨rfl, rfl⟩
theorem pow_half (x : Int) (l : Nat) : x ^ l = (x * x) ^ (l / 2) * (if l % 2 = 1 then x else 1) := by
  have h : l = 2 * (l / 2) + l % 2 := by omega
  generalize l / 2 = m at *
  rcases (by omega : l % 2 = 0 ∨ l % 2 = 1) with e | e
  · rw [e] at h ⊢
    rw [if_neg (by decide), h, Nat.add_zero, Int.pow_mul, Int.mul_one]
    congr 1
    rw [Int.pow_succ, Int.pow_succ, Int.pow_zero, Int.one_mul]
  · rw [e] at h ⊢
    rw [if_pos rfl, h, Int.pow_succ, Int.pow_mul]
    congr 2
    rw [Int.pow_succ, Int.pow_succ, Int.pow_zero, Int.one_mul]
theorem raised_spec (n : Int) (k : Nat) (hn : n.natAbs ^ k < 2 ^ 400000) (hn1 : n.natAbs < 2 ^ 400000) (hk : k < 2 ^ 60) (S : Sto) (hS : Sane S) : m_raised [.int n, .int k] S = .ok (.int (n ^ k)) S := by
  refine m_defS hS rfl ?_
  show (b_raised [some (.int n), some (.int k), none, none] S).post _ _ _ _
  unfold b_raised
  generalize hL : (2 : Nat) ^ 400000 = L at hn hn1
  have hL2 : 2 ≤ L := by
    rw [← hL]
    exact Nat.le_trans (show 2 ≤ 2 ^ 1 by decide) (Nat.pow_le_pow_right (by decide) (by decide))
  have fits : ∀ {a b : Int}, a.natAbs < L → b.natAbs < L → mulFits a b = true := fun h1 h2 => fits_of (a := 400000) (b := 400000) (by rw [hL]; exact h1) (by rw [hL]; exact h2) (by decide)
  walk_at "3"
  refine s_whileL (fun m δ S1 => S1 = S ∧ ∃ (f x : Int) (l : Nat), l ≤ m ∧ f * x ^ l = n ^ k ∧ (n ≠ 0 → x ≠ 0 ∧ f ≠ 0) ∧ (n = 0 → x = 0 ∧ f.natAbs ≤ 1) ∧ x.natAbs < L ∧ f.natAbs < L ∧ δ = [some (.int x), some (.int k), some (.int f), some (.int l)]) ?_ k _ _ _ ⟨rfl, 1, n, k, Nat.le_refl _, Int.one_mul _, fun h => ⟨h, by decide⟩, fun h => ⟨h, by decide⟩, hn1, hL2, rfl⟩ (by show k < (k : Int).natAbs + 1; omega)
  rintro m δ S1 ⟨rfl, f, x, l, hm, he, hn0, hz0, hx, hf, rfl⟩
  walk_at "3"
  constructor
  · intro h
    have h : (0 : Int) < l := of_decide_eq_true h
    have hl : 0 < l := by omega
    obtain ⟨m', rfl⟩ : ∃ m', m = m' + 1 := ⟨m - 1, by omega⟩
    refine ⟨m', rfl, ?_⟩
    have hh := pow_half x l
    have hd : (Int.fdiv (l : Int) 2) = ((l / 2 : Nat) : Int) := by rw [Int.fdiv_eq_ediv_of_nonneg _ (by decide)]; rfl
    have hmo : (Int.fmod (l : Int) 2) = ((l % 2 : Nat) : Int) := by rw [Int.fmod_eq_emod_of_nonneg _ (by decide)]; rfl
    -- what is behind the turn
    have key : ∀ f' : Int, f' = f * (if l % 2 = 1 then x else 1) → (n ≠ 0 → f' ≠ 0) ∧ (n = 0 → f'.natAbs ≤ 1) ∧ f'.natAbs < L ∧ f' * (x * x) ^ (l / 2) = n ^ k := by
      intro f' hf'
      have e : f' * (x * x) ^ (l / 2) = n ^ k := by
        rw [← he, hh, hf', Int.mul_assoc, Int.mul_comm (if l % 2 = 1 then x else 1)]
      have nz : n ≠ 0 → f' ≠ 0 := fun h => by
        obtain ⟨a1, a2⟩ := hn0 h
        rw [hf']
        split
        · exact Int.mul_ne_zero a2 a1
        · rw [Int.mul_one]; exact a2
      have zz : n = 0 → f'.natAbs ≤ 1 := fun h => by
        obtain ⟨a1, a2⟩ := hz0 h
        rw [hf', a1]
        split
        · rw [Int.mul_zero]; decide
        · rw [Int.mul_one]; exact a2
      refine ⟨nz, zz, ?_, e⟩
      by_cases hz : n = 0
      · have := zz hz; omega
      · have e2 := congrArg Int.natAbs e
        rw [Int.natAbs_mul, Int.natAbs_pow, Int.natAbs_pow] at e2
        have hx0 : 0 < (x * x).natAbs ^ (l / 2) := Nat.pow_pos (Int.natAbs_pos.mpr (Int.mul_ne_zero (hn0 hz).1 (hn0 hz).1))
        have : f'.natAbs ≤ f'.natAbs * (x * x).natAbs ^ (l / 2) := Nat.le_mul_of_pos_right _ hx0
        omega
    have xx : 0 < l / 2 → (x * x).natAbs < L := fun h2 => by
      by_cases hz : n = 0
      · rw [(hz0 hz).1]; show 0 < L; omega
      · obtain ⟨_, _, _, e⟩ := key _ rfl
        have nz := (key _ rfl).1 hz
        have e2 := congrArg Int.natAbs e
        rw [Int.natAbs_mul, Int.natAbs_pow, Int.natAbs_pow] at e2
        have hx0 : 0 < (x * x).natAbs := Int.natAbs_pos.mpr (Int.mul_ne_zero (hn0 hz).1 (hn0 hz).1)
        have h3 : (x * x).natAbs ≤ (x * x).natAbs ^ (l / 2) := Nat.le_self_pow (by omega) _
        have h4 : (x * x).natAbs ^ (l / 2) ≤ (f * (if l % 2 = 1 then x else 1)).natAbs * (x * x).natAbs ^ (l / 2) := Nat.le_mul_of_pos_left _ (Int.natAbs_pos.mpr nz)
        omega
    have fin : ∀ {T : D → Sto → Prop} {B C : Sl → Sto → Prop} (f' : Int), f' = f * (if l % 2 = 1 then x else 1) → ((sSeq (sAsg (rBin gDiv (rVar 3) (rC (.int 2))) (gName 3)) (sAsg (rIf (bVal (rBin gGtU (rVar 3) (rC (.int 0)))) (rBin gMul (rVar 0) (rVar 0)) (rVar 0)) (gName 0))) [some (.int x), some (.int k), some (.int f'), some (.int l)] S1).post (fun δ2 S2 => S2 = S1 ∧ ∃ (f x : Int) (l : Nat), l ≤ m' ∧ f * x ^ l = n ^ k ∧ (n ≠ 0 → x ≠ 0 ∧ f ≠ 0) ∧ (n = 0 → x = 0 ∧ f.natAbs ≤ 1) ∧ x.natAbs < L ∧ f.natAbs < L ∧ δ2 = [some (.int x), some (.int k), some (.int f), some (.int l)]) T B C := by
      intro T B C f' hf'
      obtain ⟨k1, k2, k3, k4⟩ := key f' hf'
      walk_at "3"
      refine o_div ⟨by decide, by decide⟩ ?_
      walk_at "3"
      rw [hd]
      walk_at "3"
      refine ⟨fun h2 => ?_, fun h2 => ?_⟩
      · have h2 : (0 : Int) < ((l / 2 : Nat) : Int) := of_decide_eq_true h2
        walk_at "3"
        refine o_mul (fits hx hx) ?_
        walk_at "3"
        exact ⟨rfl, f', x * x, l / 2, by omega, k4, fun h => ⟨Int.mul_ne_zero (hn0 h).1 (hn0 h).1, k1 h⟩, fun h => ⟨by rw [(hz0 h).1]; rfl, k2 h⟩, xx (by omega), k3, rfl⟩
      · have h2 : ¬ (0 : Int) < ((l / 2 : Nat) : Int) := of_decide_eq_false h2
        have h3 : l / 2 = 0 := by omega
        walk_at "3"
        rw [h3, Int.pow_zero] at k4
        exact ⟨rfl, f', x, l / 2, by omega, by rw [h3, Int.pow_zero]; exact k4, fun h => ⟨(hn0 h).1, k1 h⟩, fun h => ⟨(hz0 h).1, k2 h⟩, hx, k3, rfl⟩
    walk_at "3"
    refine o_mod (by decide) ?_
    rw [hmo]
    walk_at "3"
    refine ⟨fun h2 => ?_, fun h2 => ?_⟩
    · have h2 : l % 2 = 1 := by have : ((l % 2 : Nat) : Int) = 1 := by simpa using h2
                                omega
      refine s_asg ?_
      walk_at "3"
      refine o_mul (fits hf hx) ?_
      refine s_name (Nat.le_of_ble_eq_true rfl) ?_
      exact fin (f * x) (by rw [if_pos h2])
    · have h2 : ¬ l % 2 = 1 := fun z => by rw [z] at h2; cases h2
      refine s_next ?_
      exact fin f (by rw [if_neg h2, Int.mul_one])
  · intro h
    have h : ¬ (0 : Int) < l := of_decide_eq_false h
    have hl : l = 0 := by omega
    subst hl
    walk_at "3"
    rw [Int.pow_zero, Int.mul_one] at he
    rw [he]
    exact ⟨rfl, rfl⟩
end DL
set_option Elab.async false
set_option linter.all false
set_option maxRecDepth 100000
set_option maxHeartbeats 4000000
set_option autoImplicit false
/-! Products of rows: plain. -/
namespace DL
open PySem L2
open Emb
/-! ### sizes of fractions: not beyond V, the number below not beyond D -/
def QB (V D : Nat) (q : Rat) : Prop := q.num.natAbs ≤ V * q.den ∧ q.den ≤ D
/-! ### sums over rows -/
section
variable {κ : Type} [DecidableEq κ]
def sumR {α : Type} (xs : List α) (f : α → Rat) : Rat := (xs.map f).sum
theorem sumR_nil {α : Type} (f : α → Rat) : sumR [] f = 0 := rfl
theorem sumR_cons {α : Type} (x : α) (xs : List α) (f : α → Rat) : sumR (x :: xs) f = f x + sumR xs f := by unfold sumR; rw [List.map_cons, List.sum_cons]
theorem sumR_app {α : Type} (xs ys : List α) (f : α → Rat) : sumR (xs ++ ys) f = sumR xs f + sumR ys f := by
  induction xs with
  | nil => rw [List.nil_append, sumR_nil]; grind
  | cons x r ih => rw [List.cons_append, sumR_cons, sumR_cons, ih]; grind
theorem sumR_flat {α β : Type} (xs : List α) (g : α → List β) (f : β → Rat) : sumR (xs.flatMap g) f = sumR xs fun x => sumR (g x) f := by
  induction xs with
  | nil => rfl
  | cons x r ih => rw [List.flatMap_cons, sumR_app, sumR_cons, ih]
theorem sumR_map {α β : Type} (xs : List α) (g : α → β) (f : β → Rat) : sumR (xs.map g) f = sumR xs fun x => f (g x) := by unfold sumR; rw [List.map_map]; rfl
theorem sumR_congr {α : Type} {xs : List α} {f g : α → Rat} (h : ∀ x ∈ xs, f x = g x) : sumR xs f = sumR xs g := by
  induction xs with
  | nil => rfl
  | cons x r ih => rw [sumR_cons, sumR_cons, h x List.mem_cons_self, ih fun y hy => h y (List.mem_cons_of_mem _ hy)]
theorem sumR_add {α : Type} (xs : List α) (f g : α → Rat) : (sumR xs fun x => f x + g x) = sumR xs f + sumR xs g := by
  induction xs with
  | nil => rw [sumR_nil, sumR_nil, sumR_nil]; grind
  | cons x r ih => rw [sumR_cons, sumR_cons, sumR_cons, ih]; grind
theorem sumR_mul {α : Type} (xs : List α) (c : Rat) (f : α → Rat) : (sumR xs fun x => c * f x) = c * sumR xs f := by
  induction xs with
  | nil => rw [sumR_nil, sumR_nil]; grind
  | cons x r ih => rw [sumR_cons, sumR_cons, ih]; grind
/-- what a row of additions gives to the place q -/
def con (L : List (κ × Rat)) (q : κ) : Rat := sumR L fun p => if p.1 = q then p.2 else 0
def addAll (acc L : List (κ × Rat)) : List (κ × Rat) := L.foldl (fun acc p => addT acc p.1 p.2) acc
theorem at0_addAll : ∀ (L acc : List (κ × Rat)) (q : κ), at0 (addAll acc L) q = at0 acc q + con L q
  | [], acc, q => by show at0 acc q = at0 acc q + 0; grind
  | p :: r, acc, q => by
    show at0 (addAll (addT acc p.1 p.2) r) q = _
    rw [at0_addAll r, at0_add]
    unfold con
    rw [sumR_cons]
    by_cases h : q = p.1
    · subst h; rw [if_pos rfl, if_pos rfl]; grind
    · rw [if_neg h, if_neg (Ne.symm h)]; grind
theorem nd_addAll : ∀ (L acc : List (κ × Rat)), ND acc → ND (addAll acc L) := fun L acc h => nd_fold L acc h
end
/-! ### products of boxes -/
/-! ### products of rows -/
end DL
set_option Elab.async false
set_option linter.all false
set_option maxRecDepth 100000
set_option maxHeartbeats 4000000
set_option autoImplicit false
/-! The program: products of terms. -/
namespace DL
open PySem L2
open Emb
local macro_rules | `(tactic| walk_at "1") => `(tactic| with_reducible first
  | refine s_seq ?_ | refine s_asg ?_ | refine s_ret ?_ | refine s_if ?_ | refine s_expr ?_ | refine s_next ?_ | refine s_brk ?_ | refine s_cont ?_ | refine s_for ?_ | refine s_while ?_
  | refine p_c ?_ | refine p_bin ?_ | refine p_as ?_ | refine p_cons ?_ | refine p_nil ?_ | refine p_un ?_ | refine p_call ?_ | refine p_if ?_ | refine p_own ?_
  | refine p_keep ?_ | refine p_tru ?_ | refine p_and ?_ | refine p_or ?_ | refine p_not ?_ | refine p_val ?_ | refine p_rand ?_ | refine p_ror ?_ | refine p_rnot ?_ | refine p_chain ?_ | refine p_bif ?_
  | refine o_add ?_ | refine o_sub ?_ | refine o_ltU ?_ | refine o_leU ?_ | refine o_gtU ?_ | refine o_geU ?_ | refine o_neg ?_ | refine o_eqI ?_ | refine o_neI ?_ | refine o_abs ?_ | refine o_tru ?_ | refine p_true ?_ | refine p_false ?_
  | refine o_lenT ?_ | refine o_lenL ?_ | refine o_ix0 ?_ | refine o_ix1 ?_ | refine o_ix2 ?_ | refine o_ix0L ?_ | refine o_ix1L ?_ | refine o_ix2L ?_
  | refine s_par ?_ | refine p_yes ?_ | refine p_seq ?_ | refine s_gnil ?_ | refine s_gcons ?_ | refine s_gtux ?_ | refine s_gtupl ?_ | refine p_onone ?_ | refine p_osome ?_ | refine p_get2 ?_ | refine s_putU ?_ | refine p_sortIt ?_)
local macro_rules | `(tactic| walk_at "2") => `(tactic| first
  | walk_at "1"
  | (with_reducible refine p_var2 ?_)
  | ((with_reducible refine s_name ?_ ?_); (· exact Nat.le_of_ble_eq_true rfl); dsimp only [List.set_cons_zero, List.set_cons_succ])
  | (with_reducible refine p_tup ?_) | (with_reducible refine p_lst ?_) | ((with_reducible refine ⟨?_, ?_⟩); (· exact Nat.le_of_ble_eq_true rfl))
  | ((with_reducible refine p_ex2 (x := ?_) (y := ?_) ?_ ?_); rotate_left; rotate_left; (· rfl); refine ⟨?_, ?_, ?_⟩; (· exact Nat.le_of_ble_eq_true rfl); (· exact Nat.le_of_ble_eq_true rfl); dsimp only [List.set_cons_zero, List.set_cons_succ])
  | ((with_reducible refine p_isT ?_ ?_); (· rfl)) | ((with_reducible refine p_isF ?_ ?_); (· rfl))
  | ((with_reducible refine p_ex (x := ?_) ?_ ?_); rotate_left; (· rfl)))
local macro_rules | `(tactic| walk_at "3") => `(tactic| repeat walk_at "2")
theorem maxI_mem {ns : List Int} (h : ns ≠ []) : ∃ m, maxI ns = some m ∧ m ∈ ns := by
  cases ns with
  | nil => exact absurd rfl h
  | cons i r =>
    refine ⟨r.foldl max i, rfl, ?_⟩
    rcases (foldl_max r i).1 with h | h
    · rw [h]; exact List.mem_cons_self
    · exact List.mem_cons_of_mem _ h
theorem o_maxL {S : Sto} {ns : List Int} {m : Int} {Q : D → Sto → Prop} (e : maxI ns = some m) (h : Q (.int m) S) : (Res.lift (gMax S [.lst (ns.map .int)]) S).post Q := p_lift (by unfold gMax deref; dsimp only; rw [asInts_map]; dsimp only [Option.bind_some]; rw [e]; rfl) h
theorem pow_lt4 {a : Int} {A e : Nat} (ha : a.natAbs ≤ A) (hA : A ≤ 2 ^ 100) (he : e ≤ 2000) : a.natAbs ^ e < 2 ^ 400000 ∧ a.natAbs < 2 ^ 400000 := by
  have h1 : a.natAbs ^ e ≤ (2 ^ 100) ^ 2000 := Nat.le_trans (Nat.pow_le_pow_left (Nat.le_trans ha hA) _) (Nat.pow_le_pow_right (by decide) he)
  rw [← Nat.pow_mul] at h1
  refine ⟨Nat.lt_of_le_of_lt h1 (Nat.pow_lt_pow_right (by decide) (by decide)), Nat.lt_of_le_of_lt (Nat.le_trans ha hA) (Nat.pow_lt_pow_right (by decide) (by decide))⟩
end DL
set_option Elab.async false
set_option linter.all false
set_option maxRecDepth 100000
set_option maxHeartbeats 4000000
set_option autoImplicit false
/-! The program: products of forms. -/
namespace DL
open PySem L2
open Emb
local macro_rules | `(tactic| walk_at "1") => `(tactic| with_reducible first
  | refine s_seq ?_ | refine s_asg ?_ | refine s_ret ?_ | refine s_if ?_ | refine s_expr ?_ | refine s_next ?_ | refine s_brk ?_ | refine s_cont ?_ | refine s_for ?_ | refine s_while ?_
  | refine p_c ?_ | refine p_bin ?_ | refine p_as ?_ | refine p_cons ?_ | refine p_nil ?_ | refine p_un ?_ | refine p_call ?_ | refine p_if ?_ | refine p_own ?_
  | refine p_keep ?_ | refine p_tru ?_ | refine p_and ?_ | refine p_or ?_ | refine p_not ?_ | refine p_val ?_ | refine p_rand ?_ | refine p_ror ?_ | refine p_rnot ?_ | refine p_chain ?_ | refine p_bif ?_
  | refine o_add ?_ | refine o_sub ?_ | refine o_ltU ?_ | refine o_leU ?_ | refine o_gtU ?_ | refine o_geU ?_ | refine o_neg ?_ | refine o_eqI ?_ | refine o_neI ?_ | refine o_abs ?_ | refine o_tru ?_ | refine p_true ?_ | refine p_false ?_
  | refine o_lenT ?_ | refine o_lenL ?_ | refine o_ix0 ?_ | refine o_ix1 ?_ | refine o_ix2 ?_ | refine o_ix0L ?_ | refine o_ix1L ?_ | refine o_ix2L ?_
  | refine s_par ?_ | refine p_yes ?_ | refine p_seq ?_ | refine s_gnil ?_ | refine s_gcons ?_ | refine s_gtux ?_ | refine s_gtupl ?_ | refine p_onone ?_ | refine p_osome ?_ | refine p_get2 ?_ | refine s_putU ?_ | refine p_sortIt ?_)
local macro_rules | `(tactic| walk_at "2") => `(tactic| first
  | walk_at "1"
  | (with_reducible refine p_var2 ?_)
  | ((with_reducible refine s_name ?_ ?_); (· exact Nat.le_of_ble_eq_true rfl); dsimp only [List.set_cons_zero, List.set_cons_succ])
  | (with_reducible refine p_tup ?_) | (with_reducible refine p_lst ?_) | ((with_reducible refine ⟨?_, ?_⟩); (· exact Nat.le_of_ble_eq_true rfl))
  | ((with_reducible refine p_ex2 (x := ?_) (y := ?_) ?_ ?_); rotate_left; rotate_left; (· rfl); refine ⟨?_, ?_, ?_⟩; (· exact Nat.le_of_ble_eq_true rfl); (· exact Nat.le_of_ble_eq_true rfl); dsimp only [List.set_cons_zero, List.set_cons_succ])
  | ((with_reducible refine p_isT ?_ ?_); (· rfl)) | ((with_reducible refine p_isF ?_ ?_); (· rfl))
  | ((with_reducible refine p_ex (x := ?_) ?_ ?_); rotate_left; (· rfl)))
local macro_rules | `(tactic| walk_at "3") => `(tactic| repeat walk_at "2")
theorem rat_one (n : Int) : (n : Rat) / ((1 : Int) : Rat) = (n : Rat) := by
  have : ((1 : Int) : Rat) = 1 := rfl
  rw [this]
  grind
theorem rows_all {κ : Type} [Emb κ] [DecidableEq κ] {P : κ → Prop} : ∀ {L acc : List (κ × Rat)}, (∀ p ∈ acc, P p.1) → (∀ p ∈ L, P p.1) → ∀ p ∈ addAll acc L, P p.1
  | [], _, h, _ => h
  | q :: r, acc, h, g => rows_all (L := r) (acc := addT acc q.1 q.2) (put_all h (g q List.mem_cons_self)) fun p hp => g p (List.mem_cons_of_mem _ hp)
end DL
set_option Elab.async false
set_option linter.all false
set_option maxRecDepth 100000
set_option maxHeartbeats 4000000
set_option autoImplicit false
/-! Fractions of a common number below; sums over rows. -/
namespace DL
open PySem L2
open Emb
theorem con_nd {κ : Type} [DecidableEq κ] : ∀ {L : List (κ × Rat)}, ND L → ∀ q, con L q = at0 L q
  | [], _, _ => rfl
  | p :: r, h, q => by
    obtain ⟨h1, h2⟩ := nd_tail h
    have ih := con_nd h2 q
    unfold con at ih ⊢
    rw [sumR_cons, ih, show p :: r = (p.1, p.2) :: r from rfl, at0_cons]
    by_cases z : p.1 = q
    · rw [if_pos z, if_pos z]
      subst z
      rw [at0_none h1]; grind
    · rw [if_neg z, if_neg z]; grind
/-! ### fractions of a common number below -/
def QC (V L : Nat) (q : Rat) : Prop := ∃ X : Int, q = (X : Rat) / ((L : Int) : Rat) ∧ X.natAbs ≤ V * L
theorem castL {L : Nat} (h : 1 ≤ L) : ((L : Int) : Rat) ≠ 0 := by simp; omega
theorem qc_zero (L : Nat) : QC 0 L 0 := ⟨0, by rw [show ((0 : Int) : Rat) = 0 from rfl]; grind, Nat.zero_le _⟩
theorem qc_add {V W L : Nat} {x y : Rat} (h : QC V L x) (g : QC W L y) : QC (V + W) L (x + y) := by
  obtain ⟨X, rfl, hX⟩ := h
  obtain ⟨Y, rfl, hY⟩ := g
  refine ⟨X + Y, ?_, ?_⟩
  · rw [show ((X + Y : Int) : Rat) = (X : Rat) + (Y : Rat) by push_cast; rfl]
    grind
  · rw [Nat.add_mul]; omega
theorem qc_mul {V W L M : Nat} {x y : Rat} (hL : 1 ≤ L) (hM : 1 ≤ M) (h : QC V L x) (g : QC W M y) : QC (V * W) (L * M) (x * y) := by
  obtain ⟨X, rfl, hX⟩ := h
  obtain ⟨Y, rfl, hY⟩ := g
  refine ⟨X * Y, ?_, ?_⟩
  · have h1 := castL hL
    have h2 := castL hM
    rw [show ((X * Y : Int) : Rat) = (X : Rat) * (Y : Rat) by push_cast; rfl, show (((L * M : Nat) : Int) : Rat) = ((L : Int) : Rat) * ((M : Int) : Rat) by push_cast; rfl]
    generalize ((L : Int) : Rat) = l at *
    generalize ((M : Int) : Rat) = m at *
    grind
  · rw [Int.natAbs_mul, Nat.mul_mul_mul_comm]
    exact Nat.mul_le_mul hX hY
theorem qc_int {V L : Nat} {x : Rat} {n : Int} {W : Nat} (h : QC V L x) (hn : n.natAbs ≤ W) : QC (V * W) L (x * (n : Rat)) := by
  obtain ⟨X, rfl, hX⟩ := h
  refine ⟨X * n, ?_, ?_⟩
  · rw [show ((X * n : Int) : Rat) = (X : Rat) * (n : Rat) by push_cast; rfl]
    grind
  · rw [Int.natAbs_mul, Nat.mul_right_comm]
    exact Nat.mul_le_mul hX hn
theorem qc_mono {V W L : Nat} {x : Rat} (h : QC V L x) (hv : V ≤ W) : QC W L x := by
  obtain ⟨X, rfl, hX⟩ := h
  exact ⟨X, rfl, Nat.le_trans hX (Nat.mul_le_mul_right _ hv)⟩
theorem qc_scale {V L M : Nat} {x : Rat} (hL : 1 ≤ L) (hM : 1 ≤ M) (h : QC V L x) : QC V (L * M) x := by
  obtain ⟨X, rfl, hX⟩ := h
  refine ⟨X * M, ?_, ?_⟩
  · have h1 := castL hL
    have h2 := castL hM
    rw [show ((X * (M : Int) : Int) : Rat) = (X : Rat) * ((M : Int) : Rat) by push_cast; rfl, show (((L * M : Nat) : Int) : Rat) = ((L : Int) : Rat) * ((M : Int) : Rat) by push_cast; rfl]
    generalize ((L : Int) : Rat) = l at *
    generalize ((M : Int) : Rat) = m at *
    grind
  · rw [Int.natAbs_mul, ← Nat.mul_assoc]
    exact Nat.mul_le_mul_right _ hX
theorem qc_rb {V L : Nat} {x : Rat} (hV : 1 ≤ V) (hL : 1 ≤ L) (h : QC V L x) : RB' (V * L) x := by
  obtain ⟨X, rfl, hX⟩ := h
  exact rb_of (by omega) hX (by show L ≤ V * L; exact Nat.le_mul_of_pos_left _ hV)
/-- additions on the way, of a common number below -/
structure OnC {κ : Type} [DecidableEq κ] (V L T : Nat) (total acc rest : List (κ × Rat)) : Prop where
  eq : addAll acc rest = total
  nd : ND acc
  ex : ∃ t, t + rest.length ≤ T ∧ acc.length ≤ t ∧ ∀ p ∈ acc, QC (V * t) L p.2
  rest : ∀ p ∈ rest, QC V L p.2
section
variable {κ : Type} [DecidableEq κ] {V L T : Nat}
theorem onc_start {K : List (κ × Rat)} (hl : K.length ≤ T) (h : ∀ p ∈ K, QC V L p.2) : OnC V L T (addAll [] K) [] K := ⟨rfl, List.nodup_nil, ⟨0, by omega, Nat.le_refl _, fun _ z => nomatch z⟩, h⟩
theorem onc_step {total acc rest : List (κ × Rat)} {p : κ × Rat} (h : OnC V L T total acc (p :: rest)) : OnC V L T total (addT acc p.1 p.2) rest := by
  obtain ⟨t, h1, h2, h3⟩ := h.ex
  have hp := h.rest p List.mem_cons_self
  refine ⟨h.eq, nd_add h.nd _ _, ⟨t + 1, by rw [List.length_cons] at h1; omega, Nat.le_trans (put_len _ _ _) (by omega), ?_⟩, fun q hq => h.rest q (List.mem_cons_of_mem _ hq)⟩
  refine put_all (fun q hq => qc_mono (h3 q hq) (Nat.mul_le_mul_left _ (Nat.le_succ _))) ?_
  show QC (V * (t + 1)) L ((getT acc p.1).getD 0 + p.2)
  rw [Nat.mul_add, Nat.mul_one]
  refine qc_add ?_ hp
  cases e : getT acc p.1 with
  | none => exact qc_mono (qc_zero L) (Nat.zero_le _)
  | some w => exact h3 _ (getT_mem e)
theorem onc_end {total : List (κ × Rat)} : ∀ {rest acc : List (κ × Rat)}, OnC V L T total acc rest → OnC V L T total total []
  | [], acc, h => by
    have : acc = total := h.eq
    subst this; exact h
  | p :: r, acc, h => onc_end (rest := r) (onc_step h)
theorem onc_qc {total acc rest : List (κ × Rat)} (h : OnC V L T total acc rest) : ∀ p ∈ acc, QC (V * T) L p.2 := fun p hp => by
  obtain ⟨t, h1, h2, h3⟩ := h.ex
  exact qc_mono (h3 p hp) (Nat.mul_le_mul_left V (show t ≤ T by omega))
variable [Emb κ] [KeyE κ]
theorem add_one {m : Mir} (hm : Adds κ m) {S : Sto} {u : D} {total acc rest : List (κ × Rat)} {k : κ} {q : Rat} (hS : Sane S) (hu : IsDic u acc) (h : OnC V L T total acc ((k, q) :: rest)) (hV : 1 ≤ V) (hL : 1 ≤ L) (hT : 1 ≤ T) (hT2 : T ≤ 100000) (hB : V * T * L ≤ 2 ^ 4000) :
    ∃ u', m [.ptr S.length, toD k, toD q] (S ++ [u]) = .ok .non (S ++ [u']) ∧ IsDic u' (addT acc k q) ∧ OnC V L T total (addT acc k q) rest := by
  have sl : 200000 ≤ sizeLine := by decide
  obtain ⟨t, h1, h2, h3⟩ := h.ex
  have hVT : 1 ≤ V * T := Nat.mul_pos hV hT
  obtain ⟨u', e', hu'⟩ := hm (sane_app hS (isDic_closed hu _)) hu (get_app (S := S)) (by rw [List.length_cons] at h1; omega) k q hB (fun p hp => qc_rb hVT hL (onc_qc h p hp)) (rb_mono (qc_rb hV hL (h.rest _ List.mem_cons_self)) (Nat.mul_le_mul_right _ (Nat.le_mul_of_pos_right _ hT)))
  rw [set_app] at e'
  exact ⟨u', e', hu', onc_step h⟩
end
/-! ### what is put together of rows -/
section
variable {κ : Type} [DecidableEq κ]
def lin (g : κ → Rat) (rows : List (κ × Rat)) : Rat := sumR rows fun p => p.2 * g p.1
theorem sumR_perm {α : Type} {a b : List α} (h : a.Perm b) (f : α → Rat) : sumR a f = sumR b f := by
  induction h with
  | nil => rfl
  | cons x _ ih => rw [sumR_cons, sumR_cons, ih]
  | swap x y l => rw [sumR_cons, sumR_cons, sumR_cons, sumR_cons]; grind
  | trans _ _ h1 h2 => exact h1.trans h2
theorem lin_app (g : κ → Rat) (a b : List (κ × Rat)) : lin g (a ++ b) = lin g a + lin g b := sumR_app a b _
theorem lin_cons (g : κ → Rat) (p : κ × Rat) (r : List (κ × Rat)) : lin g (p :: r) = p.2 * g p.1 + lin g r := sumR_cons p r _
theorem lin_repl (g : κ → Rat) {kvs : List (κ × Rat)} (hn : ND kvs) {k : κ} {v w : Rat} (h : getT kvs k = some w) : lin g (replT kvs k v) = lin g kvs + (v - w) * g k := by
  induction kvs with
  | nil => cases h
  | cons p r ih =>
    obtain ⟨k', v'⟩ := p
    obtain ⟨h1, h2⟩ := nd_tail hn
    rw [getT_cons] at h
    show lin g (if k' = k then (k', v) :: replT r k v else (k', v') :: replT r k v) = _
    by_cases e : k' = k
    · subst e
      rw [if_pos rfl] at h ⊢
      cases h
      have : replT r k' v = r := by
        clear ih hn h2
        induction r with
        | nil => rfl
        | cons q s ih =>
          obtain ⟨k2, v2⟩ := q
          rw [List.map_cons, List.mem_cons, not_or] at h1
          show (if k2 = k' then _ else (k2, v2) :: replT s k' v) = _
          rw [if_neg (Ne.symm h1.1), ih h1.2]
      rw [this, lin_cons, lin_cons]
      grind
    · rw [if_neg e] at h ⊢
      rw [lin_cons, lin_cons, ih h2 h]
      grind
theorem lin_addT (g : κ → Rat) {kvs : List (κ × Rat)} (hn : ND kvs) (k : κ) (q : Rat) : lin g (addT kvs k q) = lin g kvs + q * g k := by
  unfold addT putT
  cases e : getT kvs k with
  | some w =>
    rw [if_pos (show (some w).isSome = true from rfl), lin_repl g hn e]
    show _ + (w + q - w) * g k = _
    grind
  | none =>
    rw [if_neg (show ¬ (none : Option Rat).isSome = true by decide), lin_app, lin_cons]
    show _ + ((0 + q) * g k + 0) = _
    grind
theorem lin_addAll (g : κ → Rat) : ∀ (K : List (κ × Rat)) {acc : List (κ × Rat)}, ND acc → lin g (addAll acc K) = lin g acc + lin g K
  | [], acc, _ => by show lin g acc = lin g acc + 0; grind
  | p :: r, acc, h => by
    show lin g (addAll (addT acc p.1 p.2) r) = _
    rw [lin_addAll g r (nd_add h _ _), lin_addT g h, lin_cons]
    grind
theorem lin_con (K : List (κ × Rat)) (q : κ) : con K q = lin (fun k => if k = q then 1 else 0) K := by
  unfold con lin
  refine sumR_congr fun p _ => ?_
  split <;> grind
theorem lin_flat {α : Type} (g : κ → Rat) (xs : List α) (f : α → List (κ × Rat)) : lin g (xs.flatMap f) = sumR xs fun x => lin g (f x) := sumR_flat xs f _
variable [Emb κ]
theorem lin_rows (g : κ → Rat) (kvs : List (κ × Rat)) : lin g (rowsT kvs) = lin g kvs := by
  unfold rowsT lin
  rw [sumR_perm (srt_perm _)]
  induction kvs with
  | nil => rfl
  | cons p r ih =>
    rw [List.filter_cons, sumR_cons, ← ih]
    cases e : fz p with
    | true => rw [if_pos rfl, sumR_cons]
    | false =>
      rw [if_neg Bool.false_ne_true]
      have : p.2 = 0 := by unfold fz at e; simpa using e
      rw [this]; grind
theorem at0_lin {kvs : List (κ × Rat)} (h : ND kvs) (q : κ) : at0 kvs q = lin (fun k => if k = q then 1 else 0) kvs := by rw [← lin_con, con_nd h]
theorem lin_tot (g : κ → Rat) (K : List (κ × Rat)) : lin g (rowsT (addAll [] K)) = lin g K := by
  have nd0 : ND ([] : List (κ × Rat)) := List.nodup_nil
  rw [lin_rows, lin_addAll g K nd0]
  show 0 + _ = _
  grind
theorem at0_tot (K : List (κ × Rat)) (q : κ) : at0 (rowsT (addAll [] K)) q = con K q := by
  have nd0 : ND ([] : List (κ × Rat)) := List.nodup_nil
  rw [at0_rows (nd_addAll _ _ nd0), at0_addAll]
  show 0 + _ = _
  grind
theorem tot_one {K M : List (κ × Rat)} (h : ∀ q, con K q = con M q) : rowsT (addAll [] K) = rowsT (addAll [] M) := by
  have nd0 : ND ([] : List (κ × Rat)) := List.nodup_nil
  exact rows_ext (nd_addAll _ _ nd0) (nd_addAll _ _ nd0) fun q => by rw [at0_addAll, at0_addAll, h]
end
end DL
set_option Elab.async false
set_option linter.all false
set_option maxRecDepth 100000
set_option maxHeartbeats 4000000
set_option autoImplicit false
/-! Moved on, at a count: plain. -/
namespace DL
open PySem L2
open Emb
/-! ### moved on by one -/
/-! ### at a count -/
def tv (p : Nat) (b : Int) (n : Nat) : Int := if p ≤ n then ((bin n p : Nat) : Int) * b ^ (n - p) else 0
theorem tv_zero (b : Int) (n : Nat) : tv 0 b (n + 1) = b * tv 0 b n := by
  unfold tv
  rw [if_pos (Nat.zero_le _), if_pos (Nat.zero_le _), bin_zero, bin_zero, Nat.sub_zero, Nat.sub_zero, Int.pow_succ]
  grind
theorem tv_succ (p : Nat) (b : Int) (n : Nat) : tv (p + 1) b (n + 1) = b * tv (p + 1) b n + tv p b n := by
  unfold tv
  by_cases h : p ≤ n
  · rw [if_pos (by omega), if_pos h]
    have e : bin (n + 1) (p + 1) = bin n p + bin n (p + 1) := rfl
    rw [show n + 1 - (p + 1) = n - p by omega, e]
    by_cases h2 : p + 1 ≤ n
    · rw [if_pos h2, show n - p = n - (p + 1) + 1 by omega, Int.pow_succ]
      push_cast
      grind
    · rw [if_neg h2, bin_gt (show n < p + 1 by omega)]
      push_cast
      grind
  · rw [if_neg (by omega), if_neg (by omega), if_neg h]
    simp
def tK (k : Kind) (n : Nat) : Int := tv k.p.toNat k.b n
def atL (rows : List (Kind × Rat)) (n : Nat) : List (Mono × Rat) := rows.map fun p => (p.1.m, p.2 * ((tK p.1 n : Int) : Rat))
def atT (rows : List (Kind × Rat)) (n : Nat) : List (Mono × Rat) := rowsT (addAll [] (atL rows n))
def atG (m : Mono) (n : Nat) (k : Kind) : Rat := if k.m = m then ((tK k n : Int) : Rat) else 0
theorem con_at (rows : List (Kind × Rat)) (n : Nat) (m : Mono) : con (atL rows n) m = lin (atG m n) rows := by
  unfold con atL lin atG
  rw [sumR_map]
  refine sumR_congr fun p _ => ?_
  dsimp only
  split <;> grind
/-! ### products moved on -/
end DL
set_option Elab.async false
set_option linter.all false
set_option maxRecDepth 100000
set_option maxHeartbeats 4000000
set_option autoImplicit false
/-! Products of forms, a common number below. -/
namespace DL
open PySem L2
open Emb
local macro_rules | `(tactic| walk_at "1") => `(tactic| with_reducible first
  | refine s_seq ?_ | refine s_asg ?_ | refine s_ret ?_ | refine s_if ?_ | refine s_expr ?_ | refine s_next ?_ | refine s_brk ?_ | refine s_cont ?_ | refine s_for ?_ | refine s_while ?_
  | refine p_c ?_ | refine p_bin ?_ | refine p_as ?_ | refine p_cons ?_ | refine p_nil ?_ | refine p_un ?_ | refine p_call ?_ | refine p_if ?_ | refine p_own ?_
  | refine p_keep ?_ | refine p_tru ?_ | refine p_and ?_ | refine p_or ?_ | refine p_not ?_ | refine p_val ?_ | refine p_rand ?_ | refine p_ror ?_ | refine p_rnot ?_ | refine p_chain ?_ | refine p_bif ?_
  | refine o_add ?_ | refine o_sub ?_ | refine o_ltU ?_ | refine o_leU ?_ | refine o_gtU ?_ | refine o_geU ?_ | refine o_neg ?_ | refine o_eqI ?_ | refine o_neI ?_ | refine o_abs ?_ | refine o_tru ?_ | refine p_true ?_ | refine p_false ?_
  | refine o_lenT ?_ | refine o_lenL ?_ | refine o_ix0 ?_ | refine o_ix1 ?_ | refine o_ix2 ?_ | refine o_ix0L ?_ | refine o_ix1L ?_ | refine o_ix2L ?_
  | refine s_par ?_ | refine p_yes ?_ | refine p_seq ?_ | refine s_gnil ?_ | refine s_gcons ?_ | refine s_gtux ?_ | refine s_gtupl ?_ | refine p_onone ?_ | refine p_osome ?_ | refine p_get2 ?_ | refine s_putU ?_ | refine p_sortIt ?_)
local macro_rules | `(tactic| walk_at "2") => `(tactic| first
  | walk_at "1"
  | (with_reducible refine p_var2 ?_)
  | ((with_reducible refine s_name ?_ ?_); (· exact Nat.le_of_ble_eq_true rfl); dsimp only [List.set_cons_zero, List.set_cons_succ])
  | (with_reducible refine p_tup ?_) | (with_reducible refine p_lst ?_) | ((with_reducible refine ⟨?_, ?_⟩); (· exact Nat.le_of_ble_eq_true rfl))
  | ((with_reducible refine p_ex2 (x := ?_) (y := ?_) ?_ ?_); rotate_left; rotate_left; (· rfl); refine ⟨?_, ?_, ?_⟩; (· exact Nat.le_of_ble_eq_true rfl); (· exact Nat.le_of_ble_eq_true rfl); dsimp only [List.set_cons_zero, List.set_cons_succ])
  | ((with_reducible refine p_isT ?_ ?_); (· rfl)) | ((with_reducible refine p_isF ?_ ?_); (· rfl))
  | ((with_reducible refine p_ex (x := ?_) ?_ ?_); rotate_left; (· rfl)))
local macro_rules | `(tactic| walk_at "3") => `(tactic| repeat walk_at "2")
/-- rows of bounded kinds, fractions of a common number below -/
structure Rc (n pl A V L : Nat) (rows : List (Kind × Rat)) : Prop where
  m : ∀ p ∈ rows, MonO n p.1.m
  p0 : ∀ p ∈ rows, 0 ≤ p.1.p
  p1 : ∀ p ∈ rows, p.1.p ≤ pl
  b : ∀ p ∈ rows, p.1.b.natAbs ≤ A
  q : ∀ p ∈ rows, QC V L p.2
end DL
set_option Elab.async false
set_option linter.all false
set_option maxRecDepth 100000
set_option maxHeartbeats 4000000
set_option autoImplicit false
/-! At a count: the walks. -/
namespace DL
open PySem L2
open Emb
local macro_rules | `(tactic| walk_at "1") => `(tactic| with_reducible first
  | refine s_seq ?_ | refine s_asg ?_ | refine s_ret ?_ | refine s_if ?_ | refine s_expr ?_ | refine s_next ?_ | refine s_brk ?_ | refine s_cont ?_ | refine s_for ?_ | refine s_while ?_
  | refine p_c ?_ | refine p_bin ?_ | refine p_as ?_ | refine p_cons ?_ | refine p_nil ?_ | refine p_un ?_ | refine p_call ?_ | refine p_if ?_ | refine p_own ?_
  | refine p_keep ?_ | refine p_tru ?_ | refine p_and ?_ | refine p_or ?_ | refine p_not ?_ | refine p_val ?_ | refine p_rand ?_ | refine p_ror ?_ | refine p_rnot ?_ | refine p_chain ?_ | refine p_bif ?_
  | refine o_add ?_ | refine o_sub ?_ | refine o_ltU ?_ | refine o_leU ?_ | refine o_gtU ?_ | refine o_geU ?_ | refine o_neg ?_ | refine o_eqI ?_ | refine o_neI ?_ | refine o_abs ?_ | refine o_tru ?_ | refine p_true ?_ | refine p_false ?_
  | refine o_lenT ?_ | refine o_lenL ?_ | refine o_ix0 ?_ | refine o_ix1 ?_ | refine o_ix2 ?_ | refine o_ix0L ?_ | refine o_ix1L ?_ | refine o_ix2L ?_
  | refine s_par ?_ | refine p_yes ?_ | refine p_seq ?_ | refine s_gnil ?_ | refine s_gcons ?_ | refine s_gtux ?_ | refine s_gtupl ?_ | refine p_onone ?_ | refine p_osome ?_ | refine p_get2 ?_ | refine s_putU ?_ | refine p_sortIt ?_)
local macro_rules | `(tactic| walk_at "2") => `(tactic| first
  | walk_at "1"
  | (with_reducible refine p_var2 ?_)
  | ((with_reducible refine s_name ?_ ?_); (· exact Nat.le_of_ble_eq_true rfl); dsimp only [List.set_cons_zero, List.set_cons_succ])
  | (with_reducible refine p_tup ?_) | (with_reducible refine p_lst ?_) | ((with_reducible refine ⟨?_, ?_⟩); (· exact Nat.le_of_ble_eq_true rfl))
  | ((with_reducible refine p_ex2 (x := ?_) (y := ?_) ?_ ?_); rotate_left; rotate_left; (· rfl); refine ⟨?_, ?_, ?_⟩; (· exact Nat.le_of_ble_eq_true rfl); (· exact Nat.le_of_ble_eq_true rfl); dsimp only [List.set_cons_zero, List.set_cons_succ])
  | ((with_reducible refine p_isT ?_ ?_); (· rfl)) | ((with_reducible refine p_isF ?_ ?_); (· rfl))
  | ((with_reducible refine p_ex (x := ?_) ?_ ?_); rotate_left; (· rfl)))
local macro_rules | `(tactic| walk_at "3") => `(tactic| repeat walk_at "2")
theorem rng_cons {n t x : Nat} {xs : List Nat} (e : x :: xs = (List.range n).drop t) : x = t ∧ t < n ∧ xs = (List.range n).drop (t + 1) := by
  have ht : t < n := by
    have h := congrArg List.length e
    rw [List.length_cons, List.length_drop, List.length_range] at h
    omega
  rw [List.drop_eq_getElem_cons (by rw [List.length_range]; exact ht), List.getElem_range] at e
  injection e with e1 e2
  exact ⟨e1, ht, e2⟩
theorem rng_nil {n t : Nat} (e : [] = (List.range n).drop t) : n ≤ t := by
  have h := congrArg List.length e
  rw [List.length_nil, List.length_drop, List.length_range] at h
  omega
theorem rat_mulI (z : Rat) (n : Int) : ((z.num * n : Int) : Rat) / ((z.den : Int) : Rat) = z * (n : Rat) := by
  have h1 := rat_nd z
  have hx : ((z.den : Nat) : Rat) ≠ 0 := by have := z.den_nz; simp; omega
  have e1 : ((z.num * n : Int) : Rat) = (z.num : Rat) * (n : Rat) := by push_cast; rfl
  have e2 : (((z.den : Nat) : Int) : Rat) = ((z.den : Nat) : Rat) := by push_cast; rfl
  rw [e1, e2]
  generalize (z.num : Rat) = a at *
  generalize ((z.den : Nat) : Rat) = d at *
  subst h1
  grind
theorem tv_bound {p n A : Nat} {b : Int} (hb : b.natAbs ≤ A) (hA : 1 ≤ A) : (tv p b n).natAbs ≤ (2 * A) ^ n := by
  unfold tv
  split
  · rename_i h
    rw [Int.natAbs_mul, Int.natAbs_pow, Nat.mul_pow]
    refine Nat.mul_le_mul (bin_le n p) ?_
    exact Nat.le_trans (Nat.pow_le_pow_left hb _) (Nat.pow_le_pow_right hA (by omega))
  · exact Nat.zero_le _
theorem term_at_spec (p n : Nat) (b : Int) (hp : p ≤ 200) (hn : n ≤ 200) {A : Nat} (hb : b.natAbs ≤ A) (hA : A ≤ 2 ^ 100) (S : Sto) (hS : Sane S) : m_term_at [.int p, .int b, .int n] S = .ok (.int (tv p b n)) S := by
  refine m_defS hS rfl ?_
  show (b_term_at [some (.int p), some (.int b), some (.int n)] S).post _ _ _ _
  unfold b_term_at
  walk_at "3"
  refine ⟨fun h => ?_, fun h => ?_⟩
  · have h : (p : Int) ≤ n := of_decide_eq_true h
    have hpn : p ≤ n := by omega
    walk_at "3"
    refine Res.post.of_eq (choose_spec n p hn (by omega) S hS) ?_
    walk_at "3"
    rw [show (n : Int) - (p : Int) = ((n - p : Nat) : Int) by omega]
    obtain ⟨r1, r2⟩ := pow_lt4 (e := n - p) hb hA (by omega)
    refine Res.post.of_eq (raised_spec b (n - p) r1 r2 (by omega) S hS) ?_
    have c1 : ((bin n p : Nat) : Int).natAbs < 2 ^ 201 := Nat.lt_of_le_of_lt (Nat.le_trans (bin_le n p) (Nat.pow_le_pow_right (by decide) hn)) (by decide)
    refine o_mul (fits_of (a := 201) (b := 400000) c1 (by rw [Int.natAbs_pow]; exact r1) (by decide)) ?_
    refine ⟨?_, rfl⟩
    unfold tv
    rw [if_pos hpn]
  · have h : ¬ (p : Int) ≤ n := of_decide_eq_false h
    walk_at "3"
    refine ⟨?_, rfl⟩
    unfold tv
    rw [if_neg (by omega)]
theorem lpower_spec (b : Int) (k : Nat) (hk : k ≤ 2000) {A : Nat} (hb : b.natAbs ≤ A) (hA : A ≤ 2 ^ 100) (S : Sto) (hS : Sane S) : m__law_power [.int b, .int k] S = .ok (.int (b ^ k)) S := by
  refine m_defS hS rfl ?_
  show (b__law_power [some (.int b), some (.int k), none, none] S).post _ _ _ _
  unfold b__law_power
  walk_at "3"
  with_reducible refine p_range1 ?_
  walk_at "3"
  refine ⟨by omega, by omega, ?_⟩
  rw [rangeD_nat]
  refine s_forT (fun i : Nat => D.int (i : Int)) (fun xs δ S1 => S1 = S ∧ ∃ (i : Nat) (z : Option D), xs = (List.range k).drop i ∧ i ≤ k ∧ δ = [some (.int b), some (.int k), some (.int (b ^ i)), z]) ?_ ?_ _ _ _ ⟨rfl, 0, none, rfl, Nat.zero_le _, by rw [Int.pow_zero]⟩
  · rintro x xs δ S1 ⟨rfl, i, z, e, hi, rfl⟩
    have hx := rng_cons e
    clear e
    have ex := hx.1
    have hik := hx.2.1
    have e := hx.2.2
    clear hx
    subst ex
    walk_at "3"
    obtain ⟨r1, r2⟩ := pow_lt4 (e := x) hb hA (by omega)
    refine o_mul (fits_of (a := 400000) (b := 400000) (by rw [Int.natAbs_pow]; exact r1) r2 (by decide)) ?_
    walk_at "3"
    exact ⟨rfl, x + 1, some (.int (x : Int)), e, by omega, by rw [Int.pow_succ]⟩
  · rintro δ S1 ⟨rfl, i, z, e, hi, rfl⟩
    have : i = k := by have := rng_nil e; omega
    subst this
    walk_at "3"
    exact ⟨rfl, rfl⟩
/-! ### the walks -/
theorem ten_two {B : Nat} (h : B ≤ 10 ^ 1000) : B ≤ 2 ^ 4000 := Nat.le_trans h (Nat.le_trans (Nat.pow_le_pow_left (show 10 ≤ 2 ^ 4 by decide) 1000) (by rw [← Nat.pow_mul]; exact Nat.le_refl _))
theorem toNat_cast {x : Int} (h : 0 ≤ x) : x = ((x.toNat : Nat) : Int) := by omega
theorem at_qc {n pl A V L : Nat} {rows : List (Kind × Rat)} (h : Rc n pl A V L rows) (hA : 1 ≤ A) (c : Nat) : ∀ p ∈ atL rows c, MonO n p.1 ∧ QC (V * (2 * A) ^ c) L p.2 := fun q hq => by
  obtain ⟨p, hp, rfl⟩ := List.mem_map.mp hq
  exact ⟨h.m p hp, qc_int (h.q p hp) (tv_bound (h.b p hp) hA)⟩
structure AtG (n V L T : Nat) (rows : List (Mono × Rat)) : Prop where
  m : ∀ p ∈ rows, MonO n p.1
  len : rows.length ≤ T
  rb : 1 ≤ V → 1 ≤ L → 1 ≤ T → ∀ p ∈ rows, RB' (V * T * L) p.2
theorem at_ok {n pl A V L T : Nat} {rows : List (Kind × Rat)} (h : Rc n pl A V L rows) (hA : 1 ≤ A) (c : Nat) (hT : rows.length ≤ T) : AtG n (V * (2 * A) ^ c) L T (atT rows c) := by
  have fin := onc_end (onc_start (T := T) (by unfold atL; rw [List.length_map]; exact hT) fun x hx => (at_qc h hA c x hx).2)
  obtain ⟨t, t1, t2, t3⟩ := fin.ex
  have t1 : t ≤ T := by simpa using t1
  refine ⟨fun p hp => ?_, Nat.le_trans (rows_len _) (by omega), fun hV hL hT p hp => qc_rb (Nat.mul_pos hV hT) hL (onc_qc fin p (rows_nz p hp).1)⟩
  exact rows_all (P := fun m : Mono => MonO n m) (acc := []) (fun _ z => (nomatch z)) (fun x hx => (at_qc h hA c x hx).1) p (rows_nz p hp).1
section
variable {n pl A V L T c : Nat} {rows : List (Kind × Rat)}
theorem at_count_spec (h : Rc n pl A V L rows) (hA : 1 ≤ A) (hA2 : A ≤ 2 ^ 100) (hpl : pl ≤ 100) (hc : c ≤ 200) (hV : 1 ≤ V) (hL : 1 ≤ L) (hT : rows.length ≤ T) (hT0 : 1 ≤ T) (hT1 : T ≤ 1000) (hB : V * (2 * A) ^ c * T * L ≤ 10 ^ 1000) (S : Sto) (hS : Sane S) :
    m_at_count [toD rows, .int c] S = .ok (toD (atT rows c)) S := by
  have sl : 3000 ≤ sizeLine := by decide
  have hW : 1 ≤ V * (2 * A) ^ c := Nat.mul_pos hV (Nat.pow_pos (by omega))
  have hB2 := ten_two hB
  have hok := at_ok h hA c hT
  refine m_defJ hS (cl _ _) ?_
  show (b_at_count [some (toD rows), some (.int c), none, none, none, none, none] S).post _ _ _ _
  unfold b_at_count
  walk_at "3"
  refine .inr (.inl ⟨rows.map toD, rfl, ?_⟩)
  refine s_forT toD (fun xs δ S2 => ∃ (acc : List (Mono × Rat)) (u : D) (o3 o4 o5 o6 : Option D), S2 = S ++ [u] ∧ IsDic u acc ∧ (∀ p ∈ xs, p ∈ rows) ∧ OnC (V * (2 * A) ^ c) L T (addAll [] (atL rows c)) acc (atL xs c) ∧ δ = [some (toD rows), some (.int c), some (.ptr S.length), o3, o4, o5, o6]) ?_ ?_ _ _ _ ⟨[], _, _, _, _, _, rfl, isDic_nil, (fun _ z => z), onc_start (by unfold atL; rw [List.length_map]; exact hT) fun x hx => (at_qc h hA c x hx).2, rfl⟩
  · rintro x xs δ S2 ⟨acc, u, o3, o4, o5, o6, rfl, hu, hin, oc, rfl⟩
    have hx := hin x List.mem_cons_self
    have hSa : Sane (S ++ [u]) := sane_app hS (isDic_closed hu _)
    show (gTup _ (.tup [.tup [toD x.1.m, .int x.1.p, .int x.1.b], toD x.2]) _ _).post _
    walk_at "3"
    have px := h.p1 x hx
    have ex := toNat_cast (h.p0 x hx)
    have tb := tv_bound (p := x.1.p.toNat) (n := c) (h.b x hx) hA
    have hr : (x.1.p.toNat : Nat) ≤ 200 := by omega
    refine Res.post.of_eq (show m_term_at [.int x.1.p, .int x.1.b, .int c] (S ++ [u]) = .ok (.int (tK x.1 c)) (S ++ [u]) from by
      rw [ex]; exact term_at_spec x.1.p.toNat c x.1.b hr hc (h.b x hx) hA2 _ hSa) ?_
    walk_at "3"
    refine Res.post.of_eq (fraction_spec (tK x.1 c) 1 (by decide) (Nat.lt_of_lt_of_le (show (1 : Int).natAbs < 2 ^ 1 by decide) (Nat.pow_le_pow_right (by decide) (by decide))) _ hSa) ?_
    rw [rat_one]
    walk_at "3"
    have b1 : V * L ≤ V * (2 * A) ^ c * T * L := Nat.mul_le_mul_right _ (Nat.le_trans (Nat.le_mul_of_pos_right _ (Nat.pow_pos (by omega))) (Nat.le_mul_of_pos_right _ hT0))
    have b2 : (2 * A) ^ c ≤ V * (2 * A) ^ c * T * L := Nat.le_trans (Nat.le_trans (Nat.le_mul_of_pos_left _ hV) (Nat.le_mul_of_pos_right _ hT0)) (Nat.le_mul_of_pos_right _ hL)
    refine Res.post.of_eq (times_spec x.2 ((tK x.1 c : Int) : Rat) (B := V * (2 * A) ^ c * T * L) (rb_mono (qc_rb hV hL (h.q x hx)) b1) ⟨Nat.le_trans tb b2, Nat.le_trans (Nat.pow_pos (by omega)) b2⟩ hB2 _ hSa) ?_
    walk_at "3"
    obtain ⟨u', e', hu', oc'⟩ := add_one (added_adds (κ := Mono)) hS hu (show OnC (V * (2 * A) ^ c) L T (addAll [] (atL rows c)) acc ((x.1.m, x.2 * ((tK x.1 c : Int) : Rat)) :: atL xs c) from oc) hW hL hT0 (by omega) hB2
    refine Res.post.of_eq e' ?_
    exact ⟨_, u', _, _, _, _, rfl, hu', fun p hp => hin p (List.mem_cons_of_mem _ hp), oc', rfl⟩
  · rintro δ S2 ⟨acc, u, o3, o4, o5, o6, rfl, hu, hin, oc, rfl⟩
    have e : acc = addAll [] (atL rows c) := oc.eq
    subst e
    walk_at "3"
    obtain ⟨t, t1, t2, _⟩ := oc.ex
    have t1 : t + 0 ≤ T := t1
    refine Res.post.of_eq (pairs_of_spec (sane_app hS (isDic_closed hu _)) hu get_app (by omega) ⟨Nat.le_trans hok.len hT1, fun p hp => rb_mono (hok.rb hW hL hT0 p hp) hB⟩) ⟨rfl, take_app⟩
end
end DL
set_option Elab.async false
set_option linter.all false
set_option maxRecDepth 100000
set_option maxHeartbeats 4000000
set_option autoImplicit false
/-! What forms are worth: sums and products of forms, plain. -/
namespace DL
open PySem L2
open Emb
/-! ### with boxes -/
/-! ### what a form is worth tells its rows -/
/-! ### products of three -/
end DL
set_option Elab.async false
set_option linter.all false
set_option maxRecDepth 100000
set_option maxHeartbeats 4000000
set_option autoImplicit false
/-! k33: what one_form makes: plain. -/
namespace DL
open PySem L2
open Emb
theorem lin_sumTT {κ : Type} [Emb κ] [DecidableEq κ] (g : κ → Rat) {A B : List (κ × Rat)} (nA : ND A) : lin g (rowsT (sumT A B)) = lin g A + lin g B := by
  rw [lin_rows]
  show lin g (addAll (mergeT [] A) B) = _
  rw [merge_id nA, lin_addAll g B nA]
/-- what stands at a base that is not the solved one: share over share -/
def solQ (m : Mono) (b : Int) (d : Rat) : Rat → Nat → List (Kind × Rat)
  | s, 0 => [(Kind.mk m 0 b, s / d)]
  | s, P + 1 => (Kind.mk m ((P + 1 : Nat) : Int) b, s / d) :: solQ m b d (-1 * (s / d)) P
def solP (B : Int) (p : Kind × Rat) : List (Kind × Rat) := if p.1.b = B then [(Kind.mk p.1.m (p.1.p + 1) B, p.2)] else solQ p.1.m p.1.b ((p.1.b - B : Int) : Rat) p.2 p.1.p.toNat
def solL (B : Int) (rows : List (Kind × Rat)) : List (Kind × Rat) := rows.flatMap (solP B)
def solT (B : Int) (rows : List (Kind × Rat)) : List (Kind × Rat) := rowsT (addAll [] (solL B rows))
def lessT (rows : List (Mono × Rat)) : List (Mono × Rat) := rowsT (rows.map fun p => (p.1, (-1 : Rat) * p.2))
def restT (B : Int) (rows : List (Kind × Rat)) (P : List (Mono × Rat)) : List (Mono × Rat) := rowsT (sumT P (lessT (atT (solT B rows) 0)))
def kindT (B : Int) (rest : List (Mono × Rat)) : List (Kind × Rat) := rowsT (mergeT [] (rest.map fun p => (Kind.mk p.1 0 B, p.2)))
def onT (B : Int) (rows : List (Kind × Rat)) (P : List (Mono × Rat)) : List (Kind × Rat) := rowsT (sumT (solT B rows) (kindT B (restT B rows P)))
theorem atG_eq (m q : Mono) (p b : Int) (n : Nat) : atG q n (Kind.mk m p b) = if m = q then ((tv p.toNat b n : Int) : Rat) else 0 := rfl
theorem div_self' {d : Rat} (h : d ≠ 0) (s : Rat) : s / d * d = s := by grind
theorem atG_zero (m q : Mono) (b : Int) (n : Nat) : atG q (n + 1) (Kind.mk m 0 b) = (b : Rat) * atG q n (Kind.mk m 0 b) := by
  rw [atG_eq, atG_eq]
  split
  · rw [show (0 : Int).toNat = 0 from rfl, tv_zero]; push_cast; rfl
  · grind
theorem atG_succ (m q : Mono) (P : Nat) (b : Int) (n : Nat) : atG q (n + 1) (Kind.mk m ((P + 1 : Nat) : Int) b) = (b : Rat) * atG q n (Kind.mk m ((P + 1 : Nat) : Int) b) + atG q n (Kind.mk m (P : Int) b) := by
  rw [atG_eq, atG_eq, atG_eq]
  split
  · rw [show ((P + 1 : Nat) : Int).toNat = P + 1 by omega, show ((P : Nat) : Int).toNat = P by omega, tv_succ]; push_cast; rfl
  · grind
theorem solQ_step (m q : Mono) (b : Int) (n : Nat) {d : Rat} (hd : d ≠ 0) : ∀ (P : Nat) (s : Rat), lin (atG q (n + 1)) (solQ m b d s P) = ((b : Rat) - d) * lin (atG q n) (solQ m b d s P) + s * atG q n (Kind.mk m (P : Int) b)
  | 0, s => by
    show lin _ [_] = _ * lin _ [_] + _
    rw [lin_cons, lin_cons]
    show s / d * atG q (n + 1) (Kind.mk m 0 b) + 0 = ((b : Rat) - d) * (s / d * atG q n (Kind.mk m 0 b) + 0) + s * atG q n (Kind.mk m 0 b)
    rw [atG_zero]
    generalize atG q n (Kind.mk m 0 b) = x
    grind
  | P + 1, s => by
    show lin _ (_ :: _) = _ * lin _ (_ :: _) + _
    rw [lin_cons, lin_cons, solQ_step m q b n hd P (-1 * (s / d))]
    dsimp only
    rw [atG_succ]
    generalize lin (atG q n) (solQ m b d (-1 * (s / d)) P) = y
    generalize atG q n (Kind.mk m (P : Int) b) = x
    generalize atG q n (Kind.mk m ((P + 1 : Nat) : Int) b) = z
    grind
theorem cast_ne {a b : Int} (h : a ≠ b) : ((a - b : Int) : Rat) ≠ 0 := fun e => h (by
  have : (a - b : Int) = 0 := by exact_mod_cast e
  omega)
theorem solP_step (B : Int) (p : Kind × Rat) (hp : 0 ≤ p.1.p) (q : Mono) (n : Nat) : lin (atG q (n + 1)) (solP B p) = (B : Rat) * lin (atG q n) (solP B p) + p.2 * atG q n p.1 := by
  obtain ⟨⟨m, P, b⟩, s⟩ := p
  obtain ⟨P, rfl⟩ := Int.eq_ofNat_of_zero_le hp
  unfold solP
  dsimp only
  by_cases h : b = B
  · rw [if_pos h, lin_cons, lin_cons]
    subst h
    have e := atG_succ m q P b n
    rw [show ((P + 1 : Nat) : Int) = (P : Int) + 1 by omega] at e
    show s * atG q (n + 1) (Kind.mk m ((P : Int) + 1) b) + 0 = (b : Rat) * (s * atG q n (Kind.mk m ((P : Int) + 1) b) + 0) + s * atG q n (Kind.mk m (P : Int) b)
    rw [e]
    grind
  · rw [if_neg h, solQ_step m q b n (cast_ne h) _ s, show ((P : Int).toNat : Int) = (P : Int) by omega]
    congr 2
    push_cast
    grind
theorem solL_step (B : Int) (q : Mono) (n : Nat) {rows : List (Kind × Rat)} (h : ∀ p ∈ rows, 0 ≤ p.1.p) : lin (atG q (n + 1)) (solL B rows) = (B : Rat) * lin (atG q n) (solL B rows) + lin (atG q n) rows := by
  unfold solL
  rw [lin_flat, lin_flat, ← sumR_mul]
  show _ = _ + sumR rows fun p => p.2 * atG q n p.1
  rw [← sumR_add]
  exact sumR_congr fun p hp => solP_step B p (h p hp) q n
theorem at0_at (rows : List (Kind × Rat)) (n : Nat) (q : Mono) : at0 (atT rows n) q = lin (atG q n) rows := by
  unfold atT
  rw [at0_tot, con_at]
theorem nd_tot {κ : Type} [Emb κ] [DecidableEq κ] (K : List (κ × Rat)) : ND (rowsT (addAll [] K)) := inc_nd (nd_rows (nd_addAll _ _ List.nodup_nil))
theorem nd_at (rows : List (Kind × Rat)) (n : Nat) : ND (atT rows n) := nd_tot _
theorem nd_map_scaled {A : List (Mono × Rat)} (nA : ND A) (c : Rat) : ND (A.map fun p => (p.1, c * p.2)) := by
  unfold ND at *
  rw [List.map_map]
  exact nA
theorem at0_mscaled (c : Rat) (q : Mono) : ∀ (A : List (Mono × Rat)), at0 (A.map fun p => (p.1, c * p.2)) q = c * at0 A q
  | [] => by show (0 : Rat) = c * 0; grind
  | p :: r => by
    have ih := at0_mscaled c q r
    unfold at0 at ih ⊢
    rw [List.map_cons, getT_cons]
    obtain ⟨k, v⟩ := p
    rw [getT_cons]
    dsimp only
    split
    · rfl
    · exact ih
theorem nd_less {A : List (Mono × Rat)} (nA : ND A) : ND (lessT A) := inc_nd (nd_rows (nd_map_scaled nA _))
theorem at0_less {A : List (Mono × Rat)} (nA : ND A) (q : Mono) : at0 (lessT A) q = -1 * at0 A q := by
  unfold lessT
  rw [at0_rows (nd_map_scaled nA _), at0_mscaled]
theorem nd_rest {B : Int} {rows : List (Kind × Rat)} {P : List (Mono × Rat)} (nP : ND P) : ND (restT B rows P) := inc_nd (nd_rows (nd_sum nP))
theorem at0_rest {B : Int} {rows : List (Kind × Rat)} {P : List (Mono × Rat)} (nP : ND P) (q : Mono) : at0 (restT B rows P) q = at0 P q + -1 * lin (atG q 0) (solL B rows) := by
  unfold restT
  rw [at0_rows (nd_sum nP), at0_sum nP (nd_less (nd_at _ _)), at0_less (nd_at _ _), at0_at]
  unfold solT
  rw [lin_tot]
theorem nd_kind {B : Int} {rest : List (Mono × Rat)} (h : ND rest) : ND (rest.map fun p => (Kind.mk p.1 0 B, p.2)) := by
  unfold ND at *
  rw [List.map_map]
  have : ((fun x : Kind × Rat => x.1) ∘ fun p : Mono × Rat => (Kind.mk p.1 0 B, p.2)) = (fun m => Kind.mk m 0 B) ∘ fun p : Mono × Rat => p.1 := rfl
  rw [this, ← List.map_map]
  exact List.pairwise_map.mpr (List.Pairwise.imp (fun {a b} hne e => hne (by injection e)) h)
theorem tv0_pow (B : Int) (n : Nat) : tv 0 B n = B ^ n := by
  unfold tv
  rw [if_pos (Nat.zero_le _), bin_zero, Nat.sub_zero]
  simp
theorem lin_kind {B : Int} {rest : List (Mono × Rat)} (h : ND rest) (q : Mono) (n : Nat) : lin (atG q n) (kindT B rest) = at0 rest q * ((B ^ n : Int) : Rat) := by
  unfold kindT
  rw [lin_rows, merge_id (nd_kind h), at0_lin h]
  unfold lin
  rw [sumR_map, Rat.mul_comm, ← sumR_mul]
  refine sumR_congr fun p _ => ?_
  rw [atG_eq, show (0 : Int).toNat = 0 from rfl, tv0_pow]
  split <;> grind
theorem lin_on {B : Int} {rows : List (Kind × Rat)} {P : List (Mono × Rat)} (nP : ND P) (q : Mono) (n : Nat) : lin (atG q n) (onT B rows P) = lin (atG q n) (solL B rows) + (at0 P q + -1 * lin (atG q 0) (solL B rows)) * ((B ^ n : Int) : Rat) := by
  unfold onT
  rw [lin_sumTT _ (show ND (solT B rows) from nd_tot _), lin_kind (nd_rest nP), at0_rest nP]
  unfold solT
  rw [lin_tot]
theorem rows_tot_nz {κ : Type} [Emb κ] [DecidableEq κ] (K : List (κ × Rat)) : ∀ p ∈ rowsT K, p.2 ≠ 0 := fun p hp => (rows_nz p hp).2
/-- at count 0 the plain -/
theorem on_zero {B : Int} {rows : List (Kind × Rat)} {P : List (Mono × Rat)} (hP : Inc P) (zP : ∀ p ∈ P, p.2 ≠ 0) : atT (onT B rows P) 0 = P := by
  refine rows_one (nd_rows (nd_addAll _ _ List.nodup_nil)) hP (rows_tot_nz _) zP fun q => ?_
  have e := at0_at (onT B rows P) 0 q
  rw [e, lin_on (inc_nd hP)]
  simp
  grind
/-- what the law makes of it at the next count -/
def nextL (B : Int) (here ahead : List (Mono × Rat)) : List (Mono × Rat) := (here.map fun p => (p.1, p.2 * ((B : Int) : Rat))) ++ ahead
def nextT (B : Int) (here ahead : List (Mono × Rat)) : List (Mono × Rat) := rowsT (addAll [] (nextL B here ahead))
theorem con_appR {κ : Type} [DecidableEq κ] (a b : List (κ × Rat)) (q : κ) : con (a ++ b) q = con a q + con b q := sumR_app a b _
theorem con_scaleR (c : Rat) (q : Mono) (A : List (Mono × Rat)) : con (A.map fun p => (p.1, p.2 * c)) q = c * con A q := by
  unfold con
  rw [sumR_map, ← sumR_mul]
  refine sumR_congr fun p _ => ?_
  dsimp only
  split <;> grind
theorem on_step {B : Int} {rows : List (Kind × Rat)} {P : List (Mono × Rat)} (nP : ND P) (h : ∀ p ∈ rows, 0 ≤ p.1.p) (n : Nat) : atT (onT B rows P) (n + 1) = nextT B (atT (onT B rows P) n) (atT rows n) := by
  have nd0 : ND ([] : List (Mono × Rat)) := List.nodup_nil
  refine rows_ext (nd_addAll _ _ nd0) (nd_addAll _ _ nd0) fun q => ?_
  rw [← at0_rows (nd_addAll _ _ nd0), ← at0_rows (nd_addAll (nextL B (atT (onT B rows P) n) (atT rows n)) _ nd0)]
  have e := at0_at (onT B rows P) (n + 1) q
  unfold atT at e
  rw [e, at0_tot]
  unfold nextL
  rw [con_appR, con_scaleR, con_nd (nd_at _ _), con_nd (nd_at _ _), at0_at, at0_at, lin_on nP, lin_on nP, solL_step B q n h, Int.pow_succ]
  push_cast
  grind
end DL
set_option Elab.async false
set_option linter.all false
set_option maxRecDepth 100000
set_option maxHeartbeats 4000000
set_option autoImplicit false
/-! k30: the law's draws. -/
namespace DL
open PySem L2
open Emb
local macro_rules | `(tactic| walk_at "1") => `(tactic| with_reducible first
  | refine s_seq ?_ | refine s_asg ?_ | refine s_ret ?_ | refine s_if ?_ | refine s_expr ?_ | refine s_next ?_ | refine s_brk ?_ | refine s_cont ?_ | refine s_for ?_ | refine s_while ?_
  | refine p_c ?_ | refine p_bin ?_ | refine p_as ?_ | refine p_cons ?_ | refine p_nil ?_ | refine p_un ?_ | refine p_call ?_ | refine p_if ?_ | refine p_own ?_
  | refine p_keep ?_ | refine p_tru ?_ | refine p_and ?_ | refine p_or ?_ | refine p_not ?_ | refine p_val ?_ | refine p_rand ?_ | refine p_ror ?_ | refine p_rnot ?_ | refine p_chain ?_ | refine p_bif ?_
  | refine o_add ?_ | refine o_sub ?_ | refine o_ltU ?_ | refine o_leU ?_ | refine o_gtU ?_ | refine o_geU ?_ | refine o_neg ?_ | refine o_eqI ?_ | refine o_neI ?_ | refine o_abs ?_ | refine o_tru ?_ | refine p_true ?_ | refine p_false ?_
  | refine o_lenT ?_ | refine o_lenL ?_ | refine o_ix0 ?_ | refine o_ix1 ?_ | refine o_ix2 ?_ | refine o_ix0L ?_ | refine o_ix1L ?_ | refine o_ix2L ?_
  | refine s_par ?_ | refine p_yes ?_ | refine p_seq ?_ | refine s_gnil ?_ | refine s_gcons ?_ | refine s_gtux ?_ | refine s_gtupl ?_ | refine p_onone ?_ | refine p_osome ?_ | refine p_get2 ?_ | refine s_putU ?_ | refine p_sortIt ?_)
local macro_rules | `(tactic| walk_at "2") => `(tactic| first
  | walk_at "1"
  | (with_reducible refine p_var2 ?_)
  | ((with_reducible refine s_name ?_ ?_); (· exact Nat.le_of_ble_eq_true rfl); dsimp only [List.set_cons_zero, List.set_cons_succ])
  | (with_reducible refine p_tup ?_) | (with_reducible refine p_lst ?_) | ((with_reducible refine ⟨?_, ?_⟩); (· exact Nat.le_of_ble_eq_true rfl))
  | ((with_reducible refine p_ex2 (x := ?_) (y := ?_) ?_ ?_); rotate_left; rotate_left; (· rfl); refine ⟨?_, ?_, ?_⟩; (· exact Nat.le_of_ble_eq_true rfl); (· exact Nat.le_of_ble_eq_true rfl); dsimp only [List.set_cons_zero, List.set_cons_succ])
  | ((with_reducible refine p_isT ?_ ?_); (· rfl)) | ((with_reducible refine p_isF ?_ ?_); (· rfl))
  | ((with_reducible refine p_ex (x := ?_) ?_ ?_); rotate_left; (· rfl)))
local macro_rules | `(tactic| walk_at "3") => `(tactic| repeat walk_at "2")
theorem fmod_b (a : Int) {m : Int} (h : 0 < m) : 0 ≤ a.fmod m ∧ a.fmod m < m := by
  rw [Int.fmod_eq_emod_of_nonneg _ (by omega)]
  exact ⟨Int.emod_nonneg _ (by omega), Int.emod_lt_of_pos _ h⟩
theorem lmixed_spec (c k : Int) (hk : k.natAbs < 2 ^ 40) (S : Sto) (hS : Sane S) : (m__law_mixed [.int c, .int k] S).post fun d S' => (∃ i : Int, d = .int i ∧ 0 ≤ i ∧ i < 2 ^ 31) ∧ S' = S := by
  refine m_defQ hS (fun d ⟨c, e, _⟩ => by subst e; rfl) ?_
  show (b__law_mixed [some (.int c), some (.int k), none] S).post _ _ _ _
  unfold b__law_mixed
  walk_at "3"
  refine o_mod (by decide) ?_
  obtain ⟨a1, a2⟩ := fmod_b c (m := 1000000007) (by decide)
  walk_at "3"
  refine o_mul (fits_l (by decide)) ?_
  walk_at "3"
  refine o_mul (fits_r (by decide)) ?_
  walk_at "3"
  refine o_mod (by decide) ?_
  generalize hv : (Int.fmod _ 2147483647 : Int) = v
  have v0 : 0 ≤ v ∧ v < 2147483647 := by rw [← hv]; exact fmod_b _ (by decide)
  walk_at "3"
  refine o_mul (fits_l (by omega)) ?_
  walk_at "3"
  refine o_mod (by decide) ?_
  generalize hw : (Int.fmod _ 2147483629 : Int) = w
  have w0 : 0 ≤ w ∧ w < 2147483629 := by rw [← hw]; exact fmod_b _ (by decide)
  walk_at "3"
  refine o_div ⟨by decide, by decide⟩ ?_
  rw [Int.fdiv_eq_ediv_of_nonneg _ (by decide)]
  exact ⟨⟨_, rfl, by omega, by omega⟩, rfl⟩
/-- what is drawn by -/
def drw (r m : Int) : D := .dct [(.str "rest", .int r), (.str "mixed", .int m)]
def Dr (S : Sto) (j : Nat) : Prop := ∃ r m : Int, S[j]? = some (drw r m) ∧ 0 ≤ r
def Mv (j : Nat) (S S' : Sto) : Prop := ∃ r m : Int, 0 ≤ r ∧ S' = S.set j (drw r m)
theorem drw_closed (n : Nat) (r m : Int) : D.closed n (drw r m) = true := rfl
theorem Mv.sane {j : Nat} {S S' : Sto} (h : Mv j S S') (hS : Sane S) : Sane S' := by
  obtain ⟨r, m, _, rfl⟩ := h
  exact sane_set hS (drw_closed _ _ _)
theorem Mv.len {j : Nat} {S S' : Sto} (h : Mv j S S') : S'.length = S.length := by
  obtain ⟨r, m, _, rfl⟩ := h
  exact List.length_set
theorem Mv.dr {j : Nat} {S S' : Sto} (h : Mv j S S') (hd : Dr S j) : Dr S' j := by
  obtain ⟨r, m, hr, rfl⟩ := h
  obtain ⟨r0, m0, e, _⟩ := hd
  have hlt := (List.getElem?_eq_some_iff.mp e).1
  exact ⟨r, m, by rw [List.getElem?_set_self hlt], hr⟩
theorem Mv.trans {j : Nat} {S S1 S2 : Sto} (h : Mv j S S1) (g : Mv j S1 S2) : Mv j S S2 := by
  obtain ⟨r, m, _, rfl⟩ := h
  obtain ⟨r2, m2, hr2, rfl⟩ := g
  exact ⟨r2, m2, hr2, List.set_set _⟩
theorem Mv.refl {j : Nat} {S : Sto} (h : Dr S j) : Mv j S S := by
  obtain ⟨r, m, e, hr⟩ := h
  have q := unset (x := drw r m) e
  rw [List.set_set] at q
  exact ⟨r, m, hr, q.symm⟩
theorem Mv.at {j k : Nat} {S S' : Sto} (h : Mv j S S') (hk : k ≠ j) : S'[k]? = S[k]? := by
  obtain ⟨r, m, _, rfl⟩ := h
  exact List.getElem?_set_ne (by omega)
theorem m_defM {n j : Nat} {b : RS} {ds : List D} {S : Sto} {P : D → Prop} (hS : Sane S) (hP : ∀ z, P z → D.closed S.length z = true) (h : (b (ds.map some ++ List.replicate (n - ds.length) none) S).post NoS (fun z S1 => P z ∧ Mv j S S1) NoS NoS) : (mDef n b ds S).post fun z S' => P z ∧ Mv j S S' :=
  m_def (h.mono (fun _ _ z => z.elim) (fun z S1 ⟨hp, hm⟩ => by
    have e : S1.take S.length = S1 := List.take_of_length_le (by rw [hm.len]; exact Nat.le_refl _)
    rw [e]
    refine ⟨?_, hp, hm⟩
    rw [hP z hp]
    have := hm.sane hS
    unfold Sane at this
    rw [hm.len] at this
    rw [this]; rfl) (fun _ _ z => z.elim) (fun _ _ z => z.elim))
def Num (lo hi : Int) (z : D) : Prop := ∃ i : Int, z = .int i ∧ lo ≤ i ∧ i < hi
theorem num_closed {lo hi : Int} {n : Nat} {z : D} (h : Num lo hi z) : D.closed n z = true := by obtain ⟨i, rfl, _⟩ := h; rfl
theorem o_rest {S : Sto} {j : Nat} {r m : Int} {Q : D → Sto → Prop} (hj : S[j]? = some (drw r m)) (h : Q (.int r) S) : (Res.lift (gGetU S (.ptr j) (.str "rest")) S).post Q := o_getU hj rfl rfl h
theorem o_mixed {S : Sto} {j : Nat} {r m : Int} {Q : D → Sto → Prop} (hj : S[j]? = some (drw r m)) (h : Q (.int m) S) : (Res.lift (gGetU S (.ptr j) (.str "mixed")) S).post Q := o_getU hj rfl rfl h
theorem lnext_spec {j : Nat} {b : Int} (hb : 0 < b) (hb2 : b < 2 ^ 40) (S : Sto) (hS : Sane S) (hj : Dr S j) : (m__law_next [.ptr j, .int b] S).post fun z S' => Num 0 b z ∧ Mv j S S' := by
  refine m_defM hS (fun z => num_closed) ?_
  show (b__law_next [some (.ptr j), some (.int b), none] S).post _ _ _ _
  unfold b__law_next
  obtain ⟨r, m, hj, hr⟩ := hj
  have hlt := (List.getElem?_eq_some_iff.mp hj).1
  have bl : b.natAbs.log2 < 9000 := (Nat.log2_lt (by omega)).mpr (Nat.lt_of_lt_of_le (show b.natAbs < 2 ^ 40 by omega) (Nat.pow_le_pow_right (by decide) (by decide)))
  walk_at "3"
  refine o_rest hj ?_
  walk_at "3"
  refine ⟨fun k => ?_, fun k => ?_⟩
  · have k : 0 < r := of_decide_eq_true k
    walk_at "3"
    refine o_rest hj ?_
    walk_at "3"
    refine o_mod (by omega) ?_
    walk_at "3"
    refine o_rest hj ?_
    walk_at "3"
    refine o_div ⟨by omega, bl⟩ ?_
    walk_at "3"
    refine ⟨j, _, drw (r.fdiv b) m, rfl, hj, rfl, ?_⟩
    walk_at "3"
    obtain ⟨h1, h2⟩ := fmod_b r hb
    exact ⟨⟨_, rfl, h1, h2⟩, r.fdiv b, m, by rw [Int.fdiv_eq_ediv_of_nonneg _ (by omega)]; exact Int.ediv_nonneg hr (by omega), rfl⟩
  · walk_at "3"
    refine o_mixed hj ?_
    walk_at "3"
    refine (lmixed_spec _ b (by omega) S hS).mono ?_
    rintro d S1 ⟨⟨i, rfl, i0, i1⟩, rfl⟩
    walk_at "3"
    refine (lmixed_spec _ 5 (by decide) _ hS).mono ?_
    rintro d S1 ⟨⟨i2, rfl, i20, i21⟩, rfl⟩
    walk_at "3"
    refine ⟨j, _, drw r i2, rfl, hj, rfl, ?_⟩
    have hj2 : (S1.set j (drw r i2))[j]? = some (drw r i2) := by rw [List.getElem?_set_self hlt]
    walk_at "3"
    refine o_mixed hj2 ?_
    walk_at "3"
    refine o_mod (by omega) ?_
    obtain ⟨h1, h2⟩ := fmod_b i2 hb
    exact ⟨⟨_, rfl, h1, h2⟩, r, i2, hr, rfl⟩
theorem laround_spec {j : Nat} {b : Int} (hb : 0 < b) (hb2 : b ≤ 10 ^ 30) (S : Sto) (hS : Sane S) (hj : Dr S j) : (m__law_around [.ptr j, .int b] S).post fun z S' => Num (-b) (b + 1) z ∧ Mv j S S' := by
  refine m_defM hS (fun z => num_closed) ?_
  show (b__law_around [some (.ptr j), some (.int b), none, none] S).post _ _ _ _
  unfold b__law_around
  walk_at "3"
  refine ⟨fun k => ?_, fun k => ?_⟩
  · have k : b < 500000 := of_decide_eq_true k
    walk_at "3"
    refine o_mul (fits_l (by decide)) ?_
    walk_at "3"
    refine (lnext_spec (by omega) (by omega) S hS hj).mono ?_
    rintro z S1 ⟨⟨i, rfl, i0, i1⟩, mv⟩
    walk_at "3"
    exact ⟨⟨_, rfl, by omega, by omega⟩, mv⟩
  · walk_at "3"
    refine s_whileL (fun n δ S2 => ∃ (k : Nat) (f : Int), n + k = 20 ∧ k ≤ 6 ∧ 0 ≤ f ∧ f < 10 ^ (6 * k) ∧ Mv j S S2 ∧ δ = [some (.ptr j), some (.int b), some (.int f), some (.int (10 ^ (6 * k)))]) ?_ 20 _ _ _ ⟨0, 0, rfl, by decide, by decide, by decide, Mv.refl hj, rfl⟩ (by show 20 < 100; decide)
    rintro n δ S2 ⟨k, f, hn, hk, f0, f1, mv, rfl⟩
    walk_at "3"
    refine o_mul (fits_l (by decide)) ?_
    walk_at "3"
    refine ⟨fun q => ?_, fun q => ?_⟩
    · have q : (10 : Int) ^ (6 * k) < 2 * b + 1 := of_decide_eq_true q
      have k5 : k ≤ 5 := by
        refine Classical.byContradiction fun h => ?_
        have : k = 6 := by omega
        subst this
        omega
      refine ⟨n - 1, by omega, ?_⟩
      have e6 : (10 : Int) ^ (6 * (k + 1)) = 10 ^ (6 * k) * 1000000 := by rw [show 6 * (k + 1) = 6 * k + 6 by omega, Int.pow_add]; rfl
      walk_at "3"
      refine o_mul (fits_r (by decide)) ?_
      walk_at "3"
      refine (lnext_spec (by decide) (by decide) S2 (mv.sane hS) (mv.dr hj)).mono ?_
      rintro z S3 ⟨⟨i, rfl, i0, i1⟩, mv2⟩
      walk_at "3"
      refine o_mul (fits_r (by decide)) ?_
      walk_at "3"
      rw [← e6]
      exact ⟨k + 1, f * 1000000 + i, by omega, by omega, by omega, by omega, mv.trans mv2, rfl⟩
    · walk_at "3"
      refine o_mul (fits_l (by decide)) ?_
      walk_at "3"
      refine o_mod (by omega) ?_
      walk_at "3"
      obtain ⟨h1, h2⟩ := fmod_b f (m := 2 * b + 1) (by omega)
      exact ⟨⟨_, rfl, by omega, by omega⟩, mv⟩
end DL
set_option Elab.async false
set_option linter.all false
set_option maxRecDepth 100000
set_option maxHeartbeats 4000000
set_option autoImplicit false
/-! k32: how great all is. -/
namespace DL
open PySem L2
open Emb
theorem sub_lenK {α : Type} [DecidableEq α] : ∀ {a b : List α}, a.Nodup → (∀ x ∈ a, x ∈ b) → a.length ≤ b.length
  | [], _, _, _ => Nat.zero_le _
  | x :: a, b, hn, h => by
    rw [List.nodup_cons] at hn
    have hx := h x List.mem_cons_self
    have ih := sub_lenK (a := a) (b := b.erase x) hn.2 fun y hy => (List.mem_erase_of_ne (fun e => hn.1 (by rw [← e]; exact hy))).mpr (h y (List.mem_cons_of_mem _ hy))
    rw [List.length_erase_of_mem hx] at ih
    have := List.length_pos_of_mem hx
    rw [List.length_cons]
    omega
def M6 : List Mono := [[], [("b", 1)], [("ab", 1)], [("abc", 2)], [("ab", 1), ("b", 1)], [("x", 3)], [("b", 2)]]
def M7 : List Mono := M6 ++ [([("x", 1)] : Mono)]
theorem neg_qc {V L : Nat} {x : Rat} (hx : QC V L x) : QC V L (-1 * x) := by
  have := qc_int (n := -1) (W := 1) hx (by decide)
  rw [Nat.mul_one] at this
  rw [show (-1 : Rat) * x = x * ((-1 : Int) : Rat) by push_cast; grind]
  exact this
theorem solQ_len (m : Mono) (b : Int) (d : Rat) : ∀ (P : Nat) (s : Rat), (solQ m b d s P).length = P + 1
  | 0, s => rfl
  | P + 1, s => by show (solQ m b d _ P).length + 1 = _; rw [solQ_len]
def VV0 : Nat := 2 ^ 44
structure Pb (P : List (Mono × Rat)) : Prop where
  inc : Inc P
  nz : ∀ p ∈ P, p.2 ≠ 0
  m : ∀ p ∈ P, p.1 ∈ M7
  q : ∀ p ∈ P, QC VV0 42 p.2
theorem m7_ok : ∀ m ∈ M7, MonO 3 m := by
  intro m hm
  unfold M7 M6 at hm
  simp only [List.cons_append, List.nil_append, List.mem_cons, List.not_mem_nil, or_false] at hm
  rcases hm with rfl | rfl | rfl | rfl | rfl | rfl | rfl | rfl
  · exact ⟨List.Pairwise.nil, (fun _ h => nomatch h), by decide⟩
  · exact ⟨List.pairwise_singleton _ _, fun p hp => by rw [List.mem_singleton.mp hp]; exact ⟨by decide +kernel, by decide⟩, by decide⟩
  · exact ⟨List.pairwise_singleton _ _, fun p hp => by rw [List.mem_singleton.mp hp]; exact ⟨by decide +kernel, by decide⟩, by decide⟩
  · exact ⟨List.pairwise_singleton _ _, fun p hp => by rw [List.mem_singleton.mp hp]; exact ⟨by decide +kernel, by decide⟩, by decide⟩
  · refine ⟨?_, fun p hp => ?_, by decide⟩
    · refine List.Pairwise.cons (fun p hp => ?_) (List.pairwise_singleton _ _)
      rw [List.mem_singleton.mp hp]
      decide +kernel
    · simp only [List.mem_cons, List.not_mem_nil, or_false] at hp
      rcases hp with rfl | rfl
      · exact ⟨by decide +kernel, by decide⟩
      · exact ⟨by decide +kernel, by decide⟩
  · exact ⟨List.pairwise_singleton _ _, fun p hp => by rw [List.mem_singleton.mp hp]; exact ⟨by decide +kernel, by decide⟩, by decide⟩
  · exact ⟨List.pairwise_singleton _ _, fun p hp => by rw [List.mem_singleton.mp hp]; exact ⟨by decide +kernel, by decide⟩, by decide⟩
  · exact ⟨List.pairwise_singleton _ _, fun p hp => by rw [List.mem_singleton.mp hp]; exact ⟨by decide +kernel, by decide⟩, by decide⟩
theorem len_m7 {P : List (Mono × Rat)} (hn : ND P) (h : ∀ p ∈ P, p.1 ∈ M7) : P.length ≤ 8 := by
  have := sub_lenK (a := P.map (·.1)) (b := M7) (show (P.map (·.1)).Nodup from hn) fun k hk => by
    obtain ⟨p, hp, rfl⟩ := List.mem_map.mp hk
    exact h p hp
  rw [List.length_map] at this
  exact this
/-! ### shares of sums -/
section
variable {κ : Type} [Emb κ] [DecidableEq κ] {V W L : Nat}
theorem at0_qc {A : List (κ × Rat)} (h : ∀ p ∈ A, QC V L p.2) (q : κ) : QC V L (at0 A q) := by
  unfold at0
  cases e : getT A q with
  | none => exact qc_mono (qc_zero L) (Nat.zero_le _)
  | some w => exact h _ (getT_mem e)
theorem rows_val {A : List (κ × Rat)} (hn : ND A) {p : κ × Rat} (hp : p ∈ rowsT A) : p.2 = at0 A p.1 := by
  have e := mem_getT (inc_nd (nd_rows hn)) (k := p.1) (v := p.2) hp
  have e2 := at0_rows hn p.1
  unfold at0 at e2 ⊢
  rw [e] at e2
  exact e2
theorem sum_qc {A B : List (κ × Rat)} (nA : ND A) (nB : ND B) (hA : ∀ p ∈ A, QC V L p.2) (hB : ∀ p ∈ B, QC W L p.2) : ∀ p ∈ rowsT (sumT A B), QC (V + W) L p.2 := fun p hp => by
  rw [rows_val (nd_sum nA) hp, at0_sum nA nB]
  exact qc_add (at0_qc hA _) (at0_qc hB _)
theorem sum_keys {A B : List (κ × Rat)} {C : κ → Prop} (nA : ND A) (hA : ∀ p ∈ A, C p.1) (hB : ∀ p ∈ B, C p.1) : ∀ p ∈ rowsT (sumT A B), C p.1 := fun p hp => by
  have := (rows_nz p hp).1
  refine rows_all (P := C) (acc := mergeT [] A) (L := B) (by rw [merge_id nA]; exact hA) hB p ?_
  exact this
theorem tot_qc {T : Nat} {K : List (κ × Rat)} (hl : K.length ≤ T) (h : ∀ p ∈ K, QC V L p.2) : ∀ p ∈ rowsT (addAll [] K), QC (V * T) L p.2 := fun p hp => onc_qc (onc_end (onc_start hl h)) p (rows_nz p hp).1
theorem tot_keys {K : List (κ × Rat)} {C : κ → Prop} (h : ∀ p ∈ K, C p.1) : ∀ p ∈ rowsT (addAll [] K), C p.1 := fun p hp => rows_all (P := C) (acc := []) (fun _ z => nomatch z) h p (rows_nz p hp).1
theorem tot_inc (K : List (κ × Rat)) : Inc (rowsT (addAll [] K)) := nd_rows (nd_addAll _ _ List.nodup_nil)
end
theorem less_q {V L : Nat} {A : List (Mono × Rat)} (h : ∀ p ∈ A, QC V L p.2) : ∀ p ∈ lessT A, QC V L p.2 := fun p hp => by
  have := (rows_nz p hp).1
  obtain ⟨r, hr, rfl⟩ := List.mem_map.mp this
  exact neg_qc (h r hr)
theorem less_m {A : List (Mono × Rat)} (h : ∀ p ∈ A, p.1 ∈ M7) : ∀ p ∈ lessT A, p.1 ∈ M7 := fun p hp => by
  have := (rows_nz p hp).1
  obtain ⟨r, hr, rfl⟩ := List.mem_map.mp this
  exact h r hr
theorem nd_kindT {B : Int} {rest : List (Mono × Rat)} (nr : ND rest) : ND (kindT B rest) := by
  unfold kindT
  rw [merge_id (nd_kind nr)]
  exact inc_nd (nd_rows (nd_kind nr))
theorem at_m7 {rows : List (Kind × Rat)} {c : Nat} (h : ∀ p ∈ rows, p.1.m ∈ M7) : ∀ p ∈ atT rows c, p.1 ∈ M7 := tot_keys (C := fun m : Mono => m ∈ M7) fun p hp => by
  obtain ⟨r, hr, rfl⟩ := List.mem_map.mp hp
  exact h r hr
/-! ### a number that is put over -/
theorem inv_qc {d : Int} (h : d ≠ 0) : QC 1 d.natAbs (1 / (d : Rat)) := by
  have hd : (d : Rat) ≠ 0 := by simpa using h
  rcases Int.lt_or_gt_of_ne h with z | z
  · refine ⟨-1, ?_, by omega⟩
    have e : ((d.natAbs : Nat) : Int) = -d := by omega
    rw [e]
    push_cast
    grind
  · refine ⟨1, ?_, by omega⟩
    have e : ((d.natAbs : Nat) : Int) = d := by omega
    rw [e]
    push_cast
    rfl
theorem div_qc {V L : Nat} {x : Rat} {d : Int} (hL : 1 ≤ L) (h : d ≠ 0) (hx : QC V L x) : QC V (L * d.natAbs) (x / (d : Rat)) := by
  have := qc_mul hL (by omega : 1 ≤ d.natAbs) hx (inv_qc h)
  rw [Nat.mul_one] at this
  rw [show x / (d : Rat) = x * (1 / (d : Rat)) by grind]
  exact this
theorem solQ_ok {V L : Nat} (hL : 1 ≤ L) {m : Mono} {b d : Int} (h : d ≠ 0) : ∀ (P : Nat) (s : Rat), QC V L s → ∀ x ∈ solQ m b (d : Rat) s P, (x.1.m = m ∧ 0 ≤ x.1.p ∧ x.1.p ≤ P ∧ x.1.b = b) ∧ QC V (L * d.natAbs ^ (P + 1)) x.2
  | 0, s, hs, x, hx => by
    have : x = (Kind.mk m 0 b, s / (d : Rat)) := List.mem_singleton.mp hx
    subst this
    refine ⟨⟨rfl, Int.le_refl _, Int.le_refl _, rfl⟩, ?_⟩
    rw [Nat.zero_add, Nat.pow_one]
    exact div_qc hL h hs
  | P + 1, s, hs, x, hx => by
    have hd : 1 ≤ d.natAbs := by omega
    have h1 := div_qc hL h hs
    rcases List.mem_cons.mp hx with rfl | hx
    · refine ⟨⟨rfl, by show (0 : Int) ≤ ((P + 1 : Nat) : Int); omega, Int.le_refl _, rfl⟩, ?_⟩
      have := qc_scale (Nat.mul_pos hL hd) (Nat.pow_pos hd : 0 < d.natAbs ^ (P + 1)) h1
      rw [Nat.mul_assoc, ← Nat.pow_succ'] at this
      exact this
    · obtain ⟨⟨a1, a2, a3, a4⟩, a5⟩ := solQ_ok (Nat.mul_pos hL hd) h P _ (neg_qc h1) x hx
      refine ⟨⟨a1, a2, by omega, a4⟩, ?_⟩
      rw [Nat.mul_assoc, ← Nat.pow_succ'] at a5
      exact a5
/-! ### all denominators -/
def dfac (B : Int) (p : Kind × Rat) : Nat := if p.1.b = B then 1 else (p.1.b - B).natAbs ^ (p.1.p.toNat + 1)
def dprod (B : Int) : List (Kind × Rat) → Nat
  | [] => 1
  | p :: r => dfac B p * dprod B r
theorem dfac_pos (B : Int) (p : Kind × Rat) : 1 ≤ dfac B p := by
  unfold dfac
  split
  · exact Nat.le_refl _
  · exact Nat.pow_pos (by omega)
theorem dprod_pos (B : Int) : ∀ rows, 1 ≤ dprod B rows
  | [] => Nat.le_refl _
  | p :: r => Nat.mul_pos (dfac_pos B p) (dprod_pos B r)
theorem dprod_mem {B : Int} : ∀ {rows : List (Kind × Rat)} {p : Kind × Rat}, p ∈ rows → ∃ c, 1 ≤ c ∧ dprod B rows = dfac B p * c
  | q :: r, p, h => by
    rcases List.mem_cons.mp h with rfl | h
    · exact ⟨dprod B r, dprod_pos B r, rfl⟩
    · obtain ⟨c, h1, h2⟩ := dprod_mem (B := B) h
      exact ⟨dfac B q * c, Nat.mul_pos (dfac_pos B q) h1, by show dfac B q * dprod B r = _; rw [h2, Nat.mul_left_comm]⟩
theorem dprod_le {B : Int} {D : Nat} : ∀ {rows : List (Kind × Rat)}, (∀ p ∈ rows, dfac B p ≤ D) → dprod B rows ≤ D ^ rows.length
  | [], _ => Nat.le_refl _
  | p :: r, h => by
    rw [List.length_cons, Nat.pow_succ']
    exact Nat.mul_le_mul (h p List.mem_cons_self) (dprod_le fun q hq => h q (List.mem_cons_of_mem _ hq))
/-- what one_form is asked -/
structure Slv (B : Int) (rows : List (Kind × Rat)) : Prop where
  inc : Inc rows
  nz : ∀ p ∈ rows, p.2 ≠ 0
  m : ∀ p ∈ rows, p.1.m ∈ M7
  p0 : ∀ p ∈ rows, 0 ≤ p.1.p
  p1 : ∀ p ∈ rows, p.1.p ≤ 98
  b : ∀ p ∈ rows, p.1.b.natAbs ≤ 2 ^ 21
  hB : B.natAbs ≤ 2 ^ 21
  q : ∀ p ∈ rows, QC VV0 42 p.2
  fac : ∀ p ∈ rows, dfac B p ≤ 2 ^ 110
  len : rows.length ≤ 5
  sl : (solL B rows).length ≤ 200
def LB (B : Int) (rows : List (Kind × Rat)) : Nat := 42 * dprod B rows
/-- what the loop of one_form asks -/
structure SlvW (B : Int) (rows : List (Kind × Rat)) : Prop where
  p0 : ∀ p ∈ rows, 0 ≤ p.1.p
  p1 : ∀ p ∈ rows, p.1.p ≤ 99
  b : ∀ p ∈ rows, p.1.b.natAbs ≤ 2 ^ 21
  hB : B.natAbs ≤ 2 ^ 21
  ok : ∀ x ∈ solL B rows, QC VV0 (LB B rows) x.2
  lb : LB B rows ≤ 2 ^ 556
  sl : (solL B rows).length ≤ 200
theorem lb_pos (B : Int) (rows : List (Kind × Rat)) : 1 ≤ LB B rows := Nat.mul_pos (by decide) (dprod_pos B rows)
theorem v0_pos : 1 ≤ VV0 := Nat.pow_pos (by decide)
structure Kd (k : Kind) : Prop where
  m : k.m ∈ M7
  p0 : 0 ≤ k.p
  p1 : k.p ≤ 99
  b : k.b.natAbs ≤ 2 ^ 21
section
variable {B : Int} {rows : List (Kind × Rat)} {P : List (Mono × Rat)}
theorem Slv.lb (h : Slv B rows) : LB B rows ≤ 2 ^ 556 := by
  have h1 := dprod_le (B := B) h.fac
  have h2 : (2 ^ 110) ^ rows.length ≤ 2 ^ 550 := by
    have := Nat.pow_le_pow_right (n := 2 ^ 110) (Nat.pow_pos (by decide)) h.len
    rwa [← Nat.pow_mul 2 110 5] at this
  have h3 := Nat.mul_le_mul (show 42 ≤ 2 ^ 6 by decide) (Nat.le_trans h1 h2)
  rw [← Nat.pow_add] at h3
  exact h3
theorem Slv.ok (h : Slv B rows) : ∀ x ∈ solL B rows, Kd x.1 ∧ QC VV0 (LB B rows) x.2 := fun x hx => by
  obtain ⟨p, hp, hx⟩ := List.mem_flatMap.mp hx
  have hq := h.q p hp
  have p0 := h.p0 p hp
  have p1 := h.p1 p hp
  obtain ⟨c, c1, c2⟩ := dprod_mem (B := B) hp
  have el : LB B rows = 42 * dfac B p * c := by unfold LB; rw [c2, Nat.mul_assoc]
  rw [el]
  unfold solP at hx
  by_cases z : p.1.b = B
  · rw [if_pos z] at hx
    have : x = (Kind.mk p.1.m (p.1.p + 1) B, p.2) := List.mem_singleton.mp hx
    subst this
    refine ⟨⟨h.m p hp, by show (0 : Int) ≤ p.1.p + 1; omega, by show p.1.p + 1 ≤ 99; omega, h.hB⟩, ?_⟩
    exact qc_scale (Nat.mul_pos (by decide) (dfac_pos _ _)) c1 (qc_scale (by decide) (dfac_pos _ _) hq)
  · rw [if_neg z] at hx
    obtain ⟨⟨b1, b2, b3, b4⟩, b5⟩ := solQ_ok (by decide : 1 ≤ 42) (V := VV0) (m := p.1.m) (b := p.1.b) (d := p.1.b - B) (by omega) _ _ hq x hx
    have ef : dfac B p = (p.1.b - B).natAbs ^ (p.1.p.toNat + 1) := if_neg z
    rw [← ef] at b5
    exact ⟨⟨by rw [b1]; exact h.m p hp, b2, by omega, by rw [b4]; exact h.b p hp⟩, qc_scale (Nat.mul_pos (by decide) (dfac_pos _ _)) c1 b5⟩
theorem Slv.w (h : Slv B rows) : SlvW B rows := ⟨h.p0, fun p hp => by have := h.p1 p hp; omega, h.b, h.hB, fun x hx => (h.ok x hx).2, h.lb, h.sl⟩
theorem tot_len (K : List (Kind × Rat)) : (rowsT (addAll [] K)).length ≤ K.length := by
  have h1 : (rowsT (addAll [] K)).length ≤ (addAll [] K).length := rows_len _
  have key : ∀ (K acc : List (Kind × Rat)), (addAll acc K).length ≤ acc.length + K.length := fun K => by
    induction K with
    | nil => intro acc; exact Nat.le_refl _
    | cons p r ih =>
      intro acc
      have h2 := ih (addT acc p.1 p.2)
      have h3 : (addT acc p.1 p.2).length ≤ acc.length + 1 := put_len _ _ _
      show (addAll (addT acc p.1 p.2) r).length ≤ _
      rw [List.length_cons]
      omega
  have := key K []
  rw [List.length_nil] at this
  omega
theorem Slv.sk (h : Slv B rows) : ∀ p ∈ solT B rows, Kd p.1 := tot_keys fun p hp => (h.ok p hp).1
theorem Slv.sq (h : Slv B rows) : ∀ p ∈ solT B rows, QC (VV0 * 200) (LB B rows) p.2 := tot_qc h.sl fun p hp => (h.ok p hp).2
theorem Slv.tl (h : Slv B rows) : (solT B rows).length ≤ 200 := Nat.le_trans (tot_len _) h.sl
theorem rc_kd {V L : Nat} {rows : List (Kind × Rat)} (hk : ∀ p ∈ rows, Kd p.1) (hq : ∀ p ∈ rows, QC V L p.2) : Rc 3 99 (2 ^ 21) V L rows :=
  ⟨fun p hp => m7_ok _ (hk p hp).m, fun p hp => (hk p hp).p0, fun p hp => (hk p hp).p1, fun p hp => (hk p hp).b, hq⟩
theorem at_q {V L : Nat} {rows : List (Kind × Rat)} {c T : Nat} (hk : ∀ p ∈ rows, Kd p.1) (hq : ∀ p ∈ rows, QC V L p.2) (hT : rows.length ≤ T) : ∀ p ∈ atT rows c, QC (V * (2 ^ 22) ^ c * T) L p.2 := by
  refine tot_qc (by unfold atL; rw [List.length_map]; exact hT) fun p hp => ?_
  have := (at_qc (rc_kd hk hq) (Nat.pow_pos (by decide)) c p hp).2
  rw [← Nat.pow_succ'] at this
  exact this
theorem p_scaled (hP : Pb P) : ∀ p ∈ P, QC VV0 (LB B rows) p.2 := fun p hp => qc_scale (by decide) (dprod_pos _ _) (hP.q p hp)
theorem Slv.a0 (h : Slv B rows) : ∀ p ∈ atT (solT B rows) 0, QC (VV0 * 200 * 200) (LB B rows) p.2 := by
  have a := at_q (c := 0) h.sk h.sq h.tl
  rw [Nat.pow_zero, Nat.mul_one] at a
  exact a
theorem Slv.rq (h : Slv B rows) (hP : Pb P) : ∀ p ∈ restT B rows P, QC (VV0 + VV0 * 200 * 200) (LB B rows) p.2 := sum_qc (inc_nd hP.inc) (nd_less (nd_at _ _)) (p_scaled hP) (less_q h.a0)
theorem Slv.rm (h : Slv B rows) (hP : Pb P) : ∀ p ∈ restT B rows P, p.1 ∈ M7 :=
  sum_keys (C := fun m : Mono => m ∈ M7) (inc_nd hP.inc) hP.m (less_m (at_m7 fun p hp => (h.sk p hp).m))
theorem kind_ok {V L : Nat} {rest : List (Mono × Rat)} (nr : ND rest) (hm : ∀ p ∈ rest, p.1 ∈ M7) (hq : ∀ p ∈ rest, QC V L p.2) (hB : B.natAbs ≤ 2 ^ 21) : ∀ p ∈ kindT B rest, Kd p.1 ∧ QC V L p.2 := fun p hp => by
  have := (rows_nz p hp).1
  rw [merge_id (nd_kind nr)] at this
  obtain ⟨r, hr, rfl⟩ := List.mem_map.mp this
  exact ⟨⟨hm r hr, Int.le_refl _, by show (0 : Int) ≤ 99; decide, hB⟩, hq r hr⟩
def VO : Nat := VV0 * 2 ^ 17
theorem vo_pos : 1 ≤ VO := Nat.mul_pos v0_pos (Nat.pow_pos (by decide))
theorem v_step : VV0 * 200 + (VV0 + VV0 * 200 * 200) ≤ VO := by decide
/-- what comes of it -/
structure Onn (B : Int) (rows : List (Kind × Rat)) (P : List (Mono × Rat)) : Prop where
  inc : Inc (onT B rows P)
  nz : ∀ p ∈ onT B rows P, p.2 ≠ 0
  k : ∀ p ∈ onT B rows P, Kd p.1
  q : ∀ p ∈ onT B rows P, QC VO (LB B rows) p.2
  len : (onT B rows P).length ≤ 208
theorem kindT_len {rest : List (Mono × Rat)} (nr : ND rest) : (kindT B rest).length ≤ rest.length := by
  unfold kindT
  rw [merge_id (nd_kind nr)]
  refine Nat.le_trans (rows_len _) ?_
  rw [List.length_map]
  exact Nat.le_refl _
theorem sumT_len (a b : List (Kind × Rat)) (ha : ND a) : (rowsT (sumT a b)).length ≤ a.length + b.length := by
  refine Nat.le_trans (rows_len _) ?_
  show (addAll (mergeT [] a) b).length ≤ _
  rw [merge_id ha]
  have key : ∀ (K acc : List (Kind × Rat)), (addAll acc K).length ≤ acc.length + K.length := fun K => by
    induction K with
    | nil => intro acc; exact Nat.le_refl _
    | cons p r ih =>
      intro acc
      have h2 := ih (addT acc p.1 p.2)
      have h3 : (addT acc p.1 p.2).length ≤ acc.length + 1 := put_len _ _ _
      show (addAll (addT acc p.1 p.2) r).length ≤ _
      rw [List.length_cons]
      omega
  exact key b a
theorem Slv.onn (h : Slv B rows) (hP : Pb P) : Onn B rows P where
  inc := nd_rows (nd_sum (nd_tot _))
  nz := rows_tot_nz _
  k := sum_keys (nd_tot _) h.sk fun p hp => (kind_ok (nd_rest (inc_nd hP.inc)) (h.rm hP) (h.rq hP) h.hB p hp).1
  q := fun p hp => qc_mono (sum_qc (nd_tot _) (nd_kindT (nd_rest (inc_nd hP.inc))) h.sq (fun p hp => (kind_ok (nd_rest (inc_nd hP.inc)) (h.rm hP) (h.rq hP) h.hB p hp).2) p hp) v_step
  len := by
    have nr : ND (restT B rows P) := nd_rest (inc_nd hP.inc)
    have h1 := sumT_len (solT B rows) (kindT B (restT B rows P)) (nd_tot _)
    have h2 := kindT_len (B := B) nr
    have h3 := len_m7 nr (h.rm hP)
    have h4 := h.tl
    show (rowsT (sumT (solT B rows) (kindT B (restT B rows P)))).length ≤ 208
    omega
end
end DL
set_option Elab.async false
set_option linter.all false
set_option maxRecDepth 100000
set_option maxHeartbeats 4000000
set_option autoImplicit false
/-! k33: the law's own sums, worths. -/
namespace DL
open PySem L2
open Emb
local macro_rules | `(tactic| walk_at "1") => `(tactic| with_reducible first
  | refine s_seq ?_ | refine s_asg ?_ | refine s_ret ?_ | refine s_if ?_ | refine s_expr ?_ | refine s_next ?_ | refine s_brk ?_ | refine s_cont ?_ | refine s_for ?_ | refine s_while ?_
  | refine p_c ?_ | refine p_bin ?_ | refine p_as ?_ | refine p_cons ?_ | refine p_nil ?_ | refine p_un ?_ | refine p_call ?_ | refine p_if ?_ | refine p_own ?_
  | refine p_keep ?_ | refine p_tru ?_ | refine p_and ?_ | refine p_or ?_ | refine p_not ?_ | refine p_val ?_ | refine p_rand ?_ | refine p_ror ?_ | refine p_rnot ?_ | refine p_chain ?_ | refine p_bif ?_
  | refine o_add ?_ | refine o_sub ?_ | refine o_ltU ?_ | refine o_leU ?_ | refine o_gtU ?_ | refine o_geU ?_ | refine o_neg ?_ | refine o_eqI ?_ | refine o_neI ?_ | refine o_abs ?_ | refine o_tru ?_ | refine p_true ?_ | refine p_false ?_
  | refine o_lenT ?_ | refine o_lenL ?_ | refine o_ix0 ?_ | refine o_ix1 ?_ | refine o_ix2 ?_ | refine o_ix0L ?_ | refine o_ix1L ?_ | refine o_ix2L ?_
  | refine s_par ?_ | refine p_yes ?_ | refine p_seq ?_ | refine s_gnil ?_ | refine s_gcons ?_ | refine s_gtux ?_ | refine s_gtupl ?_ | refine p_onone ?_ | refine p_osome ?_ | refine p_get2 ?_ | refine s_putU ?_ | refine p_sortIt ?_)
local macro_rules | `(tactic| walk_at "2") => `(tactic| first
  | walk_at "1"
  | (with_reducible refine p_var2 ?_)
  | ((with_reducible refine s_name ?_ ?_); (· exact Nat.le_of_ble_eq_true rfl); dsimp only [List.set_cons_zero, List.set_cons_succ])
  | (with_reducible refine p_tup ?_) | (with_reducible refine p_lst ?_) | ((with_reducible refine ⟨?_, ?_⟩); (· exact Nat.le_of_ble_eq_true rfl))
  | ((with_reducible refine p_ex2 (x := ?_) (y := ?_) ?_ ?_); rotate_left; rotate_left; (· rfl); refine ⟨?_, ?_, ?_⟩; (· exact Nat.le_of_ble_eq_true rfl); (· exact Nat.le_of_ble_eq_true rfl); dsimp only [List.set_cons_zero, List.set_cons_succ])
  | ((with_reducible refine p_isT ?_ ?_); (· rfl)) | ((with_reducible refine p_isF ?_ ?_); (· rfl))
  | ((with_reducible refine p_ex (x := ?_) ?_ ?_); rotate_left; (· rfl)))
local macro_rules | `(tactic| walk_at "3") => `(tactic| repeat walk_at "2")
theorem lowest_spec (a b : Int) (hb : 0 < b) (hl : b.natAbs < 2 ^ 8990) (S : Sto) (hS : Sane S) : m__law_lowest [.int a, .int b] S = .ok (toD ((a : Rat) / (b : Rat))) S := by
  obtain ⟨k, rfl⟩ : ∃ k : Nat, b = k := ⟨b.toNat, by omega⟩
  have hg : 0 < Int.gcd a k := Int.gcd_pos_of_ne_zero_right _ (by omega)
  have hgk : Int.gcd a k ≤ k := Nat.gcd_le_right (n := k) a.natAbs (by omega)
  have lg : ((Int.gcd a k : Nat) : Int).natAbs.log2 < 9000 := log_of (b := 8990) (by have : (k : Int).natAbs = k := rfl; omega) (by decide)
  have e := rat_of (a := a) (b := k) hb
  rw [toD_rat, e.1, e.2]
  refine m_defS hS rfl ?_
  show (b__law_lowest [some (.int a), some (.int k), none, none] S).post _ _ _ _
  unfold b__law_lowest
  walk_at "3"
  refine s_whileL (fun n δ S1 => S1 = S ∧ ∃ x y : Nat, y ≤ n ∧ Nat.gcd x y = Int.gcd a k ∧ δ = [some (.int a), some (.int k), some (.int x), some (.int y)]) ?_ k _ _ _ ⟨rfl, a.natAbs, k, Nat.le_refl _, rfl, rfl⟩ (by show k < ((k : Int).natAbs : Int).natAbs + 1; omega)
  rintro n δ S1 ⟨rfl, x, y, hn, hgc, rfl⟩
  walk_at "3"
  constructor
  · intro h
    have h : (0 : Int) < y := of_decide_eq_true h
    have hy : 0 < y := by omega
    obtain ⟨m, rfl⟩ : ∃ m, n = m + 1 := ⟨n - 1, by omega⟩
    refine ⟨m, rfl, ?_⟩
    walk_at "3"
    refine o_mod (by omega) ?_
    walk_at "3"
    have e : Int.fmod x y = ((x % y : Nat) : Int) := by rw [Int.fmod_eq_emod_of_nonneg _ (by omega)]; rfl
    have l : x % y < y := Nat.mod_lt _ hy
    refine ⟨rfl, y, x % y, by omega, ?_, by rw [e]⟩
    rw [← hgc, Nat.gcd_comm y, ← Nat.gcd_rec, Nat.gcd_comm]
  · intro h
    have h : ¬ (0 : Int) < y := of_decide_eq_false h
    have hy : y = 0 := by omega
    subst hy
    have ex : x = Int.gcd a k := by rw [← hgc, Nat.gcd_zero_right]
    rw [ex]
    walk_at "3"
    refine o_div ⟨by omega, lg⟩ ?_
    walk_at "3"
    refine o_div ⟨by omega, lg⟩ ?_
    walk_at "3"
    exact ⟨rfl, rfl⟩
theorem lplus_spec (x y : Rat) {B : Nat} (hx : RB' B x) (hy : RB' B y) (hB : B ≤ 2 ^ 4000) (S : Sto) (hS : Sane S) : m__law_plus [toD x, toD y] S = .ok (toD (x + y)) S := by
  refine m_defS hS (cl _ _) ?_
  show (b__law_plus [some (.tup [.int x.num, .int x.den]), some (.tup [.int y.num, .int y.den])] S).post _ _ _ _
  unfold b__law_plus
  have f : ∀ {a b : Int}, a.natAbs ≤ B → b.natAbs ≤ B → mulFits a b = true := fun h1 h2 => fits_of (a := 4001) (b := 4001) (by omega) (by omega) (by decide)
  have dx : ((x.den : Int)).natAbs ≤ B := hx.2
  have dy : ((y.den : Int)).natAbs ≤ B := hy.2
  walk_at "3"
  refine o_mul (f hx.1 dy) ?_
  walk_at "3"
  refine o_mul (f hy.1 dx) ?_
  walk_at "3"
  refine o_mul (f dx dy) ?_
  walk_at "3"
  refine Res.post.of_eq (lowest_spec _ _ (Int.mul_pos (den_pos' x) (den_pos' y)) ?_ S hS) ⟨by rw [rat_add], rfl⟩
  rw [Int.natAbs_mul]
  have := Nat.mul_le_mul (Nat.le_trans dx hB) (Nat.le_trans dy hB)
  exact Nat.lt_of_le_of_lt this (by rw [← Nat.pow_add]; exact Nat.pow_lt_pow_right (by decide) (by decide))
theorem ltimesI_spec (x : Rat) (n : Int) {B : Nat} (hx : RB' B x) (hn : n.natAbs ≤ B) (hB : B ≤ 2 ^ 4000) (S : Sto) (hS : Sane S) : m__law_times [toD x, .tup [.int n, .int 1]] S = .ok (toD (x * (n : Rat))) S := by
  refine m_defS hS (cl _ _) ?_
  show (b__law_times [some (.tup [.int x.num, .int x.den]), some (.tup [.int n, .int 1])] S).post _ _ _ _
  unfold b__law_times
  have f : ∀ {a b : Int}, a.natAbs ≤ B → b.natAbs ≤ B → mulFits a b = true := fun h1 h2 => fits_of (a := 4001) (b := 4001) (by omega) (by omega) (by decide)
  have dx : ((x.den : Int)).natAbs ≤ B := hx.2
  walk_at "3"
  refine o_mul (f hx.1 hn) ?_
  walk_at "3"
  refine o_mul (fits_r (by decide)) ?_
  walk_at "3"
  rw [Int.mul_one]
  refine Res.post.of_eq (lowest_spec _ _ (den_pos' x) (Nat.lt_of_le_of_lt (Nat.le_trans dx hB) (Nat.pow_lt_pow_right (by decide) (by decide))) S hS) ⟨by rw [rat_mulI], rfl⟩
/-! ### pairs put together by the law -/
section
variable {κ : Type} [Emb κ] [DecidableEq κ] [KeyE κ] [Sok (κ × Rat)]
theorem together_spec {V L T : Nat} {K : List (κ × Rat)} (hl : K.length ≤ T) (hq : ∀ p ∈ K, QC V L p.2) (hV : 1 ≤ V) (hL : 1 ≤ L) (hT : 1 ≤ T) (hT2 : T ≤ 100000) (hB : V * T * L ≤ 2 ^ 4000) (S : Sto) (hS : Sane S) :
    m__law_together [.lst (K.map toD)] S = .ok (toD (rowsT (addAll [] K))) S := by
  have sl : 200000 ≤ sizeLine := by decide
  have hVT : 1 ≤ V * T := Nat.mul_pos hV hT
  refine m_defJ hS (cl _ _) ?_
  show (b__law_together [some (.lst (K.map toD)), none, none, none] S).post _ _ _ _
  unfold b__law_together
  walk_at "3"
  refine .inl ⟨K.map toD, rfl, ?_⟩
  refine s_forT toD (fun xs δ S2 => ∃ (acc : List (κ × Rat)) (u : D) (o2 o3 : Option D), S2 = S ++ [u] ∧ IsDic u acc ∧ OnC V L T (addAll [] K) acc xs ∧ δ = [some (.lst (K.map toD)), some (.ptr S.length), o2, o3]) ?_ ?_ _ _ _ ⟨[], _, _, _, rfl, isDic_nil, onc_start hl hq, rfl⟩
  · rintro x xs δ S2 ⟨acc, u, o2, o3, rfl, hu, oc, rfl⟩
    have hSa : Sane (S ++ [u]) := sane_app hS (isDic_closed hu _)
    obtain ⟨t, t1, t2, t3⟩ := oc.ex
    rw [List.length_cons] at t1
    show (gTup _ (.tup [toD x.1, toD x.2]) _ _).post _
    walk_at "3"
    refine ⟨dic_isDct hu get_app, ?_⟩
    walk_at "3"
    refine ⟨_, dic_lookU hu get_app x.1, ?_⟩
    have ev : ((getT acc x.1).map toD).getD (.tup [.int 0, .int 1]) = toD ((getT acc x.1).getD 0) := by cases getT acc x.1 <;> rfl
    rw [ev]
    walk_at "3"
    have hx2 : RB' (V * T * L) x.2 := rb_mono (qc_rb hV hL (oc.rest _ List.mem_cons_self)) (Nat.mul_le_mul_right _ (Nat.le_mul_of_pos_right _ hT))
    refine Res.post.of_eq (lplus_spec _ x.2 (B := V * T * L) ?_ hx2 hB _ hSa) ?_
    · cases e : getT acc x.1 with
      | none => exact ⟨Nat.zero_le _, by have := hx2.2; have := x.2.den_pos; show 1 ≤ V * T * L; omega⟩
      | some w => exact qc_rb hVT hL (onc_qc oc _ (getT_mem e))
    walk_at "3"
    obtain ⟨u', e', hu'⟩ := dic_putU hu (by omega) x.1 ((getT acc x.1).getD 0 + x.2)
    refine ⟨S.length, u, u', rfl, get_app, e', ?_⟩
    rw [set_app]
    exact ⟨_, u', _, _, rfl, hu', onc_step oc, rfl⟩
  · rintro δ S2 ⟨acc, u, o2, o3, rfl, hu, oc, rfl⟩
    have e : acc = addAll [] K := oc.eq
    subst e
    walk_at "3"
    obtain ⟨t, t1, t2, _⟩ := oc.ex
    have t1 : t + 0 ≤ T := t1
    refine Res.post.of_eq (lpairs_spec (sane_app hS (isDic_closed hu _)) hu get_app (by omega)) ⟨rfl, take_app⟩
end
theorem fac_part : ∀ {k p : Nat}, k ≤ p → ∃ R, fac k * R = fac p
  | k, 0, h => ⟨1, by have : k = 0 := by omega
                      subst this; rfl⟩
  | k, p + 1, h => by
    by_cases e : k = p + 1
    · exact ⟨1, by rw [e, Nat.mul_one]⟩
    · obtain ⟨R, hR⟩ := fac_part (k := k) (p := p) (by omega)
      refine ⟨(p + 1) * R, ?_⟩
      show _ = (p + 1) * fac p
      rw [← hR, Nat.mul_left_comm]
theorem lterm_spec (p n : Nat) (b : Int) (hp : p ≤ 200) (hn : n ≤ 200) {A : Nat} (hb : b.natAbs ≤ A) (hA : A ≤ 2 ^ 100) (S : Sto) (hS : Sane S) : m__law_term [.int p, .int b, .int n] S = .ok (.int (tv p b n)) S := by
  refine m_defS hS rfl ?_
  show (b__law_term [some (.int p), some (.int b), some (.int n), none, none] S).post _ _ _ _
  unfold b__law_term
  walk_at "3"
  refine ⟨fun h => ?_, fun h => ?_⟩
  · have h : (n : Int) < p := of_decide_eq_true h
    walk_at "3"
    refine ⟨?_, rfl⟩
    unfold tv
    rw [if_neg (by omega)]
  · have h : ¬ (n : Int) < p := of_decide_eq_false h
    have hpn : p ≤ n := by omega
    walk_at "3"
    rw [show (n : Int) - (p : Int) = ((n - p : Nat) : Int) by omega]
    have hpw := lpower_spec b (n - p) (by omega) hb hA S hS
    with_reducible refine Res.post.of_eq hpw ?_
    generalize hw : b ^ (n - p) = w
    walk_at "3"
    with_reducible refine p_range1 ?_
    walk_at "3"
    refine ⟨by omega, by omega, ?_⟩
    rw [rangeD_nat]
    refine s_forT (fun i : Nat => D.int (i : Int)) (fun xs δ S1 => S1 = S ∧ ∃ (i : Nat) (z : Option D), xs = (List.range p).drop i ∧ i ≤ p ∧ δ = [some (.int p), some (.int b), some (.int n), some (.int (w * ((bin n i * fac i : Nat) : Int))), z]) ?_ ?_ _ _ _ ⟨rfl, 0, none, rfl, Nat.zero_le _, by rw [bin_zero]; show _ = [_, _, _, some (D.int (w * ((1 * 1 : Nat) : Int))), _]; rw [show ((1 * 1 : Nat) : Int) = 1 from rfl, Int.mul_one]⟩
    · rintro x xs δ S1 ⟨rfl, i, z, e, hi, rfl⟩
      have hx := rng_cons e
      clear e
      have ex := hx.1
      have hik := hx.2.1
      have e := hx.2.2
      clear hx
      subst ex
      walk_at "3"
      refine o_mul (fits_r (by omega)) ?_
      walk_at "3"
      refine ⟨rfl, x + 1, some (.int x), e, by omega, ?_⟩
      have st := bin_step (n := n) (k := x) (by omega)
      have e : w * ((bin n x * fac x : Nat) : Int) * ((n : Int) - (x : Int)) = w * ((bin n (x + 1) * fac (x + 1) : Nat) : Int) := by
        have hh : bin n x * fac x * (n - x) = bin n (x + 1) * fac (x + 1) := by
          show bin n x * fac x * (n - x) = bin n (x + 1) * ((x + 1) * fac x)
          rw [← Nat.mul_assoc, st, Nat.mul_right_comm]
        rw [Int.mul_assoc, show ((n : Int) - x) = ((n - x : Nat) : Int) by omega, ← Int.natCast_mul, hh]
      rw [e]
    · rintro δ S1 ⟨rfl, i, z, e, hi, rfl⟩
      have : i = p := by have := rng_nil e; omega
      subst this
      walk_at "3"
      with_reducible refine p_range1 ?_
      walk_at "3"
      refine ⟨by omega, by omega, ?_⟩
      rw [rangeD_nat]
      refine s_forT (fun i : Nat => D.int (i : Int)) (fun xs δ S2 => S2 = S1 ∧ ∃ (k R : Nat) (z : Option D), xs = (List.range i).drop k ∧ k ≤ i ∧ fac k * R = fac i ∧ δ = [some (.int i), some (.int b), some (.int n), some (.int (w * ((bin n i * R : Nat) : Int))), z]) ?_ ?_ _ _ _ ⟨rfl, 0, fac i, _, rfl, Nat.zero_le _, by show 1 * fac i = _; omega, rfl⟩
      · rintro x xs δ S2 ⟨rfl, k, R, z, e, hk, hR, rfl⟩
        have hx := rng_cons e
        clear e
        have ex := hx.1
        have hik := hx.2.1
        have e := hx.2.2
        clear hx
        subst ex
        obtain ⟨R', hR'⟩ := fac_part (k := x + 1) (p := i) (by omega)
        have hRR : R = R' * (x + 1) := by
          have h1 : fac x * R = fac x * (R' * (x + 1)) := by
            rw [hR, ← hR']
            show (x + 1) * fac x * R' = _
            rw [Nat.mul_comm (x + 1), Nat.mul_assoc, Nat.mul_comm (x + 1)]
          exact Nat.eq_of_mul_eq_mul_left (fac_pos x) h1
        walk_at "3"
        refine o_div ⟨by omega, log_of (b := 9) (by omega) (by decide)⟩ ?_
        walk_at "3"
        refine ⟨rfl, x + 1, R', some (.int x), e, by omega, hR', ?_⟩
        have e : (w * ((bin n i * R : Nat) : Int)).fdiv ((x : Int) + 1) = w * ((bin n i * R' : Nat) : Int) := by
          have e1 : w * ((bin n i * R : Nat) : Int) = w * ((bin n i * R' : Nat) : Int) * ((x : Int) + 1) := by
            rw [hRR, ← Nat.mul_assoc, Int.natCast_mul (bin n i * R'), Int.mul_assoc]
            rfl
          rw [e1]
          exact Int.mul_fdiv_cancel _ (by omega)
        rw [e]
      · rintro δ S2 ⟨rfl, k, R, z, e, hk, hR, rfl⟩
        have : k = i := by have := rng_nil e; omega
        subst this
        have hR1 : R = 1 := by
          have := fac_pos k
          exact Nat.eq_of_mul_eq_mul_left this (by rw [hR, Nat.mul_one])
        subst hR1
        walk_at "3"
        refine ⟨?_, rfl⟩
        unfold tv
        rw [if_pos hpn, Nat.mul_one, ← hw, Int.mul_comm]
/-! ### the worth of a form -/
theorem worth_spec {n pl A V L T c : Nat} {rows : List (Kind × Rat)} (h : Rc n pl A V L rows) (hA : 1 ≤ A) (hA2 : A ≤ 2 ^ 100) (hpl : pl ≤ 100) (hc : c ≤ 200) (hV : 1 ≤ V) (hL : 1 ≤ L) (hT : rows.length ≤ T) (hT0 : 1 ≤ T) (hT1 : T ≤ 1000) (hB : V * (2 * A) ^ c * T * L ≤ 2 ^ 4000) (S : Sto) (hS : Sane S) :
    m__law_worth [toD rows, .int c] S = .ok (toD (atT rows c)) S := by
  have sl : 3000 ≤ sizeLine := by decide
  have hW : 1 ≤ V * (2 * A) ^ c := Nat.mul_pos hV (Nat.pow_pos (by omega))
  refine m_defJ hS (cl _ _) ?_
  show (b__law_worth [some (toD rows), some (.int c), none, none] S).post _ _ _ _
  unfold b__law_worth
  walk_at "3"
  refine p_lcRows rows (fun p => (p.1.m, p.2 * ((tK p.1 c : Int) : Rat))) toD (exact_of (p_seq (p_var rfl (.inr (.inl ⟨_, rfl, rfl, rfl⟩))))) (Nat.le_of_ble_eq_true rfl) (Nat.le_of_ble_eq_true rfl) (by omega) (fun p hp => ?_) ?_
  · refine exact_of ?_
    dsimp only [in2, wipeD, List.set_cons_zero, List.set_cons_succ]
    rw [toD_kind]
    walk_at "3"
    have px := h.p1 p hp
    have ex := toNat_cast (h.p0 p hp)
    have tb := tv_bound (p := p.1.p.toNat) (n := c) (h.b p hp) hA
    refine Res.post.of_eq (show m__law_term [.int p.1.p, .int p.1.b, .int c] S = .ok (.int (tK p.1 c)) S from by
      rw [ex]; exact lterm_spec p.1.p.toNat c p.1.b (by omega) hc (h.b p hp) hA2 _ hS) ?_
    walk_at "3"
    have b1 : V * L ≤ V * (2 * A) ^ c * T * L := Nat.mul_le_mul_right _ (Nat.le_trans (Nat.le_mul_of_pos_right _ (Nat.pow_pos (by omega))) (Nat.le_mul_of_pos_right _ hT0))
    have b2 : (2 * A) ^ c ≤ V * (2 * A) ^ c * T * L := Nat.le_trans (Nat.le_trans (Nat.le_mul_of_pos_left _ hV) (Nat.le_mul_of_pos_right _ hT0)) (Nat.le_mul_of_pos_right _ hL)
    refine Res.post.of_eq (ltimesI_spec p.2 (tK p.1 c) (B := V * (2 * A) ^ c * T * L) (rb_mono (qc_rb hV hL (h.q p hp)) b1) (Nat.le_trans tb b2) hB _ hS) ?_
    walk_at "3"
    exact ⟨rfl, rfl⟩
  · walk_at "3"
    exact Res.post.of_eq (together_spec (K := atL rows c) (T := T) (by unfold atL; rw [List.length_map]; exact hT) (fun x hx => (at_qc h hA c x hx).2) hW hL hT0 (by omega) hB S hS) ⟨rfl, List.take_length⟩
end DL
set_option Elab.async false
set_option linter.all false
set_option maxRecDepth 100000
set_option maxHeartbeats 4000000
set_option autoImplicit false
/-! k32: one_form, walked. -/
namespace DL
open PySem L2
open Emb
local macro_rules | `(tactic| walk_at "1") => `(tactic| with_reducible first
  | refine s_seq ?_ | refine s_asg ?_ | refine s_ret ?_ | refine s_if ?_ | refine s_expr ?_ | refine s_next ?_ | refine s_brk ?_ | refine s_cont ?_ | refine s_for ?_ | refine s_while ?_
  | refine p_c ?_ | refine p_bin ?_ | refine p_as ?_ | refine p_cons ?_ | refine p_nil ?_ | refine p_un ?_ | refine p_call ?_ | refine p_if ?_ | refine p_own ?_
  | refine p_keep ?_ | refine p_tru ?_ | refine p_and ?_ | refine p_or ?_ | refine p_not ?_ | refine p_val ?_ | refine p_rand ?_ | refine p_ror ?_ | refine p_rnot ?_ | refine p_chain ?_ | refine p_bif ?_
  | refine o_add ?_ | refine o_sub ?_ | refine o_ltU ?_ | refine o_leU ?_ | refine o_gtU ?_ | refine o_geU ?_ | refine o_neg ?_ | refine o_eqI ?_ | refine o_neI ?_ | refine o_abs ?_ | refine o_tru ?_ | refine p_true ?_ | refine p_false ?_
  | refine o_lenT ?_ | refine o_lenL ?_ | refine o_ix0 ?_ | refine o_ix1 ?_ | refine o_ix2 ?_ | refine o_ix0L ?_ | refine o_ix1L ?_ | refine o_ix2L ?_
  | refine s_par ?_ | refine p_yes ?_ | refine p_seq ?_ | refine s_gnil ?_ | refine s_gcons ?_ | refine s_gtux ?_ | refine s_gtupl ?_ | refine p_onone ?_ | refine p_osome ?_ | refine p_get2 ?_ | refine s_putU ?_ | refine p_sortIt ?_)
local macro_rules | `(tactic| walk_at "2") => `(tactic| first
  | walk_at "1"
  | (with_reducible refine p_var2 ?_)
  | ((with_reducible refine s_name ?_ ?_); (· exact Nat.le_of_ble_eq_true rfl); dsimp only [List.set_cons_zero, List.set_cons_succ])
  | (with_reducible refine p_tup ?_) | (with_reducible refine p_lst ?_) | ((with_reducible refine ⟨?_, ?_⟩); (· exact Nat.le_of_ble_eq_true rfl))
  | ((with_reducible refine p_ex2 (x := ?_) (y := ?_) ?_ ?_); rotate_left; rotate_left; (· rfl); refine ⟨?_, ?_, ?_⟩; (· exact Nat.le_of_ble_eq_true rfl); (· exact Nat.le_of_ble_eq_true rfl); dsimp only [List.set_cons_zero, List.set_cons_succ])
  | ((with_reducible refine p_isT ?_ ?_); (· rfl)) | ((with_reducible refine p_isF ?_ ?_); (· rfl))
  | ((with_reducible refine p_ex (x := ?_) ?_ ?_); rotate_left; (· rfl)))
local macro_rules | `(tactic| walk_at "3") => `(tactic| repeat walk_at "2")
theorem fraction_neg (a b : Int) (hb : b < 0) (hl : b.natAbs < 2 ^ 8990) (S : Sto) (hS : Sane S) : m_fraction [.int a, .int b] S = .ok (toD ((a : Rat) / (b : Rat))) S := by
  obtain ⟨k, rfl⟩ : ∃ k : Nat, b = -(k : Int) := ⟨b.natAbs, by omega⟩
  have hk : (0 : Int) < k := by omega
  have hg : 0 < Int.gcd (-a) k := Int.gcd_pos_of_ne_zero_right _ (by omega)
  have hgk : Int.gcd (-a) k ≤ k := Nat.gcd_le_right (n := k) (-a).natAbs (by omega)
  have eg : Int.gcd a (-(k : Int)) = Int.gcd (-a) k := by rw [Int.gcd_neg, Int.neg_gcd]
  have lg : (-((Int.gcd (-a) k : Nat) : Int)).natAbs.log2 < 9000 := log_of (b := 8990) (by omega) (by decide)
  have e := rat_of (a := -a) (b := k) hk
  have ev : (a : Rat) / ((-(k : Int) : Int) : Rat) = ((-a : Int) : Rat) / (((k : Int)) : Rat) := by push_cast; grind
  rw [ev, toD_rat, e.1, e.2]
  refine m_defS hS rfl ?_
  show (b_fraction [some (.int a), some (.int (-(k : Int))), none] S).post _ _ _ _
  unfold b_fraction
  walk_at "3"
  refine Res.post.of_eq (gcd_spec a (-(k : Int)) S hS) ?_
  rw [eg]
  walk_at "3"
  refine ⟨fun z => absurd (of_decide_eq_true z) (by omega), fun _ => ?_⟩
  walk_at "3"
  refine o_mul (fits_r (by decide)) ?_
  rw [show ((Int.gcd (-a) k : Nat) : Int) * -1 = -((Int.gcd (-a) k : Nat) : Int) by omega]
  walk_at "3"
  refine o_div ⟨by omega, lg⟩ ?_
  walk_at "3"
  refine o_div ⟨by omega, lg⟩ ?_
  walk_at "3"
  refine ⟨?_, rfl⟩
  have e1 := Int.neg_fdiv_neg (-a) ((Int.gcd (-a) k : Nat) : Int)
  rw [Int.neg_neg] at e1
  have e2 := Int.neg_fdiv_neg (k : Int) ((Int.gcd (-a) k : Nat) : Int)
  rw [e1, e2]
theorem over_spec (x : Rat) (d : Int) (hd : d ≠ 0) {B : Nat} (hx : RB' B x) (hdB : d.natAbs ≤ B) (hB : B ≤ 2 ^ 4000) (S : Sto) (hS : Sane S) : m_over [toD x, .tup [.int d, .int 1]] S = .ok (toD (x / (d : Rat))) S := by
  refine m_defS hS (cl _ _) ?_
  show (b_over [some (.tup [.int x.num, .int x.den]), some (.tup [.int d, .int 1])] S).post _ _ _ _
  unfold b_over
  have f : ∀ {a b : Int}, a.natAbs ≤ B → b.natAbs ≤ B → mulFits a b = true := fun h1 h2 => fits_of (a := 4001) (b := 4001) (by omega) (by omega) (by decide)
  have dx : ((x.den : Int)).natAbs ≤ B := hx.2
  have hx0 := den_pos' x
  walk_at "3"
  refine o_mul (fits_r (by decide)) ?_
  walk_at "3"
  refine o_mul (f dx hdB) ?_
  walk_at "3"
  rw [Int.mul_one]
  have ev : (x.num : Rat) / (((x.den : Int) * d : Int) : Rat) = x / (d : Rat) := by
    have h1 := rat_nd x
    have h2 : ((x.den : Nat) : Rat) ≠ 0 := by simp [x.den_nz]
    have h3 : (d : Rat) ≠ 0 := by simpa using hd
    push_cast
    generalize ((x.den : Nat) : Rat) = y at *
    generalize (d : Rat) = z at *
    rw [← h1]
    grind
  have hl : ((x.den : Int) * d).natAbs < 2 ^ 8990 := by
    rw [Int.natAbs_mul]
    have := Nat.mul_le_mul (Nat.le_trans dx hB) (Nat.le_trans hdB hB)
    exact Nat.lt_of_le_of_lt this (by rw [← Nat.pow_add]; exact Nat.pow_lt_pow_right (by decide) (by decide))
  rcases Int.lt_or_gt_of_ne hd with h | h
  · exact Res.post.of_eq (fraction_neg _ _ (Int.mul_neg_of_pos_of_neg hx0 h) hl S hS) ⟨by rw [ev], rfl⟩
  · exact Res.post.of_eq (fraction_spec _ _ (Int.mul_pos hx0 h) hl S hS) ⟨by rw [ev], rfl⟩
theorem plain_form_spec {B : Int} {rest : List (Mono × Rat)} (nr : ND rest) (hl : rest.length ≤ 1000) (hf : FineK (kindT B rest)) (S : Sto) (hS : Sane S) : m_plain_form [toD rest, .int 0, .int B] S = .ok (toD (kindT B rest)) S := by
  have sl : 2000 ≤ sizeLine := by decide
  refine m_defJ hS (cl _ _) ?_
  show (b_plain_form [some (toD rest), some (.int 0), some (.int B), none, none] S).post _ _ _ _
  unfold b_plain_form
  walk_at "3"
  refine p_lcRows rest (fun p => (Kind.mk p.1 0 B, p.2)) toD (exact_of (p_seq (p_var rfl (.inr (.inl ⟨_, rfl, rfl, rfl⟩))))) (Nat.le_of_ble_eq_true rfl) (Nat.le_of_ble_eq_true rfl) (by omega) (fun p hp => ?_) ?_
  · refine exact_of ?_
    dsimp only [in2, wipeD, List.set_cons_zero, List.set_cons_succ]
    walk_at "3"
    exact ⟨rfl, rfl⟩
  · walk_at "3"
    obtain ⟨u, e, _, hu⟩ := dict_of S (rest.map fun p => (Kind.mk p.1 0 B, p.2))
    refine p_lift e ?_
    walk_at "3"
    refine Res.post.of_eq (form_of_spec (sane_app hS (isDic_closed hu _)) hu get_app ?_ hf) ⟨rfl, take_app⟩
    rw [merge_id (nd_kind nr), List.length_map]
    omega
/-! ### one_form -/
section
variable {B : Int} {rows : List (Kind × Rat)} {P : List (Mono × Rat)}
theorem fine_k {V L : Nat} {rows : List (Kind × Rat)} (hk : ∀ p ∈ rows, Kd p.1) (hl : rows.length ≤ 1000) (hV : 1 ≤ V) (hL : 1 ≤ L) (hq : ∀ p ∈ rows, QC V L p.2) (hB : V * L ≤ 10 ^ 1000) : FineK rows :=
  ⟨⟨hl, fun p hp => rb_mono (qc_rb hV hL (hq p hp)) hB⟩, fun p hp => ⟨by have := (hk p hp).p1; omega, Nat.le_trans (hk p hp).b (Nat.le_trans (show 2 ^ 21 ≤ 10 ^ 10 by decide) (Nat.pow_le_pow_right (by decide) (by decide)))⟩⟩
theorem two_ten : (2 : Nat) ^ 3000 ≤ 10 ^ 1000 := Nat.le_trans (show (2 : Nat) ^ 3000 ≤ 8 ^ 1000 by rw [show (8 : Nat) = 2 ^ 3 from rfl, ← Nat.pow_mul]; exact Nat.le_refl _) (Nat.pow_le_pow_left (by decide) _)
theorem SlvW.big (h : SlvW B rows) {V : Nat} (hV : V ≤ 2 ^ 500) : V * LB B rows ≤ 2 ^ 1500 := by
  have := Nat.mul_le_mul hV h.lb
  rw [← Nat.pow_add] at this
  exact Nat.le_trans this (Nat.pow_le_pow_right (by decide) (by decide))
theorem Slv.big (h : Slv B rows) {V : Nat} (hV : V ≤ 2 ^ 500) : V * LB B rows ≤ 2 ^ 1500 := by
  have := Nat.mul_le_mul hV h.lb
  rw [← Nat.pow_add] at this
  exact Nat.le_trans this (Nat.pow_le_pow_right (by decide) (by decide))
theorem le_ten {x : Nat} (h : x ≤ 2 ^ 1500) : x ≤ 10 ^ 1000 := Nat.le_trans h (Nat.le_trans (Nat.pow_le_pow_right (by decide) (by decide)) two_ten)
theorem le_two {x : Nat} (h : x ≤ 2 ^ 1500) : x ≤ 2 ^ 4000 := Nat.le_trans h (Nat.pow_le_pow_right (by decide) (by decide))
theorem remQ_qc {V L : Nat} {s : Rat} {d : Int} (h : QC V L (s / (d : Rat))) (hd : d ≠ 0) (hd2 : d.natAbs ≤ 2 ^ 22) : QC (V * 2 ^ 22) L s := by
  have h3 : (d : Rat) ≠ 0 := by simpa using hd
  have := qc_int (n := d) h hd2
  rwa [div_self' h3] at this
theorem solQ_head (m : Mono) (b : Int) (d : Rat) (s : Rat) : ∀ P : Nat, solQ m b d s P = (Kind.mk m (P : Int) b, s / d) :: (if P = 0 then [] else solQ m b d (-1 * (s / d)) (P - 1))
  | 0 => rfl
  | P + 1 => rfl
theorem p_rangeN {a : RA} {δ : Sl} {S : Sto} {QL : List D → Sto → Prop} (h : (a δ S).post fun xs S1 => ∃ i j, xs = [.int i, .int j, .int (-1)] ∧ (-(2 ^ 62) ≤ i ∧ i < 2 ^ 62 ∧ -(2 ^ 62) ≤ j ∧ j < 2 ^ 62) ∧ QL (downD i j) S1) : (rRangeN a δ S).post QL := p_bind (h.mono fun _ _ ⟨i, j, e, h1, q⟩ => by
  subst e
  dsimp only
  rw [if_pos ⟨rfl, h1⟩]
  exact q)
theorem solve_spec (h : SlvW B rows) (S : Sto) (hS : Sane S) {o4 o5 o6 o7 o8 o9 o10 : Option D} {N X Y : Sl → Sto → Prop} {T : D → Sto → Prop}
    (hN : ∀ (u : D) (o4 o5 o6 o7 o8 : Option D), IsDic u (addAll [] (solL B rows)) → N [some (.int B), some (toD rows), some (toD P), some (.ptr S.length), o4, o5, o6, o7, o8, o9, o10] (S ++ [u])) :
    ((sFor (rSeq (rVar 1)) (gTup (gCons (gTup (gCons (gName 4) (gCons (gName 5) (gCons (gName 6) gNil)))) (gCons (gName 7) gNil))) (sSeq (sIf (bVal (rBin gEq (rVar 6) (rVar 0))) (sSeq (sExpr (rCall m_added (rCons (rVar 3) (rCons (rTup (rCons (rVar 4) (rCons (rBin gAdd (rVar 5) (rC (.int 1))) (rCons (rVar 0) rNil)))) (rCons (rVar 7) rNil)))))
    sCont) sNext)
    (sFor (rRangeN (rCons (rVar 5) (rCons (rUn gNeg (rC (.int 1))) (rCons (rUn gNeg (rC (.int 1))) rNil)))) (gName 8) (sSeq (sAsg (rCall m_over (rCons (rVar 7) (rCons (rCall m_fraction (rCons (rBin gSub (rVar 6) (rVar 0)) (rCons (rC (.int 1)) rNil))) rNil))) (gName 7))
    (sSeq (sExpr (rCall m_added (rCons (rVar 3) (rCons (rTup (rCons (rVar 4) (rCons (rVar 8) (rCons (rVar 6) rNil)))) (rCons (rVar 7) rNil)))))
    (sAsg (rCall m_times (rCons (rC (.tup [(.int (-1)), (.int 1)])) (rCons (rVar 7) rNil))) (gName 7))))))) [some (.int B), some (toD rows), some (toD P), some (.ptr S.length), o4, o5, o6, o7, o8, o9, o10] (S ++ [.dct []])).post N T X Y := by
  have sl : 200000 ≤ sizeLine := by decide
  have hVp := v0_pos
  have hLp := lb_pos B rows
  have hB2 : VV0 * 200 * LB B rows ≤ 2 ^ 1500 := h.big (by decide)
  have hB3 : VV0 * 2 ^ 22 * LB B rows ≤ 2 ^ 1500 := h.big (by decide)
  obtain ⟨W, eW⟩ : ∃ W, W = VV0 * 2 ^ 22 * LB B rows := ⟨_, rfl⟩
  have hW3 : W ≤ 2 ^ 4000 := by rw [eW]; exact le_two hB3
  have hWb : 2 ^ 22 ≤ W := by
    have := Nat.mul_le_mul (Nat.mul_le_mul hVp (Nat.le_refl (2 ^ 22))) hLp
    rwa [Nat.one_mul, Nat.mul_one, ← eW] at this
  have hWv : VV0 * LB B rows ≤ W := by
    rw [eW]
    exact Nat.mul_le_mul_right _ (Nat.le_mul_of_pos_right _ (Nat.pow_pos (by decide)))
  have hWs : ∀ {q : Rat}, QC (VV0 * 2 ^ 22) (LB B rows) q → RB' W q := fun h => by rw [eW]; exact qc_rb (Nat.mul_pos hVp (Nat.pow_pos (by decide))) hLp h
  have hW1 : 1 ≤ W := Nat.le_trans (Nat.pow_pos (by decide)) hWb
  clear eW hB3
  have hadd := fun (u : D) (acc rest : List (Kind × Rat)) (k : Kind) (q : Rat) (hu : IsDic u acc) (oc : OnC (VV0) (LB B rows) 200 (addAll [] (solL B rows)) acc ((k, q) :: rest)) => add_one (added_adds (κ := Kind)) hS hu oc hVp hLp (by decide) (by decide) (le_two hB2)
  walk_at "3"
  refine .inr (.inl ⟨rows.map toD, rfl, ?_⟩)
  refine s_forT toD (fun xs δ S2 => ∃ (acc : List (Kind × Rat)) (u : D) (o4 o5 o6 o7 o8 : Option D), S2 = S ++ [u] ∧ IsDic u acc ∧ (∀ p ∈ xs, p ∈ rows) ∧ OnC (VV0) (LB B rows) 200 (addAll [] (solL B rows)) acc (solL B xs) ∧ δ = [some (.int B), some (toD rows), some (toD P), some (.ptr S.length), o4, o5, o6, o7, o8, o9, o10]) ?_ ?_ _ _ _ ⟨[], _, _, _, _, _, _, rfl, isDic_nil, (fun _ z => z), onc_start h.sl fun x hx => h.ok x hx, rfl⟩
  · rintro x xs δ S2 ⟨acc, u, o4, o5, o6, o7, o8, rfl, hu, hin, oc, rfl⟩
    have hx := hin x List.mem_cons_self
    have hin' : ∀ p ∈ xs, p ∈ rows := fun p hp => hin p (List.mem_cons_of_mem _ hp)
    have p0 := h.p0 x hx
    have p1 := h.p1 x hx
    have a1 := h.b x hx
    have a2 := h.hB
    have hSa : Sane (S ++ [u]) := sane_app hS (isDic_closed hu _)
    have es : solL B (x :: xs) = solP B x ++ solL B xs := by unfold solL; rw [List.flatMap_cons]
    rw [es] at oc
    show (gTup _ (.tup [.tup [toD x.1.m, .int x.1.p, .int x.1.b], toD x.2]) _ _).post _
    walk_at "3"
    refine ⟨fun hb => ?_, fun hb => ?_⟩
    · have hb : x.1.b = B := by simpa using hb
      have ep : solP B x = [(Kind.mk x.1.m (x.1.p + 1) B, x.2)] := if_pos hb
      rw [ep] at oc
      walk_at "3"
      obtain ⟨u', e', hu', oc'⟩ := hadd u acc (solL B xs) (Kind.mk x.1.m (x.1.p + 1) B) x.2 hu oc
      refine Res.post.of_eq e' ?_
      walk_at "3"
      exact ⟨_, u', _, _, _, _, _, rfl, hu', hin', oc', rfl⟩
    · have hb : x.1.b ≠ B := by simpa using hb
      have ep : solP B x = solQ x.1.m x.1.b ((x.1.b - B : Int) : Rat) x.2 x.1.p.toNat := if_neg hb
      rw [ep] at oc
      have hd0 : x.1.b - B ≠ 0 := by omega
      have hd1 : (x.1.b - B).natAbs ≤ 2 ^ 22 := by omega
      obtain ⟨Pn, hPn⟩ : ∃ Pn : Nat, x.1.p = Pn := ⟨x.1.p.toNat, by omega⟩
      have hP8 : Pn ≤ 99 := by omega
      rw [hPn, show ((Pn : Int)).toNat = Pn by omega] at oc
      rw [hPn]
      walk_at "3"
      with_reducible refine p_rangeN ?_
      walk_at "3"
      refine ⟨(Pn : Int), -1, rfl, ⟨by omega, by omega, by decide, by decide⟩, ?_⟩
      rw [show downD (Pn : Int) (-1) = (List.range (Pn + 1)).map fun k : Nat => D.int ((Pn : Int) - k) by unfold downD; rw [show ((Pn : Int) - -1).toNat = Pn + 1 by omega]]
      refine s_forT (fun k : Nat => D.int ((Pn : Int) - k)) (fun ks δ S2 => ∃ (k : Nat) (acc : List (Kind × Rat)) (u : D) (s : Rat) (o8 : Option D), k + ks.length = Pn + 1 ∧ ks = (List.range (Pn + 1)).drop k ∧ S2 = S ++ [u] ∧ IsDic u acc ∧ OnC (VV0) (LB B rows) 200 (addAll [] (solL B rows)) acc ((if k = Pn + 1 then [] else solQ x.1.m x.1.b ((x.1.b - B : Int) : Rat) s (Pn - k)) ++ solL B xs) ∧ δ = [some (.int B), some (toD rows), some (toD P), some (.ptr S.length), some (toD x.1.m), some (.int (Pn : Int)), some (.int x.1.b), some (toD s), o8, o9, o10]) ?_ ?_ _ _ _ ⟨0, acc, u, x.2, _, by rw [List.length_range]; omega, rfl, rfl, hu, by rw [if_neg (by omega)]; exact oc, rfl⟩
      · rintro y ks δ S2 ⟨k, acc, u, s, o8, hlen, hks, rfl, hu, oc, rfl⟩
        rw [List.length_cons] at hlen
        have hkn : k < Pn + 1 := by omega
        have hyy : y = k ∧ ks = (List.range (Pn + 1)).drop (k + 1) := by
          rw [List.drop_eq_getElem_cons (by rw [List.length_range]; exact hkn), List.getElem_range] at hks
          exact ⟨(List.cons.inj hks).1, (List.cons.inj hks).2⟩
        obtain ⟨rfl, hks⟩ := hyy
        have hSa : Sane (S ++ [u]) := sane_app hS (isDic_closed hu _)
        rw [if_neg (by omega), solQ_head] at oc
        have hq := oc.rest _ List.mem_cons_self
        dsimp only at hq
        have hs := remQ_qc hq hd0 hd1
        walk_at "3"
        refine Res.post.of_eq (fraction_spec (x.1.b - B) 1 (by decide) (Nat.lt_of_lt_of_le (show (1 : Int).natAbs < 2 ^ 1 by decide) (Nat.pow_le_pow_right (by decide) (by decide))) _ hSa) ?_
        rw [rat_one]
        walk_at "3"
        refine Res.post.of_eq (show m_over [toD s, toD (((x.1.b - B : Int)) : Rat)] (S ++ [u]) = .ok (toD (s / ((x.1.b - B : Int) : Rat))) (S ++ [u]) from over_spec s (x.1.b - B) hd0 (hWs hs) (Nat.le_trans hd1 hWb) hW3 _ hSa) ?_
        walk_at "3"
        obtain ⟨u', e', hu', oc'⟩ := hadd u acc _ _ _ hu oc
        rw [show (((Pn - y : Nat) : Int)) = (Pn : Int) - (y : Int) by omega] at e'
        refine Res.post.of_eq e' ?_
        walk_at "3"
        have hSb : Sane (S ++ [u']) := sane_app hS (isDic_closed hu' _)
        refine Res.post.of_eq (show m_times [.tup [.int (-1), .int 1], toD (s / ((x.1.b - B : Int) : Rat))] (S ++ [u']) = .ok (toD (-1 * (s / ((x.1.b - B : Int) : Rat)))) (S ++ [u']) from times_spec (-1) (s / ((x.1.b - B : Int) : Rat)) (B := W) ⟨hW1, hW1⟩ (rb_mono (qc_rb hVp hLp hq) hWv) hW3 _ hSb) ?_
        walk_at "3"
        refine ⟨y + 1, _, u', _, _, by omega, hks, rfl, hu', ?_, rfl⟩
        by_cases he : y = Pn
        · rw [if_pos (by omega)]
          rw [if_pos (by omega)] at oc'
          exact oc'
        · rw [if_neg (by omega), show Pn - (y + 1) = Pn - y - 1 by omega]
          rw [if_neg (by omega)] at oc'
          exact oc'
      · rintro δ S2 ⟨k, acc, u, s, o8, hlen, hks, rfl, hu, oc, rfl⟩
        have hk : k = Pn + 1 := by simpa using hlen
        rw [if_pos hk] at oc
        exact ⟨acc, u, _, _, _, _, _, rfl, hu, hin', oc, rfl⟩
  · rintro δ S2 ⟨acc, u, o4, o5, o6, o7, o8, rfl, hu, hin, oc, rfl⟩
    have e : acc = addAll [] (solL B rows) := oc.eq
    subst e
    exact hN u _ _ _ _ _ hu
theorem one_form_spec (h : Slv B rows) (hP : Pb P) (S : Sto) (hS : Sane S) : m_one_form [.int B, toD rows, toD P] S = .ok (toD (onT B rows P)) S := by
  have sl : 200000 ≤ sizeLine := by decide
  have hVp := v0_pos
  have hLp := lb_pos B rows
  have nP := inc_nd hP.inc
  have hl7 := len_m7 nP hP.m
  have hsk := h.sk
  have hsq := h.sq
  have hsl := h.tl
  have hrq := h.rq hP
  have hrm := h.rm hP
  have hrn : ND (restT B rows P) := nd_rest nP
  have hkk := kind_ok (B := B) hrn hrm hrq h.hB
  have hrl := len_m7 hrn hrm
  have hon := h.onn hP
  have hatm : ∀ p ∈ atT (solT B rows) 0, p.1 ∈ M7 := at_m7 fun p hp => (hsk p hp).m
  have hatq := h.a0
  have hatl := len_m7 (nd_at (solT B rows) 0) hatm
  -- the greatness of all
  have g1 : VO * LB B rows ≤ 2 ^ 1500 := h.big (by decide)
  have g2 : ∀ {V : Nat}, V ≤ VO → V * LB B rows ≤ 2 ^ 1500 := fun hV => Nat.le_trans (Nat.mul_le_mul_right _ hV) g1
  have v4 : VV0 * 200 ≤ VO := by decide
  have v5 : VV0 * 200 * 200 ≤ VO := by decide
  have v6 : VV0 + VV0 * 200 * 200 ≤ VO := by decide
  have v7 : VV0 ≤ VO := by decide
  have rb : ∀ {V : Nat} {q : Rat}, V ≤ VO → QC V (LB B rows) q → RB' (2 ^ 1500) q := fun hV hq => rb_mono (qc_rb vo_pos hLp (qc_mono hq hV)) g1
  have hC : 2 * (2 ^ 1500 * 2 ^ 1500) ≤ 2 ^ 3001 := by rw [← Nat.pow_add, ← Nat.pow_succ']; exact Nat.le_refl _
  have hCB : (2 : Nat) ^ 1500 ≤ 2 ^ 3001 := Nat.pow_le_pow_right (by decide) (by decide)
  have hC4 : (2 : Nat) ^ 3001 ≤ 2 ^ 4000 := Nat.pow_le_pow_right (by decide) (by decide)
  have h14 : (2 : Nat) ^ 1500 ≤ 2 ^ 4000 := Nat.pow_le_pow_right (by decide) (by decide)
  have h15 : 1 ≤ (2 : Nat) ^ 1500 := Nat.pow_pos (by decide)
  refine m_defJ hS (cl _ _) ?_
  show (b_one_form [some (.int B), some (toD rows), some (toD P), none, none, none, none, none, none, none, none] S).post _ _ _ _
  unfold b_one_form
  refine s_seq ?_
  refine s_asg ?_
  refine p_own ?_
  refine p_c ?_
  refine s_name (Nat.le_of_ble_eq_true rfl) ?_
  dsimp only [List.set_cons_zero, List.set_cons_succ]
  refine s_seq ?_
  refine solve_spec h.w S hS fun u o4 o5 o6 o7 o8 hu => ?_
  have hSa : Sane (S ++ [u]) := sane_app hS (isDic_closed hu _)
  have hlS : (addAll [] (solL B rows)).length ≤ sizeLine := by
    have fin := onc_end (onc_start (κ := Kind) (V := VV0) (L := LB B rows) (T := 200) h.sl fun x hx => (h.ok x hx).2)
    obtain ⟨t, t1, t2, _⟩ := fin.ex
    have t1 : t + 0 ≤ 200 := t1
    omega
  walk_at "3"
  refine Res.post.of_eq (form_of_spec hSa hu get_app hlS (fine_k hsk (by show (solT B rows).length ≤ 1000; omega) (by decide) hLp hsq (le_ten (g2 v4)))) ?_
  show (gName 9 (toD (solT B rows)) _ _).post _
  walk_at "3"
  refine Res.post.of_eq (show m_at_count [toD (solT B rows), .int 0] (S ++ [u]) = .ok (toD (atT (solT B rows) 0)) (S ++ [u]) from at_count_spec (c := 0) (T := 200) (rc_kd hsk hsq) (by decide) (by decide) (by omega) (by decide) (by decide) hLp hsl (by decide) (by decide) (by rw [Nat.pow_zero, Nat.mul_one]; exact le_ten (g2 v5)) _ hSa) ?_
  walk_at "3"
  have hll : (lessT (atT (solT B rows) 0)).length ≤ 8 := len_m7 (nd_less (nd_at _ _)) (less_m hatm)
  refine Res.post.of_eq (show m_plain_times [.tup [.int (-1), .int 1], toD (atT (solT B rows) 0)] (S ++ [u]) = .ok (toD (lessT (atT (solT B rows) 0))) (S ++ [u]) from plain_times_spec hSa (nd_at _ _) (-1) (B := 2 ^ 1500) h14 ⟨h15, h15⟩ (fun p hp => rb v5 (hatq p hp)) (by omega) ⟨by show (lessT (atT (solT B rows) 0)).length ≤ 1000; omega, fun p hp => rb_mono (rb v5 (less_q hatq p hp)) (le_ten (Nat.le_refl _))⟩) ?_
  walk_at "3"
  refine Res.post.of_eq (show m_plain_sum [toD P, toD (lessT (atT (solT B rows) 0))] (S ++ [u]) = .ok (toD (restT B rows P)) (S ++ [u]) from plain_sum_spec hSa nP (nd_less (nd_at _ _)) (B := 2 ^ 1500) (C := 2 ^ 3001) hC hCB h15 hC4 (fun p hp => rb v7 (p_scaled hP p hp)) (fun p hp => rb v5 (less_q hatq p hp)) (by omega) ⟨by show (restT B rows P).length ≤ 1000; omega, fun p hp => rb_mono (rb v6 (hrq p hp)) (le_ten (Nat.le_refl _))⟩) ?_
  walk_at "3"
  have hkl : (kindT B (restT B rows P)).length ≤ 420 := by have := kindT_len (B := B) hrn; omega
  refine Res.post.of_eq (plain_form_spec (B := B) hrn (by omega) (fine_k (fun p hp => (hkk p hp).1) (by omega) (by decide) hLp (fun p hp => (hkk p hp).2) (le_ten (g2 v6))) _ hSa) ?_
  walk_at "3"
  have hol := hon.len
  refine Res.post.of_eq (show m_form_sum [toD (solT B rows), toD (kindT B (restT B rows P))] (S ++ [u]) = .ok (toD (onT B rows P)) (S ++ [u]) from form_sum_spec hSa (nd_tot _) (nd_kindT hrn) (B := 2 ^ 1500) (C := 2 ^ 3001) hC hCB h15 hC4 (fun p hp => rb v4 (hsq p hp)) (fun p hp => rb v6 (hkk p hp).2) (by omega) (fine_k (rows := onT B rows P) hon.k (by omega) vo_pos hLp hon.q (le_ten g1))) ?_
  exact ⟨rfl, take_app⟩
end
end DL
set_option Elab.async false
set_option linter.all false
set_option maxRecDepth 100000
set_option maxHeartbeats 4000000
set_option autoImplicit false
/-! k32: draws. -/
namespace DL
open PySem L2
open Emb
local macro_rules | `(tactic| walk_at "1") => `(tactic| with_reducible first
  | refine s_seq ?_ | refine s_asg ?_ | refine s_ret ?_ | refine s_if ?_ | refine s_expr ?_ | refine s_next ?_ | refine s_brk ?_ | refine s_cont ?_ | refine s_for ?_ | refine s_while ?_
  | refine p_c ?_ | refine p_bin ?_ | refine p_as ?_ | refine p_cons ?_ | refine p_nil ?_ | refine p_un ?_ | refine p_call ?_ | refine p_if ?_ | refine p_own ?_
  | refine p_keep ?_ | refine p_tru ?_ | refine p_and ?_ | refine p_or ?_ | refine p_not ?_ | refine p_val ?_ | refine p_rand ?_ | refine p_ror ?_ | refine p_rnot ?_ | refine p_chain ?_ | refine p_bif ?_
  | refine o_add ?_ | refine o_sub ?_ | refine o_ltU ?_ | refine o_leU ?_ | refine o_gtU ?_ | refine o_geU ?_ | refine o_neg ?_ | refine o_eqI ?_ | refine o_neI ?_ | refine o_abs ?_ | refine o_tru ?_ | refine p_true ?_ | refine p_false ?_
  | refine o_lenT ?_ | refine o_lenL ?_ | refine o_ix0 ?_ | refine o_ix1 ?_ | refine o_ix2 ?_ | refine o_ix0L ?_ | refine o_ix1L ?_ | refine o_ix2L ?_
  | refine s_par ?_ | refine p_yes ?_ | refine p_seq ?_ | refine s_gnil ?_ | refine s_gcons ?_ | refine s_gtux ?_ | refine s_gtupl ?_ | refine p_onone ?_ | refine p_osome ?_ | refine p_get2 ?_ | refine s_putU ?_ | refine p_sortIt ?_)
local macro_rules | `(tactic| walk_at "2") => `(tactic| first
  | walk_at "1"
  | (with_reducible refine p_var2 ?_)
  | ((with_reducible refine s_name ?_ ?_); (· exact Nat.le_of_ble_eq_true rfl); dsimp only [List.set_cons_zero, List.set_cons_succ])
  | (with_reducible refine p_tup ?_) | (with_reducible refine p_lst ?_) | ((with_reducible refine ⟨?_, ?_⟩); (· exact Nat.le_of_ble_eq_true rfl))
  | ((with_reducible refine p_ex2 (x := ?_) (y := ?_) ?_ ?_); rotate_left; rotate_left; (· rfl); refine ⟨?_, ?_, ?_⟩; (· exact Nat.le_of_ble_eq_true rfl); (· exact Nat.le_of_ble_eq_true rfl); dsimp only [List.set_cons_zero, List.set_cons_succ])
  | ((with_reducible refine p_isT ?_ ?_); (· rfl)) | ((with_reducible refine p_isF ?_ ?_); (· rfl))
  | ((with_reducible refine p_ex (x := ?_) ?_ ?_); rotate_left; (· rfl)))
local macro_rules | `(tactic| walk_at "3") => `(tactic| repeat walk_at "2")
theorem p_append2 {δ : Sl} {S : Sto} {r : Nat} {x e : RE} {ys : List D} {Q : D → Sto → Prop} (hx : x δ S = .ok (.ptr r) S) (hr : S[r]? = some (.lst ys)) (h : (e δ S).post fun y S2 => ∃ xs, S2[r]? = some (.lst xs) ∧ xs.length < sizeLine ∧ Q .non (S2.set r (.lst (xs ++ [y])))) : (rMeth "list" mAppend x (rCons e rNil) δ S).post Q := by
  refine p_meth (Res.post.of_eq hx ?_)
  refine ⟨?_, ?_⟩
  · unfold isTy
    rw [deref_at hr]
    rfl
  · refine p_cons (h.mono fun y S2 ⟨xs, e4, e3, q2⟩ => p_nil ?_)
    refine ⟨.non, S2.set r (.lst (xs ++ [y])), ?_, q2⟩
    unfold mAppend
    dsimp only
    rw [e4]
    dsimp only
    rw [if_pos e3]
theorem s_freeze2 {i k : Nat} {δ : Sl} {S : Sto} {ds : List D} {N B C : Sl → Sto → Prop} {T : D → Sto → Prop} (e : δ[i]? = some (some (.ptr k))) (hk : S[k]? = some (.lst ds)) (h : N (δ.set i (some (.lst ds))) (S.set k .non)) : (sFreeze i δ S).post N T B C := by
  unfold sFreeze
  rw [e]
  dsimp only
  rw [hk]
  exact h
theorem o_catD {S : Sto} {a b : List D} {Q : D → Sto → Prop} (hl : a.length + b.length ≤ sizeLine) (h : Q (.lst (a ++ b)) S) : (Res.lift (gCat S (.lst a) (.lst b)) S).post Q := p_lift (by unfold gCat deref; dsimp only; rw [if_pos hl]) h
theorem idx_small3 : ∀ n : Fin 66, ∀ m : Fin 12, 1 ≤ m.val → (idxS n.val (some (0 : Int)) none (m.val : Int)).length ≤ 1000 := by decide +kernel
theorem step_map {A B : Type} (f : A → B) (xs : List A) (lo hi : Option Int) (k : Int) : stepS (xs.map f) lo hi k = (stepS xs lo hi k).map f := by
  unfold stepS
  rw [List.length_map, List.map_filterMap]
  congr 1
  funext i
  rw [List.getElem?_map]
theorem atI_natK {xs : List D} {k : Nat} {d : D} (h : xs[k]? = some d) : atI xs (k : Int) = some d := by
  have hk := (List.getElem?_eq_some_iff.mp h).1
  unfold atI ixN
  rw [if_pos (by omega), if_pos (by omega)]
  exact h
theorem ix_emb {κ : Type} [Emb κ] {S : Sto} {xs : List κ} {i : Int} {Q : D → Sto → Prop} (h0 : 0 ≤ i) (h1 : i < xs.length) (h : ∀ v ∈ xs, Q (toD v) S) : (Res.lift (gIx S (.lst (xs.map toD)) (.int i)) S).post Q := by
  obtain ⟨n, rfl⟩ := Int.eq_ofNat_of_zero_le h0
  have hq : n < xs.length := by omega
  refine o_ixL (d := toD xs[n]) ?_ (h _ (List.getElem_mem hq))
  refine atI_natK ?_
  rw [List.getElem?_map, List.getElem?_eq_getElem hq]
  rfl
theorem m_defMJ {n j : Nat} {b : RS} {ds : List D} {S : Sto} {P : D → Prop} (hS : Sane S) (hP : ∀ z, P z → D.closed S.length z = true) (h : (b (ds.map some ++ List.replicate (n - ds.length) none) S).post NoS (fun z S1 => P z ∧ Mv j S (S1.take S.length)) NoS NoS) : (mDef n b ds S).post fun z S' => P z ∧ Mv j S S' :=
  m_def (h.mono (fun _ _ z => z.elim) (fun z S1 ⟨hp, hm⟩ => by
    refine ⟨?_, hp, hm⟩
    rw [hP z hp]
    have := hm.sane hS
    unfold Sane at this
    rw [hm.len] at this
    rw [this]; rfl) (fun _ _ z => z.elim) (fun _ _ z => z.elim))
theorem mv_of_app {j : Nat} {S W T : Sto} (h : Mv j (S ++ W) T) (hj : j < S.length) : ∃ S', T = S' ++ W ∧ Mv j S S' := by
  obtain ⟨r, m, hr, rfl⟩ := h
  exact ⟨S.set j (drw r m), by rw [List.set_append_left _ _ hj], r, m, hr, rfl⟩
theorem dr_app' {S W : Sto} {j : Nat} (h : Dr S j) : Dr (S ++ W) j := by
  obtain ⟨r, i, e, hr⟩ := h
  have hlt := (List.getElem?_eq_some_iff.mp e).1
  exact ⟨r, i, by rw [List.getElem?_append_left hlt]; exact e, hr⟩
theorem lbegun_spec {cs : List Int} {m : Nat} (hc : cs.length ≤ 64) (hm1 : 1 ≤ m) (hm : m ≤ 11) (S : Sto) (hS : Sane S) : (m__law_begun [.lst (cs.map .int), .int 0, .int (m : Int)] S).post fun z S' => z = .ptr S.length ∧ ∃ r i : Int, 0 ≤ r ∧ S' = S ++ [drw r i] := by
  have sl : 16000000 ≤ sizeLine := by decide
  refine m_defK ?_
  show (b__law_begun [some (.lst (cs.map .int)), some (.int 0), some (.int (m : Int)), none, none] S).post _ _ _ _
  unfold b__law_begun
  have hlen : (stepS cs (some (0 : Int)) none (m : Int)).length ≤ 1000 := by
    have := idx_small3 ⟨cs.length, by omega⟩ ⟨m, by omega⟩ hm1
    unfold stepS
    refine Nat.le_trans (List.length_filterMap_le _ _) ?_
    exact this
  have tail : ∀ os : List Int, os ≠ [] → os.length ≤ 1000 → ((sSeq (sAsg (rAs gMax (rCons (rVar 3) rNil)) (gName 4))
    (sRet (rOwn (rDisp [((rC (.str "rest")), (rBin gMul (rVar 4) (rAs gInt (rCons (rBin gGeU (rVar 4) (rBin gPow (rC (.int 10)) (rC (.int 18)))) rNil)))), ((rC (.str "mixed")), (rCall m__law_mixed (rCons (rCall m__law_mixed (rCons (rAs gSum (rCons (rVar 3) rNil)) (rCons (rVar 1) rNil))) (rCons (rAs gLen (rCons (rVar 3) rNil)) rNil))))])))) [some (.lst (cs.map .int)), some (.int 0), some (.int (m : Int)), some (.lst (os.map .int)), none] S).post (fun _ S1 => Res.post (.ok D.non S1) fun z S' => z = D.ptr S.length ∧ ∃ r i : Int, 0 ≤ r ∧ S' = S ++ [drw r i]) (fun (z : D) S' => z = D.ptr S.length ∧ ∃ r i : Int, 0 ≤ r ∧ S' = S ++ [drw r i]) NoS NoS := fun os ho hl => by
    obtain ⟨g, hg, _⟩ := maxI_mem ho
    walk_at "3"
    refine o_maxL hg ?_
    walk_at "3"
    refine p_disp ?_
    refine p_pairs ?_
    walk_at "3"
    refine pow6 (δ := []) (n := 18) (by decide) ?_
    walk_at "3"
    refine p_lift (a := .int (if decide ((10 : Int) ^ 18 ≤ g) then 1 else 0)) rfl ?_
    have hi : (if decide ((10 : Int) ^ 18 ≤ g) = true then (1 : Int) else 0).natAbs < 2 ^ 64 := by split <;> decide
    refine o_mul (fits_r hi) ?_
    have hr : 0 ≤ g * (if decide ((10 : Int) ^ 18 ≤ g) = true then (1 : Int) else 0) := by
      split
      · rename_i q
        have := of_decide_eq_true q
        omega
      · omega
    generalize g * (if decide ((10 : Int) ^ 18 ≤ g) = true then (1 : Int) else 0) = r at hr
    refine p_pairs ?_
    walk_at "3"
    refine o_sumI ?_
    walk_at "3"
    refine (lmixed_spec _ (0 : Int) (by omega) S hS).mono ?_
    rintro d S1 ⟨⟨i, rfl, i0, i1⟩, rfl⟩
    walk_at "3"
    refine (lmixed_spec _ _ (by rw [List.length_map]; omega) _ hS).mono ?_
    rintro d S1 ⟨⟨i2, rfl, i20, i21⟩, rfl⟩
    refine p_pairs_nil ?_
    refine ⟨rfl, ?_⟩
    exact ⟨rfl, r, i2, hr, rfl⟩
  walk_at "3"
  refine p_bind (p_var rfl ?_)
  refine p_bind (p_osome (p_var rfl ⟨(0 : Int), rfl, ?_⟩))
  refine p_bind (p_onone ?_)
  refine p_bind (p_osome (p_var rfl ⟨(m : Int), rfl, ?_⟩))
  show Res.post (if (m : Int) ≠ 0 ∧ (stepS (cs.map D.int) (some (0 : Int)) none (m : Int)).length ≤ sizeLine then Res.ok (D.lst (stepS (cs.map D.int) (some (0 : Int)) none (m : Int))) S else .stuck) _
  rw [step_map, List.length_map, if_pos ⟨by omega, by omega⟩]
  refine Res.post.of_eq rfl ?_
  refine ⟨!((stepS cs (some (0 : Int)) none (m : Int)).map D.int).isEmpty, rfl, fun h => ?_, fun h => ?_⟩
  · refine s_name (Nat.le_of_ble_eq_true rfl) ?_
    refine tail _ (fun e => ?_) hlen
    rw [e] at h
    cases h
  · refine p_keep ?_
    refine p_lst ?_
    refine p_cons (p_var rfl (p_nil ⟨(by show 1 ≤ sizeLine; decide), _, rfl, ?_⟩))
    refine s_name (Nat.le_of_ble_eq_true rfl) ?_
    exact tail [(0 : Int)] (by simp) (by simp)
def Shr (z : D) : Prop := ∃ q : Rat, z = toD q ∧ q ≠ 0 ∧ QC (2 ^ 41) 42 q
theorem share_qc {a d : Int} (ha : a.natAbs ≤ 2 ^ 41) (ho : a ≠ 0) (hd : d ∈ [1, 1, 2, 3, (7 : Int)]) : ((a : Rat) / (d : Rat)) ≠ 0 ∧ QC (2 ^ 41) 42 ((a : Rat) / (d : Rat)) := by
  have ha0 : (a : Rat) ≠ 0 := by simpa using ho
  have go : ∀ e : Int, e * d = 42 → e.natAbs ≤ 42 → ((a : Rat) / (d : Rat)) ≠ 0 ∧ QC (2 ^ 41) 42 ((a : Rat) / (d : Rat)) := fun e he he2 => by
    have hd0 : (d : Rat) ≠ 0 := by
      have : d ≠ 0 := fun z => by rw [z, Int.mul_zero] at he; cases he
      simpa using this
    have hee : (e : Rat) * (d : Rat) = 42 := by exact_mod_cast congrArg (fun x : Int => (x : Rat)) he
    refine ⟨?_, a * e, ?_, ?_⟩
    · generalize (a : Rat) = x at *
      generalize (d : Rat) = y at *
      grind
    · push_cast
      generalize (a : Rat) = x at *
      generalize (d : Rat) = y at *
      generalize (e : Rat) = w at *
      grind
    · rw [Int.natAbs_mul]
      exact Nat.mul_le_mul ha he2
  simp only [List.mem_cons, List.not_mem_nil, or_false] at hd
  rcases hd with rfl | rfl | rfl | rfl | rfl
  · exact go 42 rfl (by decide)
  · exact go 42 rfl (by decide)
  · exact go 21 rfl (by decide)
  · exact go 14 rfl (by decide)
  · exact go 6 rfl (by decide)
theorem lshare_spec {j : Nat} (S : Sto) (hS : Sane S) (hj : Dr S j) : (m__law_share [.ptr j] S).post fun z S' => Shr z ∧ Mv j S S' := by
  have sl : 16000000 ≤ sizeLine := by decide
  refine m_defM hS (fun z ⟨q, e, _⟩ => by subst e; exact cl _ _) ?_
  show (b__law_share [some (.ptr j), none] S).post _ _ _ _
  unfold b__law_share
  walk_at "3"
  refine pow6 (δ := []) (n := 12) (by decide) ?_
  walk_at "3"
  refine (lnext_spec (b := 4) (by decide) (by decide) S hS hj).mono ?_
  rintro z S1 ⟨⟨i, rfl, i0, i1⟩, mv1⟩
  refine ix_emb (xs := [3, 3, 9, (10 : Int) ^ 12]) i0 (by exact i1) fun most hm => ?_
  have hm : 0 < most ∧ most ≤ 10 ^ 12 := by
    simp only [List.mem_cons, List.not_mem_nil, or_false] at hm
    rcases hm with rfl | rfl | rfl | rfl <;> decide
  walk_at "3"
  refine (laround_spec (b := most) hm.1 (by omega) S1 (mv1.sane hS) (mv1.dr hj)).mono ?_
  rintro z S2 ⟨⟨v, rfl, v0, v1⟩, mv2⟩
  have mv2 := mv1.trans mv2
  walk_at "3"
  refine o_mul (fits_r (by decide)) ?_
  walk_at "3"
  refine (lnext_spec (b := 5) (by decide) (by decide) S2 (mv2.sane hS) (mv2.dr hj)).mono ?_
  rintro z S3 ⟨⟨i, rfl, i0, i1⟩, mv3⟩
  have mv3 := mv2.trans mv3
  refine ix_emb (xs := [1, 1, 2, 3, (7 : Int)]) i0 (by exact i1) fun d hd => ?_
  walk_at "3"
  obtain ⟨n0, nq⟩ := share_qc (a := 1 + v * 2) (by omega) (by omega) hd
  have hd7 : 0 < d ∧ d ≤ 7 := by
    simp only [List.mem_cons, List.not_mem_nil, or_false] at hd
    omega
  exact Res.post.of_eq (lowest_spec (1 + v * 2) d hd7.1 (Nat.lt_of_le_of_lt (show d.natAbs ≤ 7 by omega) (Nat.lt_of_lt_of_le (show 7 < 2 ^ 3 by decide) (Nat.pow_le_pow_right (by decide) (by decide)))) S3 (mv3.sane hS)) ⟨⟨_, rfl, n0, nq⟩, mv3⟩
def Mno (z : D) : Prop := ∃ m : Mono, z = toD m ∧ m ∈ M7
theorem lmono_spec {j : Nat} (S : Sto) (hS : Sane S) (hj : Dr S j) : (m__law_mono [.ptr j] S).post fun z S' => Mno z ∧ Mv j S S' := by
  have sl : 16000000 ≤ sizeLine := by decide
  refine m_defM hS (fun z ⟨q, e, _⟩ => by subst e; exact cl _ _) ?_
  show (b__law_mono [some (.ptr j), none] S).post _ _ _ _
  unfold b__law_mono
  walk_at "3"
  refine (lnext_spec (b := 7) (by decide) (by decide) S hS hj).mono ?_
  rintro z S1 ⟨⟨i, rfl, i0, i1⟩, mv1⟩
  refine ix_emb (xs := M6) i0 (by exact i1) fun m hm => ?_
  exact ⟨⟨m, rfl, List.mem_append_left _ hm⟩, mv1⟩
/-- what a form is drawn of -/
structure RowK (p : Kind × Rat) : Prop where
  m : p.1.m ∈ M7
  p0 : 0 ≤ p.1.p
  p1 : p.1.p ≤ 4
  b : p.1.b.natAbs ≤ 1000001
  q : QC (2 ^ 41) 42 p.2
structure Fz (rows : List (Kind × Rat)) : Prop where
  inc : Inc rows
  nz : ∀ p ∈ rows, p.2 ≠ 0
  m : ∀ p ∈ rows, p.1.m ∈ M7
  p0 : ∀ p ∈ rows, 0 ≤ p.1.p
  p1 : ∀ p ∈ rows, p.1.p ≤ 4
  b : ∀ p ∈ rows, p.1.b.natAbs ≤ 1000001
  q : ∀ p ∈ rows, QC VV0 42 p.2
  len : rows.length ≤ 5
theorem fz_of {K : List (Kind × Rat)} (hl : K.length ≤ 5) (hK : ∀ p ∈ K, RowK p) : Fz (rowsT (addAll [] K)) where
  inc := tot_inc K
  nz := rows_tot_nz _
  m := tot_keys (C := fun k : Kind => k.m ∈ M7) fun p hp => (hK p hp).m
  p0 := tot_keys (C := fun k : Kind => 0 ≤ k.p) fun p hp => (hK p hp).p0
  p1 := tot_keys (C := fun k : Kind => k.p ≤ 4) fun p hp => (hK p hp).p1
  b := tot_keys (C := fun k : Kind => k.b.natAbs ≤ 1000001) fun p hp => (hK p hp).b
  q := fun p hp => by
    have := tot_qc (T := 5) hl (fun p hp => (hK p hp).q) p hp
    exact qc_mono this (by decide)
  len := Nat.le_trans (tot_len K) hl
theorem solP_len4 {B : Int} {p : Kind × Rat} (h0 : 0 ≤ p.1.p) (h1 : p.1.p ≤ 4) : (solP B p).length ≤ 5 := by
  unfold solP
  split
  · simp
  · rw [solQ_len]
    omega
theorem solL_len5 {B : Int} : ∀ {rows : List (Kind × Rat)}, (∀ p ∈ rows, 0 ≤ p.1.p) → (∀ p ∈ rows, p.1.p ≤ 4) → (solL B rows).length ≤ rows.length * 5
  | [], _, _ => Nat.zero_le _
  | p :: r, h, g => by
    unfold solL
    rw [List.flatMap_cons, List.length_append, List.length_cons]
    have h1 := solP_len4 (B := B) (h p List.mem_cons_self) (g p List.mem_cons_self)
    have h2 := solL_len5 (B := B) (rows := r) (fun x hx => h x (List.mem_cons_of_mem _ hx)) (fun x hx => g x (List.mem_cons_of_mem _ hx))
    unfold solL at h2
    omega
theorem Fz.slv {B : Int} {rows : List (Kind × Rat)} (h : Fz rows) (hB : B.natAbs ≤ 1000000) : Slv B rows where
  inc := h.inc
  nz := h.nz
  m := h.m
  p0 := h.p0
  p1 := fun p hp => by have := h.p1 p hp; omega
  b := fun p hp => Nat.le_trans (h.b p hp) (by decide)
  hB := Nat.le_trans hB (by decide)
  q := h.q
  fac := fun p hp => by
    have a0 := h.p0 p hp
    have a1 := h.p1 p hp
    have a2 := h.b p hp
    unfold dfac
    split
    · exact Nat.one_le_two_pow
    · rename_i z
      have hd : (p.1.b - B).natAbs ≤ 2 ^ 22 := by
        have : (2 : Nat) ^ 22 = 4194304 := by decide
        omega
      have h1 : 1 ≤ (p.1.b - B).natAbs := by omega
      refine Nat.le_trans (Nat.pow_le_pow_left hd _) ?_
      rw [← Nat.pow_mul]
      exact Nat.pow_le_pow_right (by decide) (by omega)
  len := h.len
  sl := by
    have := solL_len5 (B := B) h.p0 h.p1
    have := h.len
    omega
def Frm (z : D) : Prop := ∃ rows : List (Kind × Rat), z = toD rows ∧ Fz rows
theorem closed_emb {κ : Type} [Emb κ] {m : Nat} (xs : List κ) : closedL m (xs.map toD) = true := emb_closed m xs
theorem lform_spec {j : Nat} {base : Int} (hb : base.natAbs ≤ 1000000) (S : Sto) (hS : Sane S) (hj : Dr S j) : (m__law_form [.ptr j, .int 5, .lst [.int base, .int (0 - base), .int (base + 1)]] S).post fun z S' => Frm z ∧ Mv j S S' := by
  have sl : 16000000 ≤ sizeLine := by decide
  have hlt : j < S.length := let ⟨_, _, e, _⟩ := hj; (List.getElem?_eq_some_iff.mp e).1
  refine m_defMJ hS (fun z ⟨rows, e, _⟩ => by subst e; exact cl _ _) ?_
  show (b__law_form [some (.ptr j), some (.int 5), some (.lst [.int base, .int (0 - base), .int (base + 1)]), none, none, none] S).post _ _ _ _
  unfold b__law_form
  walk_at "3"
  with_reducible refine p_range1 ?_
  walk_at "3"
  have hS1 : Sane (S ++ [.lst []]) := sane_app hS rfl
  have hj1 : Dr (S ++ [.lst []]) j := dr_app' hj
  refine (lnext_spec (b := 5 + 1) (by decide) (by decide) _ hS1 hj1).mono ?_
  rintro z S2 ⟨⟨c, rfl, c0, c1⟩, mv2⟩
  obtain ⟨c, rfl⟩ := Int.eq_ofNat_of_zero_le c0
  obtain ⟨S3, e3, mv3⟩ := mv_of_app mv2 hlt
  subst e3
  walk_at "3"
  refine ⟨by omega, by omega, ?_⟩
  rw [rangeD_nat]
  have e0 : S.length = S3.length := mv3.len.symm
  refine s_forT (fun i : Nat => D.int i) (fun xs δ T => ∃ (K : List (Kind × Rat)) (S' : Sto) (o4 o5 : Option D), K.length + xs.length = c ∧ (∀ p ∈ K, RowK p) ∧ Mv j S S' ∧ T = S' ++ [.lst (K.map toD)] ∧ δ = [some (.ptr j), some (.int 5), some (.lst [.int base, .int (0 - base), .int (base + 1)]), some (.ptr S.length), o4, o5]) ?_ ?_ _ _ _ ⟨[], S3, _, _, by rw [List.length_range]; simp, (fun _ h => nomatch h), mv3, rfl, rfl⟩
  · rintro x xs δ T ⟨K, S', o4, o5, hl, hK, mv, rfl, rfl⟩
    rw [List.length_cons] at hl
    have hSS : Sane (S' ++ [.lst (K.map toD)]) := sane_app (mv.sane hS) (closed_emb K)
    have hjj : Dr (S' ++ [.lst (K.map toD)]) j := dr_app' (mv.dr hj)
    have hlt' : j < S'.length := by rw [mv.len]; exact hlt
    walk_at "3"
    refine (laround_spec (b := 3) (by decide) (by decide) _ hSS hjj).mono ?_
    rintro z S3 ⟨⟨v, rfl, v0, v1⟩, mv3⟩
    walk_at "3"
    refine o_catD (by simp; omega) ?_
    walk_at "3"
    refine (lnext_spec (b := 3 + 3) (by decide) (by decide) S3 (mv3.sane hSS) (mv3.dr hjj)).mono ?_
    rintro z S4 ⟨⟨i, rfl, i0, i1⟩, mv4⟩
    have mv4 := mv3.trans mv4
    refine ix_emb (xs := [base, 0 - base, base + 1, v, 0, 1]) i0 (by exact i1) fun bb hbb => ?_
    have hbb : bb.natAbs ≤ 1000001 := by
      simp only [List.mem_cons, List.not_mem_nil, or_false] at hbb
      omega
    walk_at "3"
    have g4 : S4[S.length]? = some (.lst (K.map toD)) := by
      rw [mv4.at (by omega), show S.length = S'.length from mv.len.symm]
      exact get_app
    refine p_append2 rfl g4 ?_
    walk_at "3"
    refine (lmono_spec S4 (mv4.sane hSS) (mv4.dr hjj)).mono ?_
    rintro z S5 ⟨⟨m, rfl, hm⟩, mv5⟩
    have mv5 := mv4.trans mv5
    walk_at "3"
    refine (lnext_spec (b := 6) (by decide) (by decide) S5 (mv5.sane hSS) (mv5.dr hjj)).mono ?_
    rintro z S6 ⟨⟨i, rfl, i0, i1⟩, mv6⟩
    have mv6 := mv5.trans mv6
    refine ix_emb (xs := [0, 0, 1, 2, 3, (4 : Int)]) i0 (by exact i1) fun pl hpl => ?_
    have hpl : 0 ≤ pl ∧ pl ≤ 4 := by
      simp only [List.mem_cons, List.not_mem_nil, or_false] at hpl
      omega
    walk_at "3"
    refine (lshare_spec S6 (mv6.sane hSS) (mv6.dr hjj)).mono ?_
    rintro z S7 ⟨⟨q, rfl, q0, qq⟩, mv7⟩
    have mv7 := mv6.trans mv7
    obtain ⟨S8, rfl, mv8⟩ := mv_of_app mv7 hlt'
    have mv9 := mv.trans mv8
    walk_at "3"
    refine ⟨K.map toD, ?_, by rw [List.length_map]; omega, ?_⟩
    · rw [show S.length = S8.length from mv9.len.symm]; exact get_app
    · rw [show S.length = S8.length from mv9.len.symm, set_app]
      refine ⟨K ++ [(Kind.mk m pl bb, q)], S8, _, _, by rw [List.length_append]; simp; omega, fun p hp => ?_, mv9, ?_, rfl⟩
      · rcases List.mem_append.mp hp with h | h
        · exact hK p h
        · rw [List.mem_singleton.mp h]
          exact ⟨hm, hpl.1, hpl.2, hbb, qq⟩
      · rw [List.map_append]; rfl
  · rintro δ T ⟨K, S', o4, o5, hl, hK, mv, rfl, rfl⟩
    have hl2 : K.length ≤ 5 := by
      have : K.length = c := by simpa using hl
      omega
    refine s_seq ?_
    refine s_freeze2 rfl (by rw [show S.length = S'.length from mv.len.symm]; exact get_app) ?_
    rw [show S.length = S'.length from mv.len.symm, set_app]
    dsimp only [List.set_cons_zero, List.set_cons_succ]
    walk_at "3"
    refine Res.post.of_eq (together_spec (K := K) (V := 2 ^ 41) (L := 42) (T := 5) hl2 (fun p hp => (hK p hp).q) (by decide) (by decide) (by decide) (by decide) (Nat.le_trans (show 2 ^ 41 * 5 * 42 ≤ 2 ^ 50 by decide) (Nat.pow_le_pow_right (by decide) (by decide))) _ (sane_app (mv.sane hS) rfl)) ?_
    refine ⟨⟨_, rfl, fz_of hl2 hK⟩, ?_⟩
    rw [List.take_left' rfl]
    exact mv
def Pln (z : D) : Prop := ∃ P : List (Mono × Rat), z = toD P ∧ Pb P
theorem lplain_spec {j : Nat} (S : Sto) (hS : Sane S) (hj : Dr S j) : (m__law_plain [.ptr j] S).post fun z S' => Pln z ∧ Mv j S S' := by
  have sl : 16000000 ≤ sizeLine := by decide
  refine m_defM hS (fun z ⟨q, e, _⟩ => by subst e; exact cl _ _) ?_
  show (b__law_plain [some (.ptr j), none] S).post _ _ _ _
  unfold b__law_plain
  walk_at "3"
  with_reducible refine p_lc ?_
  with_reducible refine p_range1 ?_
  walk_at "3"
  refine (lnext_spec (b := 4) (by decide) (by decide) S hS hj).mono ?_
  rintro z S1 ⟨⟨c, rfl, c0, c1⟩, mv1⟩
  obtain ⟨c, rfl⟩ := Int.eq_ofNat_of_zero_le c0
  walk_at "3"
  refine ⟨by omega, by omega, ?_⟩
  rw [rangeD_nat]
  with_reducible refine Res.post.mono (p_lcL (fun xs acc T => ∃ K : List (Mono × Rat), acc = K.map toD ∧ K.length + xs.length = c ∧ (∀ p ∈ K, p.1 ∈ M7 ∧ QC (2 ^ 41) 42 p.2) ∧ Mv j S T) ?_ _ [] S1 ?_) ?_
  · rintro x xs acc T ⟨K, rfl, hl, hK, mv⟩
    rw [List.length_cons] at hl
    dsimp only [wipeD, List.set_cons_zero, List.set_cons_succ]
    walk_at "3"
    refine (lmono_spec T (mv.sane hS) (mv.dr hj)).mono ?_
    rintro z T2 ⟨⟨m, rfl, hm⟩, mv2⟩
    have mv2 := mv.trans mv2
    walk_at "3"
    refine (lshare_spec T2 (mv2.sane hS) (mv2.dr hj)).mono ?_
    rintro z T3 ⟨⟨q, rfl, q0, qq⟩, mv3⟩
    walk_at "3"
    refine ⟨K ++ [(m, q)], by rw [List.map_append]; rfl, by rw [List.length_append]; simp; omega, fun p hp => ?_, mv2.trans mv3⟩
    rcases List.mem_append.mp hp with h | h
    · exact hK p h
    · rw [List.mem_singleton.mp h]; exact ⟨hm, qq⟩
  · exact ⟨[], rfl, by rw [List.length_map, List.length_range]; simp, (fun _ h => nomatch h), mv1⟩
  · rintro ys T ⟨K, e, hl, hK, mv⟩
    rw [List.nil_append] at e
    subst e
    have hl3 : K.length ≤ 3 := by
      have : K.length = c := by simpa using hl
      omega
    refine ⟨by rw [List.length_map]; omega, ?_⟩
    walk_at "3"
    refine Res.post.of_eq (together_spec (K := K) (V := 2 ^ 41) (L := 42) (T := 3) hl3 (fun p hp => (hK p hp).2) (by decide) (by decide) (by decide) (by decide) (Nat.le_trans (show 2 ^ 41 * 3 * 42 ≤ 2 ^ 50 by decide) (Nat.pow_le_pow_right (by decide) (by decide))) _ (mv.sane hS)) ?_
    refine ⟨⟨_, rfl, tot_inc K, rows_tot_nz _, tot_keys (C := fun m : Mono => m ∈ M7) fun p hp => (hK p hp).1, fun p hp => ?_⟩, mv⟩
    exact qc_mono (tot_qc (T := 3) hl3 (fun p hp => (hK p hp).2) p hp) (by decide)
end DL
set_option Elab.async false
set_option linter.all false
set_option maxRecDepth 100000
set_option maxHeartbeats 4000000
set_option autoImplicit false
/-! k32: the law's own solving. -/
namespace DL
open PySem L2
open Emb
local macro_rules | `(tactic| walk_at "1") => `(tactic| with_reducible first
  | refine s_seq ?_ | refine s_asg ?_ | refine s_ret ?_ | refine s_if ?_ | refine s_expr ?_ | refine s_next ?_ | refine s_brk ?_ | refine s_cont ?_ | refine s_for ?_ | refine s_while ?_
  | refine p_c ?_ | refine p_bin ?_ | refine p_as ?_ | refine p_cons ?_ | refine p_nil ?_ | refine p_un ?_ | refine p_call ?_ | refine p_if ?_ | refine p_own ?_
  | refine p_keep ?_ | refine p_tru ?_ | refine p_and ?_ | refine p_or ?_ | refine p_not ?_ | refine p_val ?_ | refine p_rand ?_ | refine p_ror ?_ | refine p_rnot ?_ | refine p_chain ?_ | refine p_bif ?_
  | refine o_add ?_ | refine o_sub ?_ | refine o_ltU ?_ | refine o_leU ?_ | refine o_gtU ?_ | refine o_geU ?_ | refine o_neg ?_ | refine o_eqI ?_ | refine o_neI ?_ | refine o_abs ?_ | refine o_tru ?_ | refine p_true ?_ | refine p_false ?_
  | refine o_lenT ?_ | refine o_lenL ?_ | refine o_ix0 ?_ | refine o_ix1 ?_ | refine o_ix2 ?_ | refine o_ix0L ?_ | refine o_ix1L ?_ | refine o_ix2L ?_
  | refine s_par ?_ | refine p_yes ?_ | refine p_seq ?_ | refine s_gnil ?_ | refine s_gcons ?_ | refine s_gtux ?_ | refine s_gtupl ?_ | refine p_onone ?_ | refine p_osome ?_ | refine p_get2 ?_ | refine s_putU ?_ | refine p_sortIt ?_)
local macro_rules | `(tactic| walk_at "2") => `(tactic| first
  | walk_at "1"
  | (with_reducible refine p_var2 ?_)
  | ((with_reducible refine s_name ?_ ?_); (· exact Nat.le_of_ble_eq_true rfl); dsimp only [List.set_cons_zero, List.set_cons_succ])
  | (with_reducible refine p_tup ?_) | (with_reducible refine p_lst ?_) | ((with_reducible refine ⟨?_, ?_⟩); (· exact Nat.le_of_ble_eq_true rfl))
  | ((with_reducible refine p_ex2 (x := ?_) (y := ?_) ?_ ?_); rotate_left; rotate_left; (· rfl); refine ⟨?_, ?_, ?_⟩; (· exact Nat.le_of_ble_eq_true rfl); (· exact Nat.le_of_ble_eq_true rfl); dsimp only [List.set_cons_zero, List.set_cons_succ])
  | ((with_reducible refine p_isT ?_ ?_); (· rfl)) | ((with_reducible refine p_isF ?_ ?_); (· rfl))
  | ((with_reducible refine p_ex (x := ?_) ?_ ?_); rotate_left; (· rfl)))
local macro_rules | `(tactic| walk_at "3") => `(tactic| repeat walk_at "2")
theorem lowest_neg (a b : Int) (hb : b < 0) (hl : b.natAbs < 2 ^ 8990) (S : Sto) (hS : Sane S) : m__law_lowest [.int a, .int b] S = .ok (toD ((a : Rat) / (b : Rat))) S := by
  obtain ⟨k, rfl⟩ : ∃ k : Nat, b = -(k : Int) := ⟨b.natAbs, by omega⟩
  have hk : (0 : Int) < k := by omega
  have hg : 0 < Int.gcd (-a) k := Int.gcd_pos_of_ne_zero_right _ (by omega)
  have hgk : Int.gcd (-a) k ≤ k := Nat.gcd_le_right (n := k) (-a).natAbs (by omega)
  have lg : (-((Int.gcd (-a) k : Nat) : Int)).natAbs.log2 < 9000 := log_of (b := 8990) (by omega) (by decide)
  have e := rat_of (a := -a) (b := k) hk
  have ev : (a : Rat) / ((-(k : Int) : Int) : Rat) = ((-a : Int) : Rat) / (((k : Int)) : Rat) := by push_cast; grind
  rw [ev, toD_rat, e.1, e.2]
  refine m_defS hS rfl ?_
  show (b__law_lowest [some (.int a), some (.int (-(k : Int))), none, none] S).post _ _ _ _
  unfold b__law_lowest
  have ek : (-(k : Int)).natAbs = k := by omega
  walk_at "3"
  refine s_whileL (fun n δ S1 => S1 = S ∧ ∃ x y : Nat, y ≤ n ∧ Nat.gcd x y = Int.gcd (-a) k ∧ δ = [some (.int a), some (.int (-(k : Int))), some (.int x), some (.int y)]) ?_ k _ _ _ ⟨rfl, a.natAbs, k, Nat.le_refl _, by show Nat.gcd a.natAbs k = Nat.gcd (-a).natAbs ((k : Int)).natAbs; rw [Int.natAbs_neg]; rfl, by rw [ek]⟩ (by show k < (((-(k : Int)).natAbs : Nat) : Int).natAbs + 1; rw [ek]; show k < k + 1; omega)
  rintro n δ S1 ⟨rfl, x, y, hn, hgc, rfl⟩
  walk_at "3"
  constructor
  · intro h
    have h : (0 : Int) < y := of_decide_eq_true h
    have hy : 0 < y := by omega
    obtain ⟨m, rfl⟩ : ∃ m, n = m + 1 := ⟨n - 1, by omega⟩
    refine ⟨m, rfl, ?_⟩
    walk_at "3"
    refine o_mod (by omega) ?_
    walk_at "3"
    have e : Int.fmod x y = ((x % y : Nat) : Int) := by rw [Int.fmod_eq_emod_of_nonneg _ (by omega)]; rfl
    have l : x % y < y := Nat.mod_lt _ hy
    refine ⟨rfl, y, x % y, by omega, ?_, by rw [e]⟩
    rw [← hgc, Nat.gcd_comm y, ← Nat.gcd_rec, Nat.gcd_comm]
  · intro h
    have h : ¬ (0 : Int) < y := of_decide_eq_false h
    have hy : y = 0 := by omega
    subst hy
    have ex : x = Int.gcd (-a) k := by rw [← hgc, Nat.gcd_zero_right]
    rw [ex]
    walk_at "3"
    refine ⟨fun _ => ?_, fun z => absurd (of_decide_eq_false z) (by omega)⟩
    walk_at "3"
    rw [show (0 : Int) - ((Int.gcd (-a) k : Nat) : Int) = -((Int.gcd (-a) k : Nat) : Int) by omega]
    refine o_div ⟨by omega, lg⟩ ?_
    walk_at "3"
    refine o_div ⟨by omega, lg⟩ ?_
    walk_at "3"
    refine ⟨?_, rfl⟩
    have e1 := Int.neg_fdiv_neg (-a) ((Int.gcd (-a) k : Nat) : Int)
    rw [Int.neg_neg] at e1
    have e2 := Int.neg_fdiv_neg (k : Int) ((Int.gcd (-a) k : Nat) : Int)
    rw [e1, e2]
theorem lowest_any (a b : Int) (hb : b ≠ 0) (hl : b.natAbs < 2 ^ 8990) (S : Sto) (hS : Sane S) : m__law_lowest [.int a, .int b] S = .ok (toD ((a : Rat) / (b : Rat))) S := by
  rcases Int.lt_or_gt_of_ne hb with h | h
  · exact lowest_neg a b h hl S hS
  · exact lowest_spec a b h hl S hS
theorem rat_mulQ (x y : Rat) : ((x.num * y.num : Int) : Rat) / (((x.den : Int) * (y.den : Int) : Int) : Rat) = x * y := by
  have h1 := rat_nd x
  have h2 := rat_nd y
  have d1 : ((x.den : Nat) : Rat) ≠ 0 := by simp [x.den_nz]
  have d2 : ((y.den : Nat) : Rat) ≠ 0 := by simp [y.den_nz]
  push_cast
  generalize ((x.den : Nat) : Rat) = a at *
  generalize ((y.den : Nat) : Rat) = b at *
  rw [← h1, ← h2]
  grind
theorem ltimes_spec (x y : Rat) {B : Nat} (hx : RB' B x) (hy : RB' B y) (hB : B ≤ 2 ^ 4000) (S : Sto) (hS : Sane S) : m__law_times [toD x, toD y] S = .ok (toD (x * y)) S := by
  refine m_defS hS (cl _ _) ?_
  show (b__law_times [some (.tup [.int x.num, .int x.den]), some (.tup [.int y.num, .int y.den])] S).post _ _ _ _
  unfold b__law_times
  have f : ∀ {a b : Int}, a.natAbs ≤ B → b.natAbs ≤ B → mulFits a b = true := fun h1 h2 => fits_of (a := 4001) (b := 4001) (by omega) (by omega) (by decide)
  have dx : ((x.den : Int)).natAbs ≤ B := hx.2
  have dy : ((y.den : Int)).natAbs ≤ B := hy.2
  walk_at "3"
  refine o_mul (f hx.1 hy.1) ?_
  walk_at "3"
  refine o_mul (f dx dy) ?_
  walk_at "3"
  refine Res.post.of_eq (lowest_spec _ _ (Int.mul_pos (den_pos' x) (den_pos' y)) ?_ S hS) ⟨by rw [rat_mulQ], rfl⟩
  rw [Int.natAbs_mul]
  have := Nat.mul_le_mul (Nat.le_trans dx hB) (Nat.le_trans dy hB)
  exact Nat.lt_of_le_of_lt this (by rw [← Nat.pow_add]; exact Nat.pow_lt_pow_right (by decide) (by decide))
/-! ### plain -/
def sgq (j : Nat) : Int := if j % 2 = 0 then 1 else -1
def vv (s : Rat) (d : Int) (j : Nat) : Rat := s * (((sgq j : Int) : Rat) / ((d ^ (j + 1) : Int) : Rat))
theorem sgq_succ (j : Nat) : sgq (j + 1) = -sgq j := by
  unfold sgq
  rcases (by omega : j % 2 = 0 ∨ j % 2 = 1) with h | h
  · rw [if_neg (by omega), if_pos h]
  · rw [if_pos (by omega), if_neg (by omega)]; rfl
theorem vv_zero (s : Rat) (d : Int) : vv s d 0 = s / (d : Rat) := by
  unfold vv
  rw [show sgq 0 = 1 from rfl, Int.pow_succ, Int.pow_zero, Int.one_mul]
  push_cast
  grind
theorem vv_succ (s : Rat) {d : Int} (hd : d ≠ 0) (j : Nat) : vv s d (j + 1) = vv (-1 * (s / (d : Rat))) d j := by
  unfold vv
  rw [sgq_succ, Int.pow_succ d (j + 1)]
  have h1 : (d : Rat) ≠ 0 := by simpa using hd
  have h2 : ((d ^ (j + 1) : Int) : Rat) ≠ 0 := by
    have h3 : d ^ (j + 1) ≠ 0 := Int.pow_ne_zero hd
    exact fun e => h3 (by exact_mod_cast e)
  push_cast at h2 ⊢
  generalize (d : Rat) ^ (j + 1) = y at *
  generalize (d : Rat) = z at *
  grind
def lawQ (m : Mono) (b d : Int) (s : Rat) (P : Nat) : List (Kind × Rat) := (List.range (P + 1)).map fun at_ : Nat => (Kind.mk m (at_ : Int) b, vv s d (P - at_))
theorem lawQ_succ (m : Mono) (b : Int) {d : Int} (hd : d ≠ 0) (s : Rat) (P : Nat) : lawQ m b d s (P + 1) = lawQ m b d (-1 * (s / (d : Rat))) P ++ [(Kind.mk m ((P + 1 : Nat) : Int) b, s / (d : Rat))] := by
  unfold lawQ
  rw [List.range_succ, List.map_append, List.map_singleton, Nat.sub_self, vv_zero]
  congr 1
  refine List.map_congr_left fun k hk => ?_
  have := List.mem_range.mp hk
  rw [show P + 1 - k = (P - k) + 1 by omega, vv_succ s hd]
theorem lawQ_perm (m : Mono) (b : Int) {d : Int} (hd : d ≠ 0) : ∀ (P : Nat) (s : Rat), (lawQ m b d s P).Perm (solQ m b (d : Rat) s P)
  | 0, s => by
    unfold lawQ
    rw [show List.range (0 + 1) = [0] from rfl, List.map_singleton, vv_zero]
    exact List.Perm.refl _
  | P + 1, s => by
    rw [lawQ_succ m b hd]
    refine List.perm_append_comm.trans ?_
    exact (lawQ_perm m b hd P _).cons _
def lawP (B : Int) (p : Kind × Rat) : List (Kind × Rat) := if p.1.b = B then [(Kind.mk p.1.m (p.1.p + 1) B, p.2)] else lawQ p.1.m p.1.b (p.1.b - B) p.2 p.1.p.toNat
def lawL (B : Int) (rows : List (Kind × Rat)) : List (Kind × Rat) := rows.flatMap (lawP B)
theorem lawP_perm (B : Int) (p : Kind × Rat) : (lawP B p).Perm (solP B p) := by
  unfold lawP solP
  by_cases h : p.1.b = B
  · rw [if_pos h, if_pos h]
  · rw [if_neg h, if_neg h]
    exact lawQ_perm _ _ (by omega) _ _
theorem lawL_perm (B : Int) : ∀ rows : List (Kind × Rat), (lawL B rows).Perm (solL B rows)
  | [] => List.Perm.refl _
  | p :: r => by
    unfold lawL solL
    rw [List.flatMap_cons, List.flatMap_cons]
    exact (lawP_perm B p).append (lawL_perm B r)
theorem con_perm {κ : Type} [DecidableEq κ] {K M : List (κ × Rat)} (h : K.Perm M) (q : κ) : con K q = con M q := by
  unfold con
  induction h with
  | nil => rfl
  | cons x _ ih => rw [sumR_cons, sumR_cons, ih]
  | swap x y l => rw [sumR_cons, sumR_cons, sumR_cons, sumR_cons]; grind
  | trans _ _ a b => rw [a, b]
theorem law_solT (B : Int) (rows : List (Kind × Rat)) : rowsT (addAll [] (lawL B rows)) = solT B rows := tot_one fun q => con_perm (lawL_perm B rows) q
theorem rest_law {B : Int} {rows : List (Kind × Rat)} {P : List (Mono × Rat)} (nP : ND P) : rowsT (addAll [] (P ++ (atT (solT B rows) 0).map fun p => (p.1, (-1 : Rat) * p.2))) = restT B rows P := by
  have nd0 : ND ([] : List (Mono × Rat)) := List.nodup_nil
  have nA := nd_at (solT B rows) 0
  refine rows_ext (nd_addAll _ _ nd0) (nd_sum nP) fun q => ?_
  rw [← at0_rows (nd_addAll _ _ nd0), at0_tot, con_appR, con_nd nP, con_nd (nd_map_scaled nA _), at0_mscaled, at0_sum nP (nd_less nA), at0_less nA]
theorem on_law {B : Int} {rows : List (Kind × Rat)} {rest : List (Mono × Rat)} (nr : ND rest) : rowsT (addAll [] (solT B rows ++ rest.map fun p => (Kind.mk p.1 0 B, p.2))) = rowsT (sumT (solT B rows) (kindT B rest)) := by
  have nd0 : ND ([] : List (Kind × Rat)) := List.nodup_nil
  have ns : ND (solT B rows) := nd_tot _
  refine rows_ext (nd_addAll _ _ nd0) (nd_sum ns) fun q => ?_
  rw [← at0_rows (nd_addAll _ _ nd0), at0_tot, con_appR, con_nd ns, con_nd (nd_kind nr), at0_sum ns (nd_kindT nr)]
  congr 1
  unfold kindT
  rw [merge_id (nd_kind nr), at0_rows (nd_kind nr)]
end DL
set_option Elab.async false
set_option linter.all false
set_option maxRecDepth 100000
set_option maxHeartbeats 4000000
set_option autoImplicit false
/-! k32: the law's own solving, walked. -/
namespace DL
open PySem L2
open Emb
local macro_rules | `(tactic| walk_at "1") => `(tactic| with_reducible first
  | refine s_seq ?_ | refine s_asg ?_ | refine s_ret ?_ | refine s_if ?_ | refine s_expr ?_ | refine s_next ?_ | refine s_brk ?_ | refine s_cont ?_ | refine s_for ?_ | refine s_while ?_
  | refine p_c ?_ | refine p_bin ?_ | refine p_as ?_ | refine p_cons ?_ | refine p_nil ?_ | refine p_un ?_ | refine p_call ?_ | refine p_if ?_ | refine p_own ?_
  | refine p_keep ?_ | refine p_tru ?_ | refine p_and ?_ | refine p_or ?_ | refine p_not ?_ | refine p_val ?_ | refine p_rand ?_ | refine p_ror ?_ | refine p_rnot ?_ | refine p_chain ?_ | refine p_bif ?_
  | refine o_add ?_ | refine o_sub ?_ | refine o_ltU ?_ | refine o_leU ?_ | refine o_gtU ?_ | refine o_geU ?_ | refine o_neg ?_ | refine o_eqI ?_ | refine o_neI ?_ | refine o_abs ?_ | refine o_tru ?_ | refine p_true ?_ | refine p_false ?_
  | refine o_lenT ?_ | refine o_lenL ?_ | refine o_ix0 ?_ | refine o_ix1 ?_ | refine o_ix2 ?_ | refine o_ix0L ?_ | refine o_ix1L ?_ | refine o_ix2L ?_
  | refine s_par ?_ | refine p_yes ?_ | refine p_seq ?_ | refine s_gnil ?_ | refine s_gcons ?_ | refine s_gtux ?_ | refine s_gtupl ?_ | refine p_onone ?_ | refine p_osome ?_ | refine p_get2 ?_ | refine s_putU ?_ | refine p_sortIt ?_)
local macro_rules | `(tactic| walk_at "2") => `(tactic| first
  | walk_at "1"
  | (with_reducible refine p_var2 ?_)
  | ((with_reducible refine s_name ?_ ?_); (· exact Nat.le_of_ble_eq_true rfl); dsimp only [List.set_cons_zero, List.set_cons_succ])
  | (with_reducible refine p_tup ?_) | (with_reducible refine p_lst ?_) | ((with_reducible refine ⟨?_, ?_⟩); (· exact Nat.le_of_ble_eq_true rfl))
  | ((with_reducible refine p_ex2 (x := ?_) (y := ?_) ?_ ?_); rotate_left; rotate_left; (· rfl); refine ⟨?_, ?_, ?_⟩; (· exact Nat.le_of_ble_eq_true rfl); (· exact Nat.le_of_ble_eq_true rfl); dsimp only [List.set_cons_zero, List.set_cons_succ])
  | ((with_reducible refine p_isT ?_ ?_); (· rfl)) | ((with_reducible refine p_isF ?_ ?_); (· rfl))
  | ((with_reducible refine p_ex (x := ?_) ?_ ?_); rotate_left; (· rfl)))
local macro_rules | `(tactic| walk_at "3") => `(tactic| repeat walk_at "2")
theorem small_tenB {x : Nat} (h : x ≤ 10 ^ 10) : x ≤ 10 ^ 1000 := Nat.le_trans h (Nat.pow_le_pow_right (by decide) (by decide))
theorem rat_nd' (q : Rat) : (q.num : Rat) / (((q.den : Int)) : Rat) = q := rat_nd q
section
variable {B : Int} {rws rows : List (Kind × Rat)} {P : List (Mono × Rat)}
theorem on_rb (h : Onn B rws P) (hs : Slv B rws) : ∀ p ∈ onT B rws P, RB' (10 ^ 1000) p.2 := fun p hp => rb_mono (qc_rb vo_pos (lb_pos B rws) (h.q p hp)) (le_ten (hs.big (by decide)))
theorem kd_fit {p : Kind × Rat} (hk : Kd p.1) (hq : RB' (10 ^ 1000) p.2) : FitE (15300 + 2019 + 7) p :=
  fitE_pair (fitE_kind (m7_ok _ hk.m) (small_tenB (by have := hk.p0; have := hk.p1; omega)) (small_tenB (Nat.le_trans hk.b (by decide))) (by decide)) (fitE_rat hq)
theorem on_fit (h : Onn B rws P) (hs : Slv B rws) : ∀ p ∈ onT B rws P, FitE (15300 + 2019 + 7) p := fun p hp => kd_fit (h.k p hp) (on_rb h hs p hp)
structure OnI (rows : List (Kind × Rat)) : Prop where
  inc : Inc rows
  nz : ∀ p ∈ rows, p.2 ≠ 0
theorem Onn.toI (h : Onn B rws P) : OnI (onT B rws P) := ⟨h.inc, h.nz⟩
theorem lenD_dic {S : Sto} {j : Nat} {u : D} (hd : IsDic u rows) (hj : S[j]? = some u) : gLenD S [.ptr j] = some (.int rows.length) := by
  have e := dic_deref hd hj
  unfold gLenD
  dsimp only
  rw [e]
  rcases hd with ⟨rfl, rfl⟩ | ⟨_, rfl⟩ | ⟨_, rfl⟩
  · rfl
  · dsimp only; rw [kvD_len]
  · dsimp only; rw [kvD_len]
theorem is_form_spec (h : Onn B rws P) (hs : Slv B rws) (S : Sto) (hS : Sane S) : m__law_is_form [toD (onT B rws P)] S = .ok (.bl true) S := by
  have sl : 200000 ≤ sizeLine := by decide
  have hl := h.len
  have hrb := on_rb h hs
  have hfit := on_fit h hs
  have h := h.toI
  generalize onT B rws P = rows at *
  have hfp := (fitE_list hfit).1
  refine m_defJ hS rfl ?_
  show (b__law_is_form [some (toD rows), none, none] S).post _ _ _ _
  unfold b__law_is_form
  refine s_seq ?_
  refine s_if ?_
  refine p_or ?_
  refine p_not ?_
  refine p_tru ?_
  refine p_as ?_
  walk_at "3"
  refine p_lift (a := .bl true) rfl ?_
  refine o_tru ?_
  refine ⟨(fun z => nomatch z), fun _ => ?_⟩
  refine p_val ?_
  refine p_bin ?_
  refine p_keep ?_
  refine p_as ?_
  refine p_cons (p_var rfl (p_nil ?_))
  refine p_lift (a := .lst (rows.map toD)) rfl ⟨_, rfl, ?_⟩
  refine p_keep ?_
  refine p_as ?_
  refine p_cons (p_var rfl (p_nil ?_))
  refine p_lift (a := .lst (rows.map toD)) (by
    show (sortD S (rows.map toD)).map D.lst = _
    rw [sortD_emb S rows (by omega), srt_inc h.inc]
    rfl) ⟨_, rfl, ?_⟩
  refine o_neLst hfp hfp (by decide) ?_
  rw [decide_eq_true rfl]
  refine ⟨_, rfl, ?_⟩
  refine ⟨(fun z => nomatch z), fun _ => ?_⟩
  refine s_next ?_
  refine s_seq ?_
  refine s_for ?_
  refine p_seq (p_var rfl (.inr (.inl ⟨rows.map toD, rfl, ?_⟩)))
  refine s_forT toD (fun xs δ S2 => S2 = S ∧ (∀ p ∈ xs, p ∈ rows) ∧ ∃ o1 o2 : Option D, δ = [some (toD rows), o1, o2]) ?_ ?_ _ _ _ ⟨rfl, fun _ h => h, _, _, rfl⟩
  · rintro x xs δ S2 ⟨rfl, hin, o1, o2, rfl⟩
    have hx := hin x List.mem_cons_self
    have hq := hrb x hx
    show (gTup _ (.tup [toD x.1, .tup [.int x.2.num, .int x.2.den]]) _ _).post _
    walk_at "3"
    refine Res.post.of_eq (lowest_spec x.2.num x.2.den (den_pos' x.2) (Nat.lt_of_le_of_lt hq.2 (Nat.lt_of_le_of_lt (Nat.pow_le_pow_left (show 10 ≤ 2 ^ 4 by decide) 1000) (by rw [← Nat.pow_mul]; exact Nat.pow_lt_pow_right (by decide) (by decide)))) _ hS) ?_
    rw [rat_nd']
    walk_at "3"
    refine o_neEmb (fitE_rat hq).1 (fitE_rat hq).1 (by decide) ?_
    rw [decide_eq_true rfl]
    walk_at "3"
    have hz := h.nz x hx
    refine ⟨fun z => absurd (rat_num0.mp (by simpa using z)) hz, fun _ => ?_⟩
    walk_at "3"
    exact ⟨rfl, fun p hp => hin p (List.mem_cons_of_mem _ hp), _, _, rfl⟩
  · rintro δ S2 ⟨rfl, hin, o1, o2, rfl⟩
    obtain ⟨u, e1, e2, hu⟩ := dict_of S2 rows
    rw [merge_id (inc_nd h.inc)] at hu
    refine s_ret ?_
    refine p_bin ?_
    refine p_as ?_
    refine p_cons ?_
    refine p_own ?_
    refine p_as ?_
    refine p_cons (p_var rfl (p_nil ?_))
    refine p_lift e2 ?_
    refine p_nil ?_
    refine p_lift (lenD_dic hu get_app) ?_
    refine p_as ?_
    refine p_cons (p_var rfl (p_nil ?_))
    refine p_lift (a := .int rows.length) (by
      show some (D.int (rows.map toD).length) = _
      rw [List.length_map]) ?_
    refine o_eqI ?_
    rw [beq_self_eq_true]
    exact ⟨rfl, take_app⟩
theorem worth_kd {V L c T : Nat} {f : List (Kind × Rat)} (hk : ∀ p ∈ f, Kd p.1) (hq : ∀ p ∈ f, QC V L p.2) (hV : 1 ≤ V) (hV2 : V ≤ 2 ^ 80) (hL : 1 ≤ L) (hL2 : L ≤ 2 ^ 556) (hT : f.length ≤ T) (hT0 : 1 ≤ T) (hT1 : T ≤ 256) (hc : c ≤ 10) (S : Sto) (hS : Sane S) : m__law_worth [toD f, .int c] S = .ok (toD (atT f c)) S := by
  refine worth_spec (T := T) (A := 2 ^ 21) (rc_kd hk hq) (Nat.pow_pos (by decide)) (by decide) (by decide) (by omega) hV hL hT hT0 (by omega) ?_ S hS
  have e : (2 * 2 ^ 21) ^ c ≤ 2 ^ 220 := by
    rw [show 2 * 2 ^ 21 = 2 ^ 22 from rfl, ← Nat.pow_mul]
    exact Nat.pow_le_pow_right (by decide) (by omega)
  have h1 := Nat.mul_le_mul (Nat.mul_le_mul (Nat.mul_le_mul hV2 e) (show T ≤ 2 ^ 8 from hT1)) hL2
  rw [← Nat.pow_add, ← Nat.pow_add, ← Nat.pow_add] at h1
  exact Nat.le_trans h1 (Nat.pow_le_pow_right (by decide) (by decide))
theorem rat_minus (q : Rat) : (toD (-1 * q) : D) = .tup [.int (0 - q.num), .int q.den] := by
  rw [show (-1 : Rat) * q = -q by grind, toD_rat, Rat.neg_num, Rat.neg_den]
  rw [show 0 - q.num = -q.num by omega]
theorem part_qc {d : Int} (hd : d ≠ 0) (j : Nat) : QC 1 (d ^ (j + 1)).natAbs (((sgq j : Int) : Rat) / ((d ^ (j + 1) : Int) : Rat)) := by
  have h3 : d ^ (j + 1) ≠ 0 := Int.pow_ne_zero hd
  have h1 := inv_qc h3
  unfold sgq
  split
  · exact h1
  · have := neg_qc h1
    rw [show (((-1 : Int)) : Rat) / ((d ^ (j + 1) : Int) : Rat) = -1 * (1 / ((d ^ (j + 1) : Int) : Rat)) by push_cast; grind]
    exact this
theorem sgq_at (j : Nat) : atI [D.int 1, .int (-1)] ((j % 2 : Nat) : Int) = some (.int (sgq j)) := by
  unfold sgq
  rcases (by omega : j % 2 = 0 ∨ j % 2 = 1) with h | h
  · rw [h]; rfl
  · rw [h]; rfl
theorem lawQ_take (m : Mono) (b d : Int) (s : Rat) {P y : Nat} (h : y < P + 1) : (lawQ m b d s P).take (y + 1) = (lawQ m b d s P).take y ++ [(Kind.mk m (y : Int) b, vv s d (P - y))] := by
  rw [List.take_succ]
  congr 1
  unfold lawQ
  rw [List.getElem?_map, List.getElem?_range h]
  rfl
theorem law_one_spec (h : Slv B rows) (hP : Pb P) (S : Sto) (hS : Sane S) : m__law_one [.int B, toD rows, toD P] S = .ok (toD (onT B rows P)) S := by
  have sl : 200000 ≤ sizeLine := by decide
  have hlp := lawL_perm B rows
  have hll : (lawL B rows).length ≤ 200 := by rw [hlp.length_eq]; exact h.sl
  have hlq : ∀ x ∈ lawL B rows, QC VV0 (LB B rows) x.2 := fun x hx => (h.ok x (hlp.mem_iff.mp hx)).2
  have hLp := lb_pos B rows
  have nP := inc_nd hP.inc
  have lP := len_m7 nP hP.m
  have nA := nd_at (solT B rows) 0
  have mA : ∀ p ∈ atT (solT B rows) 0, p.1 ∈ M7 := at_m7 fun p hp => (h.sk p hp).m
  have lA := len_m7 nA mA
  have qA := h.a0
  have nR : ND (restT B rows P) := nd_rest nP
  have mR := h.rm hP
  have qR := h.rq hP
  have lR := len_m7 nR mR
  have tl := h.tl
  have b22 : ∀ p ∈ rows, (p.1.b - B).natAbs ≤ 2 ^ 22 := fun p hp => by have := h.b p hp; have := h.hB; have h22 : (2 : Nat) ^ 22 = 2 * 2 ^ 21 := (by decide); omega
  refine m_defJ hS (cl _ _) ?_
  show (b__law_one [some (.int B), some (.tup (rows.map toD)), some (.tup (P.map toD)), none, none, none, none, none, none, none, none, none, none] S).post _ _ _ _
  unfold b__law_one
  walk_at "3"
  refine .inr (.inl ⟨rows.map toD, rfl, ?_⟩)
  refine s_forT toD (fun xs δ S2 => ∃ (acc : List (Kind × Rat)) (o4 o5 o6 o7 o8 o9 : Option D), S2 = S ++ [.lst (acc.map toD)] ∧ (∀ p ∈ xs, p ∈ rows) ∧ acc ++ lawL B xs = lawL B rows ∧ δ = [some (.int B), some (.tup (rows.map toD)), some (.tup (P.map toD)), some (.ptr S.length), o4, o5, o6, o7, o8, o9, none, none, none]) ?_ ?_ _ _ _ ⟨[], none, none, none, none, none, none, rfl, (fun _ z => z), rfl, rfl⟩
  · rintro x xs δ S2 ⟨acc, o4, o5, o6, o7, o8, o9, rfl, hin, he, rfl⟩
    have hx := hin x List.mem_cons_self
    have hin' : ∀ p ∈ xs, p ∈ rows := fun p hp => hin p (List.mem_cons_of_mem _ hp)
    have p0 := h.p0 x hx
    have p1 := h.p1 x hx
    have es : lawL B (x :: xs) = lawP B x ++ lawL B xs := by unfold lawL; rw [List.flatMap_cons]
    rw [es] at he
    have hlen := congrArg List.length he
    rw [List.length_append, List.length_append] at hlen
    have hSa : ∀ ys : List (Kind × Rat), Sane (S ++ [.lst (ys.map toD)]) := fun ys => sane_app hS (closed_emb ys)
    show (gTup _ (.tup [.tup [toD x.1.m, .int x.1.p, .int x.1.b], toD x.2]) _ _).post _
    walk_at "3"
    refine ⟨fun hb => ?_, fun hb => ?_⟩
    · have hb : x.1.b = B := by simpa using hb
      have ep : lawP B x = [(Kind.mk x.1.m (x.1.p + 1) B, x.2)] := if_pos hb
      rw [ep] at he
      walk_at "3"
      refine p_append2 rfl get_app ?_
      walk_at "3"
      refine ⟨acc.map toD, get_app, by rw [List.length_map]; omega, ?_⟩
      rw [set_app]
      refine ⟨acc ++ [(Kind.mk x.1.m (x.1.p + 1) B, x.2)], _, _, _, _, _, _, by rw [List.map_append]; rfl, hin', by rw [List.append_assoc]; exact he, rfl⟩
    · have hb : x.1.b ≠ B := by simpa using hb
      have hd0 : x.1.b - B ≠ 0 := by omega
      have hd2 := b22 x hx
      obtain ⟨Pn, hPn⟩ : ∃ Pn : Nat, x.1.p = Pn := ⟨x.1.p.toNat, by omega⟩
      have hP8 : Pn ≤ 98 := by omega
      have ep : lawP B x = lawQ x.1.m x.1.b (x.1.b - B) x.2 Pn := by
        unfold lawP
        rw [if_neg hb, hPn]
        rfl
      rw [ep] at he hlen
      rw [hPn]
      have hs2 : RB' (2 ^ 4000) x.2 := rb_mono (qc_rb v0_pos (by decide) (h.q x hx)) (Nat.le_trans (show VV0 * 42 ≤ 2 ^ 60 by decide) (Nat.pow_le_pow_right (by decide) (by decide)))
      have el : (lawQ x.1.m x.1.b (x.1.b - B) x.2 Pn).length = Pn + 1 := by unfold lawQ; rw [List.length_map, List.length_range]
      rw [el] at hlen
      walk_at "3"
      with_reducible refine p_range1 ?_
      walk_at "3"
      refine ⟨by omega, by omega, ?_⟩
      rw [show (Pn : Int) + 1 = ((Pn + 1 : Nat) : Int) by omega, rangeD_nat]
      refine s_forT (fun k : Nat => D.int k) (fun ks δ S2 => ∃ (k : Nat) (o8 o9 : Option D), k + ks.length = Pn + 1 ∧ ks = (List.range (Pn + 1)).drop k ∧ S2 = S ++ [.lst ((acc ++ (lawQ x.1.m x.1.b (x.1.b - B) x.2 Pn).take k).map toD)] ∧ δ = [some (.int B), some (.tup (rows.map toD)), some (.tup (P.map toD)), some (.ptr S.length), some (toD x.1.m), some (.int (Pn : Int)), some (.int x.1.b), some (toD x.2), o8, o9, none, none, none]) ?_ ?_ _ _ _ ⟨0, _, _, by rw [List.length_range]; omega, rfl, by rw [List.take_zero, List.append_nil], rfl⟩
      · rintro y ks δ S2 ⟨k, o8, o9, hk, hks, rfl, rfl⟩
        rw [List.length_cons] at hk
        have hkn : k < Pn + 1 := by omega
        have hyy : y = k ∧ ks = (List.range (Pn + 1)).drop (k + 1) := by
          rw [List.drop_eq_getElem_cons (by rw [List.length_range]; exact hkn), List.getElem_range] at hks
          exact ⟨(List.cons.inj hks).1, (List.cons.inj hks).2⟩
        obtain ⟨rfl, hks⟩ := hyy
        obtain ⟨jn, hj⟩ : ∃ jn : Nat, jn = Pn - y := ⟨_, rfl⟩
        have ej : (Pn : Int) - (y : Int) = (jn : Int) := by omega
        walk_at "3"
        rw [ej]
        refine o_mod (by decide) ?_
        rw [show Int.fmod (jn : Int) 2 = ((jn % 2 : Nat) : Int) by rw [Int.fmod_eq_emod_of_nonneg _ (by decide)]; rfl]
        refine o_ixL (sgq_at jn) ?_
        walk_at "3"
        rw [ej]
        have hpwr := lpower_spec (x.1.b - B) (jn + 1) (by omega) (A := 2 ^ 22) hd2 (by decide) (S ++ [D.lst ((acc ++ (lawQ x.1.m x.1.b (x.1.b - B) x.2 Pn).take y).map toD)]) (hSa _)
        rw [show ((jn + 1 : Nat) : Int) = (jn : Int) + 1 by omega] at hpwr
        with_reducible refine Res.post.of_eq hpwr ?_
        walk_at "3"
        have hpw : ((x.1.b - B) ^ (jn + 1)).natAbs ≤ 2 ^ 2178 := by
          rw [Int.natAbs_pow]
          refine Nat.le_trans (Nat.pow_le_pow_left hd2 _) ?_
          rw [← Nat.pow_mul]
          exact Nat.pow_le_pow_right (by decide) (by omega)
        refine Res.post.of_eq (lowest_any (sgq jn) ((x.1.b - B) ^ (jn + 1)) (Int.pow_ne_zero hd0) (Nat.lt_of_le_of_lt hpw (Nat.pow_lt_pow_right (by decide) (by decide))) _ (hSa _)) ?_
        walk_at "3"
        refine p_append2 rfl get_app ?_
        walk_at "3"
        have hpz : (x.1.b - B) ^ (jn + 1) ≠ 0 := Int.pow_ne_zero hd0
        have hpq := qc_rb (by decide) (Nat.pos_of_ne_zero fun z => hpz (Int.natAbs_eq_zero.mp z)) (part_qc hd0 jn)
        refine Res.post.of_eq (ltimes_spec x.2 _ hs2 (rb_mono hpq (by rw [Nat.one_mul]; exact Nat.le_trans hpw (Nat.pow_le_pow_right (by decide) (by decide)))) (Nat.le_refl _) _ (hSa _)) ?_
        walk_at "3"
        refine ⟨(acc ++ (lawQ x.1.m x.1.b (x.1.b - B) x.2 Pn).take y).map toD, get_app, by rw [List.length_map, List.length_append, List.length_take]; omega, ?_⟩
        rw [set_app]
        have eg : (lawQ x.1.m x.1.b (x.1.b - B) x.2 Pn).take (y + 1) = (lawQ x.1.m x.1.b (x.1.b - B) x.2 Pn).take y ++ [(Kind.mk x.1.m (y : Int) x.1.b, vv x.2 (x.1.b - B) jn)] := by
          rw [hj]
          exact lawQ_take _ _ _ _ hkn
        refine ⟨y + 1, _, _, by omega, hks, ?_, rfl⟩
        rw [eg, ← List.append_assoc, List.map_append (l₂ := [_])]
        rfl
      · rintro δ S2 ⟨k, o8, o9, hk, hks, rfl, rfl⟩
        have hk : k = Pn + 1 := by simpa using hk
        subst hk
        rw [List.take_of_length_le (by rw [el]; exact Nat.le_refl _)]
        exact ⟨_, _, _, _, _, _, _, rfl, hin', by rw [List.append_assoc]; exact he, rfl⟩
  · rintro δ S2 ⟨acc, o4, o5, o6, o7, o8, o9, rfl, hin, he, rfl⟩
    have he : acc = lawL B rows := by
      have e0 : lawL B [] = [] := rfl
      rw [e0, List.append_nil] at he
      exact he
    subst he
    refine s_seq ?_
    refine s_freeze2 rfl get_app ?_
    rw [set_app]
    dsimp only [List.set_cons_zero, List.set_cons_succ]
    have s1 : Sane (S ++ [D.non]) := sane_app hS rfl
    walk_at "3"
    refine Res.post.of_eq (together_spec (K := lawL B rows) (V := VV0) (L := LB B rows) (T := 200) hll hlq v0_pos hLp (by decide) (by decide) (le_two (h.big (by decide))) _ s1) ?_
    rw [law_solT]
    walk_at "3"
    refine p_lcRows (atT (solT B rows) 0) (fun p => (p.1, (-1 : Rat) * p.2)) toD (exact_of ?_) (Nat.le_of_ble_eq_true rfl) (Nat.le_of_ble_eq_true rfl) (by omega) (fun p hp => ?_) ?_
    · walk_at "3"
      refine Res.post.of_eq (worth_kd (c := 0) (T := 200) h.sk h.sq (by decide) (by decide) hLp h.lb tl (by decide) (by decide) (by decide) _ s1) ?_
      exact .inr (.inl ⟨_, rfl, rfl, rfl⟩)
    · refine exact_of ?_
      dsimp only [in2, wipeD, List.set_cons_zero, List.set_cons_succ]
      rw [toD_rat]
      walk_at "3"
      refine ⟨?_, rfl⟩
      show D.tup [toD p.1, .tup [.int (0 - p.2.num), .int p.2.den]] = .tup [toD p.1, toD (-1 * p.2)]
      rw [rat_minus]
    · walk_at "3"
      refine p_lift (a := .lst (P.map toD)) rfl ?_
      walk_at "3"
      have eP : P.map toD ++ ((atT (solT B rows) 0).map fun p => (p.1, (-1 : Rat) * p.2)).map toD = (P ++ (atT (solT B rows) 0).map fun p => (p.1, (-1 : Rat) * p.2)).map toD := by rw [List.map_append]
      refine o_catD (by rw [List.length_map, List.length_map, List.length_map]; omega) ?_
      rw [eP]
      walk_at "3"
      refine Res.post.of_eq (together_spec (K := P ++ (atT (solT B rows) 0).map fun p => (p.1, (-1 : Rat) * p.2)) (V := VV0 * 200 * 200) (L := LB B rows) (T := 16) (by rw [List.length_append, List.length_map]; omega) (fun p hp => ?_) (by decide) hLp (by decide) (by decide) (le_two (h.big (by decide))) _ s1) ?_
      · rcases List.mem_append.mp hp with hp | hp
        · exact qc_mono (p_scaled hP p hp) (by decide)
        · obtain ⟨r, hr, rfl⟩ := List.mem_map.mp hp
          exact neg_qc (qA r hr)
      rw [rest_law nP]
      walk_at "3"
      refine p_lift (a := .lst ((solT B rows).map toD)) rfl ?_
      walk_at "3"
      refine p_lcRows (restT B rows P) (fun p => (Kind.mk p.1 0 B, p.2)) toD (exact_of (p_seq (p_var rfl (.inr (.inl ⟨_, rfl, rfl, rfl⟩))))) (Nat.le_of_ble_eq_true rfl) (Nat.le_of_ble_eq_true rfl) (by omega) (fun p hp => ?_) ?_
      · refine exact_of ?_
        dsimp only [in2, wipeD, List.set_cons_zero, List.set_cons_succ]
        walk_at "3"
        exact ⟨rfl, rfl⟩
      · walk_at "3"
        have eQ : (solT B rows).map toD ++ ((restT B rows P).map fun p => (Kind.mk p.1 0 B, p.2)).map toD = (solT B rows ++ (restT B rows P).map fun p => (Kind.mk p.1 0 B, p.2)).map toD := by rw [List.map_append]
        refine o_catD (by rw [List.length_map, List.length_map, List.length_map]; omega) ?_
        rw [eQ]
        walk_at "3"
        refine Res.post.of_eq (together_spec (K := solT B rows ++ (restT B rows P).map fun p => (Kind.mk p.1 0 B, p.2)) (V := VV0 + VV0 * 200 * 200) (L := LB B rows) (T := 208) (by rw [List.length_append, List.length_map]; omega) (fun p hp => ?_) (by decide) hLp (by decide) (by decide) (le_two (h.big (by decide))) _ s1) ?_
        · rcases List.mem_append.mp hp with hp | hp
          · exact qc_mono (h.sq p hp) (by decide)
          · obtain ⟨r, hr, rfl⟩ := List.mem_map.mp hp
            exact qR r hr
        rw [on_law nR]
        exact ⟨rfl, take_app⟩
end
end DL
set_option Elab.async false
set_option linter.all false
set_option maxRecDepth 100000
set_option maxHeartbeats 4000000
set_option autoImplicit false
/-! k32: what is too great; far away. -/
namespace DL
open PySem L2
open Emb
local macro_rules | `(tactic| walk_at "1") => `(tactic| with_reducible first
  | refine s_seq ?_ | refine s_asg ?_ | refine s_ret ?_ | refine s_if ?_ | refine s_expr ?_ | refine s_next ?_ | refine s_brk ?_ | refine s_cont ?_ | refine s_for ?_ | refine s_while ?_
  | refine p_c ?_ | refine p_bin ?_ | refine p_as ?_ | refine p_cons ?_ | refine p_nil ?_ | refine p_un ?_ | refine p_call ?_ | refine p_if ?_ | refine p_own ?_
  | refine p_keep ?_ | refine p_tru ?_ | refine p_and ?_ | refine p_or ?_ | refine p_not ?_ | refine p_val ?_ | refine p_rand ?_ | refine p_ror ?_ | refine p_rnot ?_ | refine p_chain ?_ | refine p_bif ?_
  | refine o_add ?_ | refine o_sub ?_ | refine o_ltU ?_ | refine o_leU ?_ | refine o_gtU ?_ | refine o_geU ?_ | refine o_neg ?_ | refine o_eqI ?_ | refine o_neI ?_ | refine o_abs ?_ | refine o_tru ?_ | refine p_true ?_ | refine p_false ?_
  | refine o_lenT ?_ | refine o_lenL ?_ | refine o_ix0 ?_ | refine o_ix1 ?_ | refine o_ix2 ?_ | refine o_ix0L ?_ | refine o_ix1L ?_ | refine o_ix2L ?_
  | refine s_par ?_ | refine p_yes ?_ | refine p_seq ?_ | refine s_gnil ?_ | refine s_gcons ?_ | refine s_gtux ?_ | refine s_gtupl ?_ | refine p_onone ?_ | refine p_osome ?_ | refine p_get2 ?_ | refine s_putU ?_ | refine p_sortIt ?_)
local macro_rules | `(tactic| walk_at "2") => `(tactic| first
  | walk_at "1"
  | (with_reducible refine p_var2 ?_)
  | ((with_reducible refine s_name ?_ ?_); (· exact Nat.le_of_ble_eq_true rfl); dsimp only [List.set_cons_zero, List.set_cons_succ])
  | (with_reducible refine p_tup ?_) | (with_reducible refine p_lst ?_) | ((with_reducible refine ⟨?_, ?_⟩); (· exact Nat.le_of_ble_eq_true rfl))
  | ((with_reducible refine p_ex2 (x := ?_) (y := ?_) ?_ ?_); rotate_left; rotate_left; (· rfl); refine ⟨?_, ?_, ?_⟩; (· exact Nat.le_of_ble_eq_true rfl); (· exact Nat.le_of_ble_eq_true rfl); dsimp only [List.set_cons_zero, List.set_cons_succ])
  | ((with_reducible refine p_isT ?_ ?_); (· rfl)) | ((with_reducible refine p_isF ?_ ?_); (· rfl))
  | ((with_reducible refine p_ex (x := ?_) ?_ ?_); rotate_left; (· rfl)))
local macro_rules | `(tactic| walk_at "3") => `(tactic| repeat walk_at "2")
section
variable {δ : Sl} {S : Sto} {N : Sl → Sto → Prop} {T : D → Sto → Prop} {P : EP}
theorem e_asgP {e : RE} {g : RG} (h : (e δ S).post fun d S1 => (g d δ S1).post fun δ1 S2 => N δ1 S2) : (sAsg e g δ S).pe N T P := e_asg h.pe
theorem e_tryExpr {e : RE} {cl : List Str} {x : Str} {i : Nat} {hb : RS} {B C : Sl → Sto → Prop}
    (h : (e δ S).pe (fun _ S1 => N δ S1) (fun c fs S1 => c ∈ cl ∧ x ∈ cl ∧ subC c x = true ∧ (hb (δ.set i (some (.exc c (fs.map fun p => (.str p.1, p.2))))) S1).post (fun δ2 S2 => N (δ2.set i none) S2) T NoS NoS)) : (sTryKeep (sExpr e) cl x i hb δ S).post N T B C := by
  unfold sTryKeep sExpr
  cases q : e δ S with
  | ok d S1 =>
    rw [q] at h
    exact h
  | err c fs S1 =>
    rw [q] at h
    obtain ⟨h1, h2, h3, h4⟩ := h
    dsimp only [Res.out]
    rw [decide_eq_true h1, decide_eq_true h2, h3]
    cases q2 : hb (δ.set i (some (.exc c (fs.map fun p => (.str p.1, p.2))))) S1 with
    | nx δ2 S2 => rw [q2] at h4; exact h4
    | rt d S2 => rw [q2] at h4; exact h4
    | bk δ2 S2 => rw [q2] at h4; exact h4.elim
    | ct δ2 S2 => rw [q2] at h4; exact h4.elim
    | err c2 fs2 δ2 S2 => rw [q2] at h4; exact h4.elim
    | stuck => rw [q2] at h4; exact h4.elim
  | stuck => rw [q] at h; exact h.elim
end
def kx (p : Int) : Kind := Kind.mk [("x", 1)] p 2
def third : Rat := 1 / 3
def rowX (p : Int) : List (Kind × Rat) := [(kx p, third)]
theorem third_qc : QC VV0 42 third := ⟨14, by unfold third; push_cast; grind, by decide⟩
theorem x_in : ([("x", 1)] : Mono) ∈ M7 := by decide
theorem rowX_d (p : Int) : (toD (rowX p) : D) = .tup [.tup [.tup [.tup [.tup [.str "x", .int 1]], .int p, .int 2], .tup [.int 1, .int 3]]] := by
  have h1 : third.num = 1 := by decide +kernel
  have h2 : third.den = 3 := by decide +kernel
  show D.tup [.tup [toD (kx p), toD third]] = _
  rw [toD_rat, h1, h2]
  rfl
theorem rowX_sol (p : Int) : solL 2 (rowX p) = rowX (p + 1) := rfl
theorem rowX_lb (p : Int) : LB 2 (rowX p) = 42 := rfl
theorem rowX_w {p : Int} (h0 : 0 ≤ p) (h1 : p ≤ 99) : SlvW 2 (rowX p) where
  p0 := fun x hx => by rw [List.mem_singleton.mp hx]; exact h0
  p1 := fun x hx => by rw [List.mem_singleton.mp hx]; exact h1
  b := fun x hx => by rw [List.mem_singleton.mp hx]; show (2 : Int).natAbs ≤ 2 ^ 21; decide
  hB := by decide
  ok := fun x hx => by
    rw [rowX_sol] at hx
    rw [rowX_lb, List.mem_singleton.mp hx]
    exact third_qc
  lb := by rw [rowX_lb]; exact Nat.le_trans (show 42 ≤ 2 ^ 6 by decide) (Nat.pow_le_pow_right (by decide) (by decide))
  sl := by rw [rowX_sol]; show 1 ≤ 200; decide
theorem rowX_slv : Slv 2 (rowX 98) where
  inc := List.pairwise_singleton _ _
  nz := fun x hx => by rw [List.mem_singleton.mp hx]; show third ≠ 0; decide +kernel
  m := fun x hx => by rw [List.mem_singleton.mp hx]; exact x_in
  p0 := fun x hx => by rw [List.mem_singleton.mp hx]; decide
  p1 := fun x hx => by rw [List.mem_singleton.mp hx]; decide
  b := fun x hx => by rw [List.mem_singleton.mp hx]; decide
  hB := by decide
  q := fun x hx => by rw [List.mem_singleton.mp hx]; exact third_qc
  fac := fun x hx => by rw [List.mem_singleton.mp hx]; show 1 ≤ 2 ^ 110; decide
  len := by decide
  sl := by rw [rowX_sol]; show 1 ≤ 200; decide
theorem pb_nil : Pb [] := ⟨List.Pairwise.nil, (fun _ z => nomatch z), (fun _ z => nomatch z), (fun _ z => nomatch z)⟩
theorem top_eq : onT 2 (rowX 98) [] = rowX 99 := by decide +kernel
theorem nil_slv : Slv 5 [] := ⟨List.Pairwise.nil, (fun _ z => nomatch z), (fun _ z => nomatch z), (fun _ z => nomatch z), (fun _ z => nomatch z), (fun _ z => nomatch z), by decide, (fun _ z => nomatch z), (fun _ z => nomatch z), by decide, by decide⟩
theorem nil_eq : onT 5 [] [] = [] := by decide +kernel
theorem rowX_tot : rowsT (addAll [] (rowX 100)) = rowX 100 := by decide +kernel
theorem form_of_big {S : Sto} {j : Nat} {u : D} (hS : Sane S) (hd : IsDic u (addAll [] (rowX 100))) (hj : S[j]? = some u) : (m_form_of [.ptr j] S).pe (fun _ _ => False) (fun c fs S' => (c = "TooGreat" ∧ fs = []) ∧ S' = S) := by
  have sl : 2000 ≤ sizeLine := by decide
  have hf : Fine' (rowsT (addAll [] (rowX 100))) := ⟨by rw [rowX_tot]; show 1 ≤ 1000; decide, fun p hp => by
    rw [rowX_tot] at hp
    rw [List.mem_singleton.mp hp]
    exact rb_mono (qc_rb v0_pos (by decide) third_qc) (Nat.le_trans (show VV0 * 42 ≤ 10 ^ 20 by decide) (Nat.pow_le_pow_right (by decide) (by decide)))⟩
  refine (m_defE (R := fun _ => False) (P1 := fun c fs => c = "TooGreat" ∧ fs = []) hS ?_).mono (fun _ _ z => z.1) (fun _ _ _ z => z)
  show (b_form_of [some (.ptr j), none, none, none] S).pe _ _ _
  unfold b_form_of
  refine e_seq ?_
  refine e_asgP ?_
  walk_at "3"
  refine Res.post.of_eq (pairs_of_spec hS hd hj (by show 1 ≤ sizeLine; omega) hf) ?_
  rw [rowX_tot]
  walk_at "3"
  refine e_seq ?_
  refine e_if ?_
  walk_at "3"
  refine p_lcRows (rowX 100) (fun _ => false) D.bl (exact_of (p_seq (p_var rfl (.inr (.inl ⟨_, rfl, rfl, rfl⟩))))) (Nat.le_of_ble_eq_true rfl) (Nat.le_of_ble_eq_true rfl) (by show 1 ≤ sizeLine; omega) (fun p hp => ?_) ?_
  · refine exact_of ?_
    dsimp only [in2, wipeD, List.set_cons_zero, List.set_cons_succ]
    rw [List.mem_singleton.mp hp]
    rw [show (toD ((kx 100, third) : Kind × Rat).1 : D) = .tup [.tup [.tup [.str "x", .int 1]], .int 100, .int 2] from rfl]
    walk_at "3"
    exact ⟨rfl, rfl⟩
  · walk_at "3"
    refine o_all ?_
    rw [show (((rowX 100).map fun _ => false).all id) = false from rfl]
    walk_at "3"
    exact ⟨rfl, List.take_length, rfl, rfl⟩
theorem one_form_great (S : Sto) (hS : Sane S) : (m_one_form [.int 2, toD (rowX 99), toD ([] : List (Mono × Rat))] S).pe (fun _ _ => False) (fun c fs S' => (c = "TooGreat" ∧ fs = []) ∧ S' = S) := by
  have sl : 2000 ≤ sizeLine := by decide
  refine (m_defE (R := fun _ => False) (P1 := fun c fs => c = "TooGreat" ∧ fs = []) hS ?_).mono (fun _ _ z => z.1) (fun _ _ _ z => z)
  show (b_one_form [some (.int 2), some (toD (rowX 99)), some (toD ([] : List (Mono × Rat))), none, none, none, none, none, none, none, none] S).pe _ _ _
  unfold b_one_form
  refine e_seq ?_
  refine e_asgP ?_
  refine p_own ?_
  refine p_c ?_
  refine s_name (Nat.le_of_ble_eq_true rfl) ?_
  dsimp only [List.set_cons_zero, List.set_cons_succ]
  refine e_seq ?_
  refine Out.post.pe ?_
  refine solve_spec (P := []) (rowX_w (by decide) (by decide)) S hS fun u o4 o5 o6 o7 o8 hu => ?_
  have hSa : Sane (S ++ [u]) := sane_app hS (isDic_closed hu _)
  refine e_seq ?_
  refine e_asg ?_
  refine e_call ?_
  refine p_cons (p_var rfl (p_nil ?_))
  refine (form_of_big hSa hu get_app).mono (fun _ _ z => z.elim) ?_
  rintro c fs S' ⟨⟨rfl, rfl⟩, rfl⟩
  exact ⟨rfl, List.take_left, rfl, rfl⟩
theorem too_great_spec (S : Sto) (hS : Sane S) : m__law_is_too_great [toD (rowX 99)] S = .ok (.bl true) S := by
  refine m_defS hS rfl ?_
  show (b__law_is_too_great [some (toD (rowX 99)), none, none, none] S).post _ _ _ _
  unfold b__law_is_too_great
  walk_at "3"
  refine e_tryExpr ?_
  refine e_call ?_
  walk_at "3"
  refine (one_form_great S hS).mono (fun _ _ z => z.elim) ?_
  rintro c fs S' ⟨⟨rfl, rfl⟩, rfl⟩
  refine ⟨by decide, by decide, by decide, ?_⟩
  walk_at "3"
  walk_at "3"
  refine p_lift (a := D.bl false) (by kernel_rfl) ?_
  walk_at "3"
  refine p_lift (a := D.bl true) (by kernel_rfl) ?_
  walk_at "3"
  refine p_lift (a := D.bl true) (by kernel_rfl) ?_
  walk_at "3"
  exact ⟨rfl, rfl⟩
end DL
set_option Elab.async false
set_option linter.all false
set_option maxRecDepth 100000
set_option maxHeartbeats 4000000
set_option autoImplicit false
/-! k32: the law. -/
namespace DL
open PySem L2
open Emb
local macro_rules | `(tactic| walk_at "1") => `(tactic| with_reducible first
  | refine s_seq ?_ | refine s_asg ?_ | refine s_ret ?_ | refine s_if ?_ | refine s_expr ?_ | refine s_next ?_ | refine s_brk ?_ | refine s_cont ?_ | refine s_for ?_ | refine s_while ?_
  | refine p_c ?_ | refine p_bin ?_ | refine p_as ?_ | refine p_cons ?_ | refine p_nil ?_ | refine p_un ?_ | refine p_call ?_ | refine p_if ?_ | refine p_own ?_
  | refine p_keep ?_ | refine p_tru ?_ | refine p_and ?_ | refine p_or ?_ | refine p_not ?_ | refine p_val ?_ | refine p_rand ?_ | refine p_ror ?_ | refine p_rnot ?_ | refine p_chain ?_ | refine p_bif ?_
  | refine o_add ?_ | refine o_sub ?_ | refine o_ltU ?_ | refine o_leU ?_ | refine o_gtU ?_ | refine o_geU ?_ | refine o_neg ?_ | refine o_eqI ?_ | refine o_neI ?_ | refine o_abs ?_ | refine o_tru ?_ | refine p_true ?_ | refine p_false ?_
  | refine o_lenT ?_ | refine o_lenL ?_ | refine o_ix0 ?_ | refine o_ix1 ?_ | refine o_ix2 ?_ | refine o_ix0L ?_ | refine o_ix1L ?_ | refine o_ix2L ?_
  | refine s_par ?_ | refine p_yes ?_ | refine p_seq ?_ | refine s_gnil ?_ | refine s_gcons ?_ | refine s_gtux ?_ | refine s_gtupl ?_ | refine p_onone ?_ | refine p_osome ?_ | refine p_get2 ?_ | refine s_putU ?_ | refine p_sortIt ?_)
local macro_rules | `(tactic| walk_at "2") => `(tactic| first
  | walk_at "1"
  | (with_reducible refine p_var2 ?_)
  | ((with_reducible refine s_name ?_ ?_); (· exact Nat.le_of_ble_eq_true rfl); dsimp only [List.set_cons_zero, List.set_cons_succ])
  | (with_reducible refine p_tup ?_) | (with_reducible refine p_lst ?_) | ((with_reducible refine ⟨?_, ?_⟩); (· exact Nat.le_of_ble_eq_true rfl))
  | ((with_reducible refine p_ex2 (x := ?_) (y := ?_) ?_ ?_); rotate_left; rotate_left; (· rfl); refine ⟨?_, ?_, ?_⟩; (· exact Nat.le_of_ble_eq_true rfl); (· exact Nat.le_of_ble_eq_true rfl); dsimp only [List.set_cons_zero, List.set_cons_succ])
  | ((with_reducible refine p_isT ?_ ?_); (· rfl)) | ((with_reducible refine p_isF ?_ ?_); (· rfl))
  | ((with_reducible refine p_ex (x := ?_) ?_ ?_); rotate_left; (· rfl)))
local macro_rules | `(tactic| walk_at "3") => `(tactic| repeat walk_at "2")
theorem form_fit {rows : List (Kind × Rat)} (h : ∀ p ∈ rows, FitE (15300 + 2019 + 7) p) : fitP (py rows) = true := (fitE_tuple (n := rows.length) h (Nat.le_refl _)).1
theorem plain_fit {A : List (Mono × Rat)} (hm : ∀ p ∈ A, p.1 ∈ M7) (hr : ∀ p ∈ A, RB' (10 ^ 1000) p.2) : fitP (py A) = true :=
  (fitE_tuple (n := A.length) (w := 13200 + 2019 + 7) (fun p hp => fitE_pair (fitE_mono (m7_ok _ (hm p hp)) (by decide)) (fitE_rat (hr p hp))) (Nat.le_refl _)).1
/-! ### far away -/
theorem far_slv {m : Mono} (hm : m ∈ M7) {v w : Int} (hv : v.natAbs ≤ 9) (hw : w ∈ [1, 2, -1, (3 : Int)]) {n : Nat} (hn : n ≤ 53) {q : Rat} (q0 : q ≠ 0) (hq : QC (2 ^ 41) 42 q) : Slv v [(Kind.mk m (n : Int) (v + w), q)] := by
  have hw2 : w.natAbs ≤ 3 ∧ w ≠ 0 := by
    simp only [List.mem_cons, List.not_mem_nil, or_false] at hw
    omega
  have e : ∀ x ∈ [(Kind.mk m (n : Int) (v + w), q)], x = (Kind.mk m (n : Int) (v + w), q) := fun x hx => List.mem_singleton.mp hx
  refine ⟨List.pairwise_singleton _ _, fun x hx => by rw [e x hx]; exact q0, fun x hx => by rw [e x hx]; exact hm, fun x hx => by rw [e x hx]; show (0 : Int) ≤ n; omega, fun x hx => by rw [e x hx]; show (n : Int) ≤ 98; omega, fun x hx => ?_, Nat.le_trans hv (by decide), fun x hx => by rw [e x hx]; exact qc_mono hq (by decide), fun x hx => ?_, by show 1 ≤ 5; decide, ?_⟩
  · rw [e x hx]
    show (v + w).natAbs ≤ 2 ^ 21
    have : (v + w).natAbs ≤ 12 := by omega
    exact Nat.le_trans this (by decide)
  · rw [e x hx]
    unfold dfac
    rw [if_neg (show ¬ v + w = v by omega)]
    show (v + w - v).natAbs ^ ((n : Int).toNat + 1) ≤ 2 ^ 110
    rw [show v + w - v = w by omega, show (n : Int).toNat = n by omega]
    refine Nat.le_trans (Nat.pow_le_pow_left hw2.1 _) (Nat.le_trans (Nat.pow_le_pow_right (by decide) (show n + 1 ≤ 54 by omega)) (by decide))
  · show (solP v (Kind.mk m (n : Int) (v + w), q) ++ []).length ≤ 200
    rw [List.append_nil]
    unfold solP
    rw [if_neg (show ¬ v + w = v by omega), solQ_len]
    show (n : Int).toNat + 1 ≤ 200
    omega
theorem far_spec {j : Nat} (S : Sto) (hS : Sane S) (hj : Dr S j) : (m__law_far_right [.ptr j] S).post fun z S' => z = .bl true ∧ Mv j S S' := by
  have sl : 16000000 ≤ sizeLine := by decide
  refine m_defM hS (fun z e => by subst e; rfl) ?_
  show (b__law_far_right [some (.ptr j), none, none, none, none] S).post _ _ _ _
  unfold b__law_far_right
  walk_at "3"
  refine (laround_spec (b := 9) (by decide) (by decide) S hS hj).mono ?_
  rintro z S1 ⟨⟨v, rfl, v0, v1⟩, mv1⟩
  walk_at "3"
  refine (lnext_spec (b := 4) (by decide) (by decide) S1 (mv1.sane hS) (mv1.dr hj)).mono ?_
  rintro z S2 ⟨⟨i, rfl, i0, i1⟩, mv2⟩
  have mv2 := mv1.trans mv2
  refine ix_emb (xs := [1, 2, -1, (3 : Int)]) i0 (by exact i1) fun w hw => ?_
  show (Res.lift (gAdd S2 (.int v) (.int w)) S2).post _
  walk_at "3"
  refine (lmono_spec S2 (mv2.sane hS) (mv2.dr hj)).mono ?_
  rintro z S3 ⟨⟨mo, rfl, hmo⟩, mv3⟩
  have mv3 := mv2.trans mv3
  walk_at "3"
  refine (lnext_spec (b := 40) (by decide) (by decide) S3 (mv3.sane hS) (mv3.dr hj)).mono ?_
  rintro z S4 ⟨⟨n, rfl, n0, n1⟩, mv4⟩
  have mv4 := mv3.trans mv4
  walk_at "3"
  refine (lshare_spec S4 (mv4.sane hS) (mv4.dr hj)).mono ?_
  rintro z S5 ⟨⟨q, rfl, q0, qq⟩, mv5⟩
  have mv5 := mv4.trans mv5
  walk_at "3"
  refine (lplain_spec S5 (mv5.sane hS) (mv5.dr hj)).mono ?_
  rintro z S6 ⟨⟨P, rfl, hP⟩, mv6⟩
  have mv6 := mv5.trans mv6
  walk_at "3"
  obtain ⟨nn, hnn⟩ : ∃ nn : Nat, 14 + n = nn := ⟨(14 + n).toNat, by omega⟩
  rw [hnn]
  have hs := far_slv hmo (v := v) (by omega) hw (n := nn) (by omega) q0 qq
  have hon := hs.onn hP
  have s6 := mv6.sane hS
  have e1 := one_form_spec hs hP S6 s6
  have e2 := law_one_spec hs hP S6 s6
  have ft := form_fit (on_fit hon hs)
  generalize onT v [(Kind.mk mo (nn : Int) (v + w), q)] P = R at *
  refine Res.post.of_eq (show m_one_form [.int v, .tup [.tup [.tup [toD mo, .int (nn : Int), .int (v + w)], toD q]], toD P] S6 = .ok (toD R) S6 from e1) ?_
  walk_at "3"
  refine Res.post.of_eq (show m__law_one [.int v, .tup [.tup [.tup [toD mo, .int (nn : Int), .int (v + w)], toD q]], toD P] S6 = .ok (toD R) S6 from e2) ?_
  refine o_eqEmb ft ft (by decide) ?_
  rw [decide_eq_true rfl]
  exact ⟨rfl, mv6⟩
/-! ### a turn -/
def loopA : RS := (sFor (rRange (rCons (rC (.int 2)) rNil)) (gName 8) (sSeq (sAsg (rCall m_one_form (rCons (rVar 4) (rCons (rVar 5) (rCons (rVar 6) rNil)))) (gName 9))
    (sIf (bOr (bNot (bTru (rCall m__law_is_form (rCons (rVar 9) rNil)))) (bVal (rBin gNe (rVar 9) (rVar 7)))) (sRet (rC (.bl false))) sNext)))
def loopB : RS := (sFor (rRange (rCons (rC (.int 10)) rNil)) (gName 11) (sSeq (sIf (bVal (rBin gNe (rCall m__law_worth (rCons (rVar 9) (rCons (rVar 11) rNil))) (rVar 10))) (sRet (rC (.bl false))) sNext)
    (sSeq (sAsg (rKeep (rLc (rSeq (rVar 10)) (gTup (gCons (gName 14) (gCons (gName 15) gNil))) [14, 15] bYes (rTup (rCons (rVar 14) (rCons (rCall m__law_times (rCons (rVar 15) (rCons (rTup (rCons (rVar 4) (rCons (rC (.int 1)) rNil))) rNil))) rNil))))) (gName 10))
    (sAsg (rCall m__law_together (rCons (rKeep (rBin gCat (rVar 10) (rKeep (rAs gList (rCons (rCall m__law_worth (rCons (rVar 5) (rCons (rVar 11) rNil))) rNil))))) rNil)) (gName 10)))))
def turnB : RS := (sSeq (sAsg (rCall m__law_begun (rCons (rKeep (rBin gCat (rKeep (rLst (rCons (rVar 2) rNil))) (rVar 0))) (rCons (rC (.int 0)) (rCons (rBin gAdd (rC (.int 2)) (rVar 1)) rNil)))) (gName 3))
    (sSeq (sAsg (rBin gIx (rKeep (rLst (rCons (rC (.int 0)) (rCons (rC (.int 1)) (rCons (rUn gNeg (rC (.int 1))) (rCons (rC (.int 2)) (rCons (rCall m__law_around (rCons (rVar 3) (rCons (rC (.int 4)) rNil))) (rCons (rCall m__law_around (rCons (rVar 3) (rCons (rBin gPow (rC (.int 10)) (rC (.int 6))) rNil))) rNil)))))))) (rCall m__law_next (rCons (rVar 3) (rCons (rC (.int 6)) rNil)))) (gName 4))
    (sSeq (sAsg (rCall m__law_form (rCons (rVar 3) (rCons (rC (.int 5)) (rCons (rKeep (rLst (rCons (rVar 4) (rCons (rBin gSub (rC (.int 0)) (rVar 4)) (rCons (rBin gAdd (rVar 4) (rC (.int 1))) rNil))))) rNil)))) (gName 5))
    (sSeq (sAsg (rCall m__law_plain (rCons (rVar 3) rNil)) (gName 6))
    (sSeq (sAsg (rCall m__law_one (rCons (rVar 4) (rCons (rVar 5) (rCons (rVar 6) rNil)))) (gName 7))
    (sSeq loopA
    (sSeq (sAsg (rVar 6) (gName 10))
    loopB)))))))
section
variable {B : Int} {rows : List (Kind × Rat)} {P : List (Mono × Rat)}
theorem at_on_q (h : Onn B rows P) {c : Nat} (hc : c ≤ 9) : ∀ p ∈ atT (onT B rows P) c, QC (2 ^ 280) (LB B rows) p.2 := fun p hp => by
  refine qc_mono (at_q (c := c) (T := 208) h.k h.q h.len p hp) ?_
  have e : (2 ^ 22) ^ c ≤ 2 ^ 198 := by
    rw [← Nat.pow_mul]
    exact Nat.pow_le_pow_right (by decide) (by omega)
  have h1 := Nat.mul_le_mul (Nat.mul_le_mul (show VO ≤ 2 ^ 62 by decide) e) (show 208 ≤ 2 ^ 8 by decide)
  rw [← Nat.pow_add, ← Nat.pow_add] at h1
  exact Nat.le_trans h1 (Nat.pow_le_pow_right (by decide) (by decide))
theorem at_fz_q (h : Fz rows) {c : Nat} (hc : c ≤ 9) : ∀ p ∈ atT rows c, QC (2 ^ 280) (LB B rows) p.2 := fun p hp => by
  have hk : ∀ p ∈ rows, Kd p.1 := fun p hp => ⟨h.m p hp, h.p0 p hp, by have := h.p1 p hp; omega, Nat.le_trans (h.b p hp) (by decide)⟩
  have h0 := at_q (c := c) (T := 5) hk h.q h.len p hp
  refine qc_mono (qc_scale (by decide) (dprod_pos B rows) h0) ?_
  have e : (2 ^ 22) ^ c ≤ 2 ^ 198 := by
    rw [← Nat.pow_mul]
    exact Nat.pow_le_pow_right (by decide) (by omega)
  have h1 := Nat.mul_le_mul (Nat.mul_le_mul (show VV0 ≤ 2 ^ 44 by decide) e) (show 5 ≤ 2 ^ 8 by decide)
  rw [← Nat.pow_add, ← Nat.pow_add] at h1
  exact Nat.le_trans h1 (Nat.pow_le_pow_right (by decide) (by decide))
theorem loopA_spec {k : Nat} {cell : Int} {ns : List Int} {j : Nat} {S : Sto} (hS : Sane S) (h : Slv B rows) (hP : Pb P) {o8 o9 o10 o11 o12 o13 o14 o15 : Option D} (J : Sl → Sto → Prop) (hJ : ∀ o8, J [some (.lst (ns.map .int)), some (.int k), some (.int cell), some (.ptr j), some (.int B), some (toD rows), some (toD P), some (toD (onT B rows P)), o8, some (toD (onT B rows P)), o10, o11, o12, o13, o14, o15] S) :
    (loopA [some (.lst (ns.map .int)), some (.int k), some (.int cell), some (.ptr j), some (.int B), some (toD rows), some (toD P), some (toD (onT B rows P)), o8, o9, o10, o11, o12, o13, o14, o15] S).post J (fun _ _ => False) NoS NoS := by
  have hon := h.onn hP
  have ft := form_fit (on_fit hon h)
  unfold loopA
  walk_at "3"
  with_reducible refine p_range1 ?_
  walk_at "3"
  refine ⟨by decide, by decide, ?_⟩
  refine s_forL (fun xs δ S2 => S2 = S ∧ ∃ o8 o9, (xs ≠ [] ∨ o9 = some (toD (onT B rows P))) ∧ δ = [some (.lst (ns.map .int)), some (.int k), some (.int cell), some (.ptr j), some (.int B), some (toD rows), some (toD P), some (toD (onT B rows P)), o8, o9, o10, o11, o12, o13, o14, o15]) ?_ ?_ _ _ _ ⟨rfl, o8, o9, .inl (by decide), rfl⟩
  · rintro x xs δ S2 ⟨rfl, o8, o9, _, rfl⟩
    refine s_name ?_ ?_
    · exact Nat.le_of_ble_eq_true rfl
    dsimp only [List.set_cons_zero, List.set_cons_succ]
    walk_at "3"
    refine Res.post.of_eq (one_form_spec h hP S2 hS) ?_
    walk_at "3"
    refine Res.post.of_eq (is_form_spec hon h S2 hS) ?_
    walk_at "3"
    refine o_neEmb ft ft (by decide) ?_
    rw [show (!decide (onT B rows P = onT B rows P)) = false by simp]
    walk_at "3"
    exact ⟨rfl, _, _, .inr rfl, rfl⟩
  · rintro δ S2 ⟨rfl, o8, o9, h9, rfl⟩
    obtain rfl := h9.resolve_left fun z => z rfl
    exact hJ o8
theorem loopB_spec {k : Nat} {cell : Int} {ns : List Int} {j : Nat} {S : Sto} (hS : Sane S) (h : Fz rows) (hB : B.natAbs ≤ 1000000) (hP : Pb P) {o7 o8 o11 o12 o13 o14 o15 : Option D} (J : Sl → Sto → Prop) (hJ : ∀ o10 o11 o14 o15, J [some (.lst (ns.map .int)), some (.int k), some (.int cell), some (.ptr j), some (.int B), some (toD rows), some (toD P), o7, o8, some (toD (onT B rows P)), o10, o11, o12, o13, o14, o15] S) :
    (loopB [some (.lst (ns.map .int)), some (.int k), some (.int cell), some (.ptr j), some (.int B), some (toD rows), some (toD P), o7, o8, some (toD (onT B rows P)), some (toD P), o11, o12, o13, o14, o15] S).post J (fun _ _ => False) NoS NoS := by
  have sl : 200000 ≤ sizeLine := by decide
  have hs := h.slv hB
  have hon := hs.onn hP
  have nP := inc_nd hP.inc
  have hk : ∀ p ∈ rows, Kd p.1 := fun p hp => ⟨h.m p hp, h.p0 p hp, by have := h.p1 p hp; omega, Nat.le_trans (h.b p hp) (by decide)⟩
  have hL := lb_pos B rows
  have b21 : B.natAbs ≤ 2 ^ 20 := Nat.le_trans hB (by decide)
  unfold loopB
  walk_at "3"
  with_reducible refine p_range1 ?_
  walk_at "3"
  refine ⟨by decide, by decide, ?_⟩
  rw [show (10 : Int) = ((10 : Nat) : Int) from rfl, rangeD_nat]
  refine s_forT (fun i : Nat => D.int i) (fun xs δ S2 => S2 = S ∧ ∃ (c : Nat) (o11 o14 o15 : Option D), c + xs.length = 10 ∧ xs = (List.range 10).drop c ∧ δ = [some (.lst (ns.map .int)), some (.int k), some (.int cell), some (.ptr j), some (.int B), some (toD rows), some (toD P), o7, o8, some (toD (onT B rows P)), some (toD (atT (onT B rows P) c)), o11, o12, o13, o14, o15]) ?_ ?_ _ _ _ ⟨rfl, 0, o11, o14, o15, by rw [List.length_range], rfl, by rw [on_zero hP.inc hP.nz]⟩
  · rintro y xs δ S2 ⟨rfl, c, o11, o14, o15, hlen, hxs, rfl⟩
    rw [List.length_cons] at hlen
    have hc : c < 10 := by omega
    have hyy : y = c ∧ xs = (List.range 10).drop (c + 1) := by
      rw [List.drop_eq_getElem_cons (by rw [List.length_range]; exact hc), List.getElem_range] at hxs
      exact ⟨(List.cons.inj hxs).1, (List.cons.inj hxs).2⟩
    obtain ⟨rfl, hxs⟩ := hyy
    have q1 := at_on_q hon (c := y) (by omega)
    have q0 := at_fz_q (B := B) h (c := y) (by omega)
    have m1 : ∀ p ∈ atT (onT B rows P) y, p.1 ∈ M7 := at_m7 fun p hp => (hon.k p hp).m
    have m0 : ∀ p ∈ atT rows y, p.1 ∈ M7 := at_m7 h.m
    have n1 := len_m7 (nd_at (onT B rows P) y) m1
    have n0 := len_m7 (nd_at rows y) m0
    have w1 := worth_kd (c := y) (T := 208) hon.k hon.q vo_pos (show VO ≤ 2 ^ 80 by decide) hL hs.lb hon.len (by decide) (by decide) (by omega) S2 hS
    have w0 := worth_kd (c := y) (T := 5) hk h.q v0_pos (show VV0 ≤ 2 ^ 80 by decide) (by decide) (show 42 ≤ 2 ^ 556 from Nat.le_trans (show 42 ≤ 2 ^ 6 by decide) (Nat.pow_le_pow_right (by decide) (by decide))) h.len (by decide) (by decide) (by omega) S2 hS
    have r1 : ∀ p ∈ atT (onT B rows P) y, RB' (2 ^ 1500) p.2 := fun p hp => rb_mono (qc_rb (Nat.pow_pos (by decide)) hL (q1 p hp)) (hs.big (Nat.pow_le_pow_right (by decide) (by decide)))
    have ft := plain_fit m1 fun p hp => rb_mono (r1 p hp) (le_ten (Nat.le_refl _))
    have st := on_step (B := B) nP h.p0 y
    refine s_name ?_ ?_
    · exact Nat.le_of_ble_eq_true rfl
    dsimp only [List.set_cons_zero, List.set_cons_succ]
    walk_at "3"
    refine Res.post.of_eq w1 ?_
    walk_at "3"
    refine o_neEmb ft ft (by decide) ?_
    rw [show (!decide (atT (onT B rows P) y = atT (onT B rows P) y)) = false by simp]
    walk_at "3"
    refine p_lcRows (atT (onT B rows P) y) (fun p => (p.1, p.2 * ((B : Int) : Rat))) toD (exact_of (p_seq (p_var rfl (.inr (.inl ⟨_, rfl, rfl, rfl⟩))))) (Nat.le_of_ble_eq_true rfl) (Nat.le_of_ble_eq_true rfl) (by omega) (fun p hp => ?_) ?_
    · refine exact_of ?_
      dsimp only [in2, wipeD, List.set_cons_zero, List.set_cons_succ]
      walk_at "3"
      refine Res.post.of_eq (ltimesI_spec p.2 B (B := 2 ^ 1500) (r1 p hp) (Nat.le_trans b21 (Nat.pow_le_pow_right (by decide) (by decide))) (Nat.pow_le_pow_right (by decide) (by decide)) S2 hS) ?_
      walk_at "3"
      exact ⟨rfl, rfl⟩
    · walk_at "3"
      refine Res.post.of_eq w0 ?_
      walk_at "3"
      refine p_lift (a := .lst ((atT rows y).map toD)) rfl ?_
      walk_at "3"
      refine o_catD (by rw [List.length_map, List.length_map, List.length_map]; omega) ?_
      rw [← List.map_append]
      walk_at "3"
      refine Res.post.of_eq (together_spec (K := nextL B (atT (onT B rows P) y) (atT rows y)) (V := 2 ^ 300) (L := LB B rows) (T := 16) ?_ ?_ (Nat.pow_pos (by decide)) hL (by decide) (by decide) ?_ S2 hS) ?_
      · unfold nextL
        rw [List.length_append, List.length_map]
        omega
      · intro p hp
        unfold nextL at hp
        rcases List.mem_append.mp hp with z | z
        · obtain ⟨r, hr, rfl⟩ := List.mem_map.mp z
          have := qc_int (q1 r hr) b21
          rw [← Nat.pow_add] at this
          exact this
        · exact qc_mono (q0 p z) (Nat.pow_le_pow_right (by decide) (by decide))
      · have := hs.big (V := 2 ^ 300 * 16) (by rw [show 16 = 2 ^ 4 from rfl, ← Nat.pow_add]; exact Nat.pow_le_pow_right (by decide) (by decide))
        exact le_two this
      walk_at "3"
      refine ⟨rfl, y + 1, some (.int (y : Int)), o14, o15, by omega, hxs, ?_⟩
      rw [st]
      rfl
  · rintro δ S2 ⟨rfl, c, o11, o14, o15, hlen, hxs, rfl⟩
    exact hJ _ _ _ _
end
theorem turn_spec (ns : List Int) (hn : ns.length ≤ 63) {k : Nat} (hk : k ≤ 9) (cell : Int) {S : Sto} (hS : Sane S) {o3 o4 o5 o6 o7 o8 o9 o10 o11 o12 o13 o14 o15 : Option D} (J : Sl → Sto → Prop) (hJ : ∀ S2 o3 o4 o5 o6 o7 o8 o9 o10 o11 o12 o13 o14 o15, Sane S2 → J [some (.lst (ns.map .int)), some (.int k), some (.int cell), o3, o4, o5, o6, o7, o8, o9, o10, o11, o12, o13, o14, o15] S2) :
    (turnB [some (.lst (ns.map .int)), some (.int k), some (.int cell), o3, o4, o5, o6, o7, o8, o9, o10, o11, o12, o13, o14, o15] S).post J (fun _ _ => False) NoS NoS := by
  have sl : 16000000 ≤ sizeLine := by decide
  unfold turnB
  walk_at "3"
  refine o_catD (by rw [List.length_map]; show 1 + ns.length ≤ sizeLine; omega) ?_
  walk_at "3"
  rw [show (2 : Int) + (k : Int) = ((2 + k : Nat) : Int) by omega]
  refine (lbegun_spec (cs := cell :: ns) (m := 2 + k) (by rw [List.length_cons]; omega) (by omega) (by omega) S hS).mono ?_
  rintro z S1 ⟨rfl, r, i, hr, rfl⟩
  have hj : Dr (S ++ [drw r i]) S.length := ⟨r, i, get_app, hr⟩
  have s1 : Sane (S ++ [drw r i]) := sane_app hS (drw_closed _ _ _)
  generalize S.length = j at *
  generalize (S ++ [drw r i]) = S1 at *
  walk_at "3"
  refine (laround_spec (b := 4) (by decide) (by decide) S1 s1 hj).mono ?_
  rintro z S2 ⟨⟨v4, rfl, v40, v41⟩, mv2⟩
  walk_at "3"
  refine pow6 (δ := []) (n := 6) (by decide) ?_
  walk_at "3"
  refine (laround_spec (b := 10 ^ 6) (by decide) (by decide) S2 (mv2.sane s1) (mv2.dr hj)).mono ?_
  rintro z S3 ⟨⟨v6, rfl, v60, v61⟩, mv3⟩
  have mv3 := mv2.trans mv3
  walk_at "3"
  refine (lnext_spec (b := 6) (by decide) (by decide) S3 (mv3.sane s1) (mv3.dr hj)).mono ?_
  rintro z S4 ⟨⟨ii, rfl, i0, i1⟩, mv4⟩
  have mv4 := mv3.trans mv4
  refine ix_emb (xs := [0, 1, -1, 2, v4, v6]) i0 (by exact i1) fun B hB => ?_
  rw [toD_int]
  have hB : B.natAbs ≤ 1000000 := by
    simp only [List.mem_cons, List.not_mem_nil, or_false] at hB
    omega
  clear v40 v41 v60 v61
  walk_at "3"
  refine (lform_spec hB S4 (mv4.sane s1) (mv4.dr hj)).mono ?_
  rintro z S5 ⟨⟨rows, rfl, fz⟩, mv5⟩
  have mv5 := mv4.trans mv5
  walk_at "3"
  refine (lplain_spec S5 (mv5.sane s1) (mv5.dr hj)).mono ?_
  rintro z S6 ⟨⟨P, rfl, hP⟩, mv6⟩
  have mv6 := mv5.trans mv6
  have s6 := mv6.sane s1
  have hs := fz.slv hB
  walk_at "3"
  refine Res.post.of_eq (law_one_spec hs hP S6 s6) ?_
  walk_at "3"
  refine loopA_spec s6 hs hP _ fun o8 => ?_
  walk_at "3"
  exact loopB_spec s6 fz hB hP J fun o10 o11 o14 o15 => hJ _ _ _ _ _ _ _ _ _ _ _ _ _ _ s6
end DL
set_option Elab.async false
set_option linter.all false
set_option maxRecDepth 100000
set_option maxHeartbeats 4000000
set_option autoImplicit false
/-! k32: the law, whole. -/
namespace DL
open PySem L2
open Emb
local macro_rules | `(tactic| walk_at "1") => `(tactic| with_reducible first
  | refine s_seq ?_ | refine s_asg ?_ | refine s_ret ?_ | refine s_if ?_ | refine s_expr ?_ | refine s_next ?_ | refine s_brk ?_ | refine s_cont ?_ | refine s_for ?_ | refine s_while ?_
  | refine p_c ?_ | refine p_bin ?_ | refine p_as ?_ | refine p_cons ?_ | refine p_nil ?_ | refine p_un ?_ | refine p_call ?_ | refine p_if ?_ | refine p_own ?_
  | refine p_keep ?_ | refine p_tru ?_ | refine p_and ?_ | refine p_or ?_ | refine p_not ?_ | refine p_val ?_ | refine p_rand ?_ | refine p_ror ?_ | refine p_rnot ?_ | refine p_chain ?_ | refine p_bif ?_
  | refine o_add ?_ | refine o_sub ?_ | refine o_ltU ?_ | refine o_leU ?_ | refine o_gtU ?_ | refine o_geU ?_ | refine o_neg ?_ | refine o_eqI ?_ | refine o_neI ?_ | refine o_abs ?_ | refine o_tru ?_ | refine p_true ?_ | refine p_false ?_
  | refine o_lenT ?_ | refine o_lenL ?_ | refine o_ix0 ?_ | refine o_ix1 ?_ | refine o_ix2 ?_ | refine o_ix0L ?_ | refine o_ix1L ?_ | refine o_ix2L ?_
  | refine s_par ?_ | refine p_yes ?_ | refine p_seq ?_ | refine s_gnil ?_ | refine s_gcons ?_ | refine s_gtux ?_ | refine s_gtupl ?_ | refine p_onone ?_ | refine p_osome ?_ | refine p_get2 ?_ | refine s_putU ?_ | refine p_sortIt ?_)
local macro_rules | `(tactic| walk_at "2") => `(tactic| first
  | walk_at "1"
  | (with_reducible refine p_var2 ?_)
  | ((with_reducible refine s_name ?_ ?_); (· exact Nat.le_of_ble_eq_true rfl); dsimp only [List.set_cons_zero, List.set_cons_succ])
  | (with_reducible refine p_tup ?_) | (with_reducible refine p_lst ?_) | ((with_reducible refine ⟨?_, ?_⟩); (· exact Nat.le_of_ble_eq_true rfl))
  | ((with_reducible refine p_ex2 (x := ?_) (y := ?_) ?_ ?_); rotate_left; rotate_left; (· rfl); refine ⟨?_, ?_, ?_⟩; (· exact Nat.le_of_ble_eq_true rfl); (· exact Nat.le_of_ble_eq_true rfl); dsimp only [List.set_cons_zero, List.set_cons_succ])
  | ((with_reducible refine p_isT ?_ ?_); (· rfl)) | ((with_reducible refine p_isF ?_ ?_); (· rfl))
  | ((with_reducible refine p_ex (x := ?_) ?_ ?_); rotate_left; (· rfl)))
local macro_rules | `(tactic| walk_at "3") => `(tactic| repeat walk_at "2")
def afterB : RS := (sSeq (sAsg (rTup (rCons (rTup (rCons (rTup (rCons (rTup (rCons (rTup (rCons (rC (.str "x")) (rCons (rC (.int 1)) rNil))) rNil)) (rCons (rC (.int 98)) (rCons (rC (.int 2)) rNil)))) (rCons (rTup (rCons (rC (.int 1)) (rCons (rC (.int 3)) rNil))) rNil))) rNil)) (gName 12))
    (sSeq (sAsg (rTup (rCons (rTup (rCons (rTup (rCons (rTup (rCons (rTup (rCons (rC (.str "x")) (rCons (rC (.int 1)) rNil))) rNil)) (rCons (rC (.int 99)) (rCons (rC (.int 2)) rNil)))) (rCons (rTup (rCons (rC (.int 1)) (rCons (rC (.int 3)) rNil))) rNil))) rNil)) (gName 13))
    (sSeq (sIf (bOr (bVal (rBin gNe (rCall m_one_form (rCons (rC (.int 2)) (rCons (rVar 12) (rCons (rTup rNil) rNil)))) (rVar 13))) (bNot (bTru (rCall m__law_is_too_great (rCons (rVar 13) rNil))))) (sRet (rC (.bl false))) sNext)
    (sRet (rAnd (rBin gEq (rCall m_one_form (rCons (rC (.int 5)) (rCons (rTup rNil) (rCons (rTup rNil) rNil)))) (rTup rNil)) (rCall m__law_far_right (rCons (rCall m__law_begun (rCons (rVar 0) (rCons (rC (.int 0)) (rCons (rC (.int 1)) rNil)))) rNil)))))))
def OkX (x : D) : Prop := ∃ (k : Nat) (cell : Int), x = .tux [.int k, .int cell] ∧ k ≤ 9
theorem enum_ok : ∀ (ns : List Int) (n : Nat), n + ns.length ≤ 10 → ∀ x ∈ enumD n (ns.map .int), OkX x
  | [], _, _, x, h => nomatch h
  | c :: r, n, hl, x, h => by
    rw [List.length_cons] at hl
    have h : x ∈ D.tux [.int n, .int c] :: enumD (n + 1) (r.map .int) := h
    rcases List.mem_cons.mp h with rfl | h
    · exact ⟨n, c, rfl, by omega⟩
    · exact enum_ok r (n + 1) (by omega) x h
theorem law_spec (ns : List Int) (hn : ns.length ≤ 63) : ∃ S, m_law [.lst (ns.map .int)] [] = .ok (.bl true) S := by
  have sl : 16000000 ≤ sizeLine := by decide
  refine ⟨[], same_of (m_def ?_)⟩
  show (b_law [some (.lst (ns.map .int)), none, none, none, none, none, none, none, none, none, none, none, none, none, none, none] []).post _ _ _ _
  unfold b_law
  have key : ∀ cs : List Int, (∀ x ∈ enumD 0 (cutD (cs.map D.int) none (some 10)), OkX x) := fun cs => by
    have e : cutD (cs.map D.int) none (some 10) = (cs.take 10).map D.int := by
      unfold cutD
      rw [List.length_map]
      show ((cs.map D.int).drop 0).take (min 10 cs.length - 0) = _
      rw [List.drop_zero, ← List.map_take, Nat.sub_zero]
      congr 1
      rcases Nat.le_total 10 cs.length with h | h
      · rw [Nat.min_eq_left h]
      · rw [Nat.min_eq_right h, List.take_of_length_le (Nat.le_refl _), List.take_of_length_le h]
    rw [e]
    exact enum_ok _ 0 (by rw [List.length_take]; omega)
  have main : ∀ cs : List Int, (forL (gTup (gCons (gName 1) (gCons (gName 2) gNil))) turnB (enumD 0 (cutD (cs.map D.int) none (some 10))) [some (.lst (ns.map .int)), none, none, none, none, none, none, none, none, none, none, none, none, none, none, none] []).post (fun δ S => Sane S ∧ ∃ o1 o2 o3 o4 o5 o6 o7 o8 o9 o10 o11 o12 o13 o14 o15 : Option D, δ = [some (.lst (ns.map .int)), o1, o2, o3, o4, o5, o6, o7, o8, o9, o10, o11, o12, o13, o14, o15]) (fun _ _ => False) NoS NoS := fun cs => by
    refine s_forL (fun xs δ S => Sane S ∧ (∀ x ∈ xs, OkX x) ∧ ∃ o1 o2 o3 o4 o5 o6 o7 o8 o9 o10 o11 o12 o13 o14 o15 : Option D, δ = [some (.lst (ns.map .int)), o1, o2, o3, o4, o5, o6, o7, o8, o9, o10, o11, o12, o13, o14, o15]) ?_ ?_ _ _ _ ⟨rfl, key cs, none, none, none, none, none, none, none, none, none, none, none, none, none, none, none, rfl⟩
    · rintro x xs δ S ⟨hS, hxs, o1, o2, o3, o4, o5, o6, o7, o8, o9, o10, o11, o12, o13, o14, o15, rfl⟩
      obtain ⟨k, cell, rfl, hk⟩ := hxs x List.mem_cons_self
      walk_at "3"
      exact (turn_spec ns hn hk cell hS (o3 := o3) (o4 := o4) (o5 := o5) (o6 := o6) (o7 := o7) (o8 := o8) (o9 := o9) (o10 := o10) (o11 := o11) (o12 := o12) (o13 := o13) (o14 := o14) (o15 := o15) _ fun S2 o3 o4 o5 o6 o7 o8 o9 o10 o11 o12 o13 o14 o15 h2 => ⟨h2, fun x hx => hxs x (List.mem_cons_of_mem _ hx), _, _, _, _, _, _, _, _, _, _, _, _, _, _, _, rfl⟩).mono (fun _ _ z => z) (fun _ _ z => z.elim) (fun _ _ z => z.elim) (fun _ _ z => z.elim)
    · rintro δ S ⟨hS, _, o1, o2, o3, o4, o5, o6, o7, o8, o9, o10, o11, o12, o13, o14, o15, rfl⟩
      exact ⟨hS, _, _, _, _, _, _, _, _, _, _, _, _, _, _, _, rfl⟩
  have after : ∀ (δ : Sl) (S : Sto), (Sane S ∧ ∃ o1 o2 o3 o4 o5 o6 o7 o8 o9 o10 o11 o12 o13 o14 o15 : Option D, δ = [some (.lst (ns.map .int)), o1, o2, o3, o4, o5, o6, o7, o8, o9, o10, o11, o12, o13, o14, o15]) → (afterB δ S).post (fun _ S1 => closedL 0 (S1.take 0) = true ∧ (D.non = .bl true ∧ S1.take 0 = [])) (fun d S1 => (D.closed 0 d && closedL 0 (S1.take 0)) = true ∧ (d = .bl true ∧ S1.take 0 = [])) NoS NoS := by
    rintro δ S ⟨hS, o1, o2, o3, o4, o5, o6, o7, o8, o9, o10, o11, o12, o13, o14, o15, rfl⟩
    unfold afterB
    walk_at "3"
    rw [← rowX_d 98, ← rowX_d 99]
    refine Res.post.of_eq (show m_one_form [.int 2, toD (rowX 98), .tup []] S = .ok (toD (onT 2 (rowX 98) [])) S from one_form_spec rowX_slv pb_nil S hS) ?_
    rw [top_eq]
    walk_at "3"
    have ft : fitP (py (rowX 99)) = true := by
      rw [← top_eq]
      exact form_fit (on_fit (rowX_slv.onn pb_nil) rowX_slv)
    refine o_neEmb ft ft (by decide) ?_
    rw [show (!decide (rowX 99 = rowX 99)) = false by simp]
    walk_at "3"
    refine Res.post.of_eq (too_great_spec S hS) ?_
    walk_at "3"
    refine Res.post.of_eq (show m_one_form [.int 5, .tup [], .tup []] S = .ok (toD (onT 5 [] [])) S from one_form_spec nil_slv pb_nil S hS) ?_
    rw [nil_eq]
    walk_at "3"
    refine o_eqEmb (a := ([] : List (Kind × Rat))) (b := []) (by decide) (by decide) (by decide) ?_
    rw [decide_eq_true rfl]
    walk_at "3"
    refine (lbegun_spec (cs := ns) (m := 1) (by omega) (by decide) (by decide) S hS).mono ?_
    rintro z S1 ⟨rfl, r, i, hr, rfl⟩
    walk_at "3"
    refine (far_spec (S ++ [drw r i]) (sane_app hS (drw_closed _ _ _)) ⟨r, i, get_app, hr⟩).mono ?_
    rintro z S2 ⟨rfl, _⟩
    exact ⟨rfl, rfl, rfl⟩
  refine s_seq ?_
  refine s_for ?_
  refine p_enum ?_
  refine p_cons ?_
  refine p_cutL ?_
  refine p_ror (p_var rfl ⟨!(ns.map D.int).isEmpty, rfl, fun _ => ?_, fun _ => ?_⟩)
  · walk_at "3"
    exact (main ns).mono (fun δ S h => after δ S h) (fun _ _ z => z.elim) (fun _ _ z => z.elim) (fun _ _ z => z.elim)
  · walk_at "3"
    exact (main [4]).mono (fun δ S h => after δ S h) (fun _ _ z => z.elim) (fun _ _ z => z.elim) (fun _ _ z => z.elim)
end DL
open PySem PySem.W PyProof.Rows
theorem PySem.Challenge.cw_roundless_k32_one_form_holds : PySem.Challenge.rw_roundless_k32_one_form.Holds := by
  exact DL.holds_of fun ns h => DL.law_spec ns h
