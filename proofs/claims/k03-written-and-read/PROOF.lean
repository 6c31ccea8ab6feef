import PyProof.Rows.All
import Wide.All
import OpenK.AllK
import Wide.FinOn
import KE.KStateDown
import Lean
import HandS.Base
import HandS.Call
import HandS.Ends
import HandS.More
import HandS.Words
import HandS.WordsExc
import HandS.Defaults
import HandS.Head0
import HandS.Head1
import HandS.Head2
import HandS.HeadEnd
import HandS.HeadHook1
import HandS.HeadHook2
import HandS.TupAny
import HandS.List
import HandS.Conv
import HandS.ForMost
import HandS.Exc
import HandS.ExcCtx
import HandS.TryOnly
import HandS.IsInst
import HandS.CallSlots
import HandS.HotCalls
import KE.DataEq
import PyProof.TwoTypes
import PyProof.TwoTypesSub
import PyProof.FactsAll.bool_1
import PyProof.FactsAll.bool_3
import PyProof.FactsAll.int_1
import PyProof.FactsAll.int_3
import PyProof.FactsAll.int_5
import PyProof.AutoIntG7
import HandS.Wide
import HandS.TupLe
import HandS.Strs
import HandS.FStr
import HandS.NoneIn
import HandS.Zip
import HandS.Dict
import HandS.DictComp
import KE.KEqDict
import KE.DataCmp
import HandS.Codes
import HandS.StrMore
import HandS.RaiseMore
import HandS.Flow
import HandS.ExcOwn
import HandS.Style
import HandS.Rev
import HandS.Iter
import KE.GoesMore
import PyProof.EnumMake
import PyProof.WalksEnum
import HandS.Star
import KE.KDictPairs
import KE.SortData
import KE.DataMinMax
import HandS.Set
import PySem.Challenge.RW_planholds_k03_pla_written_and_read
set_option Elab.async false
set_option linter.all false
set_option maxRecDepth 100000
set_option maxHeartbeats 4000000
namespace M
open PySem PySem.Spec PyProof.Rows L2 HT
/-- a new tuple: known to the object, or not -/
def newT (b : Bool) (o : Obj) (vs : List V) : HO := if b = true then .frz o (.tup vs) else .tup vs
def tupO (its : List Value) : Obj := { cls := .type "tuple", data := .seq its.toArray }
section
variable {X : Cx} {pins : List (Addr × Obj)} {σ : L2.St} {H : Hp} {s : Shared}
theorem laid_tup {vs : List V} {its : List Value} {h' : Heap} (b : Bool) (I : L2.Inv X pins σ H { s with heap := h' }) (hz : vs.length ≤ sizeLine) (rv : Vals vs its) :
    L2.Inv X pins σ (upd H h'.objs.size (newT b (tupO its) vs)) { s with heap := h'.push (tupO its) } := by
  refine I.laid (t' := s.toks) (fun b o e => Heap.get?_push_of_some _ e) (Nat.le_refl _) ?_
  have ok : ObjOk X.prog X.w (upd H h'.objs.size (newT b (tupO its) vs)) (h'.push (tupO its)) h'.objs.size (.tup vs) := ⟨hz, its, rv, IsTup.new _ _⟩
  unfold newT
  cases b with
  | false => exact ok
  | true => exact ⟨Heap.get?_push_size _ rfl, ok⟩
/-- what is wanted of a new tuple -/
def NewT (b : Bool) (vs : List V) (H : Hp) (Q : VK) : Prop := ∀ p o, H p = none → o.dict = none → Q (.ref p) (upd H p (newT b o vs))
theorem NewT.use {b : Bool} {vs : List V} {Q : VK} {its : List Value} {h' : Heap} (q : NewT b vs H Q) (I : L2.Inv X pins σ H { s with heap := h' }) (hz : vs.length ≤ sizeLine) (rv : Vals vs its) : EP X pins σ Q (.ref h'.objs.size) { s with heap := h'.push (tupO its) } :=
  ⟨.ref h'.objs.size, _, laid_tup b I hz rv, rfl, q _ _ (I.hok.fresh (Nat.le_refl _)) rfl⟩
end
section
variable {X : Cx}
def tTupB (t : TA) : TE := fun σ H Q => t σ H fun xs H1 => xs.length ≤ sizeLine ∧ ∃ c, NewT c xs H1 Q
theorem pe_tupB {es : List Expr} {t : TA} {pos : Pos} {x1 : Nat} (h : PA X es t) : PE X (.Tuple es x1 pos) (tTupB t) := by
  refine ⟨fun pins s σ H Q I hq => ?_⟩
  refine wpAny_Tuple_spliced (thn (h.run pos pins s σ H _ I hq) fun us s1 ⟨xs, H1, I1, r, z, c, q⟩ => ⟨by rw [← r.length]; exact z, ?_⟩)
  exact q.use I1 z r
/-- t + u -/
def rCatB (K : PySem.W.Frag) : R2 := fun x y H Q => ∃ a b xs ys, x = .ref a ∧ y = .ref b ∧ SqT K H a xs ∧ SqT K H b ys ∧ xs.length + ys.length ≤ sizeLine ∧
  (xs = [] → Q (.ref b) H) ∧ (xs ≠ [] → ys = [] → Q (.ref a) H) ∧ (xs ≠ [] → ys ≠ [] → ∃ c, NewT c (xs ++ ys) H Q)
theorem op_catB : OpR X (binaryOp .Add) (rCatB X.K) := by
  intro pins s σ H x y v u Q I rx ry h
  obtain ⟨a, b, xs, ys, rfl, rfl, ha, hb, hz, q0, q1, q2⟩ := h
  cases rx
  cases ry
  obtain ⟨its, r1, p1, _⟩ := I.tuple ha
  obtain ⟨its2, r2, p2, _⟩ := I.tuple hb
  by_cases hx : xs = []
  · subst hx
    cases r1
    exact cat_tup0 p1 p2 ⟨.ref b, H, I, rfl, q0 rfl⟩
  · refine HT.cat_tup p1 p2 (fun z => hx (r1.nil_iff.mp z)) (fun z => ⟨.ref a, H, I, rfl, q1 hx (r2.nil_iff.mp z)⟩) (fun z => ?_) (by rw [← r1.length, ← r2.length]; exact hz)
    obtain ⟨c, q⟩ := q2 hx (fun w => z (r2.nil_iff.mpr w))
    exact q.use I (by rw [List.length_append]; exact hz) (r1.append r2)
/-- t[lo:hi]: the whole of it is t itself -/
def rSlB (K : PySem.W.Frag) : V → Option Int → Option Int → Hp → VK → Prop := fun x lo hi H Q => ∃ a xs, x = .ref a ∧ SqT K H a xs ∧
  (HT.sIx xs.length 0 lo = 0 ∧ HT.sIx xs.length xs.length hi = xs.length → Q (.ref a) H) ∧ (¬ (HT.sIx xs.length 0 lo = 0 ∧ HT.sIx xs.length xs.length hi = xs.length) → ∃ c, NewT c (cutV xs lo hi) H Q)
theorem sl_tupB : SlR X (rSlB X.K) := by
  intro pins s σ H x v vl vu lo hi sl Q I rx hs pl pu h
  obtain ⟨a, xs, rfl, hx, q1, q2⟩ := h
  cases rx
  obtain ⟨its, r, ht, hz⟩ := I.tuple hx
  have hlen : its.toArray.size = xs.length := by rw [List.size_toArray]; exact r.length.symm
  refine ⟨"tuple", _, PyProof.Rows.slot_tuple_getitem.lookup, ht.typeIs, ?_⟩
  by_cases hw : HT.sIx xs.length 0 lo = 0 ∧ HT.sIx xs.length xs.length hi = xs.length
  · exact getItem_tuple_whole ht hs pl pu (by rw [hlen]; exact hw) ⟨.ref a, H, I, rfl, q1 hw⟩
  · refine HT.getItem_tuple_cut ht hs pl pu (by rw [hlen]; exact hw) ?_ (by rw [hlen]; exact hz)
    rw [hlen]
    obtain ⟨c, q⟩ := q2 hw
    exact q.use I (Nat.le_trans (cutV_length xs lo hi) hz) ((r.drop (HT.sIx xs.length 0 lo)).take (HT.sIx xs.length xs.length hi - HT.sIx xs.length 0 lo))
/-- tuple(x) -/
theorem call_tupleB : CallR X (.type "tuple") (fun xs H Q => ∃ p ys, xs = [.ref p] ∧ ((SqL X.K H p ys ∧ ∃ c, NewT c ys H Q) ∨ (SqT X.K H p ys ∧ Q (.ref p) H))) := by
  intro pins s σ H xs us Q I r h
  obtain ⟨p, ys, rfl, h⟩ := h
  obtain ⟨u, rfl, rx⟩ := vals1 r
  cases rx
  rcases h with ⟨hq, c, q⟩ | ⟨hq, q⟩
  · obtain ⟨its, r', pl, hz⟩ := I.list hq
    have hlen := r'.length
    refine call_tuple_list pl.isList (fun h' kp => ?_) (by simp only [List.size_toArray] <;> omega)
    have I1 : L2.Inv X pins σ H { s with heap := h' } := I.kept (t' := s.toks) kp
    exact q.use I1 hz r'
  · obtain ⟨its, r', pl, hz⟩ := I.tuple hq
    exact call_tuple_same pl ⟨.ref p, H, I, rfl, q⟩
end
open PySem PySem.Spec PyProof.Rows L2
/-- data: tuples are trees, and lists that are read only (ls); what can be changed stands in a heap -/
inductive D where
  | non | bl (b : Bool) | int (i : Int) | str (x : List Nat) | tup (xs : List D) | ls (xs : List D) | ref (n : Nat)
  deriving Inhabited
/-- a written text -/
def cs (s : String) : List Nat := (PySem.Str.ofString s).cps.toList
/-- what stands in the heap: a list, a dict (t: its keys are tuples; lk: it is walked), an instance -/
inductive Cell where
  | lst (xs : List D) | dic (t lk : Bool) (kvs : List (D × D)) | ins (c : Str) (fs : List (Str × D))
  deriving Inhabited
abbrev Hs := List Cell
abbrev Env := List (Option D)
/-- an exception: its class's name, its fields -/
structure Ex where
  cls : Str
  fs : List (Str × D)
  deriving Inhabited
inductive Res (α : Type) where
  | ok (a : α) (h : Hs) | exc (e : Ex) (h : Hs) | bad
  deriving Inhabited
inductive Fl where
  | nx (env : Env) (h : Hs) | rt (d : D) (h : Hs) | bk (env : Env) (h : Hs) | ct (env : Env) (h : Hs) | exc (e : Ex) (env : Env) (h : Hs) | bad
  deriving Inhabited
abbrev lim : Nat := 16777216
def Res.bind {α β : Type} (r : Res α) (f : α → Hs → Res β) : Res β := match r with
  | .ok a h => f a h
  | .exc e h => .exc e h
  | .bad => .bad
section
variable {α β : Type}
@[simp] theorem Res.bind_ok (a : α) (h : Hs) (f : α → Hs → Res β) : (Res.ok a h).bind f = f a h := rfl
@[simp] theorem Res.bind_exc (e : Ex) (h : Hs) (f : α → Hs → Res β) : (Res.exc e h : Res α).bind f = .exc e h := rfl
@[simp] theorem Res.bind_bad (f : α → Hs → Res β) : (Res.bad : Res α).bind f = .bad := rfl
end
/-- an answer that must be there -/
def Res.of {α : Type} (o : Option α) (h : Hs) : Res α := match o with
  | some a => .ok a h
  | none => .bad
@[simp] theorem Res.of_some {α : Type} (a : α) (h : Hs) : Res.of (some a) h = .ok a h := rfl
@[simp] theorem Res.of_none {α : Type} (h : Hs) : Res.of (none : Option α) h = .bad := rfl
/-- a list that nobody writes: known to the object, or of the module -/
def SqR (K : PySem.W.Frag) (H : Hp) (a : Addr) (xs : List V) : Prop :=
  (∃ o, H a = some (.frz o (.lst xs))) ∨
    ∃ (o : Obj) (its : Array Value) (n : Nat), K.lookup a = some o ∧ o.cls = .type "list" ∧ o.dict = none ∧ o.data = .seq its n ∧ its.size ≤ sizeLine ∧ Vals xs its.toList
theorem SqR.sq {K : PySem.W.Frag} {H : Hp} {a : Addr} {xs : List V} (h : SqR K H a xs) : SqL K H a xs := h.elim (fun q => .inl (.inr q)) .inr
def keyD : Key → D
  | .inl i => .int i
  | .inr x => .str x.cps.toList
def keyOk : Key → Prop
  | .inl _ => True
  | .inr x => x.cps.size ≤ lim
/-- a pair -/
def isPr : D → Bool
  | .tup [_, _] => true
  | _ => false
/-- pairs alone (the empty tuple too) -/
def allP (ds : List D) : Bool := ds.all isPr
/-- a tuple's object: of pairs alone, it is known to be plain -/
def TpR (H : Hp) (a : Addr) (vs : List V) (ds : List D) : Prop := if allP ds = true then ∃ o, H a = some (.frz o (.tup vs)) ∧ o.dict = none else H a = some (.tup vs)
theorem TpR.rd {H : Hp} {a : Addr} {vs : List V} {ds : List D} (q : TpR H a vs ds) : H a = some (.tup vs) ∨ ∃ o, H a = some (.frz o (.tup vs)) := by
  unfold TpR at q
  by_cases c : allP ds = true
  · rw [if_pos c] at q; exact .inr ⟨q.choose, q.choose_spec.1⟩
  · rw [if_neg c] at q; exact .inl q
theorem TpR.sqT {K : PySem.W.Frag} {H : Hp} {a : Addr} {vs : List V} {ds : List D} (q : TpR H a vs ds) : SqT K H a vs := .inl q.rd
theorem TpR.plain {H : Hp} {a : Addr} {vs : List V} {ds : List D} (q : TpR H a vs ds) (c : allP ds = true) : ∃ o, H a = some (.frz o (.tup vs)) ∧ o.dict = none := by
  unfold TpR at q
  rw [if_pos c] at q; exact q
theorem TpR.tup {H : Hp} {a : Addr} {vs : List V} {ds : List D} (q : TpR H a vs ds) (c : allP ds = false) : H a = some (.tup vs) := by
  unfold TpR at q
  rw [if_neg (by rw [c]; decide)] at q; exact q
theorem TpR.grow {H H' : Hp} {a : Addr} {vs : List V} {ds : List D} (q : TpR H a vs ds) (h1 : ∀ a xs, H a = some (.tup xs) → H' a = some (.tup xs)) (h2 : ∀ a o xs, H a = some (.frz o (.tup xs)) → H' a = some (.frz o (.tup xs))) : TpR H' a vs ds := by
  unfold TpR at q ⊢
  by_cases c : allP ds = true
  · rw [if_pos c] at q ⊢; obtain ⟨o, e, d⟩ := q; exact ⟨o, h2 _ _ _ e, d⟩
  · rw [if_neg c] at q ⊢; exact h1 _ _ q
theorem TpR.new {H : Hp} {a : Addr} {vs : List V} {o : Obj} (ds : List D) (hd : o.dict = none) : TpR (upd H a (newT (allP ds) o vs)) a vs ds := by
  unfold TpR newT
  by_cases c : allP ds = true
  · rw [if_pos c, if_pos c]; exact ⟨o, upd_same, hd⟩
  · rw [if_neg c, if_neg c]; exact upd_same
section
variable (K : PySem.W.Frag) (F : List Addr) (H : Hp)
mutual
def DV : D → V → Prop
  | .non, v => v = .non
  | .bl b, v => v = .bl b
  | .int i, v => v = .int i
  | .str x, v => v = .str ⟨x.toArray⟩ ∧ x.length ≤ lim
  | .tup ds, v => ∃ a vs, v = .ref a ∧ TpR H a vs ds ∧ DVs ds vs
  | .ls ds, v => ∃ a vs, v = .ref a ∧ SqR K H a vs ∧ DVs ds vs
  | .ref n, v => ∃ a, v = .ref a ∧ F[n]? = some a
def DVs : List D → List V → Prop
  | [], vs => vs = []
  | d :: ds, vs => ∃ v r, vs = v :: r ∧ DV d v ∧ DVs ds r
end
/-- a dict's object: flat keys, or tuples of them -/
def DicR (t : Bool) (kvs : List (D × D)) (o : HO) : Prop := match t with
  | false => ∃ l : List (Key × V), o = .dK l ∧ Paired (fun (p : D × D) (q : Key × V) => p.1 = keyD q.1 ∧ keyOk q.1 ∧ DV K F H p.2 q.2) kvs l
  | true => ∃ l : List (List Key × V), o = .dT l ∧ Paired (fun (p : D × D) (q : List Key × V) => p.1 = .tup (q.1.map keyD) ∧ (∀ z ∈ q.1, keyOk z) ∧ DV K F H p.2 q.2) kvs l
/-- attributes -/
def DFs : List (Str × D) → List (Str × V) → Prop
  | [], vs => vs = []
  | (n, d) :: ds, vs => ∃ v r, vs = (n, v) :: r ∧ DV K F H d v ∧ DFs ds r
end
structure Kx where
  K : PySem.W.Frag
  mg : Str → Option Value
  xd : Option (Addr × List (Str × V))
def CellR (k : Kx) (F : List Addr) (H : Hp) (a : Addr) : Cell → Prop
  | .lst xs => ∃ vs, H a = some (.lst vs) ∧ DVs k.K F H xs vs
  | .dic t lk kvs => ∃ o, DicR k.K F H t kvs o ∧ (if lk then ∃ ob, H a = some (.frz ob o) else H a = some o)
  | .ins c fs => ∃ C dx vs, k.mg c = some (.ref C) ∧ H a = some (.ins C dx vs) ∧ DFs k.K F H fs vs
structure RelH (k : Kx) (F : List Addr) (H : Hp) (h : Hs) : Prop where
  len : F.length = h.length
  nd : F.Nodup
  cell : ∀ (i : Nat) (c : Cell) (a : Addr), h[i]? = some c → F[i]? = some a → CellR k F H a c
structure Step (K : PySem.W.Frag) (F : List Addr) (H : Hp) (F' : List Addr) (H' : Hp) : Prop where
  pre : ∃ G, F' = F ++ G
  old : ∀ a o, H a = some o → a ∉ F → H' a = some o
  new : ∀ a, a ∈ F' → a ∉ F → H a = none
  tup : ∀ a xs, H a = some (.tup xs) → H' a = some (.tup xs)
  lsr : ∀ a xs, SqR K H a xs → SqR K H' a xs
  tfr : ∀ a o xs, H a = some (.frz o (.tup xs)) → H' a = some (.frz o (.tup xs))
theorem Step.refl {K F H} : Step K F H F H := ⟨⟨[], by simp⟩, fun _ _ e _ => e, fun _ h1 h2 => absurd h1 h2, fun _ _ h => h, fun _ _ h => h, fun _ _ _ h => h⟩
theorem Step.mem {K F H F' H'} (s : Step K F H F' H') {a : Addr} (h : a ∈ F) : a ∈ F' := by
  obtain ⟨G, e⟩ := s.pre
  rw [e]; exact List.mem_append_left _ h
theorem Step.trans {K F H F1 H1 F2 H2} (s : Step K F H F1 H1) (t : Step K F1 H1 F2 H2) : Step K F H F2 H2 where
  pre := by
    obtain ⟨G, e⟩ := s.pre
    obtain ⟨G', e'⟩ := t.pre
    exact ⟨G ++ G', by rw [e', e, List.append_assoc]⟩
  old := fun a o e n => by
    have e1 := s.old a o e n
    refine t.old a o e1 fun m => ?_
    rw [s.new a m n] at e; cases e
  new := fun a m n => by
    by_cases m1 : a ∈ F1
    · exact s.new a m1 n
    · have z := t.new a m m1
      cases e : H a with
      | none => rfl
      | some o =>
        rw [s.old a o e n] at z; cases z
  tup := fun a xs h => t.tup a xs (s.tup a xs h)
  lsr := fun a xs h => t.lsr a xs (s.lsr a xs h)
  tfr := fun a o xs h => t.tfr a o xs (s.tfr a o xs h)
theorem Step.get {K F H F' H'} (s : Step K F H F' H') {n : Nat} {a : Addr} (h : F[n]? = some a) : F'[n]? = some a := by
  obtain ⟨G, e⟩ := s.pre
  obtain ⟨hl, _⟩ := List.getElem?_eq_some_iff.mp h
  rw [e, List.getElem?_append_left hl]; exact h
mutual
theorem DV.mono {K F H F' H'} (s : Step K F H F' H') : ∀ (d : D) (v : V), DV K F H d v → DV K F' H' d v
  | .non, _, h => by unfold DV at h ⊢; exact h
  | .bl _, _, h => by unfold DV at h ⊢; exact h
  | .int _, _, h => by unfold DV at h ⊢; exact h
  | .str _, _, h => by unfold DV at h ⊢; exact h
  | .tup ds, v, h => by
    unfold DV at h ⊢
    obtain ⟨a, vs, e, q, r⟩ := h
    exact ⟨a, vs, e, q.grow s.tup s.tfr, DVs.mono s ds vs r⟩
  | .ls ds, v, h => by
    unfold DV at h ⊢
    obtain ⟨a, vs, e, q, r⟩ := h
    exact ⟨a, vs, e, s.lsr _ _ q, DVs.mono s ds vs r⟩
  | .ref n, v, h => by
    unfold DV at h ⊢
    obtain ⟨a, e, q⟩ := h
    exact ⟨a, e, s.get q⟩
theorem DVs.mono {K F H F' H'} (s : Step K F H F' H') : ∀ (ds : List D) (vs : List V), DVs K F H ds vs → DVs K F' H' ds vs
  | [], _, h => by unfold DVs at h ⊢; exact h
  | d :: ds, vs, h => by
    unfold DVs at h ⊢
    obtain ⟨v, r, e, h1, h2⟩ := h
    exact ⟨v, r, e, DV.mono s d v h1, DVs.mono s ds r h2⟩
end
theorem DFs.mono {K F H F' H'} (s : Step K F H F' H') : ∀ (ds : List (Str × D)) (vs : List (Str × V)), DFs K F H ds vs → DFs K F' H' ds vs
  | [], _, h => h
  | (n, d) :: ds, vs, h => by
    obtain ⟨v, r, e, h1, h2⟩ := h
    exact ⟨v, r, e, DV.mono s d v h1, DFs.mono s ds r h2⟩
theorem DicR.mono {K F H F' H'} (s : Step K F H F' H') {t kvs o} (h : DicR K F H t kvs o) : DicR K F' H' t kvs o := by
  cases t with
  | false => obtain ⟨l, e, p⟩ := h; exact ⟨l, e, Paired.mapP p fun _ _ q => ⟨q.1, q.2.1, DV.mono s _ _ q.2.2⟩⟩
  | true => obtain ⟨l, e, p⟩ := h; exact ⟨l, e, Paired.mapP p fun _ _ q => ⟨q.1, q.2.1, DV.mono s _ _ q.2.2⟩⟩
theorem DicR.is {K F H t kvs o} (h : DicR K F H t kvs o) : (∃ l, o = .dK l) ∨ ∃ l, o = .dT l := by
  cases t with
  | false => obtain ⟨l, e, _⟩ := h; exact .inl ⟨l, e⟩
  | true => obtain ⟨l, e, _⟩ := h; exact .inr ⟨l, e⟩
section
variable {K : PySem.W.Frag} {F : List Addr} {H : Hp}
theorem DVs.len : ∀ {ds : List D} {vs : List V}, DVs K F H ds vs → ds.length = vs.length
  | [], vs, h => by unfold DVs at h; rw [h]; rfl
  | d :: ds, vs, h => by
    unfold DVs at h
    obtain ⟨v, r, e, _, h2⟩ := h
    rw [e, List.length_cons, List.length_cons, DVs.len h2]
theorem DVs.get : ∀ {ds : List D} {vs : List V} {i : Nat} {d : D}, DVs K F H ds vs → ds[i]? = some d → ∃ v, vs[i]? = some v ∧ DV K F H d v
  | [], _, _, _, _, e => by simp at e
  | d :: ds, vs, i, d', h, e => by
    unfold DVs at h
    obtain ⟨v, r, ev, h1, h2⟩ := h
    subst ev
    cases i with
    | zero =>
      have : d = d' := by simpa using e
      subst this
      exact ⟨v, rfl, h1⟩
    | succ i =>
      have e2 : ds[i]? = some d' := by simpa using e
      obtain ⟨w, q1, q2⟩ := DVs.get h2 e2
      exact ⟨w, by simpa using q1, q2⟩
theorem DVs.nil : DVs K F H [] [] := by unfold DVs; rfl
theorem DVs.cons {d v ds vs} (h1 : DV K F H d v) (h2 : DVs K F H ds vs) : DVs K F H (d :: ds) (v :: vs) := by
  unfold DVs; exact ⟨v, vs, rfl, h1, h2⟩
theorem DVs.app : ∀ {ds es : List D} {vs ws : List V}, DVs K F H ds vs → DVs K F H es ws → DVs K F H (ds ++ es) (vs ++ ws)
  | [], _, vs, _, h, h2 => by unfold DVs at h; rw [h]; exact h2
  | d :: ds, es, vs, ws, h, h2 => by
    unfold DVs at h
    obtain ⟨v, r, e, h1, h3⟩ := h
    rw [e]
    exact DVs.cons h1 (DVs.app h3 h2)
theorem DVs.take : ∀ {ds : List D} {vs : List V} (n : Nat), DVs K F H ds vs → DVs K F H (ds.take n) (vs.take n)
  | _, _, 0, _ => DVs.nil
  | [], vs, n + 1, h => by unfold DVs at h; rw [h]; exact DVs.nil
  | d :: ds, vs, n + 1, h => by
    unfold DVs at h
    obtain ⟨v, r, e, h1, h3⟩ := h
    rw [e]
    exact DVs.cons h1 (DVs.take n h3)
theorem DVs.drop : ∀ {ds : List D} {vs : List V} (n : Nat), DVs K F H ds vs → DVs K F H (ds.drop n) (vs.drop n)
  | _, _, 0, h => h
  | [], vs, n + 1, h => by unfold DVs at h; rw [h]; exact DVs.nil
  | d :: ds, vs, n + 1, h => by
    unfold DVs at h
    obtain ⟨v, r, e, h1, h3⟩ := h
    rw [e]
    exact DVs.drop n h3
theorem DVs.set : ∀ {ds : List D} {vs : List V} (i : Nat) {d v}, DVs K F H ds vs → DV K F H d v → DVs K F H (ds.set i d) (vs.set i v)
  | [], vs, i, _, _, h, _ => by unfold DVs at h; rw [h]; exact DVs.nil
  | d :: ds, vs, i, d', v', h, hd => by
    unfold DVs at h
    obtain ⟨v, r, e, h1, h3⟩ := h
    rw [e]
    cases i with
    | zero => exact DVs.cons hd h3
    | succ i => exact DVs.cons h1 (DVs.set i h3 hd)
theorem DVs.rev : ∀ {ds : List D} {vs : List V}, DVs K F H ds vs → DVs K F H ds.reverse vs.reverse
  | [], vs, h => by unfold DVs at h; rw [h]; exact DVs.nil
  | d :: ds, vs, h => by
    unfold DVs at h
    obtain ⟨v, r, e, h1, h3⟩ := h
    rw [e, List.reverse_cons, List.reverse_cons]
    exact DVs.app (DVs.rev h3) (DVs.cons h1 DVs.nil)
end
theorem Tp.upd {H : Hp} {p a : Addr} {o : HO} {xs : List V} (hp : ∀ u, H p = some u → ∀ ys, u ≠ .tup ys) (h : H a = some (.tup xs)) : L2.upd H p o a = some (.tup xs) := by
  rw [upd_ne (show a ≠ p from fun e => by subst e; exact hp _ h xs rfl)]; exact h
theorem Tf.upd {H : Hp} {p a : Addr} {o : HO} {ob : Obj} {xs : List V} (hp : ∀ u, H p = some u → ∀ ob ys, u ≠ .frz ob (.tup ys)) (h : H a = some (.frz ob (.tup xs))) : L2.upd H p o a = some (.frz ob (.tup xs)) := by
  rw [upd_ne (show a ≠ p from fun e => by subst e; exact hp _ h ob xs rfl)]; exact h
theorem SqR.upd {K : PySem.W.Frag} {H : Hp} {p a : Addr} {o : HO} {xs : List V} (hp : ∀ u, H p = some u → ∀ ob ys, u ≠ .frz ob (.lst ys)) (h : SqR K H a xs) : SqR K (upd H p o) a xs := by
  rcases h with ⟨ob, h⟩ | h
  · refine .inl ⟨ob, ?_⟩
    rw [upd_ne (show a ≠ p from fun e => by subst e; exact hp _ h ob xs rfl)]; exact h
  · exact .inr h
/-- the object of a cell -/
theorem CellR.there {k F H a} : ∀ {c : Cell}, CellR k F H a c → ∃ o, H a = some o ∧ (∀ ys, o ≠ .tup ys) ∧ (∀ ob ys, o ≠ .frz ob (.tup ys)) ∧ (∀ ob ys, o ≠ .frz ob (.lst ys)) ∧ ∀ vs, o ≠ .xd vs
  | .lst xs, ⟨vs, e, _⟩ => ⟨_, e, fun _ z => (nomatch z), fun _ _ z => (nomatch z), fun _ _ z => (nomatch z), fun _ z => (nomatch z)⟩
  | .dic t lk kvs, ⟨o, d, e⟩ => by
    have ho := d.is
    cases lk with
    | true =>
      obtain ⟨ob, e⟩ := e
      rcases ho with ⟨l, rfl⟩ | ⟨l, rfl⟩ <;> exact ⟨_, e, fun _ z => (nomatch z), fun _ _ z => (nomatch z), fun _ _ z => (nomatch z), fun _ z => (nomatch z)⟩
    | false =>
      have e : H a = some o := e
      rcases ho with ⟨l, rfl⟩ | ⟨l, rfl⟩ <;> exact ⟨_, e, fun _ z => (nomatch z), fun _ _ z => (nomatch z), fun _ _ z => (nomatch z), fun _ z => (nomatch z)⟩
  | .ins c fs, ⟨C, dx, vs, _, e, _⟩ => ⟨_, e, fun _ z => (nomatch z), fun _ _ z => (nomatch z), fun _ _ z => (nomatch z), fun _ z => (nomatch z)⟩
theorem RelH.at {k F H h} (r : RelH k F H h) {a : Addr} (m : a ∈ F) : ∃ (i : Nat) (c : Cell), h[i]? = some c ∧ F[i]? = some a ∧ CellR k F H a c := by
  obtain ⟨i, hi, e⟩ := List.mem_iff_getElem.mp m
  have hi' : i < h.length := by rw [← r.len]; exact hi
  have e' : F[i]? = some a := by rw [List.getElem?_eq_getElem hi, e]
  exact ⟨i, h[i], List.getElem?_eq_getElem hi', e', r.cell i _ a (List.getElem?_eq_getElem hi') e'⟩
theorem RelH.there {k F H h} (r : RelH k F H h) {a : Addr} (m : a ∈ F) : ∃ o, H a = some o ∧ (∀ ys, o ≠ .tup ys) ∧ (∀ ob ys, o ≠ .frz ob (.tup ys)) ∧ (∀ ob ys, o ≠ .frz ob (.lst ys)) ∧ ∀ vs, o ≠ .xd vs :=
  let ⟨_, _, _, _, c⟩ := r.at m; c.there
theorem RelH.fresh {k F H h} (r : RelH k F H h) {p : Addr} (hp : H p = none) : p ∉ F := fun m => by
  obtain ⟨o, e, _⟩ := r.there m
  rw [hp] at e; cases e
/-- what a cell says is of its own object and of data -/
theorem CellR.keep {k F H F' H' a} (s : Step k.K F H F' H') (e : H' a = H a) : ∀ {c : Cell}, CellR k F H a c → CellR k F' H' a c
  | .lst xs, ⟨vs, q, d⟩ => ⟨vs, e.trans q, DVs.mono s _ _ d⟩
  | .dic t lk kvs, ⟨o, d, q⟩ => ⟨o, d.mono s, by rw [e]; exact q⟩
  | .ins c fs, ⟨C, dx, vs, m, q, d⟩ => ⟨C, dx, vs, m, e.trans q, DFs.mono s _ _ d⟩
section
variable {k : Kx} {F : List Addr} {H : Hp} {h : Hs} {p : Addr} {o : HO}
/-- something new that is no cell -/
theorem RelH.stepNew (r : RelH k F H h) (hp : H p = none) : Step k.K F H F (upd H p o) where
  pre := ⟨[], by simp⟩
  old := fun a u e _ => by rw [upd_ne (ne_of_none e hp)]; exact e
  new := fun _ h1 h2 => absurd h1 h2
  tup := fun a xs => Tp.upd fun u e => by rw [hp] at e; cases e
  lsr := fun a xs => SqR.upd fun u e => by rw [hp] at e; cases e
  tfr := fun a o xs => Tf.upd fun u e => by rw [hp] at e; cases e
theorem RelH.addNew (r : RelH k F H h) (hp : H p = none) : RelH k F (upd H p o) h := by
  refine ⟨r.len, r.nd, fun i c a e1 e2 => ?_⟩
  have c0 := r.cell i c a e1 e2
  obtain ⟨u, e, _⟩ := c0.there
  exact c0.keep (r.stepNew hp) (upd_ne (ne_of_none e hp))
/-- a new cell -/
theorem RelH.stepCell (r : RelH k F H h) (hp : H p = none) : Step k.K F H (F ++ [p]) (upd H p o) where
  pre := ⟨[p], rfl⟩
  old := fun a u e _ => by rw [upd_ne (ne_of_none e hp)]; exact e
  new := fun a h1 h2 => by
    rcases List.mem_append.mp h1 with m | m
    · exact absurd m h2
    · rw [List.mem_singleton.mp m]; exact hp
  tup := fun a xs => Tp.upd fun u e => by rw [hp] at e; cases e
  lsr := fun a xs => SqR.upd fun u e => by rw [hp] at e; cases e
  tfr := fun a o xs => Tf.upd fun u e => by rw [hp] at e; cases e
theorem RelH.addCell {c : Cell} (r : RelH k F H h) (hp : H p = none) (hc : CellR k (F ++ [p]) (upd H p o) p c) : RelH k (F ++ [p]) (upd H p o) (h ++ [c]) := by
  refine ⟨by simp [r.len], ?_, fun i c' a e1 e2 => ?_⟩
  · refine List.nodup_append.mpr ⟨r.nd, by simp, fun a ha b hb => ?_⟩
    rw [List.mem_singleton.mp hb]
    exact fun e => r.fresh hp (e ▸ ha)
  · by_cases hi : i < h.length
    · rw [List.getElem?_append_left hi] at e1
      rw [List.getElem?_append_left (by rw [r.len]; exact hi)] at e2
      have c0 := r.cell i c' a e1 e2
      obtain ⟨u, e, _⟩ := c0.there
      exact c0.keep (r.stepCell hp) (upd_ne (ne_of_none e hp))
    · have hn : h.length ≤ i := Nat.le_of_not_lt hi
      rw [List.getElem?_append_right hn] at e1
      rw [List.getElem?_append_right (by rw [r.len]; exact hn), r.len] at e2
      cases hj : i - h.length with
      | zero =>
        rw [hj] at e1 e2
        have z1 : c = c' := by simpa using e1
        have z2 : p = a := by simpa using e2
        rw [← z1, ← z2]; exact hc
      | succ j => rw [hj] at e1; simp at e1
/-- a cell is written -/
theorem RelH.stepSet {i : Nat} (r : RelH k F H h) (hi : F[i]? = some p) : Step k.K F H F (upd H p o) where
  pre := ⟨[], by simp⟩
  old := fun a u e n => by rw [upd_ne (show a ≠ p from fun q => n (by rw [q]; exact List.mem_of_getElem? hi))]; exact e
  new := fun _ h1 h2 => absurd h1 h2
  tup := fun a xs => Tp.upd fun u e => by
    obtain ⟨u', e', n1, n2, _⟩ := r.there (List.mem_of_getElem? hi)
    rw [e] at e'; cases e'
    exact n1
  lsr := fun a xs => SqR.upd fun u e => by
    obtain ⟨u', e', n1, n2, n3, _⟩ := r.there (List.mem_of_getElem? hi)
    rw [e] at e'; cases e'
    exact n3
  tfr := fun a o xs => Tf.upd fun u e => by
    obtain ⟨u', e', n1, n2, n3, _⟩ := r.there (List.mem_of_getElem? hi)
    rw [e] at e'; cases e'
    exact n2
theorem RelH.setCell {i : Nat} {c : Cell} (r : RelH k F H h) (hi : F[i]? = some p) (hc : CellR k F (upd H p o) p c) : RelH k F (upd H p o) (h.set i c) := by
  refine ⟨by simp [r.len], r.nd, fun j c' a e1 e2 => ?_⟩
  by_cases hj : i = j
  · subst hj
    rw [hi] at e2; cases e2
    have hl : i < h.length := by rw [← r.len]; exact (List.getElem?_eq_some_iff.mp hi).1
    rw [List.getElem?_set_self hl] at e1; cases e1
    exact hc
  · rw [List.getElem?_set_ne hj] at e1
    refine (r.cell j c' a e1 e2).keep (r.stepSet hi) (upd_ne fun q => hj ?_)
    subst q
    obtain ⟨l1, g1⟩ := List.getElem?_eq_some_iff.mp hi
    obtain ⟨l2, g2⟩ := List.getElem?_eq_some_iff.mp e2
    exact (List.getElem_inj r.nd).mp (g1.trans g2.symm)
end
def ER (k : Kx) (F : List Addr) (H : Hp) (σ : L2.St) (env : Env) : Prop := env.length = σ.length ∧ ∀ (i : Nat) (d : D), env[i]? = some (some d) → ∃ v, σ[i]? = some (some v) ∧ DV k.K F H d v
def XD (k : Kx) (F : List Addr) (H : Hp) : Prop := match k.xd with
  | none => True
  | some (dd, vs) => H dd = some (.xd vs) ∧ dd ∉ F
structure SR (k : Kx) (F : List Addr) (H : Hp) (h : Hs) (σ : L2.St) (env : Env) : Prop where
  rel : RelH k F H h
  er : ER k F H σ env
  xd : XD k F H
theorem ER.mono {k F H F' H' σ env} (s : Step k.K F H F' H') (e : ER k F H σ env) : ER k F' H' σ env :=
  ⟨e.1, fun i d q => let ⟨v, h1, h2⟩ := e.2 i d q; ⟨v, h1, DV.mono s d v h2⟩⟩
theorem XD.mono {k F H F' H'} (s : Step k.K F H F' H') (e : XD k F H) : XD k F' H' := by
  unfold XD at e ⊢
  split
  · trivial
  · rename_i dd vs q
    rw [q] at e
    exact ⟨s.old _ _ e.1 e.2, fun m => by have z := s.new _ m e.2; rw [e.1] at z; cases z⟩
theorem SR.step {k F H h σ env F' H' h'} (r : SR k F H h σ env) (s : Step k.K F H F' H') (r' : RelH k F' H' h') : SR k F' H' h' σ env := ⟨r', r.er.mono s, r.xd.mono s⟩
theorem ER.set {k F H σ env d v} (i : Nat) (e : ER k F H σ env) (h : DV k.K F H d v) : ER k F H (σ.set i (some v)) (env.set i (some d)) := by
  refine ⟨by simpa using e.1, fun j d' q => ?_⟩
  by_cases hj : i = j
  · subst hj
    by_cases hi : i < env.length
    · rw [List.getElem?_set_self hi] at q
      cases q
      have hs : i < σ.length := by rw [← e.1]; exact hi
      exact ⟨v, List.getElem?_set_self hs, h⟩
    · rw [List.getElem?_eq_none (by simpa using hi)] at q; cases q
  · rw [List.getElem?_set_ne hj] at q ⊢
    exact e.2 j d' q
theorem ER.clear {k F H σ env} (i : Nat) (e : ER k F H σ env) : ER k F H (σ.set i none) (env.set i none) := by
  refine ⟨by simpa using e.1, fun j d' q => ?_⟩
  by_cases hj : i = j
  · subst hj
    by_cases hi : i < env.length
    · rw [List.getElem?_set_self hi] at q; cases q
    · rw [List.getElem?_eq_none (by simpa using hi)] at q; cases q
  · rw [List.getElem?_set_ne hj] at q ⊢
    exact e.2 j d' q
/-- an immediate value: of no heap -/
def Imm : D → V → Prop
  | .non, v => v = .non
  | .bl b, v => v = .bl b
  | .int i, v => v = .int i
  | .str x, v => v = .str ⟨x.toArray⟩ ∧ x.length ≤ lim
  | _, _ => False
def ImmFs (fs : List (Str × D)) (vs : List (Str × V)) : Prop := Paired (fun (p : Str × D) (q : Str × V) => p.1 = q.1 ∧ Imm p.2 q.2) fs vs
/-- an exception's class and own dict -/
def XR (k : Kx) (F : List Addr) (H : Hp) (e : Ex) (cls : Value) (dx : Option Addr) : Prop :=
  ∃ C dd vs, k.mg e.cls = some (.ref C) ∧ cls = .ref C ∧ dx = some dd ∧ H dd = some (.xd vs) ∧ dd ∉ F ∧ ImmFs e.fs vs
def Post (k : Kx) {α : Type} (F : List Addr) (H : Hp) (P : α → List Addr → Hs → Hp → Prop) (W : Value → Option Addr → Hp → Prop) : Res α → Prop
  | .ok a h' => ∀ F' H', Step k.K F H F' H' → RelH k F' H' h' → P a F' h' H'
  | .exc e h' => ∀ F' H' cls dx, Step k.K F H F' H' → RelH k F' H' h' → XR k F' H' e cls dx → W cls dx H'
  | .bad => False
theorem Post.imp {k : Kx} {α : Type} {F H} {P P' : α → List Addr → Hs → Hp → Prop} {W W' : Value → Option Addr → Hp → Prop} {r : Res α} (p : Post k F H P W r)
    (h : ∀ a F' h' H', Step k.K F H F' H' → RelH k F' H' h' → P a F' h' H' → P' a F' h' H') (hw : ∀ c d H', W c d H' → W' c d H') : Post k F H P' W' r := by
  cases r with
  | ok a h' => exact fun F' H' s r => h a F' h' H' s r (p F' H' s r)
  | exc e h' => exact fun F' H' cls dx s r x => hw _ _ _ (p F' H' cls dx s r x)
  | bad => exact p
theorem Post.step {k : Kx} {α : Type} {F H F1 H1} {P : α → List Addr → Hs → Hp → Prop} {W : Value → Option Addr → Hp → Prop} {r : Res α} (p : Post k F H P W r) (s : Step k.K F H F1 H1) : Post k F1 H1 P W r := by
  cases r with
  | ok a h' => exact fun F' H' s' r => p F' H' (s.trans s') r
  | exc e h' => exact fun F' H' cls dx s' r x => p F' H' cls dx (s.trans s') r x
  | bad => exact p
theorem Post.bind {k : Kx} {α β : Type} {F H} {P : β → List Addr → Hs → Hp → Prop} {W : Value → Option Addr → Hp → Prop} {r : Res α} {f : α → Hs → Res β} (p : Post k F H P W (r.bind f)) :
    Post k F H (fun a F1 h1 H1 => Post k F1 H1 P W (f a h1)) W r := by
  cases r with
  | ok a h1 => exact fun F1 H1 s r => Post.step (r := f a h1) p s
  | exc e h' => exact p
  | bad => exact p
theorem Post.ok {k : Kx} {α : Type} {F H h} {P : α → List Addr → Hs → Hp → Prop} {W : Value → Option Addr → Hp → Prop} {a : α} (p : Post k F H P W (.ok a h)) (r : RelH k F H h) : P a F h H := p F H .refl r
/-- a value wanted -/
abbrev PV (k : Kx) (Q : VK) : D → List Addr → Hs → Hp → Prop := fun d F' _ H' => ∀ v, DV k.K F' H' d v → Q v H'
abbrev PVs (k : Kx) (Q : List V → Hp → Prop) : List D → List Addr → Hs → Hp → Prop := fun d F' _ H' => ∀ v, DVs k.K F' H' d v → Q v H'
abbrev PB (Q : Bool → Hp → Prop) : Bool → List Addr → Hs → Hp → Prop := fun b _ _ H' => Q b H'
abbrev PEnv (k : Kx) (Q : L2.St → Hp → Prop) : Env → List Addr → Hs → Hp → Prop := fun env F' _ H' => ∀ σ', ER k F' H' σ' env → Q σ' H'
def tE (k : Kx) (W : WX) (f : Env → Hs → Res D) : TE := fun σ H Q => ∃ F h env, SR k F H h σ env ∧ Post k F H (PV k Q) (fun c d H' => W c d σ H') (f env h)
def tT (k : Kx) (W : WX) (f : Env → Hs → Res Bool) : TT := fun σ H Q => ∃ F h env, SR k F H h σ env ∧ Post k F H (PB Q) (fun c d H' => W c d σ H') (f env h)
def tA (k : Kx) (W : WX) (f : Env → Hs → Res (List D)) : TA := fun σ H Q => ∃ F h env, SR k F H h σ env ∧ Post k F H (PVs k Q) (fun c d H' => W c d σ H') (f env h)
def tG (k : Kx) (W : WX) (g : D → Env → Hs → Res Env) : TG := fun v σ H Q => ∃ F h env d, SR k F H h σ env ∧ DV k.K F H d v ∧ Post k F H (PEnv k Q) (fun c d H' => W c d σ H') (g d env h)
def PostF (k : Kx) (F : List Addr) (H : Hp) (N : Ends) (W : WX) : Fl → Prop
  | .nx env h' => ∀ F' H' σ', Step k.K F H F' H' → RelH k F' H' h' → ER k F' H' σ' env → N.nx σ' H'
  | .bk env h' => ∀ F' H' σ', Step k.K F H F' H' → RelH k F' H' h' → ER k F' H' σ' env → N.bk σ' H'
  | .ct env h' => ∀ F' H' σ', Step k.K F H F' H' → RelH k F' H' h' → ER k F' H' σ' env → N.ct σ' H'
  | .rt d h' => ∀ F' H' v, Step k.K F H F' H' → RelH k F' H' h' → DV k.K F' H' d v → N.rt v H'
  | .exc e env h' => ∀ F' H' σ' cls dx, Step k.K F H F' H' → RelH k F' H' h' → ER k F' H' σ' env → XR k F' H' e cls dx → W cls dx σ' H'
  | .bad => False
def tS (k : Kx) (W : WX) (s : Env → Hs → Fl) : TS := fun N σ H => ∃ F h env, SR k F H h σ env ∧ PostF k F H N W (s env h)
theorem PostF.step {k F H F1 H1 N W fl} (p : PostF k F H N W fl) (s : Step k.K F H F1 H1) : PostF k F1 H1 N W fl := by
  cases fl with
  | nx env h' => exact fun F' H' σ' s' => p F' H' σ' (s.trans s')
  | bk env h' => exact fun F' H' σ' s' => p F' H' σ' (s.trans s')
  | ct env h' => exact fun F' H' σ' s' => p F' H' σ' (s.trans s')
  | rt d h' => exact fun F' H' v s' => p F' H' v (s.trans s')
  | exc e env h' => exact fun F' H' σ' cls dx s' => p F' H' σ' cls dx (s.trans s')
  | bad => exact p
theorem PE.imp {X : Cx} {e : Expr} {t t' : TE} (p : PE X e t) (h : ∀ σ H Q, t' σ H Q → t σ H Q) : PE X e t' := ⟨fun pins s σ H Q I q => p.run pins s σ H Q I (h σ H Q q)⟩
theorem PT.imp {X : Cx} {e : Expr} {t t' : TT} (p : PT X e t) (h : ∀ σ H Q, t' σ H Q → t σ H Q) : PT X e t' := ⟨fun pins s σ H Q I q => p.run pins s σ H Q I (h σ H Q q)⟩
theorem PW.imp {X : Cx} {e : Expr} {t t' : TT} (p : PW X e t) (h : ∀ σ H Q, t' σ H Q → t σ H Q) : PW X e t' := ⟨fun w pins s σ H Q I q => p.run w pins s σ H Q I (h σ H Q q)⟩
theorem PA.imp {X : Cx} {e : List Expr} {t t' : TA} (p : PA X e t) (h : ∀ σ H Q, t' σ H Q → t σ H Q) : PA X e t' := ⟨fun pos pins s σ H Q I q => p.run pos pins s σ H Q I (h σ H Q q)⟩
theorem PS.imp {X : Cx} {e : Stmt} {t t' : TS} (p : PS X e t) (h : ∀ N σ H, t' N σ H → t N σ H) : PS X e t' := ⟨fun pins s σ H N I q => p.run pins s σ H N I (h N σ H q)⟩
theorem PSs.imp {X : Cx} {e : List Stmt} {t t' : TS} (p : PSs X e t) (h : ∀ N σ H, t' N σ H → t N σ H) : PSs X e t' := ⟨fun pins s σ H N I q => p.run pins s σ H N I (h N σ H q)⟩
theorem PG.imp {X : Cx} {e : Expr} {t t' : TG} (p : PG X e t) (h : ∀ v σ H Q, t' v σ H Q → t v σ H Q) : PG X e t' := ⟨fun pins s σ H v u Q I r q => p.run pins s σ H v u Q I r (h v σ H Q q)⟩
open PySem PySem.Spec PyProof.Rows
theorem gives_add_bi (b : Bool) (i : Int) (t : Tok) : Gives (Builtin.«int.__add__» ⟨[.bool b, .int i t], []⟩) (.int ((if b = true then (1 : Int) else 0) + i)) :=
  .of_wp fun M A E s Q h => by obtain ⟨hp, g, d, tk, os⟩ := s; wp_walk; exact ⟨_, rfl, h⟩
theorem gives_sub_bi (b : Bool) (i : Int) (t : Tok) : Gives (Builtin.«int.__sub__» ⟨[.bool b, .int i t], []⟩) (.int ((if b = true then (1 : Int) else 0) - i)) :=
  .of_wp fun M A E s Q h => by obtain ⟨hp, g, d, tk, os⟩ := s; wp_walk; exact ⟨_, rfl, h⟩
theorem gives_sub_ib (b : Bool) (i : Int) (t : Tok) : Gives (Builtin.«int.__sub__» ⟨[.int i t, .bool b], []⟩) (.int (i - (if b = true then (1 : Int) else 0))) :=
  .of_wp fun M A E s Q h => by obtain ⟨hp, g, d, tk, os⟩ := s; wp_walk; exact ⟨_, rfl, h⟩
theorem same_reflected_int_bool_sub : reflectedDiffers (.type "int") (.type "bool") "sub" = pure false := by
  unfold reflectedDiffers
  show (typeLookup (.type "bool") (dunderR "sub") >>= fun rb => typeLookup (.type "int") (dunderR "sub") >>= fun ra => pure (rb.isSome && rb != ra)) = pure false
  rw [typeLookup_type, typeLookup_type, builtinLookup_eq_fast]; kernel_rfl
section
variable {prog : Program} {w : World} {A : Around} {E : Value → Shared → Prop} {s : Shared} {i : Int} {t : Tok} {b : Bool}
theorem sub_ib : isSubtype (.type "int") (.type "bool") = pure false := by rw [isSubtype_type]; kernel_rfl
theorem add_bool_int {Q : Value → Shared → Prop} (h : Q (.int ((if b = true then (1 : Int) else 0) + i) s.toks) { s with toks := s.toks + 1 }) : wpAny (model prog w) A (binaryOp .Add (.bool b) (.int i t)) Q E s :=
  binaryOp_left_gives (op := .Add) (T := "bool") (U := "int") (by decide) rfl (fun s' => typeIs_int s' i t) F.fills_bool_add F.fills_int_add sub_ib F.slot_bool_add F.slot_int_radd F.entry_int_add (F.args_int_add_2 _ _) (gives_add_bi b i t) trivial h
theorem sub_bool_int {Q : Value → Shared → Prop} (h : Q (.int ((if b = true then (1 : Int) else 0) - i) s.toks) { s with toks := s.toks + 1 }) : wpAny (model prog w) A (binaryOp .Sub (.bool b) (.int i t)) Q E s :=
  binaryOp_left_gives (op := .Sub) (T := "bool") (U := "int") (by decide) rfl (fun s' => typeIs_int s' i t) F.fills_bool_sub F.fills_int_sub sub_ib F.slot_bool_sub F.slot_int_rsub F.entry_int_sub (F.args_int_sub_2 _ _) (gives_sub_bi b i t) trivial h
theorem sub_int_bool {Q : Value → Shared → Prop} (h : Q (.int (i - (if b = true then (1 : Int) else 0)) s.toks) { s with toks := s.toks + 1 }) : wpAny (model prog w) A (binaryOp .Sub (.int i t) (.bool b)) Q E s :=
  binaryOp_sub_gives (op := .Sub) (T := "int") (U := "bool") (by decide) (typeIs_int s i t) rfl F.fills_int_sub F.fills_bool_sub isSubtype_bool_int same_reflected_int_bool_sub F.slot_int_sub F.entry_int_sub (F.args_int_sub_2 _ _) (gives_sub_ib b i t) trivial h
end
open PySem PySem.Spec PyProof.Rows L2
mutual
def py : D → Option PyData
  | .non => some .none
  | .bl b => some (.bool b)
  | .int i => some (.int i)
  | .str x => some (.str ⟨x.toArray⟩)
  | .tup xs => (pys xs).map .tuple
  | .ls xs => (pys xs).map .list
  | .ref _ => none
def pys : List D → Option (List PyData)
  | [] => some []
  | d :: ds => match py d, pys ds with
    | some p, some ps => some (p :: ps)
    | _, _ => none
end
/-- .. with the list that stands at a reference -/
def pyH (h : Hs) : D → Option PyData
  | .ref n => match h[n]? with
    | some (.lst xs) => (pys xs).map .list
    | _ => none
  | d => py d
section
variable {K : PySem.W.Frag} {F : List Addr} {H : Hp}
mutual
theorem py_dp : ∀ (d : D) (v : V) (p : PyData), DV K F H d v → py d = some p → Dp K H v p
  | .non, v, p, h, e => by unfold DV at h; subst h; unfold py at e; cases e; exact .non
  | .bl b, v, p, h, e => by unfold DV at h; subst h; unfold py at e; cases e; exact .bl b
  | .int i, v, p, h, e => by unfold DV at h; subst h; unfold py at e; cases e; exact .int i
  | .str x, v, p, h, e => by unfold DV at h; obtain ⟨h, _⟩ := h; subst h; unfold py at e; cases e; exact .str _
  | .tup ds, v, p, h, e => by
    unfold DV at h
    obtain ⟨a, vs, rfl, q, r⟩ := h
    unfold py at e
    obtain ⟨ps, e1, rfl⟩ := Option.map_eq_some_iff.mp e
    exact .tup q.sqT (pys_dp ds vs ps r e1)
  | .ls ds, v, p, h, e => by
    unfold DV at h
    obtain ⟨a, vs, rfl, q, r⟩ := h
    unfold py at e
    obtain ⟨ps, e1, rfl⟩ := Option.map_eq_some_iff.mp e
    exact .lst q.sq (pys_dp ds vs ps r e1)
  | .ref n, v, p, h, e => by unfold py at e; cases e
theorem pys_dp : ∀ (ds : List D) (vs : List V) (ps : List PyData), DVs K F H ds vs → pys ds = some ps → DpAll K H vs ps
  | [], vs, ps, h, e => by unfold DVs at h; subst h; unfold pys at e; cases e; exact .nil
  | d :: ds, vs, ps, h, e => by
    unfold DVs at h
    obtain ⟨v, r, rfl, h1, h2⟩ := h
    unfold pys at e
    cases e1 : py d with
    | none => rw [e1] at e; cases e
    | some p =>
      cases e2 : pys ds with
      | none => rw [e1, e2] at e; cases e
      | some ps' =>
        rw [e1, e2] at e; cases e
        exact .cons (py_dp d v p h1 e1) (pys_dp ds r ps' h2 e2)
end
mutual
theorem py_plain : ∀ (d : D) (p : PyData), py d = some p → p.plain = true
  | .non, p, e => by unfold py at e; cases e; rfl
  | .bl b, p, e => by unfold py at e; cases e; rfl
  | .int i, p, e => by unfold py at e; cases e; rfl
  | .str x, p, e => by unfold py at e; cases e; rfl
  | .tup ds, p, e => by
    unfold py at e
    obtain ⟨ps, e1, rfl⟩ := Option.map_eq_some_iff.mp e
    show PyData.plainAll ps = true
    exact pys_plain ds ps e1
  | .ls ds, p, e => by
    unfold py at e
    obtain ⟨ps, e1, rfl⟩ := Option.map_eq_some_iff.mp e
    show PyData.plainAll ps = true
    exact pys_plain ds ps e1
  | .ref n, p, e => by unfold py at e; cases e
theorem pys_plain : ∀ (ds : List D) (ps : List PyData), pys ds = some ps → PyData.plainAll ps = true
  | [], ps, e => by unfold pys at e; cases e; rfl
  | d :: ds, ps, e => by
    unfold pys at e
    cases e1 : py d with
    | none => rw [e1] at e; cases e
    | some p =>
      cases e2 : pys ds with
      | none => rw [e1, e2] at e; cases e
      | some ps' =>
        rw [e1, e2] at e; cases e
        show (p.plain && PyData.plainAll ps') = true
        rw [py_plain d p e1, pys_plain ds ps' e2]; rfl
end
end
theorem RelH.lst {k F H h} (r : RelH k F H h) {n : Nat} {xs : List D} {v : V} (e : h[n]? = some (.lst xs)) (d : DV k.K F H (.ref n) v) : ∃ a vs, v = .ref a ∧ F[n]? = some a ∧ H a = some (.lst vs) ∧ DVs k.K F H xs vs := by
  unfold DV at d
  obtain ⟨a, rfl, hf⟩ := d
  obtain ⟨vs, q, dv⟩ := r.cell n _ a e hf
  exact ⟨a, vs, rfl, hf, q, dv⟩
theorem pyH_dp {k F H h} (r : RelH k F H h) {d : D} {v : V} {p : PyData} (dv : DV k.K F H d v) (e : pyH h d = some p) : Dp k.K H v p ∧ p.plain = true := by
  cases d with
  | ref n =>
    simp only [pyH] at e
    cases q : h[n]? with
    | none => rw [q] at e; cases e
    | some c =>
      rw [q] at e
      cases c with
      | lst xs =>
        obtain ⟨ps, e1, rfl⟩ := Option.map_eq_some_iff.mp e
        obtain ⟨a, vs, rfl, _, hl, dvs⟩ := r.lst q dv
        exact ⟨.lst (SqL.of hl) (pys_dp xs vs ps dvs e1), pys_plain xs ps e1⟩
      | _ => cases e
  | _ => exact ⟨py_dp _ v p dv e, py_plain _ p e⟩
def truth (h : Hs) : D → Option Bool
  | .non => some false
  | .bl b => some b
  | .int i => some (i != 0)
  | .str x => some (!x.isEmpty)
  | .tup xs => some (!xs.isEmpty)
  | .ls xs => some (!xs.isEmpty)
  | .ref n => match h[n]? with
    | some (.lst xs) => some (!xs.isEmpty)
    | _ => none
theorem DVs.empty {K F H} {ds : List D} {vs : List V} (h : DVs K F H ds vs) : vs.isEmpty = ds.isEmpty := by
  cases ds with
  | nil => unfold DVs at h; rw [h]; rfl
  | cons d ds => unfold DVs at h; obtain ⟨v, r, rfl, _⟩ := h; rfl
theorem truth_ok {k F H h} (r : RelH k F H h) {d : D} {v : V} {b : Bool} (dv : DV k.K F H d v) (e : truth h d = some b) : TruV k.K v H b := by
  cases d with
  | non => unfold DV at dv; subst dv; cases e; rfl
  | bl c => unfold DV at dv; subst dv; cases e; rfl
  | int i => unfold DV at dv; subst dv; cases e; rfl
  | str x =>
    unfold DV at dv
    obtain ⟨rfl, hl⟩ := dv
    cases e
    refine ⟨?_, ?_⟩
    · show (x.toArray).size ≤ sizeLine
      rw [List.size_toArray]; exact hl
    · show _ = (((x.toArray).size : Int) != 0)
      rw [List.size_toArray]
      cases x with
      | nil => rfl
      | cons c x => simp [bne]; omega
  | tup xs =>
    unfold DV at dv
    obtain ⟨a, vs, rfl, q, dvs⟩ := dv
    cases e
    exact .inr (.inl ⟨vs, q.sqT, by rw [dvs.empty]⟩)
  | ls xs =>
    unfold DV at dv
    obtain ⟨a, vs, rfl, q, dvs⟩ := dv
    cases e
    exact .inl ⟨vs, q.sq, by rw [dvs.empty]⟩
  | ref n =>
    simp only [truth] at e
    cases q : h[n]? with
    | none => rw [q] at e; cases e
    | some c =>
      rw [q] at e
      cases c with
      | lst xs =>
        cases e
        obtain ⟨a, vs, rfl, _, hl, dvs⟩ := r.lst q dv
        exact .inl ⟨vs, SqL.of hl, by rw [dvs.empty]⟩
      | _ => cases e
/-- a two-place operation by data -/
def rD (k : Kx) (g : Hs → D → D → Res D) : R2 := fun x y H Q => ∃ (W0 : Value → Option Addr → Hp → Prop) (F : List Addr) (h : Hs) (d e : D), RelH k F H h ∧ DV k.K F H d x ∧ DV k.K F H e y ∧ Post k F H (PV k Q) W0 (g h d e)
theorem OpR.imp {X : Cx} {f : Value → Value → Sem Value} {r r' : R2} (o : OpR X f r) (h : ∀ x y H Q, r' x y H Q → r x y H Q) : OpR X f r' :=
  fun pins s σ H x y v u Q I rx ry q => o pins s σ H x y v u Q I rx ry (h x y H Q q)
/-- by cases of data -/
theorem OpR.byD {X : Cx} {f : Value → Value → Sem Value} {k : Kx} {g : Hs → D → D → Res D}
    (h : ∀ (pins : List (Addr × Obj)) (s : Shared) (σ : L2.St) (H : Hp) (x y : V) (v u : Value) (Q : VK) (W0 : Value → Option Addr → Hp → Prop) (F : List Addr) (hs : Hs) (d e : D), Inv X pins σ H s → RelV x v → RelV y u → RelH k F H hs → DV k.K F H d x → DV k.K F H e y →
      Post k F H (PV k Q) W0 (g hs d e) → wpAny (model X.prog X.w) X.A (f v u) (EP X pins σ Q) X.xe s) : OpR X f (rD k g) :=
  fun pins s σ H x y v u Q I rx ry ⟨W0, F, hs, d, e, r, dx, dy, p⟩ => h pins s σ H x y v u Q W0 F hs d e I rx ry r dx dy p
section
variable {k : Kx} {F : List Addr} {H : Hp} {h : Hs} {Q : VK} {W : Value → Option Addr → Hp → Prop} {d : D}
/-- the heap stays -/
theorem Post.here {v : V} (p : Post k F H (PV k Q) W (.ok d h)) (r : RelH k F H h) (dv : DV k.K F H d v) : Q v H := p F H .refl r v dv
/-- a new tuple -/
theorem Post.tup {ds : List D} {vs : List V} (p : Post k F H (PV k Q) W (.ok (.tup ds) h)) (r : RelH k F H h) (dv : DVs k.K F H ds vs) : NewT (allP ds) vs H Q := by
  intro a o ha hd
  have st := r.stepNew (o := newT (allP ds) o vs) ha
  refine p F _ st (r.addNew ha) _ ?_
  unfold DV
  exact ⟨a, vs, rfl, TpR.new ds hd, DVs.mono st _ _ dv⟩
/-- a new list -/
theorem Post.lst {ds : List D} {vs : List V} {a : Addr} (p : Post k F H (PV k Q) W (.ok (.ref h.length) (h ++ [.lst ds]))) (r : RelH k F H h) (dv : DVs k.K F H ds vs) (ha : H a = none) : Q (.ref a) (upd H a (.lst vs)) := by
  have st := r.stepCell (o := .lst vs) ha
  refine p _ _ st (r.addCell ha ⟨vs, upd_same, DVs.mono st _ _ dv⟩) _ ?_
  unfold DV
  exact ⟨a, rfl, by rw [← r.len]; simp⟩
end
/-- room for a product -/
def mulOk (i j : Int) : Bool := decide ((-18446744073709551616 < i ∧ i < 18446744073709551616) ∨ (-18446744073709551616 < j ∧ j < 18446744073709551616) ∨ i.natAbs.log2 + j.natAbs.log2 ≤ 900000)
def addOp (h : Hs) : D → D → Res D
  | .int i, .int j => .ok (.int (i + j)) h
  | .bl b, .int j => .ok (.int ((if b = true then 1 else 0) + j)) h
  | .str x, .str y => if x.length + y.length ≤ lim then .ok (.str (x ++ y)) h else .bad
  | .tup xs, .tup ys => if xs.length + ys.length ≤ lim then .ok (.tup (xs ++ ys)) h else .bad
  | .ref a, .ref b => match h[a]?, h[b]? with
    | some (.lst xs), some (.lst ys) => if xs.length + ys.length ≤ lim then .ok (.ref h.length) (h ++ [.lst (xs ++ ys)]) else .bad
    | _, _ => .bad
  | _, _ => .bad
def subOp (h : Hs) : D → D → Res D
  | .int i, .int j => .ok (.int (i - j)) h
  | .bl b, .int j => .ok (.int ((if b = true then 1 else 0) - j)) h
  | .int i, .bl b => .ok (.int (i - (if b = true then 1 else 0))) h
  | _, _ => .bad
def mulOp (h : Hs) : D → D → Res D
  | .int i, .int j => if mulOk i j then .ok (.int (i * j)) h else .bad
  | _, _ => .bad
def fdivOp (h : Hs) : D → D → Res D
  | .int i, .int j => if 0 < j ∧ j < 1073741824 then .ok (.int (i / j)) h else .bad
  | _, _ => .bad
def modOp (h : Hs) : D → D → Res D
  | .int i, .int j => if 0 < j then .ok (.int (i % j)) h else .bad
  | _, _ => .bad
def powOp (h : Hs) : D → D → Res D
  | .int i, .int j => if 0 ≤ j ∧ j ≤ 1000 ∧ i.natAbs < 18446744073709551616 then .ok (.int (i ^ j.toNat)) h else .bad
  | _, _ => .bad
def binOp : Operator → Hs → D → D → Res D
  | .Add => addOp
  | .Sub => subOp
  | .Mult => mulOp
  | .FloorDiv => fdivOp
  | .Mod => modOp
  | .Pow => powOp
  | _ => fun _ _ _ => .bad
theorem DV.intV {K F H i v} (h : DV K F H (.int i) v) : v = .int i := by unfold DV at h; exact h
theorem DV.strV {K F H x v} (h : DV K F H (.str x) v) : v = .str ⟨x.toArray⟩ ∧ x.length ≤ lim := by unfold DV at h; exact h
theorem DV.mkInt {K F H i} : DV K F H (.int i) (.int i) := by unfold DV; rfl
theorem DV.mkBl {K F H i} : DV K F H (.bl i) (.bl i) := by unfold DV; rfl
theorem DV.mkStr {K F H x} (h : List.length x ≤ lim) : DV K F H (.str x) (.str ⟨x.toArray⟩) := by unfold DV; exact ⟨rfl, h⟩
theorem lim_eq : sizeLine = lim := by rw [sizeLine_eq]
theorem le_lim {n : Nat} (h : n ≤ lim) : n ≤ sizeLine := by rw [lim_eq]; exact h
/-- no answer without its condition -/
theorem Post.cond {k : Kx} {α : Type} {F H} {P : α → List Addr → Hs → Hp → Prop} {W : Value → Option Addr → Hp → Prop} {c : Prop} [Decidable c] {r : Res α} (p : Post k F H P W (if c then r else .bad)) : c ∧ Post k F H P W r := by
  by_cases hc : c
  · rw [if_pos hc] at p; exact ⟨hc, p⟩
  · rw [if_neg hc] at p; exact p.elim
section
variable {X : Cx} {k : Kx}
theorem mulOk_ok {i j : Int} (h : mulOk i j = true) : IntMulOk i j := by
  have h := of_decide_eq_true h
  rcases h with h | h | h
  · exact CMul.ok (.inl h)
  · exact CMul.ok (.inr h)
  · have hi : i.natAbs < 2 ^ (i.natAbs.log2 + 1) := Nat.lt_log2_self
    have hj : j.natAbs < 2 ^ (j.natAbs.log2 + 1) := Nat.lt_log2_self
    exact (wide_mul hi hj (by omega) (by omega) (by omega)).ok
theorem op_mulM : OpR X (binaryOp .Mult) (rI IntMulOk fun i j => .int (i * j)) := opI fun _ _ _ _ _ _ _ hc q => mul_int q hc
theorem op_addD (hK : X.K = k.K) : OpR X (binaryOp .Add) (rD k addOp) := by
  refine OpR.byD fun pins s σ H x y v u Q W0 F h d e I rx ry r dx dy p => ?_
  have go : ∀ {t : R2}, OpR X (binaryOp .Add) t → t x y H Q → wpAny (model X.prog X.w) X.A (binaryOp .Add v u) (EP X pins σ Q) X.xe s := fun o q => o pins s σ H x y v u Q I rx ry q
  cases d <;> cases e <;> try exact p.elim
  · rename_i b j
    have bv : x = .bl b := by unfold DV at dx; exact dx
    subst bv
    cases rx
    cases dy.intV
    obtain ⟨t, rfl⟩ := ry
    exact add_bool_int ⟨.int _, H, I.tok _, ⟨_, rfl⟩, p.here r DV.mkInt⟩
  · rename_i i j
    cases dx.intV; cases dy.intV
    exact go op_add ⟨i, j, rfl, rfl, p.here r DV.mkInt⟩
  · rename_i a b
    obtain ⟨rfl, ha⟩ := dx.strV
    obtain ⟨rfl, hb⟩ := dy.strV
    obtain ⟨hz, p⟩ := Post.cond (c := a.length + b.length ≤ lim) (r := (.ok (.str (a ++ b)) h : Res D)) p
    refine go op_add_str ⟨_, _, rfl, rfl, le_lim (by simpa [Str.length] using hz), ?_⟩
    refine p.here r ?_
    have e : (⟨a.toArray⟩ : Str) ++ ⟨b.toArray⟩ = ⟨(a ++ b).toArray⟩ := by
      show (⟨a.toArray ++ b.toArray⟩ : Str) = _
      simp
    rw [e]
    exact DV.mkStr (by simpa using hz)
  · rename_i xs ys
    unfold DV at dx dy
    obtain ⟨a, vs, rfl, qa, da⟩ := dx
    obtain ⟨b, ws, rfl, qb, db⟩ := dy
    obtain ⟨hz, p⟩ := Post.cond (c := xs.length + ys.length ≤ lim) (r := (.ok (.tup (xs ++ ys)) h : Res D)) p
    have keep : ∀ (c : Addr) (l : List V), TpR H c l (xs ++ ys) → DVs k.K F H (xs ++ ys) l → Q (.ref c) H := fun c l q dd => p.here r (by unfold DV; exact ⟨c, l, rfl, q, dd⟩)
    have dd := da.app db
    refine go op_catB ⟨a, b, vs, ws, rfl, rfl, by rw [hK]; exact qa.sqT, by rw [hK]; exact qb.sqT, by rw [← da.len, ← db.len]; exact le_lim hz, fun e => ?_, fun _ e => ?_, fun _ _ => ⟨_, p.tup r dd⟩⟩
    · subst e
      have e0 : xs = [] := by have := da.len; simpa using this
      refine keep b ws ?_ dd
      rw [e0]; exact qb
    · subst e
      have e0 : ys = [] := by have := db.len; simpa using this
      rw [List.append_nil] at dd
      refine keep a vs ?_ dd
      rw [e0, List.append_nil]; exact qa
  · rename_i a b
    have p : Post k F H (PV k Q) W0 (match h[a]?, h[b]? with
      | some (.lst xs), some (.lst ys) => if xs.length + ys.length ≤ lim then .ok (.ref h.length) (h ++ [.lst (xs ++ ys)]) else .bad
      | _, _ => .bad) := p
    cases ea : h[a]? with
    | none => rw [ea] at p; exact p.elim
    | some ca =>
      cases eb : h[b]? with
      | none => rw [ea, eb] at p; cases ca <;> exact p.elim
      | some cb =>
        rw [ea, eb] at p
        cases ca <;> cases cb <;> try exact p.elim
        rename_i xs ys
        obtain ⟨pa, vs, rfl, _, ha, da⟩ := r.lst ea dx
        obtain ⟨pb, ws, rfl, _, hb, db⟩ := r.lst eb dy
        obtain ⟨hz, p⟩ := Post.cond (c := xs.length + ys.length ≤ lim) (r := (.ok (.ref h.length) (h ++ [.lst (xs ++ ys)]) : Res D)) p
        exact go op_cat ⟨pa, pb, vs, ws, rfl, rfl, ha, hb, by rw [← da.len, ← db.len]; exact le_lim hz, fun c hc => p.lst r (da.app db) hc⟩
/-- ints in, an int out -/
theorem op_intD {op : Operator} {C : Int → Int → Prop} {g : Int → Int → Int} (o : OpR X (binaryOp op) (rI C fun i j => .int (g i j))) {f : Hs → D → D → Res D}
    (hf : ∀ h d e, f h d e = .bad ∨ ∃ i j, d = .int i ∧ e = .int j ∧ C i j ∧ f h d e = .ok (.int (g i j)) h) : OpR X (binaryOp op) (rD k f) := by
  refine OpR.byD fun pins s σ H x y v u Q W0 F h d e I rx ry r dx dy p => ?_
  rcases hf h d e with q | ⟨i, j, rfl, rfl, c, q⟩
  · rw [q] at p; exact p.elim
  · rw [q] at p
    cases dx.intV; cases dy.intV
    exact o pins s σ H _ _ v u Q I rx ry ⟨i, j, rfl, rfl, c, p.here r DV.mkInt⟩
theorem op_subD : OpR X (binaryOp .Sub) (rD k subOp) := by
  refine OpR.byD fun pins s σ H x y v u Q W0 F h d e I rx ry r dx dy p => ?_
  cases d <;> cases e <;> try exact p.elim
  · rename_i b j
    have bv : x = .bl b := by unfold DV at dx; exact dx
    subst bv
    cases rx
    cases dy.intV
    obtain ⟨t, rfl⟩ := ry
    exact sub_bool_int ⟨.int _, H, I.tok _, ⟨_, rfl⟩, p.here r DV.mkInt⟩
  · rename_i i b
    have bv : y = .bl b := by unfold DV at dy; exact dy
    subst bv
    cases ry
    cases dx.intV
    obtain ⟨t, rfl⟩ := rx
    exact sub_int_bool ⟨.int _, H, I.tok _, ⟨_, rfl⟩, p.here r DV.mkInt⟩
  · rename_i i j
    cases dx.intV; cases dy.intV
    exact op_sub pins s σ H _ _ v u Q I rx ry ⟨i, j, rfl, rfl, p.here r DV.mkInt⟩
theorem op_binD (hK : X.K = k.K) (op : Operator) : OpR X (binaryOp op) (rD k (binOp op)) := by
  have no : ∀ {op : Operator}, (∀ h d e, binOp op h d e = .bad) → OpR X (binaryOp op) (rD k (binOp op)) := fun q => OpR.byD fun pins s σ H x y v u Q W0 F h d e I rx ry r dx dy p => by rw [q] at p; exact p.elim
  have two : ∀ {f : Hs → D → D → Res D} {C : Int → Int → Prop} {g : Int → Int → Int} (_ : ∀ h i j, f h (.int i) (.int j) = .bad ∨ (C i j ∧ f h (.int i) (.int j) = .ok (.int (g i j)) h)) (_ : ∀ h d e, (∀ i j, ¬ (d = .int i ∧ e = .int j)) → f h d e = .bad),
      ∀ h d e, f h d e = .bad ∨ ∃ i j, d = .int i ∧ e = .int j ∧ C i j ∧ f h d e = .ok (.int (g i j)) h := fun {f C g} h1 h2 h d e => by
    by_cases q : ∃ i j, d = .int i ∧ e = .int j
    · obtain ⟨i, j, rfl, rfl⟩ := q
      rcases h1 h i j with z | ⟨c, z⟩
      · exact .inl z
      · exact .inr ⟨i, j, rfl, rfl, c, z⟩
    · exact .inl (h2 h d e fun i j z => q ⟨i, j, z⟩)
  cases op with
  | Add => exact op_addD hK
  | Sub => exact op_subD
  | Mult =>
    refine op_intD (C := IntMulOk) (g := fun i j => i * j) op_mulM (two (fun h i j => ?_) fun h d e n => ?_)
    · show (if mulOk i j then _ else _) = _ ∨ (_ ∧ (if mulOk i j then _ else _) = _)
      cases q : mulOk i j with
      | true => exact .inr ⟨mulOk_ok q, rfl⟩
      | false => exact .inl rfl
    · cases d <;> cases e <;> first | rfl | exact absurd ⟨rfl, rfl⟩ (n _ _)
  | FloorDiv =>
    refine op_intD (C := CDiv) (g := fun i j => i / j) op_fdiv (two (fun h i j => ?_) fun h d e n => ?_)
    · show (if 0 < j ∧ j < 1073741824 then _ else _) = _ ∨ (_ ∧ (if 0 < j ∧ j < 1073741824 then _ else _) = _)
      by_cases q : 0 < j ∧ j < 1073741824
      · rw [if_pos q]; exact .inr ⟨q, rfl⟩
      · rw [if_neg q]; exact .inl rfl
    · cases d <;> cases e <;> first | rfl | exact absurd ⟨rfl, rfl⟩ (n _ _)
  | Mod =>
    refine op_intD (C := fun _ j => 0 < j) (g := fun i j => i % j) op_mod (two (fun h i j => ?_) fun h d e n => ?_)
    · show (if 0 < j then _ else _) = _ ∨ (_ ∧ (if 0 < j then _ else _) = _)
      by_cases q : 0 < j
      · rw [if_pos q]; exact .inr ⟨q, rfl⟩
      · rw [if_neg q]; exact .inl rfl
    · cases d <;> cases e <;> first | rfl | exact absurd ⟨rfl, rfl⟩ (n _ _)
  | Pow =>
    refine op_intD (C := CPow) (g := fun i j => i ^ j.toNat) op_pow (two (fun h i j => ?_) fun h d e n => ?_)
    · show (if 0 ≤ j ∧ j ≤ 1000 ∧ i.natAbs < 18446744073709551616 then _ else _) = _ ∨ (_ ∧ (if 0 ≤ j ∧ j ≤ 1000 ∧ i.natAbs < 18446744073709551616 then _ else _) = _)
      by_cases q : 0 ≤ j ∧ j ≤ 1000 ∧ i.natAbs < 18446744073709551616
      · rw [if_pos q]; exact .inr ⟨⟨q.1, by omega, q.2.2⟩, rfl⟩
      · rw [if_neg q]; exact .inl rfl
    · cases d <;> cases e <;> first | rfl | exact absurd ⟨rfl, rfl⟩ (n _ _)
  | _ => exact no fun _ _ _ => rfl
end
open PySem PySem.Spec PyProof.Rows L2
mutual
/-- the same key -/
def kEq : D → D → Bool
  | .int i, .int j => decide (i = j)
  | .str x, .str y => decide (x = y)
  | .tup xs, .tup ys => kEqs xs ys
  | _, _ => false
def kEqs : List D → List D → Bool
  | [], [] => true
  | x :: xs, y :: ys => kEq x y && kEqs xs ys
  | _, _ => false
end
/-- a key of one part -/
def k1 : D → Bool
  | .int _ => true
  | .str _ => true
  | _ => false
/-- a key of a dict of this kind -/
def kOk (t : Bool) (d : D) : Bool := match t, d with
  | false, d => k1 d
  | true, .tup xs => !xs.isEmpty && xs.all k1
  | true, _ => false
def dfind (kvs : List (D × D)) (k : D) : Option D := (kvs.find? fun p => kEq p.1 k).map (·.2)
def dput (kvs : List (D × D)) (k v : D) : List (D × D) :=
  if (kvs.any fun p => kEq p.1 k) = true then kvs.map (fun p => if kEq p.1 k = true then (p.1, v) else p) else kvs ++ [(k, v)]
def ddrop (kvs : List (D × D)) (k : D) : List (D × D) := kvs.filter fun p => !kEq p.1 k
/-- the dict at a reference (walked or not), and where it stands -/
def dicAt (h : Hs) : D → Option (Nat × Bool × List (D × D))
  | .ref n => match h[n]? with
    | some (.dic t false kvs) => some (n, t, kvs)
    | _ => none
  | _ => none
/-- the dict at a reference, to be read -/
def dicRd (h : Hs) : D → Option (Bool × List (D × D))
  | .ref n => match h[n]? with
    | some (.dic t _ kvs) => some (t, kvs)
    | _ => none
  | _ => none
theorem dicAt_ref {h : Hs} {d : D} {n : Nat} {t : Bool} {kvs : List (D × D)} (e : dicAt h d = some (n, t, kvs)) : d = .ref n ∧ h[n]? = some (.dic t false kvs) := by
  unfold dicAt at e
  split at e
  · split at e
    · rename_i q; cases e; exact ⟨rfl, q⟩
    · cases e
  · cases e
theorem dicRd_ref {h : Hs} {d : D} {t : Bool} {kvs : List (D × D)} (e : dicRd h d = some (t, kvs)) : ∃ n lk, d = .ref n ∧ h[n]? = some (.dic t lk kvs) := by
  unfold dicRd at e
  split at e
  · split at e
    · rename_i q; cases e; exact ⟨_, _, rfl, q⟩
    · cases e
  · cases e
theorem kEq_keyD (a b : Key) : kEq (keyD a) (keyD b) = decide (a = b) := by
  cases a with
  | inl i =>
    cases b with
    | inl j => unfold keyD kEq; simp
    | inr y => unfold keyD kEq; simp
  | inr x =>
    cases b with
    | inl j => unfold keyD kEq; simp
    | inr y =>
      unfold keyD kEq
      obtain ⟨x⟩ := x
      obtain ⟨y⟩ := y
      by_cases h : x = y
      · subst h; simp
      · have h1 : ¬ x.toList = y.toList := fun z => h (Array.toList_inj.mp z)
        have h2 : ¬ (Sum.inr ⟨x⟩ : Key) = Sum.inr ⟨y⟩ := fun z => h (by injection z with z; injection z)
        rw [decide_eq_false h2]
        exact decide_eq_false h1
theorem kEqs_keyD : ∀ a b : List Key, kEqs (a.map keyD) (b.map keyD) = decide (a = b)
  | [], [] => rfl
  | [], b :: bs => by unfold List.map kEqs; simp
  | a :: as, [] => by unfold List.map kEqs; simp
  | a :: as, b :: bs => by
    show (kEq (keyD a) (keyD b) && kEqs (as.map keyD) (bs.map keyD)) = _
    rw [kEq_keyD, kEqs_keyD as bs]
    by_cases h : a = b
    · by_cases h2 : as = bs
      · simp [h, h2]
      · simp [h, h2]
    · simp [h]
theorem kEqT_keyD (a b : List Key) : kEq (.tup (a.map keyD)) (.tup (b.map keyD)) = decide (a = b) := by
  unfold kEq; exact kEqs_keyD a b
section
variable {κ : Type} [DecidableEq κ] {R : D → V → Prop} {f : κ → D}
/-- two tables, pair by pair -/
abbrev TabR (R : D → V → Prop) (f : κ → D) (P : κ → Prop) : List (D × D) → List (κ × V) → Prop := Paired (fun (p : D × D) (q : κ × V) => p.1 = f q.1 ∧ P q.1 ∧ R p.2 q.2)
variable {P : κ → Prop} (hf : ∀ a b, kEq (f a) (f b) = decide (a = b))
include hf
theorem TabR.find {kvs : List (D × D)} {l : List (κ × V)} (t : TabR R f P kvs l) (k : κ) : (dfind kvs (f k) = none ∧ valV l k = none) ∨ ∃ d v, dfind kvs (f k) = some d ∧ valV l k = some v ∧ R d v := by
  induction t with
  | nil => exact .inl ⟨rfl, rfl⟩
  | @cons p q ps qs r _ ih =>
    obtain ⟨r1, r2, r3⟩ := r
    by_cases h : q.1 = k
    · refine .inr ⟨p.2, q.2, ?_, valV_pos h, r3⟩
      unfold dfind
      rw [List.find?_cons, r1, hf, decide_eq_true h]
      rfl
    · have e1 : dfind (p :: ps) (f k) = dfind ps (f k) := by
        unfold dfind
        rw [List.find?_cons, r1, hf, decide_eq_false h]
      rw [e1, valV_neg h]
      exact ih
theorem TabR.any {kvs : List (D × D)} {l : List (κ × V)} (t : TabR R f P kvs l) (k : κ) : (kvs.any fun p => kEq p.1 (f k)) = (l.any fun q => decide (q.1 = k)) := by
  induction t with
  | nil => rfl
  | cons r _ ih => rw [List.any_cons, List.any_cons, r.1, hf, ih]
theorem TabR.put {kvs : List (D × D)} {l : List (κ × V)} (t : TabR R f P kvs l) {k : κ} {d : D} {v : V} (hp : P k) (hd : R d v) : TabR R f P (dput kvs (f k) d) (putK l k v) := by
  unfold dput putK
  rw [t.any hf k]
  by_cases c : (l.any fun q => decide (q.1 = k)) = true
  · rw [if_pos c, if_pos c]
    clear c
    induction t with
    | nil => exact .nil
    | @cons p q ps qs r _ ih =>
      refine .cons ?_ ih
      by_cases h : q.1 = k
      · dsimp only; rw [r.1, hf, decide_eq_true h, if_pos rfl, if_pos h]; exact ⟨rfl, r.2.1, hd⟩
      · dsimp only; rw [r.1, hf, decide_eq_false h, if_neg (by decide), if_neg h]; exact r
  · rw [if_neg c, if_neg c]
    clear c
    induction t with
    | nil => exact .cons ⟨rfl, hp, hd⟩ .nil
    | cons r _ ih => exact .cons r ih
theorem TabR.drop {kvs : List (D × D)} {l : List (κ × V)} (t : TabR R f P kvs l) (k : κ) : TabR R f P (ddrop kvs (f k)) (dropK l k) := by
  unfold ddrop dropK
  induction t with
  | nil => exact .nil
  | @cons p q ps qs r _ ih =>
    by_cases h : q.1 = k
    · rw [List.filter_cons_of_neg (by rw [r.1, hf, decide_eq_true h]; decide), List.filter_cons_of_neg (by simp [h])]; exact ih
    · rw [List.filter_cons_of_pos (by rw [r.1, hf, decide_eq_false h]; decide), List.filter_cons_of_pos (by simp [h])]; exact .cons r ih
end
theorem kOk_tup {ds : List D} (h : kOk true (.tup ds) = true) : ds.all k1 = true ∧ allP ds = false := by
  unfold kOk at h
  rw [Bool.and_eq_true] at h
  refine ⟨h.2, ?_⟩
  cases ds with
  | nil => cases h.1
  | cons d ds =>
    have h2 := h.2
    rw [List.all_cons, Bool.and_eq_true] at h2
    show (isPr d && _) = false
    cases d <;> first | rfl | cases h2.1
section
variable {K : PySem.W.Frag} {F : List Addr} {H : Hp}
/-- a key by its value -/
theorem k1_key {d : D} {y : V} (h : k1 d = true) (dv : DV K F H d y) : ∃ k : Key, d = keyD k ∧ y = kV k ∧ keyOk k := by
  cases d with
  | int i => exact ⟨.inl i, rfl, by rw [dv.intV]; rfl, trivial⟩
  | str x => obtain ⟨e, l⟩ := dv.strV; exact ⟨.inr ⟨x.toArray⟩, by unfold keyD; simp, e, by unfold keyOk; simpa using l⟩
  | _ => cases h
theorem ks_keys : ∀ {ds : List D} {ys : List V}, ds.all k1 = true → DVs K F H ds ys → ∃ ks : List Key, ds = ks.map keyD ∧ ys = ks.map kV ∧ ∀ z ∈ ks, keyOk z
  | [], ys, _, dv => by unfold DVs at dv; exact ⟨[], rfl, dv, fun _ h => nomatch h⟩
  | d :: ds, ys, h, dv => by
    rw [List.all_cons, Bool.and_eq_true] at h
    unfold DVs at dv
    obtain ⟨v, r, rfl, d1, d2⟩ := dv
    obtain ⟨k, rfl, rfl, o⟩ := k1_key h.1 d1
    obtain ⟨ks, rfl, rfl, os⟩ := ks_keys h.2 d2
    exact ⟨k :: ks, rfl, rfl, fun z hz => (List.mem_cons.mp hz).elim (fun e => e ▸ o) (os z)⟩
end
section
variable {k : Kx} {F : List Addr} {H : Hp} {h : Hs}
/-- reading a dict -/
theorem RelH.dget (r : RelH k F H h) {d e : D} {x y : V} {t : Bool} {kvs : List (D × D)} (q : dicRd h d = some (t, kvs)) (hk : kOk t e = true) (dx : DV k.K F H d x) (dy : DV k.K F H e y) :
    ∃ a o, x = .ref a ∧ DGet H a y o ∧ ((dfind kvs e = none ∧ o = none) ∨ ∃ z v, dfind kvs e = some z ∧ o = some v ∧ DV k.K F H z v) := by
  obtain ⟨n, lk, rfl, hn⟩ := dicRd_ref q
  unfold DV at dx
  obtain ⟨a, rfl, hf⟩ := dx
  obtain ⟨u, dr, hu⟩ := r.cell n _ a hn hf
  cases t with
  | false =>
    obtain ⟨l, rfl, p⟩ := dr
    have rd : Rd H a (.dK l) := by
      cases lk with
      | false => exact .inl hu
      | true => exact .inr hu
    obtain ⟨ky, rfl, rfl, _⟩ := k1_key hk dy
    refine ⟨a, valV l ky, rfl, .inl ⟨l, ky, rd, rfl, rfl⟩, ?_⟩
    rcases TabR.find kEq_keyD p ky with ⟨e1, e2⟩ | ⟨z, v, e1, e2, e3⟩
    · exact .inl ⟨e1, e2⟩
    · exact .inr ⟨z, v, e1, e2, e3⟩
  | true =>
    obtain ⟨l, rfl, p⟩ := dr
    have rd : Rd H a (.dT l) := by
      cases lk with
      | false => exact .inl hu
      | true => exact .inr hu
    cases e with
    | tup ds =>
      unfold DV at dy
      obtain ⟨b, vs, rfl, hb, dvs⟩ := dy
      have hb1 := hb.tup (kOk_tup hk).2
      clear hb
      obtain ⟨ks, rfl, rfl, _⟩ := ks_keys (kOk_tup hk).1 dvs
      refine ⟨a, valV l ks, rfl, .inr ⟨l, ks, b, rd, rfl, hb1, rfl⟩, ?_⟩
      have p : TabR (DV k.K F H) (fun q : List Key => D.tup (q.map keyD)) (fun q => ∀ z ∈ q, keyOk z) kvs l := p
      rcases TabR.find (f := fun q : List Key => D.tup (q.map keyD)) kEqT_keyD p ks with ⟨e1, e2⟩ | ⟨z, v, e1, e2, e3⟩
      · exact .inl ⟨e1, e2⟩
      · exact .inr ⟨z, v, e1, e2, e3⟩
    | _ => cases hk
/-- writing a dict -/
theorem RelH.dput (r : RelH k F H h) {d e z : D} {x y v : V} {n : Nat} {t : Bool} {kvs : List (D × D)} (q : dicAt h d = some (n, t, kvs)) (hk : kOk t e = true) (hl : kvs.length < lim) (dx : DV k.K F H d x) (dy : DV k.K F H e y) (dz : DV k.K F H z v) :
    ∃ a H', x = .ref a ∧ DPut H a y v H' ∧ Step k.K F H F H' ∧ RelH k F H' (h.set n (.dic t false (M.dput kvs e z))) := by
  obtain ⟨rfl, hn⟩ := dicAt_ref q
  unfold DV at dx
  obtain ⟨a, rfl, hf⟩ := dx
  obtain ⟨u, dr, hu⟩ := r.cell n _ a hn hf
  have hu : H a = some u := hu
  cases t with
  | false =>
    obtain ⟨l, rfl, p⟩ := dr
    obtain ⟨ky, rfl, rfl, o⟩ := k1_key hk dy
    have hl2 : l.length < sizeLine := by rw [← p.length]; exact Nat.lt_of_lt_of_le hl (le_lim (Nat.le_refl _))
    have p2 := TabR.put kEq_keyD p (k := ky) o dz
    have st := r.stepSet (o := .dK (putK l ky v)) hf
    exact ⟨a, _, rfl, DPut.k hu hl2, st, r.setCell hf ⟨_, ⟨_, rfl, Paired.mapP p2 fun _ _ q => ⟨q.1, q.2.1, DV.mono st _ _ q.2.2⟩⟩, upd_same⟩⟩
  | true =>
    obtain ⟨l, rfl, p⟩ := dr
    cases e with
    | tup ds =>
      unfold DV at dy
      obtain ⟨b, vs, rfl, hb, dvs⟩ := dy
      have hb1 := hb.tup (kOk_tup hk).2
      clear hb
      obtain ⟨ks, rfl, rfl, o⟩ := ks_keys (kOk_tup hk).1 dvs
      have hl2 : l.length < sizeLine := by rw [← p.length]; exact Nat.lt_of_lt_of_le hl (le_lim (Nat.le_refl _))
      have p : TabR (DV k.K F H) (fun q : List Key => D.tup (q.map keyD)) (fun q => ∀ z ∈ q, keyOk z) kvs l := p
      have p2 := TabR.put (f := fun q : List Key => D.tup (q.map keyD)) kEqT_keyD p (k := ks) o dz
      have st := r.stepSet (o := .dT (putK l ks v)) hf
      exact ⟨a, _, rfl, DPut.t hu hb1 hl2, st, r.setCell hf ⟨_, ⟨_, rfl, Paired.mapP p2 fun _ _ q => ⟨q.1, q.2.1, DV.mono st _ _ q.2.2⟩⟩, upd_same⟩⟩
    | _ => cases hk
end
theorem ix_dic {X : Cx} (hu : X.A.units + 1 < cLine) : IxR X (fun x y H Q => ∃ a v, x = .ref a ∧ DGet H a y (some v) ∧ Q v H) := by
  intro ve se pins s σ H x y v u Q I rx ry q hs
  obtain ⟨a, w, rfl, g, q⟩ := q
  cases rx
  have hT := dict_typeIs I g
  unfold subscriptTail
  refine wpAny_bind ?_
  rw [getitemInPython_of_ne hT.not_modules]
  refine wpAny_bind (wpAny_specialOf hT PySem.F.slot_dict_getitem.lookup ?_)
  have fin : wpAny (model X.prog X.w) X.A (subscripted se false (.ref a) u) (fun r s₃ => wpAny (model X.prog X.w) X.A (letTemporaryGo ve (.ref a) r >>= fun _ => pure r) (EP X pins σ Q) X.xe s₃) X.xe s := by
    rw [hs]
    exact wpAny_operating (d_getItem hu I g ry fun w' s3 I3 rw' => wpAny_bind (wpAny_letTemporaryGo (wpAny_pure ⟨w, H, I3, rw', q⟩)))
  first
    | exact wpAny_pure (wpAny_bind fin)
    | exact wpAny_bind (wpAny_pure (wpAny_bind fin))
    | exact wpAny_bind fin
open PySem PySem.Spec PyProof.Rows
section
variable {prog : Program} {w : World} {K : Type} [DecidableEq K] {knd : HeapKind prog w K} {A : Around} {E : Value → Shared → Prop} {s : Shared}
/-- the pairs of the first, looked up in the second -/
inductive HitsH {K : Type} [DecidableEq K] (A : Around) (s : Shared) (kb : List (K × Addr × Value)) : List (K × Addr × Value) → Bool → Prop
  | nil : HitsH A s kb [] true
  | miss {k : K} {a : Addr} {v : Value} {r : List (K × Addr × Value)} : atKey kb k = none → HitsH A s kb ((k, a, v) :: r) false
  | hit {k : K} {a : Addr} {p : Addr × Value} {v : Value} {r : List (K × Addr × Value)} {e b : Bool} : atKey kb k = some p → SeqAt.EqAt A s v p.2 e → HitsH A s kb r b → HitsH A s kb ((k, a, v) :: r) (e && b)
theorem same_pairsH {nm : String} {a b : Addr} {ka kb : List (K × Addr × Value)} {r : Bool} {Q : Bool → Shared → Prop} (hu : knd.room A) (la : (a == sysModules) = false) (lb : (b == sysModules) = false)
    (da : s.heap.DictOfH knd a ka) (db : s.heap.DictOfH knd b kb) (hits : ka.length = kb.length → HitsH A s kb ka r) (h : Q (ka.length == kb.length && r) s) : wpAny (model prog w) A (Builtin.Dict.samePairs nm a b) Q E s := by
  obtain ⟨oa, es, ep, hoa, _, hda, hea, hia, hna⟩ := da
  obtain ⟨ob, fs, fp, hob, _, hdb, heb, hib, hnb⟩ := db
  have za : es.size = ka.length := size_of_entries hea
  have zb : fs.size = kb.length := size_of_entries heb
  unfold Builtin.Dict.samePairs Builtin.Dict.showsAll
  rw [if_neg (show ¬ (a == sysModules) = true by rw [la]; decide), if_neg (show ¬ (b == sysModules) = true by rw [lb]; decide)]
  (refine wpAny_bind (wpAny_pure (wpAny_bind (wpAny_pure ?_))); refine wpAny_bind (wpAny_dictEntries hoa hda ?_); dsimp only; refine wpAny_bind (wpAny_dictEntries hob hdb ?_))
  by_cases hz : es.size = fs.size
  case neg =>
    have e0 : (ka.length == kb.length) = false := by rw [← za, ← zb]; simpa using hz
    rw [if_pos (by simpa using hz)]
    rw [e0, Bool.false_and] at h
    exact wpAny_bind (wpAny_rule (wpAny_pure h))
  case pos =>
    have e0 : (ka.length == kb.length) = true := by rw [← za, ← zb]; simpa using hz
    rw [e0, Bool.true_and] at h
    have hh := hits (by rw [← za, ← zb]; exact hz)
    rw [if_neg (by rw [hz]; simp)]
    refine wpAny_bind (wpAny_dictEpoch hoa hda (wpAny_bind ?_))
    rw [Std.Legacy.Range.forIn_eq_forIn_range']
    simp only [Std.Legacy.Range.size, Nat.sub_zero, Nat.add_sub_cancel, Nat.div_one]
    refine wpAny_forIn_list _ (fun rest q t => t = s ∧ q = (none, ()) ∧ ∃ i, rest = List.range' i (es.size - i) ∧ i ≤ es.size ∧ HitsH A s kb (ka.drop i) r) _ ?_ ?_ _ _ ⟨rfl, rfl, 0, by simp, Nat.zero_le _, hh⟩
    · rintro x rest q t ⟨rfl, rfl, i, hr, hi, pre⟩
      have lt : i < es.size := by
        rcases Nat.lt_or_ge i es.size with c | c
        · exact c
        · (rw [Nat.sub_eq_zero_of_le c] at hr; simp at hr)
      obtain ⟨rfl, hrest⟩ : x = i ∧ rest = List.range' (i + 1) (es.size - (i + 1)) := by
        rw [show es.size - i = (es.size - (i + 1)) + 1 by omega, List.range'_succ] at hr
        injection hr with h1 h2
        exact ⟨h1, h2⟩
      refine wpAny_bind (wpAny_dictEntries hoa hda ?_)
      have lt' : x < ka.length := by rw [← za]; exact lt
      obtain ⟨⟨k, p, v⟩, hkv⟩ : ∃ y, ka[x]? = some y := ⟨_, List.getElem?_eq_getElem lt'⟩
      have ex : es[x]? = some (entryOfKey knd (k, p, v)) := by rw [entry_at hea x, hkv]; rfl
      have hdrop : ka.drop x = (k, p, v) :: ka.drop (x + 1) := by
        obtain ⟨l, e⟩ := List.getElem?_eq_some_iff.mp hkv
        rw [← e]; exact List.drop_eq_getElem_cons l
      rw [ex]
      rw [hdrop] at pre
      have kis := hia _ (List.mem_of_getElem? hkv)
      show wpAny _ _ (holding [Value.ref p, v] _ >>= _) _ _ _
      refine wpAny_bind (wpAny_holding (wpAny_bind (wpAny_dictFind_heap (knd := knd) hu kis hob hdb heb hib hnb (fun no => ?_) fun j y hj => ?_)))
      · have hn : atKey kb k = none := atKey_none_of_get no
        cases pre with
        | miss _ =>
          refine wpAny_pure ?_
          show wpAny _ _ (if (!false) = true then _ else _) _ _ _
          rw [if_pos (by decide)]
          exact wpAny_pure (wpAny_pure h)
        | hit hy => rw [hn] at hy; cases hy
      · have hj2 : atKey kb k = some y := atKey_of_get hnb hj
        refine wpAny_bind (wpAny_dictEntries hob hdb ?_)
        have ey : fs[j]? = some (entryOfKey knd (k, y)) := by rw [entry_at heb j, hj]; rfl
        rw [ey]
        cases pre with
        | miss hn => rw [hj2] at hn; cases hn
        | hit hy he hr2 =>
          rw [hj2] at hy
          cases hy
          refine wpAny_holding (he prog w _ _ ?_)
          rename_i e b'
          cases e with
          | false =>
            rw [Bool.false_and] at h
            show wpAny _ _ (if (!false) = true then _ else _) _ _ _
            rw [if_pos (by decide)]
            exact wpAny_pure (wpAny_pure h)
          | true =>
            show wpAny _ _ (if (!true) = true then _ else _) _ _ _
            rw [if_neg (by decide)]
            refine wpAny_bind (wpAny_dictEpoch hoa hda ?_)
            rw [if_neg (by simp)]
            exact wpAny_pure ⟨rfl, rfl, x + 1, hrest, lt, by rw [Bool.true_and]; exact hr2⟩
    · rintro q t ⟨rfl, rfl, i, hr, hi, pre⟩
      have hin : i = es.size := by
        rcases Nat.lt_or_ge i es.size with c | c
        · (rw [show es.size - i = (es.size - (i + 1)) + 1 by omega, List.range'_succ] at hr; cases hr)
        · exact Nat.le_antisymm hi c
      rw [hin, za, List.drop_length] at pre
      cases pre
      exact wpAny_pure h
theorem dict_eqH {a b : Addr} {ka kb : List (K × Addr × Value)} {r : Bool} {Q : Value → Shared → Prop} (hu0 : A.units < cLine) (hu : knd.room A.in1) (la : (a == sysModules) = false) (lb : (b == sysModules) = false)
    (da : s.heap.DictOfH knd a ka) (db : s.heap.DictOfH knd b kb) (hits : ka.length = kb.length → HitsH A.in1 s kb ka r) (h : Q (.bool (ka.length == kb.length && r)) s) : wpAny (model prog w) A (compareOp .Eq (.ref a) (.ref b)) Q E s := by
  have ta : s.TypeIs (.ref a) "dict" := let ⟨o, _, _, h1, h2, _⟩ := da; ⟨o, h1, h2.1⟩
  have tb : s.TypeIs (.ref b) "dict" := let ⟨o, _, _, h1, h2, _⟩ := db; ⟨o, h1, h2.1⟩
  refine wpAny_richCompare_same_room (op := .Eq) ta tb PySem.F.slot_dict_eq (wpAny_call_entry PySem.F.slot_dict_eq ta PySem.F.entry_dict_eq ?_ (PySem.F.args_dict_eq_2 _ _)) hu0
  (show wpAny _ _ (Builtin.Dict.dictSlotArgs "__eq__" ⟨[.ref a, .ref b], []⟩ >>= _) _ _ s; refine wpAny_bind ?_; unfold Builtin.Dict.dictSlotArgs)
  refine wpAny_bind (wpAny_notOrdered_dict ta ?_)
  (show wpAny _ _ (pure (Value.ref a, Value.ref b)) _ _ s; refine wpAny_pure ?_)
  refine wpAny_bind (wpAny_isInstance (T := "dict") tb PySem.F.sub_dict_dict ?_)
  simp only [Bool.not_true, Bool.false_eq_true, if_false]
  refine wpAny_bind (wpAny_pure (wpAny_bind (wpAny_pure (wpAny_bind (same_pairsH hu la lb da db hits ?_)))))
  exact wpAny_pure ⟨_, rfl, (fun x => nomatch x), by simpa using h⟩
theorem dict_neH {a b : Addr} {ka kb : List (K × Addr × Value)} {r : Bool} {Q : Value → Shared → Prop} (hu0 : A.units < cLine) (hu : knd.room A.in1) (la : (a == sysModules) = false) (lb : (b == sysModules) = false)
    (da : s.heap.DictOfH knd a ka) (db : s.heap.DictOfH knd b kb) (hits : ka.length = kb.length → HitsH A.in1 s kb ka r) (h : Q (.bool (!(ka.length == kb.length && r))) s) : wpAny (model prog w) A (compareOp .NotEq (.ref a) (.ref b)) Q E s := by
  have ta : s.TypeIs (.ref a) "dict" := let ⟨o, _, _, h1, h2, _⟩ := da; ⟨o, h1, h2.1⟩
  have tb : s.TypeIs (.ref b) "dict" := let ⟨o, _, _, h1, h2, _⟩ := db; ⟨o, h1, h2.1⟩
  refine wpAny_richCompare_same_room (op := .NotEq) ta tb PySem.F.slot_dict_ne (wpAny_call_entry PySem.F.slot_dict_ne ta PySem.F.entry_dict_ne ?_ (PySem.F.args_dict_ne_2 _ _)) hu0
  (show wpAny _ _ (Builtin.Dict.dictSlotArgs "__ne__" ⟨[.ref a, .ref b], []⟩ >>= _) _ _ s; refine wpAny_bind ?_; unfold Builtin.Dict.dictSlotArgs)
  refine wpAny_bind (wpAny_notOrdered_dict ta ?_)
  (show wpAny _ _ (pure (Value.ref a, Value.ref b)) _ _ s; refine wpAny_pure ?_)
  refine wpAny_bind (wpAny_isInstance (T := "dict") tb PySem.F.sub_dict_dict ?_)
  simp only [Bool.not_true, Bool.false_eq_true, if_false]
  refine wpAny_bind (wpAny_pure (wpAny_bind (wpAny_pure (wpAny_bind (same_pairsH hu la lb da db hits ?_)))))
  exact wpAny_pure ⟨_, rfl, (fun x => nomatch x), by simpa using h⟩
end
open PySem PySem.Spec PyProof.Rows L2
/-- the pairs of the first looked up in the second -/
def hitsD (ys : List (D × D)) : List (D × D) → Option Bool
  | [] => some true
  | (k, v) :: r => match dfind ys k with
    | none => some false
    | some u => match py v, py u with
      | some p, some q => if min p.depth q.depth ≤ 60 then (hitsD ys r).map fun b => PyData.eqv p q && b else none
      | _, _ => none
/-- == of two dicts with tuple keys -/
def eqDic (h : Hs) (d e : D) : Option Bool := match dicRd h d, dicRd h e with
  | some (true, xs), some (true, ys) => if xs.length = ys.length then hitsD ys xs else some false
  | _, _ => none
/-- a tuple of anything against what cannot be its equal -/
def eqOdd : D → D → Option Bool
  | .tup _, .str _ => some false
  | .tup _, .non => some false
  | .tup _, .int _ => some false
  | .tup _, .bl _ => some false
  | .tup (_ :: _), .tup [] => some false
  | _, _ => none
/-- a list against a text, an int, a truth, None, a tuple -/
def oddR : D → Bool
  | .str _ => true
  | .non => true
  | .int _ => true
  | .bl _ => true
  | .tup _ => true
  | _ => false
def eqLst (h : Hs) (d e : D) : Option Bool := match d with
  | .ref n => match h[n]? with
    | some (.lst _) => if oddR e then some false else none
    | _ => none
  | _ => none
def eqDic2 (h : Hs) (d e : D) : Option Bool := match eqOdd d e with
  | some b => some b
  | none => match eqLst h d e with
    | some b => some b
    | none => eqDic h d e
def eqOp (h : Hs) (d e : D) : Option Bool := match pyH h d, pyH h e with
  | some p, some q => if min p.depth q.depth ≤ 60 then some (PyData.eqv p q) else none
  | _, _ => eqDic2 h d e
/-- what can be walked as a list of data -/
def seqH (h : Hs) : D → Option (List D)
  | .tup xs => some xs
  | .ls xs => some xs
  | .ref n => match h[n]? with
    | some (.lst xs) => some xs
    | _ => none
  | _ => none
def inSeq (h : Hs) (x : D) (xs : List D) : Option Bool := match pyH h x, pys xs with
  | some p, some ps => if p.depth ≤ 60 then some (ps.any fun y => PyData.eqv y p) else none
  | _, _ => none
def inStr : D → List Nat → Option Bool
  | .str [a], t => some (decide (a ∈ t))
  | _, _ => none
def inOp (h : Hs) (x c : D) : Option Bool := match c with
  | .str t => inStr x t
  | c => match seqH h c with
    | some xs => inSeq h x xs
    | none => match dicRd h c with
      | some (t, kvs) => if kOk t x = true then some (dfind kvs x).isSome else none
      | none => none
def isOp : D → D → Option Bool
  | .non, .non => some true
  | .ref _, .non => some false
  | .tup _, .non => some false
  | .ls _, .non => some false
  | .bl _, .non => some false
  | .int _, .non => some false
  | .str _, .non => some false
  | .bl a, .bl b => some (a == b)
  | .non, .bl _ => some false
  | .int _, .bl _ => some false
  | .str _, .bl _ => some false
  | .tup _, .bl _ => some false
  | .ls _, .bl _ => some false
  | .ref _, .bl _ => some false
  | _, _ => none
def ordI : CmpOp → Int → Int → Bool
  | .Lt, i, j => decide (i < j)
  | .LtE, i, j => decide (i ≤ j)
  | .Gt, i, j => decide (j < i)
  | .GtE, i, j => decide (j ≤ i)
  | _, _, _ => false
def ordS : CmpOp → List Nat → List Nat → Bool
  | .Lt, x, y => decide (x < y)
  | .LtE, x, y => !decide (y < x)
  | .Gt, x, y => decide (y < x)
  | .GtE, x, y => !decide (x < y)
  | _, _, _ => false
/-- an order of data -/
def ordPD (o : CmpOp) (p q : PyData) : Option Bool := match o with
  | .Lt => some (PySem.W.dataLt p q)
  | .Gt => some (PySem.W.dataLt q p)
  | .LtE => some (!PySem.W.dataLt q p)
  | .GtE => some (!PySem.W.dataLt p q)
  | _ => none
/-- tuples, place by place -/
def ordT (o : CmpOp) (d e : D) : Option Bool := match py d, py e with
  | some p, some q => if PySem.W.alike p q = true ∧ min p.depth q.depth ≤ 60 then ordPD o p q else none
  | _, _ => none
def ordOp (o : CmpOp) (h : Hs) : D → D → Option Bool
  | .int i, .int j => some (ordI o i j)
  | .str x, .str y => some (ordS o x y)
  | .tup xs, .tup ys => ordT o (.tup xs) (.tup ys)
  | _, _ => none
theorem ordT_some {o : CmpOp} {d e : D} {b : Bool} (h : ordT o d e = some b) : ∃ p q, py d = some p ∧ py e = some q ∧ PySem.W.alike p q = true ∧ min p.depth q.depth ≤ 60 ∧ ordPD o p q = some b := by
  unfold ordT at h
  cases e1 : py d with
  | none => rw [e1] at h; cases h
  | some p =>
    cases e2 : py e with
    | none => rw [e1, e2] at h; cases h
    | some q =>
      rw [e1, e2] at h
      by_cases c : PySem.W.alike p q = true ∧ min p.depth q.depth ≤ 60
      · have h : (if PySem.W.alike p q = true ∧ min p.depth q.depth ≤ 60 then ordPD o p q else none) = some b := h
        rw [if_pos c] at h
        exact ⟨p, q, rfl, rfl, c.1, c.2, h⟩
      · have h : (if PySem.W.alike p q = true ∧ min p.depth q.depth ≤ 60 then ordPD o p q else none) = some b := h
        rw [if_neg c] at h; cases h
def cmpOp : CmpOp → Hs → D → D → Option Bool
  | .Eq, h, d, e => eqOp h d e
  | .NotEq, h, d, e => (eqOp h d e).map not
  | .In, h, d, e => inOp h d e
  | .NotIn, h, d, e => (inOp h d e).map not
  | .Is, _, d, e => isOp d e
  | .IsNot, _, d, e => (isOp d e).map not
  | o, h, d, e => ordOp o h d e
/-- a comparison's answer -/
def cmpR (o : CmpOp) (h : Hs) (d e : D) : Res D := Res.of ((cmpOp o h d e).map .bl) h
theorem Post.ofBl {k : Kx} {F H h} {Q : VK} {W : Value → Option Addr → Hp → Prop} {o : Option Bool} (p : Post k F H (PV k Q) W (Res.of (o.map .bl) h)) (r : RelH k F H h) : ∃ b, o = some b ∧ Q (.bl b) H := by
  cases o with
  | none => exact p.elim
  | some b => exact ⟨b, rfl, Post.here (d := .bl b) p r DV.mkBl⟩
section
variable {X : Cx} {k : Kx}
theorem eq_any {pins : List (Addr × Obj)} {s : Shared} {σ : L2.St} {H : Hp} {x y : V} {v u : Value} {p q : PyData} (I : L2.Inv X pins σ H s) (rx : L2.RelV x v) (ry : L2.RelV y u) (hu : X.A.units + 64 < cLine)
    (dx : Dp X.K H x p) (dy : Dp X.K H y q) (px : p.plain = true) (py : q.plain = true) (hd : min p.depth q.depth ≤ 60) :
    (∀ (E : Value → Shared → Prop) (Q : Value → Shared → Prop), Q (.bool (PyData.eqv p q)) s → wpAny (model X.prog X.w) X.A (compareOp .Eq v u) Q E s) ∧
    (∀ (E : Value → Shared → Prop) (Q : Value → Shared → Prop), Q (.bool (!PyData.eqv p q)) s → wpAny (model X.prog X.w) X.A (compareOp .NotEq v u) Q E s) := by
  obtain ⟨as, r1⟩ := Dp.reads I p x v dx rx
  obtain ⟨bs, r2⟩ := Dp.reads I q y u dy ry
  exact ⟨fun E Q h => SeqAt.eq_plain r1 r2 px py (by omega) h, fun E Q h => SeqAt.ne_plain r1 r2 px py (by omega) h⟩
theorem eqOp_some {h : Hs} {d e : D} {b : Bool} (q : eqOp h d e = some b) : (∃ p p', pyH h d = some p ∧ pyH h e = some p' ∧ min p.depth p'.depth ≤ 60 ∧ b = PyData.eqv p p') ∨ eqDic2 h d e = some b := by
  unfold eqOp at q
  cases e1 : pyH h d with
  | none => rw [e1] at q; exact .inr q
  | some p =>
    cases e2 : pyH h e with
    | none => rw [e1, e2] at q; exact .inr q
    | some p' =>
      rw [e1, e2] at q
      by_cases hd : min p.depth p'.depth ≤ 60
      · have q : (if min p.depth p'.depth ≤ 60 then some (PyData.eqv p p') else none) = some b := q
        rw [if_pos hd] at q; cases q
        exact .inl ⟨p, p', rfl, rfl, hd, rfl⟩
      · have q : (if min p.depth p'.depth ≤ 60 then some (PyData.eqv p p') else none) = some b := q
        rw [if_neg hd] at q; cases q
abbrev tkD (q : List Key) : D := .tup (q.map keyD)
theorem kt_none {H : Hp} {l : List (List Key × V)} {xs : List (List Key × Addr × Value)} (r : KT H l xs) {k : List Key} (e : valV l k = none) : atKey xs k = none := by
  have q := r.val k
  rw [e] at q
  cases c : atKey xs k with
  | none => rfl
  | some p => rw [c] at q; exact q.elim
theorem kt_some {H : Hp} {l : List (List Key × V)} {xs : List (List Key × Addr × Value)} (r : KT H l xs) {k : List Key} {v : V} (e : valV l k = some v) : ∃ p, atKey xs k = some p ∧ RelV v p.2 := by
  have q := r.val k
  rw [e] at q
  cases c : atKey xs k with
  | none => rw [c] at q; exact q.elim
  | some p => rw [c] at q; exact ⟨p, rfl, q⟩
theorem hits_ok {pins : List (Addr × Obj)} {s : Shared} {σ : L2.St} {F : List Addr} {H : Hp} (I : L2.Inv X pins σ H s) (hK : X.K = k.K) (hu : X.A.units + 64 < cLine) {P : List Key → Prop} {ys : List (D × D)} {l2 : List (List Key × V)} {x2 : List (List Key × Addr × Value)}
    (t2 : TabR (DV k.K F H) tkD P ys l2) (r2 : KT H l2 x2) : ∀ {xs : List (D × D)} {l1 : List (List Key × V)} {x1 : List (List Key × Addr × Value)} {b : Bool}, TabR (DV k.K F H) tkD P xs l1 → KT H l1 x1 → hitsD ys xs = some b → HitsH X.A.in1 s x2 x1 b
  | [], _, _, b, .nil, .nil, e => by unfold hitsD at e; cases e; exact .nil
  | (d, v) :: xs, (ky, y) :: l1, (ky', ad, u) :: x1, b, .cons h1 t1, .cons g1 r1, e => by
    obtain ⟨e1, _, dv⟩ := h1
    obtain ⟨f1, _, rv⟩ := g1
    have e1 : d = tkD ky := e1
    have f1 : ky = ky' := f1
    subst f1 e1
    unfold hitsD at e
    rcases TabR.find kEqT_keyD t2 ky with ⟨e2, e3⟩ | ⟨z, w, e2, e3, dw⟩
    · rw [e2] at e; cases e
      exact .miss (kt_none r2 e3)
    · rw [e2] at e
      obtain ⟨p, hp, rp⟩ := kt_some r2 e3
      have e : (match py v, py z with | some p, some q => if min p.depth q.depth ≤ 60 then (hitsD ys xs).map fun b => PyData.eqv p q && b else none | _, _ => none) = some b := e
      cases c1 : py v with
      | none => rw [c1] at e; cases e
      | some p1 =>
        cases c2 : py z with
        | none => rw [c1, c2] at e; cases e
        | some p2 =>
          rw [c1, c2] at e
          have e : (if min p1.depth p2.depth ≤ 60 then (hitsD ys xs).map fun b => PyData.eqv p1 p2 && b else none) = some b := e
          by_cases hd : min p1.depth p2.depth ≤ 60
          · rw [if_pos hd] at e
            obtain ⟨b', e', rfl⟩ := Option.map_eq_some_iff.mp e
            obtain ⟨as, ra⟩ := Dp.reads I p1 y u (by rw [hK]; exact py_dp _ _ _ dv c1) rv
            obtain ⟨bs, rb⟩ := Dp.reads I p2 w p.2 (by rw [hK]; exact py_dp _ _ _ dw c2) rp
            refine .hit hp (SeqAt.eqAt_plain p1 p2 X.A.in1 s u p.2 as bs ra rb (py_plain _ _ c1) (py_plain _ _ c2) ?_) (hits_ok I hK hu t2 r2 t1 r1 e')
            show X.A.units + 1 + min p1.depth p2.depth < cLine
            omega
          · rw [if_neg hd] at e; cases e
theorem eqDic_ok {pins : List (Addr × Obj)} {s : Shared} {σ : L2.St} {F : List Addr} {H : Hp} {h : Hs} {d e : D} {x y : V} {v u : Value} {b : Bool} (I : L2.Inv X pins σ H s) (hK : X.K = k.K) (hu : X.A.units + 64 < cLine) (r : RelH k F H h) (rx : L2.RelV x v) (ry : L2.RelV y u) (dx : DV k.K F H d x) (dy : DV k.K F H e y) (q : eqDic h d e = some b) :
    (∀ (E : Value → Shared → Prop) (Q : Value → Shared → Prop), Q (.bool b) s → wpAny (model X.prog X.w) X.A (compareOp .Eq v u) Q E s) ∧
    (∀ (E : Value → Shared → Prop) (Q : Value → Shared → Prop), Q (.bool (!b)) s → wpAny (model X.prog X.w) X.A (compareOp .NotEq v u) Q E s) := by
  unfold eqDic at q
  cases c1 : dicRd h d with
  | none => rw [c1] at q; cases q
  | some tk =>
    obtain ⟨t, xs⟩ := tk
    cases t with
    | false => rw [c1] at q; cases q
    | true =>
      cases c2 : dicRd h e with
      | none => rw [c1, c2] at q; cases q
      | some tk2 =>
        obtain ⟨t, ys⟩ := tk2
        cases t with
        | false => rw [c1, c2] at q; cases q
        | true =>
          rw [c1, c2] at q
          have q : (if xs.length = ys.length then hitsD ys xs else some false) = some b := q
          obtain ⟨n, lk, rfl, hn⟩ := dicRd_ref c1
          obtain ⟨m, lm, rfl, hm⟩ := dicRd_ref c2
          unfold DV at dx dy
          obtain ⟨a, rfl, hf⟩ := dx
          obtain ⟨a2, rfl, hf2⟩ := dy
          obtain ⟨w, ⟨l, rfl, p⟩, hw⟩ := r.cell n _ a hn hf
          obtain ⟨w2, ⟨l2, rfl, p2⟩, hw2⟩ := r.cell m _ a2 hm hf2
          have rd : Rd H a (.dT l) := by
            cases lk with
            | false => exact .inl hw
            | true => exact .inr hw
          have rd2 : Rd H a2 (.dT l2) := by
            cases lm with
            | false => exact .inl hw2
            | true => exact .inr hw2
          have p : TabR (DV k.K F H) tkD (fun q => ∀ z ∈ q, keyOk z) xs l := p
          have p2 : TabR (DV k.K F H) tkD (fun q => ∀ z ∈ q, keyOk z) ys l2 := p2
          obtain ⟨_, na, x1, k1, d1⟩ := dt_rd I.hok rd
          obtain ⟨_, nb, x2, k2, d2⟩ := dt_rd I.hok rd2
          cases rx
          cases ry
          have z1 : xs.length = x1.length := p.length.trans k1.length
          have z2 : ys.length = x2.length := p2.length.trans k2.length
          have fin : ∃ c, (x1.length = x2.length → HitsH X.A.in1 s x2 x1 c) ∧ (x1.length == x2.length && c) = b := by
            by_cases c : xs.length = ys.length
            · rw [if_pos c] at q
              refine ⟨b, fun _ => hits_ok I hK hu p2 k2 p k1 q, ?_⟩
              rw [← z1, ← z2, c]; simp
            · rw [if_neg c] at q; cases q
              refine ⟨true, fun z => absurd (by omega) c, ?_⟩
              have : ¬ x1.length = x2.length := fun z => c (by omega)
              simp [this]
          obtain ⟨c, f1, f2⟩ := fin
          have hr : (tupleKind (mixKind X.prog X.w)).room X.A.in1 := tupleKind_room_in1 (by omega)
          exact ⟨fun E Q hq => dict_eqH (by omega) hr na nb d1 d2 f1 (by rw [f2]; exact hq), fun E Q hq => dict_neH (by omega) hr na nb d1 d2 f1 (by rw [f2]; exact hq)⟩
/-- membership in a list or tuple -/
theorem eqDic2_ok {pins : List (Addr × Obj)} {s : Shared} {σ : L2.St} {F : List Addr} {H : Hp} {h : Hs} {d e : D} {x y : V} {v u : Value} {b : Bool} (I : L2.Inv X pins σ H s) (hK : X.K = k.K) (hu : X.A.units + 64 < cLine) (r : RelH k F H h) (rx : L2.RelV x v) (ry : L2.RelV y u) (dx : DV k.K F H d x) (dy : DV k.K F H e y) (q : eqDic2 h d e = some b) :
    (∀ (E : Value → Shared → Prop) (Q : Value → Shared → Prop), Q (.bool b) s → wpAny (model X.prog X.w) X.A (compareOp .Eq v u) Q E s) ∧
    (∀ (E : Value → Shared → Prop) (Q : Value → Shared → Prop), Q (.bool (!b)) s → wpAny (model X.prog X.w) X.A (compareOp .NotEq v u) Q E s) := by
  unfold eqDic2 at q
  cases c : eqOdd d e with
  | none =>
    rw [c] at q
    dsimp only at q
    cases c2 : eqLst h d e with
    | none => rw [c2] at q; exact eqDic_ok I hK hu r rx ry dx dy q
    | some b2 =>
      rw [c2] at q
      cases q
      have hc : X.A.units < cLine := by omega
      unfold eqLst at c2
      cases d with
      | ref n =>
        dsimp only at c2
        cases hn : h[n]? with
        | none => rw [hn] at c2; cases c2
        | some cell =>
          rw [hn] at c2
          cases cell with
          | lst xs =>
            dsimp only at c2
            unfold DV at dx
            obtain ⟨a, rfl, hf⟩ := dx
            obtain ⟨vs, hv, dvs⟩ := r.cell n _ a hn hf
            cases (show v = Value.ref a from rx)
            obtain ⟨its, rv, pt, _⟩ := I.list (show SqL X.K H a vs from .inl (.inl hv))
            have ht : s.heap.IsList a its.toArray := pt.isList
            cases e with
            | str z =>
              cases c2
              obtain ⟨rfl, _⟩ := dy.strV
              obtain ⟨t2, rfl⟩ := ry
              exact ⟨fun E Q q => SeqAt.RcAt.list_str _ _ ht hc _ _ E Q q, fun E Q q => SeqAt.RcNeAt.list_str _ _ ht hc _ _ E Q q⟩
            | int z =>
              cases c2
              cases dy.intV
              obtain ⟨t2, rfl⟩ := ry
              exact ⟨fun E Q q => SeqAt.RcAt.list_int _ _ ht hc _ _ E Q q, fun E Q q => SeqAt.RcNeAt.list_int _ _ ht hc _ _ E Q q⟩
            | bl z =>
              cases c2
              unfold DV at dy
              subst dy
              cases ry
              exact ⟨fun E Q q => SeqAt.RcAt.list_bool _ ht hc _ _ E Q q, fun E Q q => SeqAt.RcNeAt.list_bool _ ht hc _ _ E Q q⟩
            | non =>
              cases c2
              unfold DV at dy
              subst dy
              cases ry
              exact ⟨fun E Q q => SeqAt.RcAt.list_none ht hc _ _ E Q q, fun E Q q => SeqAt.RcNeAt.list_none ht hc _ _ E Q q⟩
            | tup ys =>
              cases c2
              unfold DV at dy
              obtain ⟨a2, ws, rfl, qb, db⟩ := dy
              cases (show u = Value.ref a2 from ry)
              obtain ⟨its2, rv2, pt2, _⟩ := I.tuple (by rw [hK]; exact qb.sqT)
              have ht2 : s.heap.IsTuple a2 its2.toArray := pt2
              exact ⟨fun E Q q => SeqAt.RcAt.list_tuple ht ht2 hc _ _ E Q q, fun E Q q => SeqAt.RcNeAt.list_tuple ht ht2 hc _ _ E Q q⟩
            | _ => cases c2
          | _ => cases c2
      | _ => cases c2
  | some b' =>
    rw [c] at q
    cases q
    have hc : X.A.units < cLine := by omega
    cases d with
    | tup xs =>
      unfold DV at dx
      obtain ⟨a, vs, rfl, qa, da⟩ := dx
      cases (show v = Value.ref a from rx)
      obtain ⟨its, rv, pt, _⟩ := I.tuple (by rw [hK]; exact qa.sqT)
      have ht : s.heap.IsTuple a its.toArray := pt
      cases e with
      | str z =>
        cases c
        obtain ⟨rfl, _⟩ := dy.strV
        obtain ⟨t2, rfl⟩ := ry
        exact ⟨fun E Q q => SeqAt.RcAt.tuple_str _ _ ht hc _ _ E Q q, fun E Q q => SeqAt.RcNeAt.tuple_str _ _ ht hc _ _ E Q q⟩
      | int z =>
        cases c
        cases dy.intV
        obtain ⟨t2, rfl⟩ := ry
        exact ⟨fun E Q q => SeqAt.RcAt.tuple_int _ _ ht hc _ _ E Q q, fun E Q q => SeqAt.RcNeAt.tuple_int _ _ ht hc _ _ E Q q⟩
      | bl z =>
        cases c
        unfold DV at dy
        subst dy
        cases ry
        exact ⟨fun E Q q => SeqAt.RcAt.tuple_bool _ ht hc _ _ E Q q, fun E Q q => SeqAt.RcNeAt.tuple_bool _ ht hc _ _ E Q q⟩
      | non =>
        cases c
        unfold DV at dy
        subst dy
        cases ry
        exact ⟨fun E Q q => SeqAt.RcAt.tuple_none ht hc _ _ E Q q, fun E Q q => SeqAt.RcNeAt.tuple_none ht hc _ _ E Q q⟩
      | tup ys =>
        cases xs with
        | nil => cases ys <;> cases c
        | cons x xs =>
          cases ys with
          | cons => cases c
          | nil =>
            cases c
            unfold DV at dy
            obtain ⟨a2, ws, rfl, qb, db⟩ := dy
            cases (show u = Value.ref a2 from ry)
            obtain ⟨its2, rv2, pt2, _⟩ := I.tuple (by rw [hK]; exact qb.sqT)
            have ht2 : s.heap.IsTuple a2 its2.toArray := pt2
            have l1 : its.toArray.size = xs.length + 1 := by rw [List.size_toArray, ← rv.length, ← da.len]; rfl
            have l2 : its2.toArray.size = 0 := by rw [List.size_toArray, ← rv2.length, ← db.len]; rfl
            have he : ∀ j (h1 : j < its.toArray.size) (h2 : j < its2.toArray.size), SeqAt.EqAt X.A.in1 s its.toArray[j] its2.toArray[j] true := fun j h1 h2 => by omega
            have ef : ((List.range (min its.toArray.size its2.toArray.size)).all (fun _ => true) && its.toArray.size == its2.toArray.size) = false := by rw [l1, l2]; simp
            refine ⟨fun E Q q => SeqAt.RcAt.tuples (e := fun _ => true) ht ht2 hc he _ _ E Q (by rw [ef]; exact q), fun E Q q => SeqAt.RcNeAt.tuples (e := fun _ => true) ht ht2 hc he _ _ E Q ?_⟩
            rw [ef]; exact q
      | _ => cases c
    | _ => cases e <;> cases c
theorem in_any {pins : List (Addr × Obj)} {s : Shared} {σ : L2.St} {F : List Addr} {H : Hp} {h : Hs} {x y : V} {v u : Value} {d c : D} {xs : List D} {b : Bool} (I : L2.Inv X pins σ H s) (hK : X.K = k.K) (r : RelH k F H h) (rx : L2.RelV x v) (ry : L2.RelV y u) (hu : X.A.units + 64 < cLine)
    (dx : DV k.K F H d x) (dy : DV k.K F H c y) (hc : seqH h c = some xs) (q : inSeq h d xs = some b) :
    (∀ (E : Value → Shared → Prop) (Q : Value → Shared → Prop), Q (.bool b) s → wpAny (model X.prog X.w) X.A (compareOp .In v u) Q E s) ∧
    (∀ (E : Value → Shared → Prop) (Q : Value → Shared → Prop), Q (.bool (!b)) s → wpAny (model X.prog X.w) X.A (compareOp .NotIn v u) Q E s) := by
  unfold inSeq at q
  cases e1 : pyH h d with
  | none => rw [e1] at q; cases q
  | some p =>
    cases e2 : pys xs with
    | none => rw [e1, e2] at q; cases q
    | some ps =>
      rw [e1, e2] at q
      have q : (if p.depth ≤ 60 then some (ps.any fun y => PyData.eqv y p) else none) = some b := q
      by_cases hd : p.depth ≤ 60
      · rw [if_pos hd] at q; cases q
        obtain ⟨dp, pp⟩ := pyH_dp r dx e1
        obtain ⟨as, r1⟩ := Dp.reads I p x v (by rw [hK]; exact dp) rx
        have pl := pys_plain xs ps e2
        have hm : X.A.units + 1 + min (PyData.depthAll ps) p.depth < cLine := by
          have := Nat.min_le_right (PyData.depthAll ps) p.depth
          omega
        have lst : ∀ {a : Addr} {vs : List V}, y = .ref a → SqL k.K H a vs → DVs k.K F H xs vs →
            (∀ (E : Value → Shared → Prop) (Q : Value → Shared → Prop), Q (.bool (ps.any fun y => PyData.eqv y p)) s → wpAny (model X.prog X.w) X.A (compareOp .In v u) Q E s) ∧
            (∀ (E : Value → Shared → Prop) (Q : Value → Shared → Prop), Q (.bool (!ps.any fun y => PyData.eqv y p)) s → wpAny (model X.prog X.w) X.A (compareOp .NotIn v u) Q E s) := fun {a vs} ey sq dv => by
          obtain ⟨bs, r2⟩ := Dp.reads I (.list ps) y u (by rw [hK, ey]; exact .lst sq (pys_dp xs vs ps dv e2)) ry
          exact ⟨fun E Q h => SeqAt.in_list_data r2 r1 pl pp hm h, fun E Q h => SeqAt.notIn_list_data r2 r1 pl pp hm h⟩
        cases c with
        | tup ys =>
          cases hc
          unfold DV at dy
          obtain ⟨a, vs, ey, sq, dv⟩ := dy
          obtain ⟨bs, r2⟩ := Dp.reads I (.tuple ps) y u (by rw [hK, ey]; exact .tup sq.sqT (pys_dp xs vs ps dv e2)) ry
          exact ⟨fun E Q h => SeqAt.in_tuple_data r2 r1 pl pp hm h, fun E Q h => SeqAt.notIn_tuple_data r2 r1 pl pp hm h⟩
        | ls ys =>
          cases hc
          unfold DV at dy
          obtain ⟨a, vs, ey, sq, dv⟩ := dy
          exact lst ey sq.sq dv
        | ref n =>
          simp only [seqH] at hc
          cases e3 : h[n]? with
          | none => rw [e3] at hc; cases hc
          | some c =>
            rw [e3] at hc
            cases c with
            | lst zs =>
              cases hc
              obtain ⟨a, vs, ey, _, hl, dv⟩ := r.lst e3 dy
              exact lst ey (SqL.of hl) dv
            | _ => cases hc
        | _ => cases hc
      · rw [if_neg hd] at q; cases q
theorem isOp_ok {pins : List (Addr × Obj)} {s : Shared} {σ : L2.St} {F : List Addr} {H : Hp} {x y : V} {v u : Value} {d c : D} {b : Bool} (I : L2.Inv X pins σ H s) (rx : L2.RelV x v) (ry : L2.RelV y u) (dx : DV k.K F H d x) (dy : DV k.K F H c y) (q : isOp d c = some b) :
    plainIs v u = true ∧ (v == u) = b := by
  cases c with
  | non =>
    unfold DV at dy; subst dy; cases ry
    cases d with
    | non => unfold DV at dx; subst dx; cases rx; cases q; exact ⟨rfl, rfl⟩
    | bl a => unfold DV at dx; subst dx; cases rx; cases q; exact ⟨rfl, rfl⟩
    | int i => unfold DV at dx; subst dx; obtain ⟨t, rfl⟩ := rx; cases q; exact ⟨rfl, rfl⟩
    | str z => unfold DV at dx; obtain ⟨rfl, _⟩ := dx; obtain ⟨t, rfl⟩ := rx; cases q; exact ⟨rfl, rfl⟩
    | tup z => unfold DV at dx; obtain ⟨a, vs, rfl, _⟩ := dx; cases rx; cases q; exact ⟨rfl, rfl⟩
    | ls z => unfold DV at dx; obtain ⟨a, vs, rfl, _⟩ := dx; cases rx; cases q; exact ⟨rfl, rfl⟩
    | ref z => unfold DV at dx; obtain ⟨a, rfl, _⟩ := dx; cases rx; cases q; exact ⟨rfl, rfl⟩
  | bl c =>
    unfold DV at dy; subst dy; cases ry
    cases d with
    | non => unfold DV at dx; subst dx; cases rx; cases q; exact ⟨rfl, rfl⟩
    | bl a =>
      unfold DV at dx; subst dx; cases rx; cases q
      refine ⟨rfl, ?_⟩
      cases a <;> cases c <;> rfl
    | int i => unfold DV at dx; subst dx; obtain ⟨t, rfl⟩ := rx; cases q; exact ⟨rfl, rfl⟩
    | str z => unfold DV at dx; obtain ⟨rfl, _⟩ := dx; obtain ⟨t, rfl⟩ := rx; cases q; exact ⟨rfl, rfl⟩
    | tup z => unfold DV at dx; obtain ⟨a, vs, rfl, _⟩ := dx; cases rx; cases q; exact ⟨rfl, rfl⟩
    | ls z => unfold DV at dx; obtain ⟨a, vs, rfl, _⟩ := dx; cases rx; cases q; exact ⟨rfl, rfl⟩
    | ref z => unfold DV at dx; obtain ⟨a, rfl, _⟩ := dx; cases rx; cases q; exact ⟨rfl, rfl⟩
  | _ => cases d <;> cases q
theorem op_cmpD (hK : X.K = k.K) (hu : X.A.units + 64 < cLine) (op : CmpOp) : OpR X (compareOp op) (rD k (cmpR op)) := by
  refine OpR.byD fun pins s σ H x y v u Q W0 F h d e I rx ry r dx dy p => ?_
  obtain ⟨b, q, hQ⟩ := Post.ofBl p r
  have fin : ∀ {E : Value → Shared → Prop}, EP X pins σ Q (.bool b) s := ⟨.bl b, H, I, rfl, hQ⟩
  have neg : ∀ {o : Option Bool}, o.map not = some b → ∃ c, o = some c ∧ b = !c := fun {o} z => by
    cases o with
    | none => cases z
    | some c => cases z; exact ⟨c, rfl, rfl⟩
  have ord : ∀ {o : CmpOp}, (∀ h d e, cmpOp o h d e = ordOp o h d e) → (∀ (i j : Int) (t t' : Tok), ordI o i j = b → wpAny (model X.prog X.w) X.A (compareOp o (.int i t) (.int j t')) (EP X pins σ Q) X.xe s) →
      (∀ (i j : Str) (t t' : Tok), ordS o i.cps.toList j.cps.toList = b → wpAny (model X.prog X.w) X.A (compareOp o (.str i t) (.str j t')) (EP X pins σ Q) X.xe s) →
      (∀ (p q : PyData) (as bs : List Addr), Reads s.heap v p as → Reads s.heap u q bs → PySem.W.alike p q = true → p ≠ .none → X.A.units + min p.depth q.depth < cLine → ordPD o p q = some b → wpAny (model X.prog X.w) X.A (compareOp o v u) (EP X pins σ Q) X.xe s) → cmpOp o h d e = some b → wpAny (model X.prog X.w) X.A (compareOp o v u) (EP X pins σ Q) X.xe s := fun {o} c0 hi hs hT c => by
    rw [c0] at c
    cases d <;> cases e <;> try cases c
    · obtain ⟨t, rfl⟩ := dx.intV ▸ rx
      obtain ⟨t', rfl⟩ := dy.intV ▸ ry
      exact hi _ _ t t' rfl
    · obtain ⟨rfl, _⟩ := dx.strV
      obtain ⟨rfl, _⟩ := dy.strV
      obtain ⟨t, rfl⟩ := rx
      obtain ⟨t', rfl⟩ := ry
      exact hs _ _ t t' (by simp)
    · have c : ordT o _ _ = some b := c
      obtain ⟨p1, p2, e1, e2, al, hd, c⟩ := ordT_some c
      obtain ⟨as, r1⟩ := Dp.reads I p1 x v (by rw [hK]; exact py_dp _ _ _ dx e1) rx
      obtain ⟨bs, r2⟩ := Dp.reads I p2 y u (by rw [hK]; exact py_dp _ _ _ dy e2) ry
      refine hT p1 p2 as bs r1 r2 al (fun z => ?_) (by omega) c
      subst z
      unfold py at e1
      obtain ⟨ps, _, z⟩ := Option.map_eq_some_iff.mp e1
      cases z
  have fin' : ∀ {E : Value → Shared → Prop} (s' : Shared), L2.Inv X pins σ H s' → EP X pins σ Q (.bool b) s' := fun s' I' => ⟨.bl b, H, I', rfl, hQ⟩
  have mem : ∀ {c : Bool}, inOp h d e = some c → (∀ (Q : Value → Shared → Prop), (∀ s', L2.Inv X pins σ H s' → Q (.bool c) s') → wpAny (model X.prog X.w) X.A (compareOp .In v u) Q X.xe s) ∧ (∀ (Q : Value → Shared → Prop), (∀ s', L2.Inv X pins σ H s' → Q (.bool (!c)) s') → wpAny (model X.prog X.w) X.A (compareOp .NotIn v u) Q X.xe s) := fun {c} z => by
    have gen : (match seqH h e with | some xs => inSeq h d xs | none => match dicRd h e with | some (t, kvs) => if kOk t d = true then some (dfind kvs d).isSome else none | none => none) = some c → (∀ (Q : Value → Shared → Prop), (∀ s', L2.Inv X pins σ H s' → Q (.bool c) s') → wpAny (model X.prog X.w) X.A (compareOp .In v u) Q X.xe s) ∧ (∀ (Q : Value → Shared → Prop), (∀ s', L2.Inv X pins σ H s' → Q (.bool (!c)) s') → wpAny (model X.prog X.w) X.A (compareOp .NotIn v u) Q X.xe s) := fun z => by
      cases e1 : seqH h e with
      | none =>
        rw [e1] at z
        have z : (match dicRd h e with | some (t, kvs) => if kOk t d = true then some (dfind kvs d).isSome else none | none => none) = some c := z
        cases e2 : dicRd h e with
        | none => rw [e2] at z; cases z
        | some tk =>
          obtain ⟨t, kvs⟩ := tk
          rw [e2] at z
          have z : (if kOk t d = true then some (dfind kvs d).isSome else none) = some c := z
          by_cases q : kOk t d = true
          · rw [if_pos q] at z
            obtain ⟨a, o, rfl, g, co⟩ := r.dget e2 q dy dx
            have eo : o.isSome = c := by
              rcases co with ⟨e3, rfl⟩ | ⟨z', w, e3, rfl, _⟩
              · rw [e3] at z; exact Option.some.inj z
              · rw [e3] at z; exact Option.some.inj z
            cases ry
            have hu1 : X.A.units + 1 < cLine := by omega
            exact ⟨fun Q q => d_in hu1 I g rx fun s' I' => by rw [eo]; exact q s' I', fun Q q => d_notIn hu1 I g rx fun s' I' => by rw [eo]; exact q s' I'⟩
          · rw [if_neg q] at z; cases z
      | some xs =>
        rw [e1] at z
        obtain ⟨h1, h2⟩ := in_any I hK r rx ry hu dx dy e1 z
        exact ⟨fun Q q => h1 _ Q (q s I), fun Q q => h2 _ Q (q s I)⟩
    cases e with
    | str t =>
      have z : inStr d t = some c := z
      cases d with
      | str x =>
        cases x with
        | nil => cases z
        | cons a x =>
          cases x with
          | cons _ _ => cases z
          | nil =>
            obtain ⟨rfl, _⟩ := dx.strV
            obtain ⟨rfl, _⟩ := dy.strV
            obtain ⟨t1, rfl⟩ := rx
            obtain ⟨t2, rfl⟩ := ry
            have ea : decide (a ∈ t) = c := Option.some.inj z
            have f : (!(Builtin.Str.occurrences ⟨t.toArray⟩ ⟨#[a]⟩ 0 (Str.length ⟨t.toArray⟩) 1).isEmpty) = c := by
              rw [PySem.StrLaws.found_one ⟨t.toArray⟩ a, ← ea]
            exact ⟨fun Q q => PyProof.Rows.in_str (by rw [f]; exact q s I), fun Q q => PyProof.Rows.notIn_str (by rw [f]; exact q s I)⟩
      | _ => cases z
    | _ => exact gen z
  cases op with
  | Eq =>
    rcases eqOp_some q with ⟨p1, p2, e1, e2, hd, rfl⟩ | q
    rotate_left
    · exact (eqDic2_ok I hK hu r rx ry dx dy q).1 _ _ (fin (E := X.xe))
    obtain ⟨a1, a2⟩ := pyH_dp r dx e1
    obtain ⟨b1, b2⟩ := pyH_dp r dy e2
    exact (eq_any I rx ry hu (by rw [hK]; exact a1) (by rw [hK]; exact b1) a2 b2 hd).1 _ _ (fin (E := X.xe))
  | NotEq =>
    obtain ⟨c, q1, rfl⟩ := neg q
    rcases eqOp_some q1 with ⟨p1, p2, e1, e2, hd, rfl⟩ | q1
    rotate_left
    · exact (eqDic2_ok I hK hu r rx ry dx dy q1).2 _ _ (fin (E := X.xe))
    obtain ⟨a1, a2⟩ := pyH_dp r dx e1
    obtain ⟨b1, b2⟩ := pyH_dp r dy e2
    exact (eq_any I rx ry hu (by rw [hK]; exact a1) (by rw [hK]; exact b1) a2 b2 hd).2 _ _ (fin (E := X.xe))
  | Is =>
    obtain ⟨h1, h2⟩ := isOp_ok I rx ry dx dy q
    exact wpAny_is_plain h1 (by rw [h2]; exact fin (E := X.xe))
  | IsNot =>
    obtain ⟨c, q1, rfl⟩ := neg q
    obtain ⟨h1, h2⟩ := isOp_ok I rx ry dx dy q1
    exact wpAny_isNot_plain h1 (by rw [h2]; exact fin (E := X.xe))
  | In => exact (mem q).1 _ (fin' (E := X.xe))
  | NotIn =>
    obtain ⟨c, q1, rfl⟩ := neg q
    exact (mem q1).2 _ (fin' (E := X.xe))
  | Lt => exact ord (fun _ _ _ => rfl) (fun i j t t' z => lt_int (by rw [show decide (i < j) = b from z]; exact fin (E := X.xe))) (fun i j t t' z => lt_str (by rw [show decide (i.cps.toList < j.cps.toList) = b from z]; exact fin (E := X.xe))) (fun p1 p2 as bs r1 r2 al hn hd z => PySem.W.lt_data r1 r2 al hn hd (by rw [Option.some.inj z]; exact fin (E := X.xe))) q
  | LtE => exact ord (fun _ _ _ => rfl) (fun i j t t' z => le_int (by rw [show decide (i ≤ j) = b from z]; exact fin (E := X.xe))) (fun i j t t' z => PySem.P.le_str (by rw [show (!decide (j.cps.toList < i.cps.toList)) = b from z]; exact fin (E := X.xe))) (fun p1 p2 as bs r1 r2 al hn hd z => PySem.W.le_data r1 r2 al hn hd (by rw [Option.some.inj z]; exact fin (E := X.xe))) q
  | Gt => exact ord (fun _ _ _ => rfl) (fun i j t t' z => gt_int (by rw [show decide (j < i) = b from z]; exact fin (E := X.xe))) (fun i j t t' z => PySem.P.gt_str (by rw [show decide (j.cps.toList < i.cps.toList) = b from z]; exact fin (E := X.xe))) (fun p1 p2 as bs r1 r2 al hn hd z => PySem.W.gt_data r1 r2 al hn hd (by rw [Option.some.inj z]; exact fin (E := X.xe))) q
  | GtE => exact ord (fun _ _ _ => rfl) (fun i j t t' z => ge_int (by rw [show decide (j ≤ i) = b from z]; exact fin (E := X.xe))) (fun i j t t' z => PySem.P.ge_str (by rw [show (!decide (i.cps.toList < j.cps.toList)) = b from z]; exact fin (E := X.xe))) (fun p1 p2 as bs r1 r2 al hn hd z => PySem.W.ge_data r1 r2 al hn hd (by rw [Option.some.inj z]; exact fin (E := X.xe))) q
end
open PySem PySem.Spec PyProof.Rows L2
/-- an item, from either end -/
def ixSq (h : Hs) (d e : D) : Res D := match e with
  | .int i => match d with
    | .str x => Res.of ((atI x i).map fun c => .str [c]) h
    | d => match seqH h d with
      | some xs => Res.of (atI xs i) h
      | none => .bad
  | _ => .bad
/-- an item: of a dict by its key -/
def ixOp (h : Hs) (d e : D) : Res D := match dicRd h d with
  | some (t, kvs) => if kOk t e = true then Res.of (dfind kvs e) h else .bad
  | none => ixSq h d e
theorem atI_dv {K F H} {ds : List D} {vs : List V} {i : Int} {d : D} (h : DVs K F H ds vs) (e : atI ds i = some d) : ∃ v, atI vs i = some v ∧ DV K F H d v := by
  unfold atI at e ⊢
  rw [← h.len]
  cases q : ixN ds.length i with
  | none => rw [q] at e; cases e
  | some j =>
    rw [q] at e
    exact h.get e
/-- a list or tuple that is read -/
theorem RelH.seq {k F H h} (r : RelH k F H h) {d : D} {v : V} {xs : List D} (dv : DV k.K F H d v) (e : seqH h d = some xs) : ∃ a vs, v = .ref a ∧ (SqL k.K H a vs ∨ SqT k.K H a vs) ∧ DVs k.K F H xs vs ∧ (∀ ys, d = .tup ys → TpR H a vs ys) ∧ ((∀ ys, d ≠ .tup ys) → SqL k.K H a vs) := by
  cases d with
  | tup ys =>
    cases e
    unfold DV at dv
    obtain ⟨a, vs, rfl, q, dvs⟩ := dv
    exact ⟨a, vs, rfl, .inr q.sqT, dvs, fun _ z => by cases z; exact q, fun n => absurd rfl (n xs)⟩
  | ls ys =>
    cases e
    unfold DV at dv
    obtain ⟨a, vs, rfl, q, dvs⟩ := dv
    exact ⟨a, vs, rfl, .inl q.sq, dvs, fun _ z => (nomatch z), fun _ => q.sq⟩
  | ref n =>
    simp only [seqH] at e
    cases e3 : h[n]? with
    | none => rw [e3] at e; cases e
    | some c =>
      rw [e3] at e
      cases c with
      | lst zs =>
        cases e
        obtain ⟨a, vs, rfl, _, hl, dvs⟩ := r.lst e3 dv
        exact ⟨a, vs, rfl, .inl (SqL.of hl), dvs, fun _ z => (nomatch z), fun _ => SqL.of hl⟩
      | _ => cases e
  | _ => cases e
theorem seqH_tup {h : Hs} {d : D} {xs : List D} (e : seqH h d = some xs) : d = .tup xs ∨ ∀ ys, d ≠ .tup ys := by
  cases d with
  | tup ys => cases e; exact .inl rfl
  | _ => exact .inr fun _ z => nomatch z
section
variable {X : Cx} {k : Kx}
theorem ix_Sq (hK : X.K = k.K) : IxR X (rD k ixSq) := by
  intro ve se pins s σ H x y v u Q I rx ry hw hsb
  obtain ⟨W0, F, h, d, e, r, dx, dy, p⟩ := hw
  cases e with
  | int i =>
    cases dy.intV
    have gen : Post k F H (PV k Q) W0 (match seqH h d with | some xs => Res.of (atI xs i) h | none => .bad) → wpAny (model X.prog X.w) X.A (subscriptTail ve se v u) (EP X pins σ Q) X.xe s := fun p => by
      cases e1 : seqH h d with
      | none => rw [e1] at p; exact p.elim
      | some xs =>
        rw [e1] at p
        have p : Post k F H (PV k Q) W0 (Res.of (atI xs i) h) := p
        cases e2 : atI xs i with
        | none => rw [e2] at p; exact p.elim
        | some z =>
          rw [e2] at p
          obtain ⟨a, vs, rfl, sq, dvs, _⟩ := r.seq dx e1
          obtain ⟨w, e3, dw⟩ := atI_dv dvs e2
          have q : Q w H := Post.here p r dw
          rcases sq with sq | sq
          · exact ix_list ve se pins s σ H _ _ v u Q I rx ry ⟨a, vs, i, w, rfl, rfl, by rw [hK]; exact sq, e3, q⟩ hsb
          · exact ix_tup ve se pins s σ H _ _ v u Q I rx ry ⟨a, vs, i, w, rfl, rfl, by rw [hK]; exact sq, e3, q⟩ hsb
    cases d with
    | str x =>
      obtain ⟨rfl, hl⟩ := dx.strV
      have p : Post k F H (PV k Q) W0 (Res.of ((atI x i).map fun c => .str [c]) h) := p
      cases e2 : atI x i with
      | none => rw [e2] at p; exact p.elim
      | some c =>
        rw [e2] at p
        refine ix_str ve se pins s σ H _ _ v u Q I rx ry ⟨_, i, c, rfl, rfl, le_lim hl, e2, ?_⟩ hsb
        exact Post.here (d := .str [c]) p r (DV.mkStr (x := [c]) (by show 1 ≤ 16777216; decide))
    | _ => exact gen p
  | _ => exact p.elim
theorem ix_D {X : Cx} {k : Kx} (hK : X.K = k.K) (hu : X.A.units + 1 < cLine) : IxR X (rD k ixOp) := by
  intro ve se pins s σ H x y v u Q I rx ry hw hsb
  obtain ⟨W0, F, h, d, e, r, dx, dy, p⟩ := hw
  unfold ixOp at p
  cases e1 : dicRd h d with
  | none => rw [e1] at p; exact ix_Sq hK ve se pins s σ H x y v u Q I rx ry ⟨W0, F, h, d, e, r, dx, dy, p⟩ hsb
  | some tk =>
    obtain ⟨t, kvs⟩ := tk
    rw [e1] at p
    obtain ⟨q, p⟩ := Post.cond (c := kOk t e = true) (r := Res.of (dfind kvs e) h) p
    obtain ⟨a, o, rfl, g, co⟩ := r.dget e1 q dx dy
    rcases co with ⟨e3, rfl⟩ | ⟨z, w, e3, rfl, dz⟩
    · rw [e3] at p; exact p.elim
    · rw [e3] at p
      exact ix_dic hu ve se pins s σ H _ y v u Q I rx ry ⟨a, w, rfl, g, Post.here p r dz⟩ hsb
def cutD {α : Type} (xs : List α) (lo hi : Option Int) : List α := (xs.drop (HT.sIx xs.length 0 lo)).take (HT.sIx xs.length xs.length hi - HT.sIx xs.length 0 lo)
def slOp (h : Hs) (d : D) (lo hi : Option Int) : Res D := match d with
  | .str x => .ok (.str (cutD x lo hi)) h
  | .tup xs => .ok (.tup (cutD xs lo hi)) h
  | d => match seqH h d with
    | some xs => .ok (.ref h.length) (h ++ [.lst (cutD xs lo hi)])
    | none => .bad
theorem DVs.cut {K F H} {ds : List D} {vs : List V} (h : DVs K F H ds vs) (lo hi : Option Int) : DVs K F H (cutD ds lo hi) (cutV vs lo hi) := by
  unfold cutD cutV
  rw [← h.len]
  exact (h.drop _).take _
theorem cutD_len {α : Type} (xs : List α) (lo hi : Option Int) : (cutD xs lo hi).length ≤ xs.length := by
  unfold cutD
  rw [List.length_take, List.length_drop]
  omega
def rSlD (k : Kx) : V → Option Int → Option Int → Hp → VK → Prop := fun x lo hi H Q => ∃ (W0 : Value → Option Addr → Hp → Prop) (F : List Addr) (h : Hs) (d : D), RelH k F H h ∧ DV k.K F H d x ∧ Post k F H (PV k Q) W0 (slOp h d lo hi)
theorem sl_D (hK : X.K = k.K) : SlR X (rSlD k) := by
  intro pins s σ H x v vl vu lo hi sl Q I rx hs pl pu hw
  obtain ⟨W0, F, h, d, r, dx, p⟩ := hw
  have gen : Post k F H (PV k Q) W0 (match seqH h d with | some xs => .ok (.ref h.length) (h ++ [.lst (cutD xs lo hi)]) | none => .bad) → (∀ ys, d ≠ .tup ys) → ∃ T id, typeLookup (.type T) "__getitem__" = pure (some (.builtin id)) ∧ s.TypeIs v T ∧ wpAny (model X.prog X.w) X.A (getItem v (.ref sl)) (EP X pins σ Q) X.xe s := fun p n => by
    cases e1 : seqH h d with
    | none => rw [e1] at p; exact p.elim
    | some xs =>
      rw [e1] at p
      obtain ⟨a, vs, rfl, _, dvs, _, sq⟩ := r.seq dx e1
      exact sl_list pins s σ H _ v vl vu lo hi sl Q I rx hs pl pu ⟨a, vs, rfl, by rw [hK]; exact sq n, fun c hc => Post.lst p r (dvs.cut lo hi) hc⟩
  cases d with
  | str z =>
    obtain ⟨rfl, hl⟩ := dx.strV
    refine sl_str pins s σ H _ v vl vu lo hi sl Q I rx hs pl pu ⟨_, rfl, le_lim hl, ?_⟩
    have e : cutS ⟨z.toArray⟩ lo hi = ⟨(cutD z lo hi).toArray⟩ := by
      unfold cutS cutD
      simp [Str.length]
    rw [e]
    exact Post.here (d := .str (cutD z lo hi)) p r (DV.mkStr (Nat.le_trans (cutD_len z lo hi) hl))
  | tup xs =>
    unfold DV at dx
    obtain ⟨a, vs, rfl, sq, dvs⟩ := dx
    have dd := dvs.cut lo hi
    refine sl_tupB pins s σ H _ v vl vu lo hi sl Q I rx hs pl pu ⟨a, vs, rfl, by rw [hK]; exact sq.sqT, fun hw => ?_, fun hw => ⟨_, Post.tup p r dd⟩⟩
    · have e : cutV vs lo hi = vs := by
        unfold cutV
        rw [hw.1, hw.2]
        simp
      rw [e] at dd
      have e2 : cutD xs lo hi = xs := by
        unfold cutD
        rw [show xs.length = vs.length from dvs.len, hw.1, hw.2, ← show xs.length = vs.length from dvs.len]
        simp
      exact Post.here (d := .tup (cutD xs lo hi)) p r (by unfold DV; exact ⟨a, vs, rfl, by rw [e2]; exact sq, dd⟩)
  | _ => exact gen p (fun _ z => nomatch z)
end
abbrev BF := Hs → List D → Res D
def rC (k : Kx) (g : BF) : List V → Hp → VK → Prop := fun vs H Q => ∃ (W0 : Value → Option Addr → Hp → Prop) (F : List Addr) (h : Hs) (ds : List D), RelH k F H h ∧ DVs k.K F H ds vs ∧ Post k F H (PV k Q) W0 (g h ds)
theorem CallR.byD {X : Cx} {f : Value} {k : Kx} {g : BF}
    (h : ∀ (pins : List (Addr × Obj)) (s : Shared) (σ : L2.St) (H : Hp) (xs : List V) (us : List Value) (Q : VK) (W0 : Value → Option Addr → Hp → Prop) (F : List Addr) (hs : Hs) (ds : List D), L2.Inv X pins σ H s → Vals xs us → RelH k F H hs → DVs k.K F H ds xs →
      Post k F H (PV k Q) W0 (g hs ds) → wpAny (model X.prog X.w) X.A (call f us) (EP X pins σ Q) X.xe s) : CallR X f (rC k g) :=
  fun pins s σ H xs us Q I r ⟨W0, F, hs, ds, rl, dv, p⟩ => h pins s σ H xs us Q W0 F hs ds I r rl dv p
/-- of one argument -/
theorem CallR.byD1 {X : Cx} {f : Value} {k : Kx} {g : Hs → D → Res D} {g' : BF} (e1 : ∀ h d, g' h [d] = g h d) (e0 : ∀ h ds, (∀ d, ds ≠ [d]) → g' h ds = .bad)
    (h : ∀ (H : Hp) (x : V) (Q : VK) (W0 : Value → Option Addr → Hp → Prop) (F : List Addr) (hs : Hs) (d : D), RelH k F H hs → DV k.K F H d x →
      Post k F H (PV k Q) W0 (g hs d) → ∃ r, CallR X f r ∧ r [x] H Q) : CallR X f (rC k g') := by
  refine CallR.byD fun pins s σ H xs us Q W0 F hs ds I r rl dv p => ?_
  by_cases q : ∃ d, ds = [d]
  · obtain ⟨d, rfl⟩ := q
    rw [e1] at p
    unfold DVs at dv
    obtain ⟨v, rr, rfl, d1, d2⟩ := dv
    unfold DVs at d2
    subst d2
    obtain ⟨rr, o, q⟩ := h H v Q W0 F hs d rl d1 p
    exact o pins s σ H _ us Q I r q
  · rw [e0 hs ds fun d e => q ⟨d, e⟩] at p
    exact p.elim
def lenD (h : Hs) : D → Option Nat
  | .str x => some x.length
  | d => match seqH h d with
    | some xs => some xs.length
    | none => match dicRd h d with
      | some (false, kvs) => some kvs.length
      | _ => none
def len1 (h : Hs) (d : D) : Res D := Res.of ((lenD h d).map fun n => .int n) h
def on1 (g : Hs → D → Res D) : BF := fun h ds => match ds with
  | [d] => g h d
  | _ => .bad
def on2 (g : Hs → D → D → Res D) : BF := fun h ds => match ds with
  | [d, e] => g h d e
  | _ => .bad
theorem on1_bad {g : Hs → D → Res D} (h : Hs) (ds : List D) (n : ∀ d, ds ≠ [d]) : on1 g h ds = .bad := by
  match ds, n with
  | [], _ => rfl
  | [d], n => exact absurd rfl (n d)
  | _ :: _ :: _, _ => rfl
/-- ints of data -/
def intsD : List D → Option (List Int)
  | [] => some []
  | .int i :: r => (intsD r).map (i :: ·)
  | _ :: _ => none
def blsD : List D → Option (List Bool)
  | [] => some []
  | .bl i :: r => (blsD r).map (i :: ·)
  | _ :: _ => none
def strsD : List D → Option (List (List Nat))
  | [] => some []
  | .str i :: r => (strsD r).map (i :: ·)
  | _ :: _ => none
theorem intsD_eq : ∀ {ds : List D} {ns : List Int}, intsD ds = some ns → ds = ns.map .int
  | [], ns, e => by cases e; rfl
  | .int i :: r, ns, e => by
    obtain ⟨m, e1, rfl⟩ := Option.map_eq_some_iff.mp (show (intsD r).map (i :: ·) = some ns from e)
    rw [intsD_eq e1]; rfl
  | .non :: _, _, e => by cases e
  | .bl _ :: _, _, e => by cases e
  | .str _ :: _, _, e => by cases e
  | .tup _ :: _, _, e => by cases e
  | .ls _ :: _, _, e => by cases e
  | .ref _ :: _, _, e => by cases e
theorem blsD_eq : ∀ {ds : List D} {ns : List Bool}, blsD ds = some ns → ds = ns.map .bl
  | [], ns, e => by cases e; rfl
  | .bl i :: r, ns, e => by
    obtain ⟨m, e1, rfl⟩ := Option.map_eq_some_iff.mp (show (blsD r).map (i :: ·) = some ns from e)
    rw [blsD_eq e1]; rfl
  | .non :: _, _, e => by cases e
  | .int _ :: _, _, e => by cases e
  | .str _ :: _, _, e => by cases e
  | .tup _ :: _, _, e => by cases e
  | .ls _ :: _, _, e => by cases e
  | .ref _ :: _, _, e => by cases e
theorem strsD_eq : ∀ {ds : List D} {ns : List (List Nat)}, strsD ds = some ns → ds = ns.map .str
  | [], ns, e => by cases e; rfl
  | .str i :: r, ns, e => by
    obtain ⟨m, e1, rfl⟩ := Option.map_eq_some_iff.mp (show (strsD r).map (i :: ·) = some ns from e)
    rw [strsD_eq e1]; rfl
  | .non :: _, _, e => by cases e
  | .int _ :: _, _, e => by cases e
  | .bl _ :: _, _, e => by cases e
  | .tup _ :: _, _, e => by cases e
  | .ls _ :: _, _, e => by cases e
  | .ref _ :: _, _, e => by cases e
theorem strsD_map (ns : List (List Nat)) : strsD (ns.map .str) = some ns := by
  induction ns with
  | nil => rfl
  | cons n ns ih => show (strsD (ns.map .str)).map (n :: ·) = _; rw [ih]; rfl
theorem DVs.ints {K F H} : ∀ {ns : List Int} {vs : List V}, DVs K F H (ns.map .int) vs → vs = ns.map V.int
  | [], vs, h => by unfold List.map DVs at h; exact h
  | n :: ns, vs, h => by
    rw [List.map_cons] at h
    unfold DVs at h
    obtain ⟨v, r, rfl, h1, h2⟩ := h
    rw [h1.intV, DVs.ints h2]; rfl
theorem DVs.bls {K F H} : ∀ {ns : List Bool} {vs : List V}, DVs K F H (ns.map .bl) vs → vs = ns.map V.bl
  | [], vs, h => by unfold List.map DVs at h; exact h
  | n :: ns, vs, h => by
    rw [List.map_cons] at h
    unfold DVs at h
    obtain ⟨v, r, rfl, h1, h2⟩ := h
    unfold DV at h1
    rw [h1, DVs.bls h2]; rfl
theorem DVs.strs {K F H} : ∀ {ns : List (List Nat)} {vs : List V}, DVs K F H (ns.map .str) vs → vs = ns.map (fun x => V.str ⟨x.toArray⟩) ∧ ∀ x ∈ ns, x.length ≤ lim
  | [], vs, h => by unfold List.map DVs at h; exact ⟨h, fun _ m => nomatch m⟩
  | n :: ns, vs, h => by
    rw [List.map_cons] at h
    unfold DVs at h
    obtain ⟨v, r, rfl, h1, h2⟩ := h
    obtain ⟨e, m⟩ := DVs.strs h2
    rw [h1.strV.1, e]
    refine ⟨rfl, fun x hx => ?_⟩
    rcases List.mem_cons.mp hx with z | z
    · rw [z]; exact h1.strV.2
    · exact m x z
/-- the type's name -/
def tyD (h : Hs) : D → Option String
  | .non => some "NoneType"
  | .bl _ => some "bool"
  | .int _ => some "int"
  | .str _ => some "str"
  | .tup _ => some "tuple"
  | .ls _ => some "list"
  | .ref n => match h[n]? with
    | some (.lst _) => some "list"
    | some (.dic _ false _) => some "dict"
    | _ => none
def isiT (T : String) (h : Hs) (d : D) : Option Bool := (tyD h d).bind fun t => kitB t T
theorem tyD_ok {k F H h} (r : RelH k F H h) {d : D} {v : V} {t : String} (dv : DV k.K F H d v) (e : tyD h d = some t) : TyX k.K H v (.type t) := by
  cases d with
  | non => unfold DV at dv; subst dv; cases e; exact .base .non
  | bl b => unfold DV at dv; subst dv; cases e; exact .base (.bl b)
  | int i => unfold DV at dv; subst dv; cases e; exact .base (.int i)
  | str x => obtain ⟨rfl, _⟩ := dv.strV; cases e; exact .base (.str _)
  | tup xs =>
    unfold DV at dv
    obtain ⟨a, vs, rfl, q, _⟩ := dv
    cases e
    rcases q.rd with q | ⟨o, q⟩
    · exact .base (.tup q)
    · exact .fTuple q
  | ls xs =>
    unfold DV at dv
    obtain ⟨a, vs, rfl, q, _⟩ := dv
    cases e
    rcases q with ⟨o, q⟩ | ⟨o, its, n, hk, hc, _⟩
    · exact .base (.frz q)
    · exact .kList hk hc
  | ref n =>
    simp only [tyD] at e
    cases q : h[n]? with
    | none => rw [q] at e; cases e
    | some c =>
      rw [q] at e
      unfold DV at dv
      obtain ⟨a, rfl, hf⟩ := dv
      have cr := r.cell n c a q hf
      cases c with
      | lst xs =>
        cases e
        obtain ⟨vs, q, _⟩ := cr
        exact .base (.lst q)
      | dic t lk kvs =>
        cases lk with
        | true => cases e
        | false =>
          cases e
          obtain ⟨o, d, q⟩ := cr
          have q : H a = some o := q
          rcases d.is with ⟨l, rfl⟩ | ⟨l, rfl⟩
          · exact .base (.dK q)
          · exact .base (.dT q)
      | ins c fs => cases e
def str1 (h : Hs) : D → Res D
  | .int i => if i.natAbs.log2 < 1920 then .ok (.str (cs (toString i))) h else .bad
  | .str x => .ok (.str x) h
  | .bl b => .ok (.str (cs (if b = true then "True" else "False"))) h
  | _ => .bad
def int1 (h : Hs) : D → Res D
  | .int i => .ok (.int i) h
  | .bl b => .ok (.int (if b then 1 else 0)) h
  | .str x => if x.length ≤ 640 then Res.of ((PySem.intText? ⟨x.toArray⟩).map .int) h else .bad
  | _ => .bad
def bool1 (h : Hs) : D → Res D
  | .int i => .ok (.bl (i != 0)) h
  | .bl b => .ok (.bl b) h
  | _ => .bad
def abs1 (h : Hs) : D → Res D
  | .int i => .ok (.int (if i < 0 then -i else i)) h
  | _ => .bad
def all1 (h : Hs) (d : D) : Res D := match seqH h d with
  | some xs => match d with
    | .tup _ => .bad
    | _ => Res.of ((blsD xs).map fun bs => .bl (bs.all id)) h
  | none => .bad
def any1 (h : Hs) (d : D) : Res D := match seqH h d with
  | some xs => match d with
    | .tup _ => .bad
    | _ => Res.of ((blsD xs).map fun bs => .bl (bs.any id)) h
  | none => .bad
def sum1 (h : Hs) (d : D) : Res D := match seqH h d with
  | some xs => match d with
    | .tup _ => .bad
    | _ => Res.of ((intsD xs).map fun bs => .int bs.sum) h
  | none => .bad
def max2 (h : Hs) : D → D → Res D
  | .int i, .int j => .ok (.int (if j > i then j else i)) h
  | _, _ => .bad
def min2 (h : Hs) : D → D → Res D
  | .int i, .int j => .ok (.int (if j < i then j else i)) h
  | _, _ => .bad
def list1 (h : Hs) (d : D) : Res D := match seqH h d with
  | some xs => .ok (.ref h.length) (h ++ [.lst xs])
  | none => .bad
def tuple1 (h : Hs) (d : D) : Res D := match seqH h d with
  | some xs => .ok (.tup xs) h
  | none => .bad
section
variable {X : Cx} {k : Kx}
theorem call_lenD {X : Cx} : CallR X (.builtin "len") (fun xs H Q => ∃ a kvs, xs = [.ref a] ∧ Rd H a (.dK kvs) ∧ Q (.int kvs.length) H) := by
  intro pins s σ H vs us Q I rv q
  obtain ⟨a, kvs, rfl, rd, q⟩ := q
  obtain ⟨u, rfl, ru⟩ := rv.one
  cases ru
  exact d_len I rd fun t s' I' => ⟨.int kvs.length, H, I', ⟨t, rfl⟩, q⟩
theorem c_len (hK : X.K = k.K) : CallR X (.builtin "len") (rC k (on1 len1)) := by
  refine CallR.byD1 (g := len1) (fun _ _ => rfl) on1_bad fun H x Q W0 F hs d r dv p => ?_
  have gen : ∀ xs, seqH hs d = some xs → lenD hs d = some xs.length → ∃ r, CallR X (.builtin "len") r ∧ r [x] H Q := fun xs e q => by
    obtain ⟨a, vs, rfl, sq, dvs, _⟩ := r.seq dv e
    have p : Post k F H (PV k Q) W0 (Res.of ((lenD hs d).map fun n => .int n) hs) := p
    rw [q] at p
    refine ⟨_, call_len, _, vs.length, rfl, ?_, ?_⟩
    · rcases sq with sq | sq
      · exact .inl ⟨vs, by rw [hK]; exact sq, rfl⟩
      · exact .inr ⟨vs, by rw [hK]; exact sq, rfl⟩
    · rw [← dvs.len]
      exact Post.here (d := .int _) p r DV.mkInt
  cases d with
  | str z =>
    obtain ⟨rfl, hl⟩ := dv.strV
    exact ⟨_, call_len, _, z.length, rfl, ⟨le_lim hl, rfl⟩, Post.here (d := .int _) p r DV.mkInt⟩
  | tup xs => exact gen xs rfl rfl
  | ls xs => exact gen xs rfl rfl
  | ref n =>
    cases q : seqH hs (.ref n) with
    | none =>
      have e0 : lenD hs (.ref n) = (match dicRd hs (.ref n) with | some (false, kvs) => some kvs.length | _ => none) := by
        show (match seqH hs (.ref n) with | some xs => some xs.length | none => _) = _
        rw [q]
      have p : Post k F H (PV k Q) W0 (Res.of ((lenD hs (.ref n)).map fun n => .int n) hs) := p
      rw [e0] at p
      cases e : dicRd hs (.ref n) with
      | none => rw [e] at p; exact p.elim
      | some tk =>
        obtain ⟨t, kvs⟩ := tk
        rw [e] at p
        cases t with
        | true => exact p.elim
        | false =>
          obtain ⟨n', lk, z, hn⟩ := dicRd_ref e
          cases z
          unfold DV at dv
          obtain ⟨a, rfl, hf⟩ := dv
          obtain ⟨u, ⟨l, rfl, pr⟩, hu⟩ := r.cell n _ a hn hf
          have rd : Rd H a (.dK l) := by
            cases lk with
            | false => exact .inl hu
            | true => exact .inr hu
          refine ⟨_, call_lenD, a, l, rfl, rd, ?_⟩
          have : l.length = kvs.length := pr.length.symm
          rw [this]
          exact Post.here (d := .int _) p r DV.mkInt
    | some xs => exact gen xs q (by show (match seqH hs (.ref n) with | some xs => some xs.length | none => _) = _; rw [q])
  | _ => exact p.elim
theorem call_str_bl : CallR X (.type "str") (fun xs H Q => ∃ b, xs = [.bl b] ∧ Q (.str (Str.ofString (if b = true then "True" else "False"))) H) := by
  intro pins s σ H xs us Q I r h
  obtain ⟨b, rfl, q⟩ := h
  obtain ⟨u, rfl, r1⟩ := vals1 r
  cases r1
  exact PySem.P.str_of_bool ⟨.str _, H, I.tok _, ⟨_, rfl⟩, by cases b <;> exact q⟩
theorem c_str (hK : X.K = k.K) : CallR X (.type "str") (rC k (on1 str1)) := by
  refine CallR.byD1 (g := str1) (fun _ _ => rfl) on1_bad fun H x Q W0 F hs d r dv p => ?_
  cases d with
  | int i =>
    cases dv.intV
    obtain ⟨hz, p⟩ := Post.cond (c := i.natAbs.log2 < 1920) (r := (.ok (.str (cs (toString i))) hs : Res D)) p
    refine ⟨_, call_str_int, i, rfl, hz, ?_⟩
    refine Post.here (d := .str (cs (toString i))) p r ?_
    have e : (⟨(cs (toString i)).toArray⟩ : Str) = Str.ofString (toString i) := by
      unfold cs
      simp
    have h := DV.mkStr (K := k.K) (F := F) (H := H) (x := cs (toString i)) (by
      have z := int_text_fits hz
      rw [lim_eq] at z
      unfold cs
      rw [Array.length_toList]
      exact z)
    rw [e] at h
    exact h
  | str z =>
    obtain ⟨rfl, hl⟩ := dv.strV
    exact ⟨_, SkE.call_str_str, _, rfl, Post.here (d := .str z) p r (DV.mkStr hl)⟩
  | bl b =>
    have bv : x = .bl b := by unfold DV at dv; exact dv
    subst bv
    refine ⟨_, call_str_bl, b, rfl, ?_⟩
    refine Post.here (d := .str (cs (if b = true then "True" else "False"))) p r ?_
    have e : (⟨(cs (if b = true then "True" else "False")).toArray⟩ : Str) = Str.ofString (if b = true then "True" else "False") := by
      unfold cs
      simp
    have h := DV.mkStr (K := k.K) (F := F) (H := H) (x := cs (if b = true then "True" else "False")) (by cases b <;> decide +kernel)
    rw [e] at h
    exact h
  | _ => exact p.elim
theorem c_int (hK : X.K = k.K) : CallR X (.type "int") (rC k (on1 int1)) := by
  refine CallR.byD1 (g := int1) (fun _ _ => rfl) on1_bad fun H x Q W0 F hs d r dv p => ?_
  cases d with
  | int i => cases dv.intV; exact ⟨_, call_int1, .inl ⟨i, rfl, Post.here (d := .int i) p r DV.mkInt⟩⟩
  | bl b => unfold DV at dv; subst dv; exact ⟨_, call_int1, .inr ⟨b, rfl, Post.here (d := .int _) p r DV.mkInt⟩⟩
  | str z =>
    obtain ⟨rfl, hl⟩ := dv.strV
    obtain ⟨hz, p⟩ := Post.cond (c := z.length ≤ 640) (r := Res.of ((PySem.intText? ⟨z.toArray⟩).map D.int) hs) p
    cases e : PySem.intText? ⟨z.toArray⟩ with
    | none => rw [e] at p; exact p.elim
    | some n => rw [e] at p; exact ⟨_, call_int_str, _, n, rfl, e, hz, Post.here (d := .int n) p r DV.mkInt⟩
  | _ => exact p.elim
theorem c_bool (hK : X.K = k.K) : CallR X (.type "bool") (rC k (on1 bool1)) := by
  refine CallR.byD1 (g := bool1) (fun _ _ => rfl) on1_bad fun H x Q W0 F hs d r dv p => ?_
  cases d with
  | int i => cases dv.intV; exact ⟨_, call_bool1, .inl ⟨i, rfl, Post.here (d := .bl _) p r DV.mkBl⟩⟩
  | bl b => unfold DV at dv; subst dv; exact ⟨_, call_bool1, .inr ⟨b, rfl, Post.here (d := .bl _) p r DV.mkBl⟩⟩
  | _ => exact p.elim
theorem c_abs : CallR X (.builtin "abs") (rC k (on1 abs1)) := by
  refine CallR.byD1 (g := abs1) (fun _ _ => rfl) on1_bad fun H x Q W0 F hs d r dv p => ?_
  cases d with
  | int i => cases dv.intV; exact ⟨_, call_abs, i, rfl, Post.here (d := .int _) p r DV.mkInt⟩
  | _ => exact p.elim
/-- of a list, not of a tuple -/
theorem notTup {α : Type} {h : Hs} {d : D} {f : List D → Res α} {k F H} {P : α → List Addr → Hs → Hp → Prop} {W : Value → Option Addr → Hp → Prop} (p : Post k F H P W (match seqH h d with | some xs => (match d with | .tup _ => .bad | _ => f xs) | none => .bad)) :
    ∃ xs, seqH h d = some xs ∧ (∀ ys, d ≠ .tup ys) ∧ Post k F H P W (f xs) := by
  cases e : seqH h d with
  | none => rw [e] at p; exact p.elim
  | some xs =>
    rw [e] at p
    cases d with
    | tup ys => exact p.elim
    | _ => exact ⟨xs, rfl, fun _ z => (nomatch z), p⟩
theorem c_all (hK : X.K = k.K) (hc : X.calm = true) : CallR X (.builtin "all") (rC k (on1 all1)) := by
  refine CallR.byD1 (g := all1) (fun _ _ => rfl) on1_bad fun H x Q W0 F hs d r dv p => ?_
  obtain ⟨xs, e, n, p⟩ := notTup (α := D) (h := hs) (d := d) (f := fun xs => Res.of ((blsD xs).map fun bs => D.bl (bs.all id)) hs) (p : Post k F H (PV k Q) W0 (all1 hs d))
  cases q : blsD xs with
  | none => rw [q] at p; exact p.elim
  | some bs =>
    rw [q] at p
    obtain ⟨a, vs, rfl, _, dvs, _, sq⟩ := r.seq dv e
    rw [blsD_eq q] at dvs
    have ev := dvs.bls
    subst ev
    exact ⟨_, cr_all hc, a, bs, rfl, by rw [hK]; exact sq n, Post.here (d := .bl _) p r DV.mkBl⟩
theorem c_any (hK : X.K = k.K) (hc : X.calm = true) : CallR X (.builtin "any") (rC k (on1 any1)) := by
  refine CallR.byD1 (g := any1) (fun _ _ => rfl) on1_bad fun H x Q W0 F hs d r dv p => ?_
  obtain ⟨xs, e, n, p⟩ := notTup (α := D) (h := hs) (d := d) (f := fun xs => Res.of ((blsD xs).map fun bs => D.bl (bs.any id)) hs) (p : Post k F H (PV k Q) W0 (any1 hs d))
  cases q : blsD xs with
  | none => rw [q] at p; exact p.elim
  | some bs =>
    rw [q] at p
    obtain ⟨a, vs, rfl, _, dvs, _, sq⟩ := r.seq dv e
    rw [blsD_eq q] at dvs
    have ev := dvs.bls
    subst ev
    exact ⟨_, cr_any hc, a, bs, rfl, by rw [hK]; exact sq n, Post.here (d := .bl _) p r DV.mkBl⟩
theorem c_sum (hK : X.K = k.K) (hc : X.calm = true) : CallR X (.builtin "sum") (rC k (on1 sum1)) := by
  refine CallR.byD1 (g := sum1) (fun _ _ => rfl) on1_bad fun H x Q W0 F hs d r dv p => ?_
  obtain ⟨xs, e, n, p⟩ := notTup (α := D) (h := hs) (d := d) (f := fun xs => Res.of ((intsD xs).map fun bs => D.int bs.sum) hs) (p : Post k F H (PV k Q) W0 (sum1 hs d))
  cases q : intsD xs with
  | none => rw [q] at p; exact p.elim
  | some bs =>
    rw [q] at p
    obtain ⟨a, vs, rfl, _, dvs, _, sq⟩ := r.seq dv e
    rw [intsD_eq q] at dvs
    have ev := dvs.ints
    subst ev
    exact ⟨_, cr_sum hc, a, bs, rfl, by rw [hK]; exact sq n, Post.here (d := .int _) p r DV.mkInt⟩
theorem c_list (hK : X.K = k.K) : CallR X (.type "list") (rC k (on1 list1)) := by
  refine CallR.byD1 (g := list1) (fun _ _ => rfl) on1_bad fun H x Q W0 F hs d r dv p => ?_
  have p : Post k F H (PV k Q) W0 (match seqH hs d with | some xs => .ok (.ref hs.length) (hs ++ [.lst xs]) | none => .bad) := p
  cases e : seqH hs d with
  | none => rw [e] at p; exact p.elim
  | some xs =>
    rw [e] at p
    obtain ⟨a, vs, rfl, sq, dvs, _⟩ := r.seq dv e
    exact ⟨_, call_list_of, a, vs, rfl, by rw [hK]; exact sq, fun l hl => Post.lst p r dvs hl⟩
theorem c_tuple (hK : X.K = k.K) : CallR X (.type "tuple") (rC k (on1 tuple1)) := by
  refine CallR.byD1 (g := tuple1) (fun _ _ => rfl) on1_bad fun H x Q W0 F hs d r dv p => ?_
  have p : Post k F H (PV k Q) W0 (match seqH hs d with | some xs => .ok (.tup xs) hs | none => .bad) := p
  cases e : seqH hs d with
  | none => rw [e] at p; exact p.elim
  | some xs =>
    rw [e] at p
    obtain ⟨a, vs, rfl, sq, dvs, st, sl⟩ := r.seq dv e
    refine ⟨_, call_tupleB, a, vs, rfl, ?_⟩
    rcases seqH_tup e with z | z
    · exact .inr ⟨by rw [hK]; exact (st xs z).sqT, Post.here (d := .tup xs) p r (by unfold DV; exact ⟨a, vs, rfl, st xs z, dvs⟩)⟩
    · exact .inl ⟨by rw [hK]; exact sl z, _, Post.tup p r dvs⟩
theorem c_two {f : Value} {g : Int → Int → Int} {G : Hs → D → D → Res D} (o : CallR X f (fun xs H Q => ∃ i j, xs = [.int i, .int j] ∧ Q (.int (g i j)) H)) (h1 : ∀ h i j, G h (.int i) (.int j) = .ok (.int (g i j)) h)
    (h2 : ∀ h d e, (∀ i j, ¬ (d = .int i ∧ e = .int j)) → G h d e = .bad) : CallR X f (rC k (on2 G)) := by
  refine CallR.byD fun pins s σ H xs us Q W0 F hs ds I r rl dv p => ?_
  match ds, dv, p with
  | [], _, p => exact p.elim
  | [_], _, p => exact p.elim
  | _ :: _ :: _ :: _, _, p => exact p.elim
  | [d, e], dv, p =>
    unfold DVs at dv
    obtain ⟨v, rr, rfl, d1, dv⟩ := dv
    unfold DVs at dv
    obtain ⟨w, rr, rfl, d2, dv⟩ := dv
    unfold DVs at dv
    subst dv
    have p : Post k F H (PV k Q) W0 (G hs d e) := p
    by_cases q : ∃ i j, d = .int i ∧ e = .int j
    · obtain ⟨i, j, rfl, rfl⟩ := q
      rw [h1] at p
      cases d1.intV; cases d2.intV
      exact o pins s σ H _ us Q I r ⟨i, j, rfl, Post.here (d := .int _) p rl DV.mkInt⟩
    · rw [h2 hs d e fun i j z => q ⟨i, j, z⟩] at p
      exact p.elim
theorem c_max (hc : X.calm = true) : CallR X (.builtin "max") (rC k (on2 max2)) := c_two (g := fun i j => if j > i then j else i) (call_max2 hc) (fun _ _ _ => rfl) fun h d e n => by
  cases d <;> cases e <;> first | rfl | exact absurd ⟨rfl, rfl⟩ (n _ _)
theorem c_min (hc : X.calm = true) : CallR X (.builtin "min") (rC k (on2 min2)) := c_two (g := fun i j => if j < i then j else i) (call_min2 hc) (fun _ _ _ => rfl) fun h d e n => by
  cases d <;> cases e <;> first | rfl | exact absurd ⟨rfl, rfl⟩ (n _ _)
end
open PySem PySem.Spec PyProof.Rows L2
abbrev Ev := Env → Hs → Res D
abbrev Tv := Env → Hs → Res Bool
abbrev Av := Env → Hs → Res (List D)
def vE (i : Nat) : Ev := fun env h => match env[i]? with
  | some (some d) => .ok d h
  | _ => .bad
def kE (d : D) : Ev := fun _ h => .ok d h
def bE (a b : Ev) (g : Hs → D → D → Res D) : Ev := fun env h => (a env h).bind fun x h1 => (b env h1).bind fun y h2 => g h2 x y
def uE (a : Ev) (g : Hs → D → Res D) : Ev := fun env h => (a env h).bind fun x h1 => g h1 x
/-- a test: a value's truth -/
def tst (a : Ev) : Tv := fun env h => (a env h).bind fun x h1 => Res.of (truth h1 x) h1
def andE (a b : Ev) : Ev := fun env h => (a env h).bind fun x h1 => (Res.of (truth h1 x) h1).bind fun t h2 => if t then b env h2 else .ok x h2
def orE (a b : Ev) : Ev := fun env h => (a env h).bind fun x h1 => (Res.of (truth h1 x) h1).bind fun t h2 => if t then .ok x h2 else b env h2
def notE (a : Ev) : Ev := fun env h => (tst a env h).bind fun t h1 => .ok (.bl (!t)) h1
def ifE (t : Ev) (a b : Ev) : Ev := fun env h => (tst t env h).bind fun c h1 => if c then a env h1 else b env h1
def chE (a b c : Ev) (o o' : CmpOp) : Ev := fun env h => (a env h).bind fun x h1 => (b env h1).bind fun y h2 => (cmpR o h2 x y).bind fun t h3 => match t with
  | .bl true => (c env h3).bind fun z h4 => cmpR o' h4 y z
  | .bl false => .ok (.bl false) h3
  | _ => .bad
def ch3E (a b c d : Ev) (o o' o'' : CmpOp) : Ev := fun env h => (a env h).bind fun x h1 => (b env h1).bind fun y h2 => (cmpR o h2 x y).bind fun t h3 => match t with
  | .bl true => (c env h3).bind fun z h4 => (cmpR o' h4 y z).bind fun t h5 => match t with
    | .bl true => (d env h5).bind fun w h6 => cmpR o'' h6 z w
    | .bl false => .ok (.bl false) h5
    | _ => .bad
  | .bl false => .ok (.bl false) h3
  | _ => .bad
def aNil : Av := fun _ h => .ok [] h
def aCons (a : Ev) (r : Av) : Av := fun env h => (a env h).bind fun x h1 => (r env h1).bind fun xs h2 => .ok (x :: xs) h2
def tupE (a : Av) : Ev := fun env h => (a env h).bind fun xs h1 => if xs.length ≤ lim then .ok (.tup xs) h1 else .bad
def lstE (a : Av) : Ev := fun env h => (a env h).bind fun xs h1 => if xs.length ≤ lim then .ok (.ref h1.length) (h1 ++ [.lst xs]) else .bad
/-- a slice's bound -/
def ptE (o : Option Ev) : Env → Hs → Res (Option Int) := match o with
  | none => fun _ h => .ok none h
  | some l => fun env h => (l env h).bind fun i h2 => match i with
    | .int i => .ok (some i) h2
    | _ => .bad
def slE (a : Ev) (lo hi : Option Ev) : Ev := fun env h => (a env h).bind fun x h1 =>
  (ptE lo env h1).bind fun l h2 => (ptE hi env h2).bind fun u h3 => slOp h3 x l u
def cE (as : Av) (g : BF) : Ev := fun env h => (as env h).bind fun xs h1 => g h1 xs
def isiE (a : Ev) (T : String) : Ev := fun env h => (a env h).bind fun x h1 => Res.of ((isiT T h1 x).map .bl) h1
/-- a method of what is built in: the receiver's kind is looked at ahead of the arguments -/
structure MF where
  ty : Hs → D → Bool
  go : Hs → D → List D → Res D
def mE (a : Ev) (as : Av) (m : MF) : Ev := fun env h => (a env h).bind fun x h1 => if m.ty h1 x then (as env h1).bind fun xs h2 => m.go h2 x xs else .bad
section
variable {X : Cx} {k : Kx} {W : WX} {a b c : Expr} {fa fb fc : Ev} {pos : Pos}
theorem me_var {i : Nat} {x : Str} (hN : X.N[i]? = some x) (hv : Vis X.env.scope x) (h1 : (x == ("__debug__" : Str)) = false) (h2 : (x == ("__classdict__" : Str)) = false) : PE X (.Name x pos) (tE k W (vE i)) := by
  refine PE.imp (pe_var hN hv h1 h2) fun σ H Q ⟨F, h, env, sr, p⟩ => ?_
  have p : Post k F H (PV k Q) _ (match env[i]? with | some (some d) => .ok d h | _ => .bad) := p
  cases e : env[i]? with
  | none => rw [e] at p; exact p.elim
  | some o =>
    rw [e] at p
    cases o with
    | none => exact p.elim
    | some d =>
      obtain ⟨v, e1, dv⟩ := sr.er.2 i d e
      exact ⟨v, e1, Post.here p sr.rel dv⟩
theorem me_con {e : Expr} {d : D} {v : V} (p : PE X e (tC v)) (dv : ∀ F H, DV k.K F H d v) : PE X e (tE k W (kE d)) :=
  PE.imp p fun σ H Q ⟨F, h, env, sr, q⟩ => Post.here (d := d) q sr.rel (dv F H)
theorem me_bin {op : Operator} {g : Hs → D → D → Res D} (ho : OpR X (binaryOp op) (rD k g)) (ha : PE X a (tE k W fa)) (hb : PE X b (tE k W fb)) : PE X (.BinOp a op b pos) (tE k W (bE fa fb g)) := by
  refine PE.imp (pe_op ho ha hb) fun σ H Q p => ?_
  obtain ⟨F, h, env, sr, p⟩ := p
  exact ⟨F, h, env, sr, p.bind.imp (fun d F' h' H' st rl q v dv => ⟨F', h', env, sr.step st rl, q.bind.imp (fun e F2 h2 H2 st2 rl2 q2 w dw => ⟨_, F2, h2, d, e, rl2, DV.mono st2 _ _ dv, dw, q2⟩) fun _ _ _ x => x⟩) fun _ _ _ x => x⟩
theorem me_un {op : UnaryOp} {g : Hs → D → Res D} (ho : UnR X (unaryOp op) (fun x H Q => ∃ (W0 : Value → Option Addr → Hp → Prop) (F : List Addr) (h : Hs) (d : D), RelH k F H h ∧ DV k.K F H d x ∧ Post k F H (PV k Q) W0 (g h d))) (ha : PE X a (tE k W fa)) : PE X (.UnaryOp op a pos) (tE k W (uE fa g)) := by
  refine PE.imp (pe_un ho ha) fun σ H Q p => ?_
  obtain ⟨F, h, env, sr, p⟩ := p
  exact ⟨F, h, env, sr, p.bind.imp (fun d F' h' H' st rl q v dv => ⟨_, F', h', d, rl, dv, q⟩) fun _ _ _ x => x⟩
def negD (h : Hs) : D → Res D
  | .int i => .ok (.int (-i)) h
  | _ => .bad
theorem un_negD : UnR X (unaryOp .USub) (fun x H Q => ∃ (W0 : Value → Option Addr → Hp → Prop) (F : List Addr) (h : Hs) (d : D), RelH k F H h ∧ DV k.K F H d x ∧ Post k F H (PV k Q) W0 (negD h d)) := by
  intro pins s σ H x v Q I rx q
  obtain ⟨W0, F, h, d, r, dv, p⟩ := q
  cases d with
  | int i => cases dv.intV; exact un_neg pins s σ H _ v Q I rx ⟨i, rfl, Post.here (d := .int _) p r DV.mkInt⟩
  | _ => exact p.elim
/-- an answer that is a truth value -/
theorem Post.bl {F H h} {P P' : D → List Addr → Hs → Hp → Prop} {W' W0 : Value → Option Addr → Hp → Prop} {o : Option Bool} (p : Post k F H P W' (Res.of (o.map D.bl) h)) (hp : ∀ b F' h' H', Step k.K F H F' H' → RelH k F' H' h' → P (.bl b) F' h' H' → P' (.bl b) F' h' H') : Post k F H P' W0 (Res.of (o.map D.bl) h) := by
  cases o with
  | none => exact p.elim
  | some b => exact fun F' H' st r => hp b F' h H' st r (p F' H' st r)
theorem DV.blV {K F H b v} (h : DV K F H (.bl b) v) : v = .bl b := by unfold DV at h; exact h
theorem me_cmp {op : CmpOp} (hK : X.K = k.K) (hu : X.A.units + 64 < cLine) (ha : PE X a (tE k W fa)) (hb : PE X b (tE k W fb)) (hm : behindInMarks op b = false) : PE X (.Compare a [op] [b] pos) (tE k W (bE fa fb (cmpR op))) := by
  refine PE.imp (pe_cmpR (op_cmpD hK hu op) ha hb hm) fun σ H Q p => ?_
  obtain ⟨F, h, env, sr, p⟩ := p
  exact ⟨F, h, env, sr, p.bind.imp (fun d F' h' H' st rl q v dv => ⟨F', h', env, sr.step st rl, q.bind.imp (fun e F2 h2 H2 st2 rl2 q2 w dw => ⟨_, F2, h2, d, e, rl2, DV.mono st2 _ _ dv, dw, q2⟩) fun _ _ _ x => x⟩) fun _ _ _ x => x⟩
/-- the truth of an answer that is a truth value -/
theorem tstBl {F H b} {Q : Bool → Hp → Prop} {h : Hs} {W' : Value → Option Addr → Hp → Prop} (r : RelH k F H h) (p : Post k F H (PB Q) W' (Res.of (truth h (.bl b)) h)) : Q b H := p F H .refl r
theorem mt_cmp {op : CmpOp} (hK : X.K = k.K) (hu : X.A.units + 64 < cLine) (ha : PE X a (tE k W fa)) (hb : PE X b (tE k W fb)) (hm : behindInMarks op b = false) : PT X (.Compare a [op] [b] pos) (tT k W (tst (bE fa fb (cmpR op)))) := by
  refine PT.imp (pt_cmpR (op_cmpD hK hu op) ha hb hm) fun σ H Q p => ?_
  obtain ⟨F, h, env, sr, p⟩ := p
  refine ⟨F, h, env, sr, p.bind.bind.imp (fun d F' h' H' st rl q v dv => ⟨F', h', env, sr.step st rl, q.bind.imp (fun e F2 h2 H2 st2 rl2 q2 w dw => ⟨fun _ _ _ => False, F2, h2, d, e, rl2, DV.mono st2 _ _ dv, dw, Post.bl q2 fun b F3 h3 H3 _ r3 z v dv => ?_⟩) fun _ _ _ x => x⟩) fun _ _ _ x => x⟩
  cases dv.blV
  exact ⟨b, rfl, tstBl r3 z⟩
/-- a test by its value's truth -/
theorem tst_tE {σ H} {Q : Bool → Hp → Prop} (p : tT k W (tst fa) σ H Q) : tE k W fa σ H fun v H' => ∃ b, TruV k.K v H' b ∧ Q b H' := by
  obtain ⟨F, h, env, sr, p⟩ := p
  refine ⟨F, h, env, sr, p.bind.imp (fun d F' h' H' st rl q v dv => ?_) fun _ _ _ x => x⟩
  cases e : truth h' d with
  | none => rw [e] at q; exact q.elim
  | some b => rw [e] at q; exact ⟨b, truth_ok rl dv e, q F' H' .refl rl⟩
theorem mt_any (hK : X.K = k.K) (ha : PE X a (tE k W fa)) (he : ∀ whole, isTrue a X.env whole = (do let v ← whole; standAt a.pos; holding [v] (truthy v))) : PT X a (tT k W (tst fa)) :=
  PT.imp (pt_truth ha he) fun σ H Q p => by rw [hK]; exact tst_tE p
theorem mt_not (ha : PT X a (tT k W (tst fa))) : PT X (.UnaryOp .Not a pos) (tT k W (tst (notE fa))) := by
  refine PT.imp (pt_not ha) fun σ H Q p => ?_
  obtain ⟨F, h, env, sr, p⟩ := p
  exact ⟨F, h, env, sr, p.bind.bind.imp (fun b F' h' H' st rl q => tstBl rl (Post.ok q rl)) fun _ _ _ x => x⟩
theorem me_not (hK : X.K = k.K) (ha : PE X a (tE k W fa)) : PE X (.UnaryOp .Not a pos) (tE k W (notE fa)) := by
  refine PE.imp (pe_notT ha) fun σ H Q p => ?_
  obtain ⟨F, h, env, sr, p⟩ := p
  have q : tT k W (tst fa) σ H (fun b H' => Q (.bl (!b)) H') := ⟨F, h, env, sr, p.bind.imp (fun b F' h' H' st rl q => Post.here (d := .bl _) q rl DV.mkBl) fun _ _ _ x => x⟩
  have q := tst_tE q
  rw [← hK] at q
  exact q
theorem andT_imp {σ H} {Q : Bool → Hp → Prop} (p : tT k W (tst (andE fa fb)) σ H Q) : tAnd (tT k W (tst fa)) (tT k W (tst fb)) σ H Q := by
  obtain ⟨F, h, env, sr, p⟩ := p
  have p : Post k F H (PB Q) (fun c d H' => W c d σ H') (((fa env h).bind fun x h1 => (Res.of (truth h1 x) h1).bind fun t h2 => if t then fb env h2 else .ok x h2).bind fun x h1 => Res.of (truth h1 x) h1) := p
  refine ⟨F, h, env, sr, ?_⟩
  show Post k F H _ _ ((fa env h).bind fun x h1 => Res.of (truth h1 x) h1)
  cases e : fa env h with
  | bad => rw [e] at p; exact p.elim
  | exc ex h' => rw [e] at p; exact p
  | ok x h1 =>
    rw [e] at p
    show Post k F H _ _ (Res.of (truth h1 x) h1)
    have p : Post k F H (PB Q) (fun c d H' => W c d σ H') (((Res.of (truth h1 x) h1).bind fun t h2 => if t then fb env h2 else .ok x h2).bind fun x h1 => Res.of (truth h1 x) h1) := p
    cases e2 : truth h1 x with
    | none => rw [e2] at p; exact p.elim
    | some t =>
      rw [e2] at p
      intro F' H' st rl
      cases t with
      | true => exact ⟨F', h1, env, sr.step st rl, Post.step (p : Post k F H (PB Q) _ (tst fb env h1)) st⟩
      | false =>
        have p : Post k F H (PB Q) (fun c d H' => W c d σ H') (Res.of (truth h1 x) h1) := p
        rw [e2] at p
        exact p F' H' st rl
theorem orT_imp {σ H} {Q : Bool → Hp → Prop} (p : tT k W (tst (orE fa fb)) σ H Q) : tOr (tT k W (tst fa)) (tT k W (tst fb)) σ H Q := by
  obtain ⟨F, h, env, sr, p⟩ := p
  have p : Post k F H (PB Q) (fun c d H' => W c d σ H') (((fa env h).bind fun x h1 => (Res.of (truth h1 x) h1).bind fun t h2 => if t then .ok x h2 else fb env h2).bind fun x h1 => Res.of (truth h1 x) h1) := p
  refine ⟨F, h, env, sr, ?_⟩
  show Post k F H _ _ ((fa env h).bind fun x h1 => Res.of (truth h1 x) h1)
  cases e : fa env h with
  | bad => rw [e] at p; exact p.elim
  | exc ex h' => rw [e] at p; exact p
  | ok x h1 =>
    rw [e] at p
    show Post k F H _ _ (Res.of (truth h1 x) h1)
    have p : Post k F H (PB Q) (fun c d H' => W c d σ H') (((Res.of (truth h1 x) h1).bind fun t h2 => if t then .ok x h2 else fb env h2).bind fun x h1 => Res.of (truth h1 x) h1) := p
    cases e2 : truth h1 x with
    | none => rw [e2] at p; exact p.elim
    | some t =>
      rw [e2] at p
      intro F' H' st rl
      cases t with
      | false => exact ⟨F', h1, env, sr.step st rl, Post.step (p : Post k F H (PB Q) _ (tst fb env h1)) st⟩
      | true =>
        have p : Post k F H (PB Q) (fun c d H' => W c d σ H') (Res.of (truth h1 x) h1) := p
        rw [e2] at p
        exact p F' H' st rl
theorem mw_and {r : List Expr} (ha : PT X a (tT k W (tst fa))) (hb : PW X (.BoolOp .And (b :: r) pos) (tT k W (tst fb))) : PW X (.BoolOp .And (a :: b :: r) pos) (tT k W (tst (andE fa fb))) := PW.imp (pw_and ha hb) fun σ H Q p => andT_imp p
theorem mw_or {r : List Expr} (ha : PT X a (tT k W (tst fa))) (hb : PW X (.BoolOp .Or (b :: r) pos) (tT k W (tst fb))) : PW X (.BoolOp .Or (a :: b :: r) pos) (tT k W (tst (orE fa fb))) := PW.imp (pw_or ha hb) fun σ H Q p => orT_imp p
theorem me_and {r : List Expr} (hK : X.K = k.K) (ha : PE X a (tE k W fa)) (hb : PE X (.BoolOp .And (b :: r) pos) (tE k W fb)) : PE X (.BoolOp .And (a :: b :: r) pos) (tE k W (andE fa fb)) := by
  refine PE.imp (pe_andT ha hb) fun σ H Q p => ?_
  obtain ⟨F, h, env, sr, p⟩ := p
  refine ⟨F, h, env, sr, p.bind.imp (fun d F' h' H' st rl q v dv => ?_) fun _ _ _ x => x⟩
  cases e : truth h' d with
  | none => rw [e] at q; exact q.elim
  | some t =>
    rw [e] at q
    refine ⟨t, by rw [hK]; exact truth_ok rl dv e, ?_⟩
    cases t with
    | true => exact ⟨F', h', env, sr.step st rl, q⟩
    | false => exact Post.here (d := d) q rl dv
theorem me_or {r : List Expr} (hK : X.K = k.K) (ha : PE X a (tE k W fa)) (hb : PE X (.BoolOp .Or (b :: r) pos) (tE k W fb)) : PE X (.BoolOp .Or (a :: b :: r) pos) (tE k W (orE fa fb)) := by
  refine PE.imp (pe_orT ha hb) fun σ H Q p => ?_
  obtain ⟨F, h, env, sr, p⟩ := p
  refine ⟨F, h, env, sr, p.bind.imp (fun d F' h' H' st rl q v dv => ?_) fun _ _ _ x => x⟩
  cases e : truth h' d with
  | none => rw [e] at q; exact q.elim
  | some t =>
    rw [e] at q
    refine ⟨t, by rw [hK]; exact truth_ok rl dv e, ?_⟩
    cases t with
    | false => exact ⟨F', h', env, sr.step st rl, q⟩
    | true => exact Post.here (d := d) q rl dv
theorem me_if {t : Expr} {ft : Ev} (ht : PT X t (tT k W (tst ft))) (ha : PE X a (tE k W fa)) (hb : PE X b (tE k W fb)) : PE X (.IfExp t a b pos) (tE k W (ifE ft fa fb)) := by
  refine PE.imp (pe_ifExp ht ha hb) fun σ H Q p => ?_
  obtain ⟨F, h, env, sr, p⟩ := p
  refine ⟨F, h, env, sr, p.bind.imp (fun c F' h' H' st rl q => ?_) fun _ _ _ x => x⟩
  cases c with
  | true => exact ⟨F', h', env, sr.step st rl, q⟩
  | false => exact ⟨F', h', env, sr.step st rl, q⟩
/-- chains of three -/
def tChain3 (r r' r'' : R2) (ta tb tc td : TE) : TE := fun σ H Q => ta σ H fun x H1 => tb σ H1 fun y H2 => r x y H2 fun z H3 => ∃ q, z = .bl q ∧ (if q = true then tc σ H3 fun u H4 => r' y u H4 fun z' H5 => ∃ q', z' = .bl q' ∧ (if q' = true then td σ H5 fun v H6 => r'' u v H6 Q else Q (.bl false) H5) else Q (.bl false) H3)
theorem pe_chain3 {d : Expr} {o1 o2 o3 : CmpOp} {r r' r'' : R2} {ta tb tc td : TE} (h1 : OpR X (compareOp o1) r) (h2 : OpR X (compareOp o2) r') (h3 : OpR X (compareOp o3) r'') (ha : PE X a ta) (hb : PE X b tb) (hc : PE X c tc) (hd : PE X d td) (hm : lastMarks [o1, o2, o3] [b, c, d] = false) :
    PE X (.Compare a [o1, o2, o3] [b, c, d] pos) (tChain3 r r' r'' ta tb tc td) := by
  refine ⟨fun pins s σ H Q I h => ?_⟩
  refine Compare_chain (thn (ha.run pins s σ H _ I h) fun v s1 ⟨x, H1, I1, r1, q1⟩ => chain_link (thn (hb.run pins s1 σ H1 _ I1 q1) fun u s2 ⟨y, H2, I2, r2, q2⟩ =>
    thn (h1 pins s2 σ H2 x y v u _ I2 r1 r2 q2) fun e s3 ⟨z, H3, I3, r3, k, ek, q3⟩ => ?_)) hm
  subst ek
  cases r3
  refine wpAny_truthy_bool ?_
  cases k with
  | false => exact ite_ff ⟨.bl false, H3, I3, rfl, q3⟩
  | true =>
    refine ite_tt (chain_link (thn (hc.run pins s3 σ H3 _ I3 q3) fun u' s4 ⟨y', H4, I4, r4, q4⟩ => thn (h2 pins s4 σ H4 y y' u u' _ I4 r2 r4 q4) fun e s5 ⟨z, H5, I5, r5, k, ek, q5⟩ => ?_))
    subst ek
    cases r5
    refine wpAny_truthy_bool ?_
    cases k with
    | false => exact ite_ff ⟨.bl false, H5, I5, rfl, q5⟩
    | true => exact ite_tt (chain_last (thn (hd.run pins s5 σ H5 _ I5 q5) fun w' s6 ⟨z', H6, I6, r6, q6⟩ => h3 pins s6 σ H6 y' z' u' w' Q I6 r4 r6 q6))
theorem pt_chain3 {d : Expr} {o1 o2 o3 : CmpOp} {r r' r'' : R2} {ta tb tc td : TE} (h1 : OpR X (compareOp o1) r) (h2 : OpR X (compareOp o2) r') (h3 : OpR X (compareOp o3) r'') (ha : PE X a ta) (hb : PE X b tb) (hc : PE X c tc) (hd : PE X d td) (hm : lastMarks [o1, o2, o3] [b, c, d] = false) :
    PT X (.Compare a [o1, o2, o3] [b, c, d] pos) (tTest (tChain3 r r' r'' ta tb tc td)) := by
  refine ⟨fun pins s σ H Q I h => ?_⟩
  refine isTrue_chain (thn (ha.run pins s σ H _ I h) fun v s1 ⟨x, H1, I1, r1, q1⟩ => test_link (thn (hb.run pins s1 σ H1 _ I1 q1) fun u s2 ⟨y, H2, I2, r2, q2⟩ =>
    thn (h1 pins s2 σ H2 x y v u _ I2 r1 r2 q2) fun e s3 ⟨z, H3, I3, r3, k, ek, q3⟩ => ?_)) hm
  subst ek
  cases r3
  refine wpAny_truthy_bool ?_
  cases k with
  | false =>
    obtain ⟨k', e', q'⟩ := q3
    cases e'
    exact ite_ff ⟨H3, I3, q'⟩
  | true =>
    refine ite_tt (test_link (thn (hc.run pins s3 σ H3 _ I3 q3) fun u' s4 ⟨y', H4, I4, r4, q4⟩ => thn (h2 pins s4 σ H4 y y' u u' _ I4 r2 r4 q4) fun e s5 ⟨z, H5, I5, r5, k, ek, q5⟩ => ?_))
    subst ek
    cases r5
    refine wpAny_truthy_bool ?_
    cases k with
    | false =>
      obtain ⟨k', e', q'⟩ := q5
      cases e'
      exact ite_ff ⟨H5, I5, q'⟩
    | true =>
      refine ite_tt (test_last (thn (hd.run pins s5 σ H5 _ I5 q5) fun w' s6 ⟨z', H6, I6, r6, q6⟩ => thn (h3 pins s6 σ H6 y' z' u' w' _ I6 r4 r6 q6) fun e s7 ⟨z2, H7, I7, r7, k2, e2, q7⟩ => ?_))
      subst e2
      cases r7
      exact wpAny_truthy_bool ⟨H7, I7, q7⟩
theorem me_chain {op op' : CmpOp} (hK : X.K = k.K) (hu : X.A.units + 64 < cLine) (ha : PE X a (tE k W fa)) (hb : PE X b (tE k W fb)) (hc : PE X c (tE k W fc)) (hm : lastMarks [op, op'] [b, c] = false) :
    PE X (.Compare a [op, op'] [b, c] pos) (tE k W (chE fa fb fc op op')) := by
  refine PE.imp (pe_chain (op_cmpD hK hu op) (op_cmpD hK hu op') ha hb hc hm) fun σ H Q p => ?_
  obtain ⟨F, h, env, sr, p⟩ := p
  refine ⟨F, h, env, sr, p.bind.imp (fun d F' h' H' st rl q v dv => ⟨F', h', env, sr.step st rl, q.bind.imp (fun e F2 h2 H2 st2 rl2 q2 w dw => ⟨fun _ _ _ => False, F2, h2, d, e, rl2, DV.mono st2 _ _ dv, dw, Post.bl q2.bind fun t F3 h3 H3 st3 r3 q3 z dz => ?_⟩) fun _ _ _ x => x⟩) fun _ _ _ x => x⟩
  cases dz.blV
  refine ⟨t, rfl, ?_⟩
  cases t with
  | true => exact ⟨F3, h3, env, ((sr.step st rl).step st2 rl2).step st3 r3, q3.bind.imp (fun g F4 h4 H4 st4 rl4 q4 u du => ⟨_, F4, h4, e, g, rl4, DV.mono (st3.trans st4) _ _ dw, du, q4⟩) fun _ _ _ x => x⟩
  | false => exact Post.here (d := .bl false) q3 r3 DV.mkBl
theorem mt_chain {op op' : CmpOp} (hK : X.K = k.K) (hu : X.A.units + 64 < cLine) (ha : PE X a (tE k W fa)) (hb : PE X b (tE k W fb)) (hc : PE X c (tE k W fc)) (hm : lastMarks [op, op'] [b, c] = false) :
    PT X (.Compare a [op, op'] [b, c] pos) (tT k W (tst (chE fa fb fc op op'))) := by
  refine PT.imp (pt_chain (op_cmpD hK hu op) (op_cmpD hK hu op') ha hb hc hm) fun σ H Q p => ?_
  obtain ⟨F, h, env, sr, p⟩ := p
  refine ⟨F, h, env, sr, p.bind.bind.imp (fun d F' h' H' st rl q v dv => ⟨F', h', env, sr.step st rl, q.bind.imp (fun e F2 h2 H2 st2 rl2 q2 w dw => ⟨fun _ _ _ => False, F2, h2, d, e, rl2, DV.mono st2 _ _ dv, dw, Post.bl q2.bind fun t F3 h3 H3 st3 r3 q3 z dz => ?_⟩) fun _ _ _ x => x⟩) fun _ _ _ x => x⟩
  cases dz.blV
  refine ⟨t, rfl, ?_⟩
  cases t with
  | true => exact ⟨F3, h3, env, ((sr.step st rl).step st2 rl2).step st3 r3, q3.bind.imp (fun g F4 h4 H4 st4 rl4 q4 u du => ⟨fun _ _ _ => False, F4, h4, e, g, rl4, DV.mono (st3.trans st4) _ _ dw, du, Post.bl q4 fun b F5 h5 H5 _ r5 z v dv => by cases dv.blV; exact ⟨b, rfl, tstBl r5 z⟩⟩) fun _ _ _ x => x⟩
  | false => exact ⟨false, rfl, tstBl r3 (Post.ok q3 r3)⟩
theorem me_chain3 {d : Expr} {fd : Ev} {o1 o2 o3 : CmpOp} (hK : X.K = k.K) (hu : X.A.units + 64 < cLine) (ha : PE X a (tE k W fa)) (hb : PE X b (tE k W fb)) (hc : PE X c (tE k W fc)) (hd : PE X d (tE k W fd)) (hm : lastMarks [o1, o2, o3] [b, c, d] = false) :
    PE X (.Compare a [o1, o2, o3] [b, c, d] pos) (tE k W (ch3E fa fb fc fd o1 o2 o3)) := by
  refine PE.imp (pe_chain3 (op_cmpD hK hu o1) (op_cmpD hK hu o2) (op_cmpD hK hu o3) ha hb hc hd hm) fun σ H Q p => ?_
  obtain ⟨F, h, env, sr, p⟩ := p
  refine ⟨F, h, env, sr, p.bind.imp (fun d F' h' H' st rl q v dv => ⟨F', h', env, sr.step st rl, q.bind.imp (fun e F2 h2 H2 st2 rl2 q2 w dw => ⟨fun _ _ _ => False, F2, h2, d, e, rl2, DV.mono st2 _ _ dv, dw, Post.bl q2.bind fun t F3 h3 H3 st3 r3 q3 z dz => ?_⟩) fun _ _ _ x => x⟩) fun _ _ _ x => x⟩
  cases dz.blV
  refine ⟨t, rfl, ?_⟩
  cases t with
  | false => exact Post.here (d := .bl false) q3 r3 DV.mkBl
  | true =>
    refine ⟨F3, h3, env, ((sr.step st rl).step st2 rl2).step st3 r3, q3.bind.imp (fun g F4 h4 H4 st4 rl4 q4 u du => ⟨fun _ _ _ => False, F4, h4, e, g, rl4, DV.mono (st3.trans st4) _ _ dw, du, Post.bl q4.bind fun t F5 h5 H5 st5 r5 q5 z dz => ?_⟩) fun _ _ _ x => x⟩
    cases dz.blV
    refine ⟨t, rfl, ?_⟩
    cases t with
    | false => exact Post.here (d := .bl false) q5 r5 DV.mkBl
    | true => exact ⟨F5, h5, env, ((((sr.step st rl).step st2 rl2).step st3 r3).step st4 rl4).step st5 r5, q5.bind.imp (fun g2 F6 h6 H6 st6 rl6 q6 u2 du2 => ⟨_, F6, h6, g, g2, rl6, DV.mono (st5.trans st6) _ _ du, du2, q6⟩) fun _ _ _ x => x⟩
theorem mt_chain3 {d : Expr} {fd : Ev} {o1 o2 o3 : CmpOp} (hK : X.K = k.K) (hu : X.A.units + 64 < cLine) (ha : PE X a (tE k W fa)) (hb : PE X b (tE k W fb)) (hc : PE X c (tE k W fc)) (hd : PE X d (tE k W fd)) (hm : lastMarks [o1, o2, o3] [b, c, d] = false) :
    PT X (.Compare a [o1, o2, o3] [b, c, d] pos) (tT k W (tst (ch3E fa fb fc fd o1 o2 o3))) := by
  refine PT.imp (pt_chain3 (op_cmpD hK hu o1) (op_cmpD hK hu o2) (op_cmpD hK hu o3) ha hb hc hd hm) fun σ H Q p => ?_
  obtain ⟨F, h, env, sr, p⟩ := p
  refine ⟨F, h, env, sr, p.bind.bind.imp (fun d F' h' H' st rl q v dv => ⟨F', h', env, sr.step st rl, q.bind.imp (fun e F2 h2 H2 st2 rl2 q2 w dw => ⟨fun _ _ _ => False, F2, h2, d, e, rl2, DV.mono st2 _ _ dv, dw, Post.bl q2.bind fun t F3 h3 H3 st3 r3 q3 z dz => ?_⟩) fun _ _ _ x => x⟩) fun _ _ _ x => x⟩
  cases dz.blV
  refine ⟨t, rfl, ?_⟩
  cases t with
  | false => exact ⟨false, rfl, tstBl r3 (Post.ok q3 r3)⟩
  | true =>
    refine ⟨F3, h3, env, ((sr.step st rl).step st2 rl2).step st3 r3, q3.bind.imp (fun g F4 h4 H4 st4 rl4 q4 u du => ⟨fun _ _ _ => False, F4, h4, e, g, rl4, DV.mono (st3.trans st4) _ _ dw, du, Post.bl q4.bind fun t F5 h5 H5 st5 r5 q5 z dz => ?_⟩) fun _ _ _ x => x⟩
    cases dz.blV
    refine ⟨t, rfl, ?_⟩
    cases t with
    | false => exact ⟨false, rfl, tstBl r5 (Post.ok q5 r5)⟩
    | true => exact ⟨F5, h5, env, ((((sr.step st rl).step st2 rl2).step st3 r3).step st4 rl4).step st5 r5, q5.bind.imp (fun g2 F6 h6 H6 st6 rl6 q6 u2 du2 => ⟨fun _ _ _ => False, F6, h6, g, g2, rl6, DV.mono (st5.trans st6) _ _ du, du2, Post.bl q6 fun b F7 h7 H7 _ r7 z v dv => by cases dv.blV; exact ⟨b, rfl, tstBl r7 z⟩⟩) fun _ _ _ x => x⟩
theorem ma_nil : PA X [] (tA k W aNil) := PA.imp pa_nil fun σ H Q p => by
  obtain ⟨F, h, env, sr, p⟩ := p
  exact Post.ok p sr.rel [] DVs.nil
theorem ma_cons {es : List Expr} {fr : Av} (ha : PE X a (tE k W fa)) (hr : PA X es (tA k W fr)) (hs : starEach (a :: es) X.env = (false, eval a X.env) :: starEach es X.env) : PA X (a :: es) (tA k W (aCons fa fr)) := by
  refine PA.imp (pa_cons ha hr hs) fun σ H Q p => ?_
  obtain ⟨F, h, env, sr, p⟩ := p
  exact ⟨F, h, env, sr, p.bind.imp (fun d F' h' H' st rl q v dv => ⟨F', h', env, sr.step st rl, q.bind.imp (fun ds F2 h2 H2 st2 rl2 q2 vs dvs => Post.ok q2 rl2 (v :: vs) (DVs.cons (DV.mono st2 _ _ dv) dvs)) fun _ _ _ x => x⟩) fun _ _ _ x => x⟩
theorem me_tup {es : List Expr} {fr : Av} {x1 : Nat} (h : PA X es (tA k W fr)) : PE X (.Tuple es x1 pos) (tE k W (tupE fr)) := by
  refine PE.imp (pe_tupB h) fun σ H Q p => ?_
  obtain ⟨F, h, env, sr, p⟩ := p
  refine ⟨F, h, env, sr, p.bind.imp (fun ds F' h' H' st rl q vs dvs => ?_) fun _ _ _ x => x⟩
  obtain ⟨hz, q⟩ := q.cond
  exact ⟨by rw [← dvs.len]; exact le_lim hz, _, Post.tup q rl dvs⟩
theorem me_lst {es : List Expr} {fr : Av} (h : PA X es (tA k W fr)) : PE X (.List es pos) (tE k W (lstE fr)) := by
  refine PE.imp (pe_lst h) fun σ H Q p => ?_
  obtain ⟨F, h, env, sr, p⟩ := p
  refine ⟨F, h, env, sr, p.bind.imp (fun ds F' h' H' st rl q vs dvs => ?_) fun _ _ _ x => x⟩
  obtain ⟨hz, q⟩ := q.cond
  exact ⟨by rw [← dvs.len]; exact le_lim hz, fun c hc => Post.lst q rl dvs hc⟩
theorem me_ix (hK : X.K = k.K) (hu : X.A.units + 1 < cLine) (ha : PE X a (tE k W fa)) (hb : PE X b (tE k W fb)) (hs : PlainIx b) : PE X (.Subscript a b pos) (tE k W (bE fa fb ixOp)) := by
  refine PE.imp (pe_ix (ix_D hK hu) ha hb hs) fun σ H Q p => ?_
  obtain ⟨F, h, env, sr, p⟩ := p
  exact ⟨F, h, env, sr, p.bind.imp (fun d F' h' H' st rl q v dv => ⟨F', h', env, sr.step st rl, q.bind.imp (fun e F2 h2 H2 st2 rl2 q2 w dw => ⟨_, F2, h2, d, e, rl2, DV.mono st2 _ _ dv, dw, q2⟩) fun _ _ _ x => x⟩) fun _ _ _ x => x⟩
/-- a slice's bound -/
def tO (k : Kx) (W : WX) (f : Env → Hs → Res (Option Int)) : TO := fun σ H Q => ∃ F h env, SR k F H h σ env ∧ Post k F H (fun o _ _ H' => Q o H') (fun c d H' => W c d σ H') (f env h)
theorem PO.imp {e : Option Expr} {t t' : TO} (p : PO X e t) (h : ∀ σ H Q, t' σ H Q → t σ H Q) : PO X e t' := ⟨fun pins s σ H Q I q => p.run pins s σ H Q I (h σ H Q q)⟩
theorem mo_none : PO X none (tO k W (ptE none)) := PO.imp po_none fun σ H Q p => by
  obtain ⟨F, h, env, sr, p⟩ := p
  exact Post.ok (P := fun o _ _ H' => Q o H') p sr.rel
theorem mo_some (ha : PE X a (tE k W fa)) : PO X (some a) (tO k W (ptE (some fa))) := PO.imp (po_some ha) fun σ H Q p => by
  obtain ⟨F, h, env, sr, p⟩ := p
  refine ⟨F, h, env, sr, p.bind.imp (fun d F' h' H' st rl q v dv => ?_) fun _ _ _ x => x⟩
  cases d with
  | int i => cases dv.intV; exact ⟨i, rfl, q F' H' .refl rl⟩
  | _ => exact q.elim
theorem me_sl {lo hi : Option Expr} {fl fh : Option Ev} {p2 : Pos} (hK : X.K = k.K) (ha : PE X a (tE k W fa)) (hl : PO X lo (tO k W (ptE fl))) (hh : PO X hi (tO k W (ptE fh))) : PE X (.Subscript a (.Slice lo hi none p2) pos) (tE k W (slE fa fl fh)) := by
  refine PE.imp (pe_slice (sl_D hK) ha hl hh) fun σ H Q p => ?_
  obtain ⟨F, h, env, sr, p⟩ := p
  exact ⟨F, h, env, sr, p.bind.imp (fun d F' h' H' st rl q v dv => ⟨F', h', env, sr.step st rl, q.bind.imp (fun l F2 h2 H2 st2 rl2 q2 => ⟨F2, h2, env, (sr.step st rl).step st2 rl2, q2.bind.imp (fun u F3 h3 H3 st3 rl3 q3 => ⟨_, F3, h3, d, rl3, DV.mono (st2.trans st3) _ _ dv, q3⟩) fun _ _ _ x => x⟩) fun _ _ _ x => x⟩) fun _ _ _ x => x⟩
variable {x : Str} {p1 : Pos} {es : List Expr} {fr : Av} {g : BF}
theorem cE_imp {σ H Q} (p : tE k W (cE fr g) σ H Q) : tCB (rC k g) (tA k W fr) σ H Q := by
  obtain ⟨F, h, env, sr, p⟩ := p
  exact ⟨F, h, env, sr, p.bind.imp (fun ds F' h' H' st rl q vs dvs => ⟨_, F', h', ds, rl, dvs, q⟩) fun _ _ _ x => x⟩
theorem me_callB {id : String} (hc : CallR X (.builtin id) (rC k g)) (hg : Gl X x) (hm : X.mg x = none) (hv : bootBuiltins x = some (.builtin id)) (ha : PA X (a :: es) (tA k W fr)) (hn : x ≠ "__name__") (hdb : (x == ("__debug__" : Str)) = false)
    (he : starEach (a :: es) X.env = (false, eval a X.env) :: starEach es X.env) (hpl : (backTo pos (starEach es X.env)).any (·.1) = false) : PE X (.Call (.Name x p1) (a :: es) [] pos) (tE k W (cE fr g)) :=
  PE.imp (pe_callB hc hg hm hv ha hn hdb he hpl) fun σ H Q p => cE_imp p
theorem me_callTy {T : String} (hc : CallR X (.type T) (rC k g)) (hg : Gl X x) (hm : X.mg x = none) (hv : bootBuiltins x = some (.type T)) (ha : PA X (a :: es) (tA k W fr)) (hn : x ≠ "__name__") (hdb : (x == ("__debug__" : Str)) = false)
    (he : starEach (a :: es) X.env = (false, eval a X.env) :: starEach es X.env) (hpl : (backTo pos (starEach es X.env)).any (·.1) = false) : PE X (.Call (.Name x p1) (a :: es) [] pos) (tE k W (cE fr g)) :=
  PE.imp (pe_callTy hc hg hm hv ha hn hdb he hpl) fun σ H Q p => cE_imp p
theorem me_isi {T : String} {x2 : Str} {p2 : Pos} (hK : X.K = k.K) (hg : Gl X "isinstance") (hm : X.mg "isinstance" = none) (ha : PE X a (tE k W fa)) (hs : starEach [a, .Name x2 p2] X.env = (false, eval a X.env) :: starEach [.Name x2 p2] X.env)
    (hg2 : Gl X x2) (hm2 : X.mg x2 = none) (hv2 : bootBuiltins x2 = some (.type T)) (hn2 : x2 ≠ "__name__") (hd2 : (x2 == ("__debug__" : Str)) = false) : PE X (.Call (.Name "isinstance" p1) [a, .Name x2 p2] [] pos) (tE k W (isiE fa T)) := by
  have hb : PE X (.Name x2 p2) (tC (.ty T)) := pe_bltn (v := .ty T) hg2 hm2 hv2 rfl hn2 hd2
  refine PE.imp (pe_callB call_isi hg hm (by decide +kernel) (pa_cons ha (pa_cons hb pa_nil (by rfl)) hs) (by decide) (by decide) hs (by rfl)) fun σ H Q p => ?_
  obtain ⟨F, h, env, sr, p⟩ := p
  refine ⟨F, h, env, sr, p.bind.imp (fun d F' h' H' st rl q v dv => ?_) fun _ _ _ x => x⟩
  obtain ⟨b, e, q⟩ := Post.ofBl q rl
  unfold isiT at e
  cases e2 : tyD h' d with
  | none => rw [e2] at e; cases e
  | some t =>
    rw [e2] at e
    exact ⟨v, .ty T, .type t, .type T, b, rfl, .ty T, by rw [hK]; exact tyD_ok rl dv e2, kit_ty e, q⟩
/-- the rule of a method by data -/
def MtD (X : Cx) (k : Kx) (T id : String) (m : MF) : Prop := (∀ F H h d v, RelH k F H h → DV k.K F H d v → m.ty h d = true → tyV X.K T v H) ∧
  MtR X id (fun x vs H Q => ∃ (W0 : Value → Option Addr → Hp → Prop) (F : List Addr) (h : Hs) (d : D) (ds : List D), RelH k F H h ∧ DV k.K F H d x ∧ DVs k.K F H ds vs ∧ Post k F H (PV k Q) W0 (m.go h d ds))
theorem me_bm {name : Str} {apos : Pos} {T id : String} {m : MF} (pa : PlainAttrs T) (slot : Slot T name id) (hty : typeOf (.builtin id) = pure (.type "method_descriptor")) (hm : MtD X k T id m) (ho : PE X a (tE k W fa)) (ha : PA X (b :: es) (tA k W fr))
    (hbase : attributeBase a name X.env (eval a X.env) = eval a X.env)
    (hfew : ((backTo pos (starEach (b :: es) X.env)).all (fun x => !x.1) && (backToKw pos (keywordEach [] X.env)).all (fun x => x.1.isSome)
      && decide ((b :: es).length + ([] : List Keyword).length + (if ([] : List Keyword).isEmpty then 0 else 1) < 30)) = true)
    (hline : (apos.endLine == pos.line) = true) (hs : starEach (b :: es) X.env = (false, eval b X.env) :: starEach es X.env) (hplain : (backTo pos (starEach es X.env)).any (·.1) = false) :
    PE X (.Call (.Attribute a name apos) (b :: es) [] pos) (tE k W (mE fa fr m)) := by
  refine PE.imp (pe_bm pa slot hty hm.2 ho ha hbase hfew hline hs hplain) fun σ H Q p => ?_
  obtain ⟨F, h, env, sr, p⟩ := p
  refine ⟨F, h, env, sr, p.bind.imp (fun d F' h' H' st rl q v dv => ?_) fun _ _ _ x => x⟩
  cases e : m.ty h' d with
  | false => rw [e] at q; exact q.elim
  | true =>
    rw [e] at q
    exact ⟨hm.1 F' H' h' d v rl dv e, F', h', env, sr.step st rl, Post.imp (Post.bind (r := fr env h') q) (fun ds F2 h2 H2 st2 rl2 q2 vs dvs => ⟨_, F2, h2, d, ds, rl2, DV.mono st2 _ _ dv, dvs, q2⟩) fun _ _ _ x => x⟩
theorem me_bm0 {name : Str} {apos : Pos} {T id : String} {m : MF} (pa : PlainAttrs T) (slot : Slot T name id) (hty : typeOf (.builtin id) = pure (.type "method_descriptor")) (hm : MtD X k T id m) (ho : PE X a (tE k W fa))
    (hbase : attributeBase a name X.env (eval a X.env) = eval a X.env) (hline : (apos.endLine == pos.line) = true) :
    PE X (.Call (.Attribute a name apos) [] [] pos) (tE k W (mE fa aNil m)) := by
  refine PE.imp (pe_bm0 pa slot hty hm.2 ho hbase hline) fun σ H Q p => ?_
  obtain ⟨F, h, env, sr, p⟩ := p
  refine ⟨F, h, env, sr, p.bind.imp (fun d F' h' H' st rl q v dv => ?_) fun _ _ _ x => x⟩
  cases e : m.ty h' d with
  | false => rw [e] at q; exact q.elim
  | true =>
    rw [e] at q
    exact ⟨hm.1 F' H' h' d v rl dv e, _, F', h', d, [], rl, dv, DVs.nil, q⟩
end
open PySem PySem.Spec PyProof.Rows L2
mutual
/-- references renamed -/
def ren (g : Nat → Nat) : D → D
  | .tup xs => .tup (rens g xs)
  | .ls xs => .ls (rens g xs)
  | .ref n => .ref (g n)
  | .non => .non
  | .bl b => .bl b
  | .int i => .int i
  | .str x => .str x
def rens (g : Nat → Nat) : List D → List D
  | [] => []
  | d :: ds => ren g d :: rens g ds
end
mutual
/-- no reference from n on -/
def clo (n : Nat) : D → Prop
  | .tup xs => clos n xs
  | .ls xs => clos n xs
  | .ref m => m < n
  | _ => True
def clos (n : Nat) : List D → Prop
  | [] => True
  | d :: ds => clo n d ∧ clos n ds
end
def renC (g : Nat → Nat) : Cell → Cell
  | .lst xs => .lst (rens g xs)
  | .dic t lk kvs => .dic t lk (kvs.map fun p => (p.1, ren g p.2))
  | .ins c fs => .ins c (fs.map fun p => (p.1, ren g p.2))
def cloC (n : Nat) : Cell → Prop
  | .lst xs => clos n xs
  | .dic _ _ kvs => ∀ p ∈ kvs, clo n p.2
  | .ins _ fs => ∀ p ∈ fs, clo n p.2
theorem isPr_ren (g : Nat → Nat) (d : D) : isPr (ren g d) = isPr d := by
  cases d with
  | tup xs =>
    unfold ren
    rcases xs with _ | ⟨a, _ | ⟨b, _ | ⟨c, r⟩⟩⟩ <;> (unfold rens; try unfold rens; try unfold rens; try unfold rens) <;> rfl
  | _ => unfold ren; rfl
theorem allP_rens (g : Nat → Nat) : ∀ xs : List D, allP (rens g xs) = allP xs
  | [] => by unfold rens; rfl
  | d :: ds => by
    unfold rens
    show (isPr (ren g d) && allP (rens g ds)) = (isPr d && allP ds)
    rw [isPr_ren, allP_rens g ds]
theorem TpR.ren {H : Hp} {a : Addr} {vs : List V} {g : Nat → Nat} {xs : List D} (q : TpR H a vs (rens g xs)) : TpR H a vs xs := by
  unfold TpR at q ⊢
  rw [allP_rens] at q
  exact q
section
variable {K : PySem.W.Frag} {F' F2 : List Addr} {H : Hp} {g : Nat → Nat} {n : Nat}
mutual
theorem ren_dv (hf : ∀ m, m < n → F2[m]? = F'[g m]?) : ∀ (d : D) (v : V), clo n d → DV K F' H (ren g d) v → DV K F2 H d v
  | .non, v, _, h => by unfold ren DV at h; unfold DV; exact h
  | .bl b, v, _, h => by unfold ren DV at h; unfold DV; exact h
  | .int i, v, _, h => by unfold ren DV at h; unfold DV; exact h
  | .str x, v, _, h => by unfold ren DV at h; unfold DV; exact h
  | .tup xs, v, c, h => by
    unfold ren DV at h
    obtain ⟨a, vs, e, q, r⟩ := h
    unfold clo at c
    unfold DV
    exact ⟨a, vs, e, q.ren, rens_dv hf xs vs c r⟩
  | .ls xs, v, c, h => by
    unfold ren DV at h
    obtain ⟨a, vs, e, q, r⟩ := h
    unfold clo at c
    unfold DV
    exact ⟨a, vs, e, q, rens_dv hf xs vs c r⟩
  | .ref m, v, c, h => by
    unfold ren DV at h
    obtain ⟨a, e, q⟩ := h
    unfold clo at c
    unfold DV
    exact ⟨a, e, by rw [hf m c]; exact q⟩
theorem rens_dv (hf : ∀ m, m < n → F2[m]? = F'[g m]?) : ∀ (ds : List D) (vs : List V), clos n ds → DVs K F' H (rens g ds) vs → DVs K F2 H ds vs
  | [], vs, _, h => by unfold rens DVs at h; unfold DVs; exact h
  | d :: ds, vs, c, h => by
    unfold rens DVs at h
    obtain ⟨v, r, e, h1, h2⟩ := h
    unfold clos at c
    rw [e]
    exact DVs.cons (ren_dv hf d v c.1 h1) (rens_dv hf ds r c.2 h2)
end
theorem renF_dv (hf : ∀ m, m < n → F2[m]? = F'[g m]?) : ∀ (fs : List (Str × D)) (vs : List (Str × V)), (∀ p ∈ fs, clo n p.2) → DFs K F' H (fs.map fun p => (p.1, ren g p.2)) vs → DFs K F2 H fs vs
  | [], vs, _, h => h
  | (x, d) :: ds, vs, c, h => by
    obtain ⟨v, r, e, h1, h2⟩ := h
    exact ⟨v, r, e, ren_dv hf d v (c (x, d) List.mem_cons_self) h1, renF_dv hf ds r (fun p hp => c p (List.mem_cons_of_mem _ hp)) h2⟩
theorem Paired.mapL {α β γ : Type} {R : β → γ → Prop} {f : α → β} : ∀ {l : List α} {m : List γ}, Paired R (l.map f) m → Paired (fun a c => R (f a) c) l m
  | [], _, h => by cases h; exact .nil
  | a :: l, _, h => by
    cases h with
    | cons r t => exact .cons r (Paired.mapL t)
theorem Paired.memL {β γ : Type} {R R' : β → γ → Prop} : ∀ {l : List β} {m : List γ}, Paired R l m → (∀ a ∈ l, ∀ c, R a c → R' a c) → Paired R' l m
  | _, _, .nil, _ => .nil
  | _, _, .cons r t, f => .cons (f _ List.mem_cons_self _ r) (Paired.memL t fun a ha => f a (List.mem_cons_of_mem _ ha))
theorem renC_ok {k : Kx} (hf : ∀ m, m < n → F2[m]? = F'[g m]?) {a : Addr} : ∀ {c : Cell}, cloC n c → CellR k F' H a (renC g c) → CellR k F2 H a c
  | .lst xs, c, ⟨vs, e, d⟩ => ⟨vs, e, rens_dv hf xs vs c d⟩
  | .dic t lk kvs, c, ⟨o, d, e⟩ => by
    refine ⟨o, ?_, e⟩
    cases t with
    | false => obtain ⟨l, eo, p⟩ := d; exact ⟨l, eo, Paired.memL (Paired.mapL p) fun p hp q z => ⟨z.1, z.2.1, ren_dv hf _ _ (c p hp) z.2.2⟩⟩
    | true => obtain ⟨l, eo, p⟩ := d; exact ⟨l, eo, Paired.memL (Paired.mapL p) fun p hp q z => ⟨z.1, z.2.1, ren_dv hf _ _ (c p hp) z.2.2⟩⟩
  | .ins c fs, cl, ⟨C, dx, vs, m, e, d⟩ => ⟨C, dx, vs, m, e, renF_dv hf fs vs cl d⟩
end
mutual
theorem ren_id : ∀ d : D, ren (fun m => m) d = d
  | .tup xs => by unfold ren; rw [rens_id xs]
  | .ls xs => by unfold ren; rw [rens_id xs]
  | .ref n => rfl
  | .non => rfl
  | .bl b => rfl
  | .int i => rfl
  | .str x => rfl
theorem rens_id : ∀ d : List D, rens (fun m => m) d = d
  | [] => rfl
  | d :: ds => by unfold rens; rw [ren_id d, rens_id ds]
end
theorem renC_id (c : Cell) : renC (fun m => m) c = c := by
  cases c with
  | lst xs => show Cell.lst _ = _; rw [rens_id]
  | dic t lk kvs => show Cell.dic t lk _ = _; simp [ren_id]
  | ins c fs => show Cell.ins c _ = _; simp [ren_id]
mutual
theorem ren_clo {n : Nat} {g : Nat → Nat} (hg : ∀ i, i < n → g i = i) : ∀ d : D, clo n d → ren g d = d
  | .tup xs, c => by unfold clo at c; unfold ren; rw [rens_clo hg xs c]
  | .ls xs, c => by unfold clo at c; unfold ren; rw [rens_clo hg xs c]
  | .ref n, c => by unfold clo at c; unfold ren; rw [hg _ c]
  | .non, _ => rfl
  | .bl b, _ => rfl
  | .int i, _ => rfl
  | .str x, _ => rfl
theorem rens_clo {n : Nat} {g : Nat → Nat} (hg : ∀ i, i < n → g i = i) : ∀ d : List D, clos n d → rens g d = d
  | [], _ => rfl
  | d :: ds, c => by unfold clos at c; unfold rens; rw [ren_clo hg d c.1, rens_clo hg ds c.2]
end
section
variable {K : PySem.W.Frag} {F : List Addr} {H : Hp}
mutual
/-- what is told of a heap has no reference out of it -/
theorem DV.clo : ∀ (d : D) (v : V), DV K F H d v → clo F.length d
  | .tup xs, v, h => by
    unfold DV at h
    obtain ⟨a, vs, _, _, r⟩ := h
    unfold M.clo
    exact DVs.clo xs vs r
  | .ls xs, v, h => by
    unfold DV at h
    obtain ⟨a, vs, _, _, r⟩ := h
    unfold M.clo
    exact DVs.clo xs vs r
  | .ref n, v, h => by
    unfold DV at h
    obtain ⟨a, _, q⟩ := h
    unfold M.clo
    exact (List.getElem?_eq_some_iff.mp q).1
  | .non, _, _ => by unfold M.clo; trivial
  | .bl b, _, _ => by unfold M.clo; trivial
  | .int i, _, _ => by unfold M.clo; trivial
  | .str x, _, _ => by unfold M.clo; trivial
theorem DVs.clo : ∀ (ds : List D) (vs : List V), DVs K F H ds vs → clos F.length ds
  | [], _, _ => by unfold clos; trivial
  | d :: ds, vs, h => by
    unfold DVs at h
    obtain ⟨v, r, _, h1, h2⟩ := h
    unfold clos
    exact ⟨DV.clo d v h1, DVs.clo ds r h2⟩
end
theorem DFs.clo : ∀ (ds : List (Str × D)) (vs : List (Str × V)), DFs K F H ds vs → ∀ p ∈ ds, clo F.length p.2
  | [], _, _, _, m => nomatch m
  | (x, d) :: ds, vs, h, p, m => by
    obtain ⟨v, r, _, h1, h2⟩ := h
    rcases List.mem_cons.mp m with z | z
    · rw [z]; exact DV.clo d v h1
    · exact DFs.clo ds r h2 p z
theorem Paired.allL {β γ : Type} {R : β → γ → Prop} {P : β → Prop} : ∀ {l : List β} {m : List γ}, Paired R l m → (∀ a c, R a c → P a) → ∀ a ∈ l, P a
  | _, _, .nil, _, _, m => nomatch m
  | _, _, .cons r t, f, a, m => by
    rcases List.mem_cons.mp m with z | z
    · rw [z]; exact f _ _ r
    · exact Paired.allL t f a z
theorem CellR.clo {k : Kx} {F : List Addr} {H : Hp} {a : Addr} : ∀ {c : Cell}, CellR k F H a c → cloC F.length c
  | .lst xs, ⟨vs, _, d⟩ => DVs.clo xs vs d
  | .dic t lk kvs, ⟨o, d, _⟩ => by
    cases t with
    | false => obtain ⟨l, _, p⟩ := d; exact Paired.allL p fun a c z => DV.clo _ _ z.2.2
    | true => obtain ⟨l, _, p⟩ := d; exact Paired.allL p fun a c z => DV.clo _ _ z.2.2
  | .ins c fs, ⟨C, dx, vs, _, _, d⟩ => DFs.clo fs vs d
end
/-- the heap h2 stands in h1 by g; h was there ahead of the call -/
structure Emb (h h1 h2 : Hs) (g : Nat → Nat) : Prop where
  old : ∀ i, i < h.length → g i = i
  le : h.length ≤ h2.length
  inj : ∀ i j, i < h2.length → j < h2.length → g i = g j → i = j
  cell : ∀ (i : Nat) (c : Cell), h2[i]? = some c → h1[g i]? = some (renC g c) ∧ cloC h2.length c ∨ h1[g i]? = some c ∧ h[i]? = some c
inductive Gc (h : Hs) : Res D → Res D → Prop
  | keep (r : Res D) : Gc h r r
  | bad (r : Res D) : Gc h r .bad
  | ok {d : D} {h1 h2 : Hs} {g : Nat → Nat} (e : Emb h h1 h2 g) (c : clo h2.length d) : Gc h (.ok (ren g d) h1) (.ok d h2)
  | exc {x : Ex} {h1 h2 : Hs} {g : Nat → Nat} (e : Emb h h1 h2 g) : Gc h (.exc x h1) (.exc x h2)
theorem Emb.rel {k : Kx} {F F' : List Addr} {H H' : Hp} {h h1 h2 : Hs} {g : Nat → Nat} (e : Emb h h1 h2 g) (r0 : RelH k F H h) (st : Step k.K F H F' H') (r : RelH k F' H' h1) :
    ∃ F2, Step k.K F H F2 H' ∧ RelH k F2 H' h2 ∧ (∀ m, m < h2.length → F2[m]? = F'[g m]?) ∧ ∀ a, a ∈ F2 → a ∈ F' := by
  have gl : ∀ i, i < h2.length → g i < F'.length := fun i hi => by
    have q : ∃ c, h1[g i]? = some c := by
      rcases e.cell i h2[i] (List.getElem?_eq_getElem hi) with z | z
      · exact ⟨_, z.1⟩
      · exact ⟨_, z.1⟩
    obtain ⟨c, q⟩ := q
    rw [r.len]
    exact (List.getElem?_eq_some_iff.mp q).1
  let F2 := (List.range h2.length).map fun i => F'.getD (g i) 0
  have f2 : ∀ m, m < h2.length → F2[m]? = F'[g m]? := fun m hm => by
    show ((List.range h2.length).map fun i => F'.getD (g i) 0)[m]? = _
    rw [List.getElem?_map, List.getElem?_range hm, List.getElem?_eq_getElem (gl m hm)]
    show some (F'.getD (g m) 0) = _
    rw [List.getD_eq_getElem?_getD, List.getElem?_eq_getElem (gl m hm)]
    rfl
  have len2 : F2.length = h2.length := by
    show ((List.range h2.length).map _).length = _
    simp
  have mem2 : ∀ a, a ∈ F2 → a ∈ F' := fun a ha => by
    obtain ⟨i, hi, ei⟩ := List.mem_iff_getElem.mp ha
    have hi' : i < h2.length := by rw [← len2]; exact hi
    have z := f2 i hi'
    rw [List.getElem?_eq_getElem hi, ei] at z
    exact List.mem_of_getElem? z.symm
  have pre : F2.take F.length = F := by
    obtain ⟨G, eG⟩ := st.pre
    apply List.ext_getElem?
    intro i
    by_cases hi : i < F.length
    · have hi0 : i < h.length := by rw [← r0.len]; exact hi
      rw [List.getElem?_take_of_lt hi, f2 i (Nat.lt_of_lt_of_le hi0 e.le), e.old i hi0, eG, List.getElem?_append_left hi]
    · rw [List.getElem?_eq_none (by rw [List.length_take]; omega), List.getElem?_eq_none (by omega)]
  have stp : Step k.K F H F2 H' := by
    refine ⟨⟨F2.drop F.length, ?_⟩, st.old, fun a h1 h2 => st.new a (mem2 a h1) h2, st.tup, st.lsr, st.tfr⟩
    conv => lhs; rw [← List.take_append_drop F.length F2]
    rw [pre]
  refine ⟨F2, stp, ⟨len2, ?_, fun i c a e1 e2 => ?_⟩, f2, mem2⟩
  · refine List.pairwise_iff_getElem.mpr fun i j hi hj hij q => ?_
    have hi' : i < h2.length := by rw [← len2]; exact hi
    have hj' : j < h2.length := by rw [← len2]; exact hj
    have z1 := f2 i hi'
    have z2 := f2 j hj'
    rw [List.getElem?_eq_getElem hi, List.getElem?_eq_getElem (gl i hi')] at z1
    rw [List.getElem?_eq_getElem hj, List.getElem?_eq_getElem (gl j hj')] at z2
    have z := (List.getElem_inj r.nd).mp ((Option.some.inj z1).symm.trans (q.trans (Option.some.inj z2)))
    have := e.inj i j hi' hj' z
    omega
  · have hi : i < h2.length := (List.getElem?_eq_some_iff.mp e1).1
    rw [f2 i hi] at e2
    rcases e.cell i c e1 with ⟨z, cl⟩ | ⟨z, z0⟩
    · exact renC_ok f2 cl (r.cell (g i) _ a z e2)
    · -- an old cell, as it was
      have hi0 : i < h.length := (List.getElem?_eq_some_iff.mp z0).1
      have hF : F[i]? = some a := by
        rw [e.old i hi0] at e2
        obtain ⟨G, eG⟩ := st.pre
        rw [eG, List.getElem?_append_left (by rw [r0.len]; exact hi0)] at e2
        exact e2
      have c0 := r0.cell i c a z0 hF
      have c1 := r.cell (g i) c a z e2
      have cl := c0.clo
      rw [r0.len] at cl
      exact renC_ok (F' := F') (g := fun m => m) (n := h.length) (fun m hm => by rw [f2 m (Nat.lt_of_lt_of_le hm e.le), e.old m hm]) cl (by rw [renC_id]; exact c1)
theorem Gc.post {k : Kx} {F : List Addr} {H : Hp} {h : Hs} {r r' : Res D} {Q : VK} {W : Value → Option Addr → Hp → Prop} (gc : Gc h r r') (r0 : RelH k F H h) (p : Post k F H (PV k Q) W r') : Post k F H (PV k Q) W r := by
  cases gc with
  | keep => exact p
  | bad => exact p.elim
  | ok e c =>
    intro F' H' st rl v dv
    obtain ⟨F2, st2, rl2, f2, _⟩ := e.rel r0 st rl
    exact p F2 H' st2 rl2 v (ren_dv f2 _ v c dv)
  | exc e =>
    intro F' H' cls dx st rl x
    obtain ⟨F2, st2, rl2, f2, m2⟩ := e.rel r0 st rl
    obtain ⟨C, dd, vs, a1, a2, a3, a4, a5, a6⟩ := x
    exact p F2 H' cls dx st2 rl2 ⟨C, dd, vs, a1, a2, a3, a4, fun m => a5 (m2 _ m), a6⟩
/-- a new list is handed out, of closed data -/
theorem Gc.list {h : Hs} {xs : List D} {j : Hs} {n : Nat} (hn : (h ++ j)[n]? = some (.lst xs)) (hl : h.length ≤ n) (c : clos (h.length + 1) xs) (hx : ∀ m, m ≠ h.length → m < h.length + 1 → True) (cx : clos h.length xs) :
    Gc h (.ok (.ref n) (h ++ j)) (.ok (.ref h.length) (h ++ [.lst xs])) := by
  let g : Nat → Nat := fun m => if m = h.length then n else m
  have g0 : ∀ i, i < h.length → g i = i := fun i hi => if_neg (by omega)
  have gn : g h.length = n := if_pos rfl
  have e : Emb h (h ++ j) (h ++ [.lst xs]) g := by
    refine ⟨g0, by simp, fun a b ha hb q => ?_, fun i c' q => ?_⟩
    · rw [List.length_append, List.length_singleton] at ha hb
      by_cases h1 : a = h.length
      · by_cases h2 : b = h.length
        · omega
        · rw [h1, gn, g0 b (by omega)] at q; omega
      · by_cases h2 : b = h.length
        · rw [h2, gn, g0 a (by omega)] at q; omega
        · rw [g0 a (by omega), g0 b (by omega)] at q; exact q
    · by_cases hi : i < h.length
      · rw [List.getElem?_append_left hi] at q
        rw [g0 i hi]
        exact .inr ⟨by rw [List.getElem?_append_left hi]; exact q, q⟩
      · have hi2 : i = h.length := by
          have z := (List.getElem?_eq_some_iff.mp q).1
          rw [List.length_append, List.length_singleton] at z
          omega
        subst hi2
        rw [List.getElem?_append_right (Nat.le_refl _), Nat.sub_self] at q
        have q : c' = .lst xs := by simpa using q.symm
        subst q
        refine .inl ⟨?_, ?_⟩
        · rw [gn, hn]
          show some (Cell.lst xs) = some (Cell.lst (rens g xs))
          rw [rens_clo g0 xs cx]
        · rw [List.length_append, List.length_singleton]; exact c
  have z := Gc.ok (d := .ref h.length) e (by unfold clo; simp)
  have : ren g (.ref h.length) = .ref n := by unfold ren; rw [gn]
  rwa [this] at z
open PySem PySem.Spec PyProof.Rows L2
/-- a def: how many parameters, what it does -/
structure Fn where
  n : Nat
  go : List D → Hs → Res D
def spOf (k : Kx) (f : Fn) : Sp := fun vs H Q E => vs.length = f.n ∧ ∃ F h ds, RelH k F H h ∧ DVs k.K F H ds vs ∧ XD k F H ∧ Post k F H (PV k Q) (fun c d H' => E c d H') (f.go ds h)
def fE (as : Av) (f : Fn) : Ev := fun env h => (as env h).bind fun xs h1 => if xs.length = f.n then f.go xs h1 else .bad
section
variable {X : Cx} {k : Kx} {W : WX} {pos p1 : Pos} {x : Str} {a : Expr} {es : List Expr} {fr : Av} {f : Fn} {j : Nat} {ad : Addr} {fd : FuncData} {ps : List Str}
theorem fE_imp {σ H Q} (p : tE k W (fE fr f) σ H Q) : tCallS (spOf k f) (WE W) (tA k W fr) σ H Q := by
  obtain ⟨F, h, env, sr, p⟩ := p
  refine ⟨F, h, env, sr, p.bind.imp (fun ds F' h' H' st rl q vs dvs => ?_) fun _ _ _ x => x⟩
  obtain ⟨hn, q⟩ := q.cond
  exact ⟨by rw [← dvs.len]; exact hn, F', h', ds, rl, dvs, (sr.step st rl).xd, q⟩
theorem me_fn (F : FnOk X.prog X.w X.K X.mg X.base (L2N.CX X.prog X.w) j ad fd ps (spOf k f)) (hr : Room j X.A) (hg : Gl X x) (hm : X.mg x = some (.ref ad)) (hk : PySem.W.keepIn X.K (.ref ad) = true) (hb : Binds X.K fd ps []) (tk : L2N.Takes X W)
    (ha : PA X (a :: es) (tA k W fr)) (hdb : (x == ("__debug__" : Str)) = false) (he : starEach (a :: es) X.env = (false, eval a X.env) :: starEach es X.env) (hpl : (backTo pos (starEach es X.env)).any (·.1) = false) :
    PE X (.Call (.Name x p1) (a :: es) [] pos) (tE k W (fE fr f)) :=
  PE.imp (pe_callS F hr hg hm hk hb (L2N.passAt tk) ha hdb he hpl) fun σ H Q p => fE_imp p
end
inductive Tg where
  | nm (i : Nat) | tp (ts : List Tg)
mutual
def asgT : Tg → D → Env → Hs → Res Env
  | .nm i, d, env, h => .ok (env.set i (some d)) h
  | .tp ts, d, env, h => match seqH h d with
    | some xs => if xs.length = ts.length then asgTs ts xs env h else .bad
    | none => .bad
def asgTs : List Tg → List D → Env → Hs → Res Env
  | [], [], env, h => .ok env h
  | t :: ts, d :: ds, env, h => (asgT t d env h).bind fun env' h' => asgTs ts ds env' h'
  | _, _, _, _ => .bad
end
abbrev Gv := D → Env → Hs → Res Env
/-- o[i] = .., o a list -/
def setL (h : Hs) (o i d : D) : Option Hs := match o, i with
  | .ref n, .int j => match h[n]? with
    | some (.lst xs) => (ixN xs.length j).map fun m => h.set n (.lst (xs.set m d))
    | _ => none
  | _, _ => none
/-- o[i] = .. -/
def setOp (h : Hs) (o i d : D) : Option Hs := match dicAt h o with
  | some (n, t, kvs) => if kOk t i = true ∧ kvs.length < lim then some (h.set n (.dic t false (dput kvs i d))) else none
  | none => setL h o i d
def gS (o i : Ev) : Gv := fun d env h => (o env h).bind fun x h1 => (i env h1).bind fun y h2 => match setOp h2 x y d with
  | some h3 => .ok env h3
  | none => .bad
def tGs (k : Kx) (W : WX) (g : List D → Env → Hs → Res Env) : TGs := fun vs σ H Q => ∃ F h env ds, SR k F H h σ env ∧ DVs k.K F H ds vs ∧ Post k F H (PEnv k Q) (fun c d H' => W c d σ H') (g ds env h)
section
variable {X : Cx} {k : Kx} {W : WX} {pos : Pos}
theorem mg_name {i : Nat} {x : Str} (hN : X.N.Nodup) (hi : X.N[i]? = some x) (hx : Loc X.env.scope x) (hf : X.fn x = true ∨ X.env.scope.names.lookup x = some .local) : PG X (.Name x pos) (tG k W (asgT (.nm i))) :=
  PG.imp (pg_name hN hi hx hf) fun v σ H Q ⟨F, h, env, d, sr, dv, p⟩ => by
    unfold asgT at p
    exact Post.ok p sr.rel _ (sr.er.set i dv)
theorem PGs.imp {ts : List Expr} {t t' : TGs} (p : PGs X ts t) (h : ∀ vs σ H Q, t' vs σ H Q → t vs σ H Q) : PGs X ts t' := ⟨fun pins s σ H vs us Q I r q => p.run pins s σ H vs us Q I r (h vs σ H Q q)⟩
theorem mgs_nil : PGs X [] (tGs k W (asgTs [])) := PGs.imp pgs_nil fun vs σ H Q ⟨F, h, env, ds, sr, dv, p⟩ => by
  cases ds with
  | nil =>
    unfold DVs at dv
    unfold asgTs at p
    exact ⟨dv, Post.ok p sr.rel σ sr.er⟩
  | cons d ds => unfold asgTs at p; exact p.elim
/-- what is behind a stored name: the slots that the targets do not know stay -/
theorem mgs_cons {e : Expr} {es : List Expr} {t : Tg} {ts : List Tg} (h1 : PG X e (tG k (fun _ _ _ _ => False) (asgT t))) (h2 : PGs X es (tGs k (fun _ _ _ _ => False) (asgTs ts)))
    (hs : (assignEach (e :: es) X.env).map (·.2) = assign e X.env :: (assignEach es X.env).map (·.2)) : PGs X (e :: es) (tGs k (fun _ _ _ _ => False) (asgTs (t :: ts))) := by
  refine PGs.imp (pgs_cons h1 h2 hs) fun vs σ H Q ⟨F, h, env, ds, sr, dv, p⟩ => ?_
  cases ds with
  | nil => unfold asgTs at p; exact p.elim
  | cons d ds =>
    unfold DVs at dv
    obtain ⟨v, r, rfl, d1, d2⟩ := dv
    unfold asgTs at p
    exact ⟨v, r, rfl, F, h, env, d, sr, d1, p.bind.imp (fun env' F' h' H' st rl q σ' er => ⟨F', h', env', ds, ⟨rl, er, sr.xd.mono st⟩, DVs.mono st _ _ d2, q⟩) fun _ _ _ x => x⟩
theorem tGs.weak {ts : List Tg} {vs σ H Q} (p : tGs k W (asgTs ts) vs σ H Q) (n : ∀ ds env h e h', asgTs ts ds env h ≠ .exc e h') : tGs k (fun _ _ _ _ => False) (asgTs ts) vs σ H Q := by
  obtain ⟨F, h, env, ds, sr, dv, p⟩ := p
  refine ⟨F, h, env, ds, sr, dv, ?_⟩
  cases e : asgTs ts ds env h with
  | ok a h' => rw [e] at p; exact p
  | exc x h' => exact absurd e (n _ _ _ _ _)
  | bad => rw [e] at p; exact p
mutual
theorem asgT_ne : ∀ (t : Tg) (d : D) (env : Env) (h : Hs) (e : Ex) (h' : Hs), asgT t d env h ≠ .exc e h'
  | .nm i, d, env, h, e, h', z => by unfold asgT at z; cases z
  | .tp ts, d, env, h, e, h', z => by
    unfold asgT at z
    cases q : seqH h d with
    | none => rw [q] at z; cases z
    | some xs =>
      rw [q] at z
      have z : (if xs.length = ts.length then asgTs ts xs env h else .bad) = Res.exc e h' := z
      by_cases c : xs.length = ts.length
      · rw [if_pos c] at z; exact asgTs_ne ts xs env h e h' z
      · rw [if_neg c] at z; cases z
theorem asgTs_ne : ∀ (ts : List Tg) (ds : List D) (env : Env) (h : Hs) (e : Ex) (h' : Hs), asgTs ts ds env h ≠ .exc e h'
  | [], [], _, _, _, _, z => by unfold asgTs at z; cases z
  | [], _ :: _, _, _, _, _, z => by unfold asgTs at z; cases z
  | _ :: _, [], _, _, _, _, z => by unfold asgTs at z; cases z
  | t :: ts, d :: ds, env, h, e, h', z => by
    unfold asgTs at z
    cases q : asgT t d env h with
    | ok a h1 => rw [q] at z; exact asgTs_ne ts ds a h1 e h' z
    | exc x h1 => exact asgT_ne t d env h x h1 q
    | bad => rw [q] at z; cases z
end
theorem tG.weak {t : Tg} {W' : WX} {v σ H Q} (p : tG k W (asgT t) v σ H Q) : tG k W' (asgT t) v σ H Q := by
  obtain ⟨F, h, env, d, sr, dv, p⟩ := p
  refine ⟨F, h, env, d, sr, dv, ?_⟩
  cases e : asgT t d env h with
  | ok a h' => rw [e] at p; exact p
  | exc x h' => exact absurd e (asgT_ne t d env h x h')
  | bad => rw [e] at p; exact p
theorem PG.or {e : Expr} {t t' : TG} (p : PG X e t) (p' : PG X e t') : PG X e (fun v σ H Q => t v σ H Q ∨ t' v σ H Q) := ⟨fun pins s σ H v u Q I r q => q.elim (p.run pins s σ H v u Q I r) (p'.run pins s σ H v u Q I r)⟩
theorem mg_tup {es : List Expr} {x1 : Nat} {ts : List Tg} (hK : X.K = k.K) (hc : X.calm = true) (h : PGs X es (tGs k (fun _ _ _ _ => False) (asgTs ts))) (hn : (assignEach es X.env).length = ts.length) (hst : (assignEach es X.env).findIdx? (·.1) = none) :
    PG X (.Tuple es x1 pos) (tG k W (asgT (.tp ts))) := by
  refine PG.imp (PG.or (pg_tup hc h hn hst) (pg_unl hc h hn hst)) fun v σ H Q p0 => ?_
  obtain ⟨F, h, env, d, sr, dv, p1⟩ := tG.weak (W' := fun _ _ _ _ => False) p0
  unfold asgT at p1
  cases q : seqH h d with
  | none => rw [q] at p1; exact p1.elim
  | some xs =>
    rw [q] at p1
    obtain ⟨c, p⟩ := Post.cond (c := xs.length = ts.length) (r := asgTs ts xs env h) p1
    obtain ⟨a, vs, rfl, _, dvs, sT, sL⟩ := sr.rel.seq dv q
    rcases seqH_tup q with z | z
    · exact .inl ⟨a, vs, rfl, by rw [hK]; exact (sT xs z).sqT, by rw [← dvs.len]; exact c, F, h, env, xs, sr, dvs, p⟩
    · exact .inr ⟨a, vs, rfl, by rw [hK]; exact sL z, by rw [← dvs.len]; exact c, F, h, env, xs, sr, dvs, p⟩
theorem set_L : PSet X (fun o i v H Q => ∃ F h d e g h', RelH k F H h ∧ DV k.K F H d o ∧ DV k.K F H e i ∧ DV k.K F H g v ∧ setL h d e g = some h' ∧ ∀ H', Step k.K F H F H' → RelH k F H' h' → Q H') := by
  intro pins s σ H o i v ov iv u Q I ro ri rv q
  obtain ⟨F, h, d, e, g, h', rl, d1, d2, d3, so, q⟩ := q
  unfold setL at so
  cases d <;> cases e <;> try cases so
  rename_i n j
  have so : (match h[n]? with | some (.lst xs) => (ixN xs.length j).map fun m => h.set n (.lst (xs.set m g)) | _ => none) = some h' := so
  cases e1 : h[n]? with
  | none => rw [e1] at so; cases so
  | some c =>
    rw [e1] at so
    cases c with
    | lst xs =>
      obtain ⟨m, e2, rfl⟩ := Option.map_eq_some_iff.mp so
      obtain ⟨a, vs, rfl, hf, hl, dvs⟩ := rl.lst e1 d1
      cases d2.intV
      have st := rl.stepSet (o := .lst (vs.set m v)) hf
      exact set_list pins s σ H _ _ v ov iv u Q I ro ri rv ⟨a, vs, j, m, rfl, rfl, hl, by rw [← dvs.len]; exact e2, q _ st (rl.setCell hf ⟨_, upd_same, DVs.mono st _ _ (dvs.set m d3)⟩)⟩
    | _ => cases so
theorem set_D (hu : X.A.units + 1 < cLine) : PSet X (fun o i v H Q => ∃ F h d e g h', RelH k F H h ∧ DV k.K F H d o ∧ DV k.K F H e i ∧ DV k.K F H g v ∧ setOp h d e g = some h' ∧ ∀ H', Step k.K F H F H' → RelH k F H' h' → Q H') := by
  intro pins s σ H o i v ov iv u Q I ro ri rv q
  obtain ⟨F, h, d, e, g, h', rl, d1, d2, d3, so, q⟩ := q
  unfold setOp at so
  cases e1 : dicAt h d with
  | none => rw [e1] at so; exact set_L (k := k) pins s σ H o i v ov iv u Q I ro ri rv ⟨F, h, d, e, g, h', rl, d1, d2, d3, so, q⟩
  | some tk =>
    obtain ⟨n, t, kvs⟩ := tk
    rw [e1] at so
    have so : (if kOk t e = true ∧ kvs.length < lim then some (h.set n (.dic t false (dput kvs e g))) else none) = some h' := so
    by_cases c : kOk t e = true ∧ kvs.length < lim
    · rw [if_pos c] at so; cases so
      obtain ⟨a, H', rfl, dp, st, rl'⟩ := rl.dput e1 c.1 c.2 d1 d2 d3
      cases ro
      exact d_setItem hu I dp ri rv fun s' I' => ⟨H', I', q H' st rl'⟩
    · rw [if_neg c] at so; cases so
theorem mg_sub {o i : Expr} {fo fi : Ev} (hu : X.A.units + 1 < cLine) (ho : PE X o (tE k W fo)) (hi : PE X i (tE k W fi))
    (ha : ∀ v, assign (.Subscript o i pos) X.env v = (do
      let ov ← holding [v] (eval o X.env)
      let iv ← holding [v, ov] (eval i X.env)
      standAt pos
      holding [v, ov, iv] (setItem ov iv v)
      release [v, ov, iv] [])) : PG X (.Subscript o i pos) (tG k W (gS fo fi)) := by
  refine PG.imp (pg_sub ho hi (set_D (k := k) hu) ha) fun v σ H Q p => ?_
  obtain ⟨F, h, env, d, sr, dv, p⟩ := p
  refine ⟨F, h, env, sr, p.bind.imp (fun x F' h' H' st rl q xv dx => ⟨F', h', env, sr.step st rl, q.bind.imp (fun y F2 h2 H2 st2 rl2 q2 yv dy => ?_) fun _ _ _ x => x⟩) fun _ _ _ x => x⟩
  cases e : setOp h2 x y d with
  | none => rw [e] at q2; exact q2.elim
  | some h3 =>
    rw [e] at q2
    exact ⟨F2, h2, x, y, d, h3, rl2, DV.mono st2 _ _ dx, dy, DV.mono (st.trans st2) _ _ dv, e, fun H3 st3 rl3 => q2 F2 H3 st3 rl3 σ (sr.er.mono ((st.trans st2).trans st3))⟩
end
open PySem PySem.Spec PyProof.Rows L2
theorem meets_enumerate_newT (l : Addr) (items : Array Value) (n : Nat) (dct : Option Addr) (sl : Array (Option Value)) :
    Meets (Builtin.«enumerate.__new__» ⟨[.type "enumerate", .ref l], []⟩) (fun _ R s => s.heap.get? l = some { cls := .type "tuple", dict := dct, data := .seq items n, slots := sl } ∧
      R (.ok (.ret (.ref (s.heap.push { cls := .type "tuple_iterator", data := .fields #[.ref l, .int 0 0] }).objs.size)))
        { s with heap := (s.heap.push { cls := .type "tuple_iterator", data := .fields #[.ref l, .int 0 0] }).push { cls := .type "enumerate", data := .fields #[.none, .bool false, .ref s.heap.objs.size, rawInt 0, .none, .none] } }) :=
  .of_wp fun prog w A R s h => by
    obtain ⟨hp, g, d, tk, os⟩ := s; obtain ⟨hl, h⟩ := h
    have hsub := sub_enumerate
    have hL : Heap.IsTuple (Shared.heap ⟨hp, g, d, tk, os⟩) l items := ⟨_, hl, rfl, n, rfl⟩
    wp_walk using AutoSeq1.wpAny_loadPart' hl
    refine wpAny_stack_any fun st => wpAny_pure ?_
    split
    · rename_i c _ _ _ _ _
      cases (c == Value.type "enumerate")
      · wp_walk using AutoSeq1.wpAny_loadPart' hl, wpAny_pyIter_tuple hL
        exact ⟨_, rfl, h⟩
      · wp_walk using AutoSeq1.wpAny_loadPart' hl, wpAny_pyIter_tuple hL
        exact ⟨_, rfl, h⟩
    · wp_walk using AutoSeq1.wpAny_loadPart' hl, wpAny_pyIter_tuple hL
      exact ⟨_, rfl, h⟩
section
variable {prog : Program} {w : World} {A : Around} {E : Value → Shared → Prop} {s : Shared}
theorem call_enumerate_tup {l : Addr} {items : Array Value} {Q : Value → Shared → Prop} (hL : s.heap.IsTuple l items)
    (h : ∀ h', IsEnum h' (s.heap.objs.size + 1) s.heap.objs.size 0 .none → h'.IsTupleIter s.heap.objs.size l 0 → h'.objs.size = s.heap.objs.size + 2 →
      (∀ b o, s.heap.get? b = some o → h'.get? b = some o) → Q (.ref (s.heap.objs.size + 1)) { s with heap := h' }) :
    wpAny (model prog w) A (call (.type "enumerate") [.ref l]) Q E s := by
  obtain ⟨⟨c, dct, dt, sl⟩, hl, hc, n, hd⟩ := hL
  replace hc : c = .type "tuple" := hc
  replace hd : dt = .seq items n := hd
  subst hc hd
  refine callType_new F.called_enumerate (by decide) (F.typeCall_enumerate_1 _) (F.newCall_enumerate_1 _) (fun obj => F.args_object_init_2 obj _) F.entry_enumerate_new
    (meets_enumerate_newT l items n dct sl) ⟨hl, ?_⟩
  have hz : (s.heap.push { cls := .type "tuple_iterator", data := .fields #[.ref l, .int 0 0] }).objs.size = s.heap.objs.size + 1 := Heap.size_push ..
  show _ ∧ _
  rw [hz]
  have he : IsEnum ((s.heap.push { cls := .type "tuple_iterator", data := .fields #[.ref l, .int 0 0] }).push
      { cls := .type "enumerate", data := .fields #[.none, .bool false, .ref s.heap.objs.size, rawInt 0, .none, .none] }) (s.heap.objs.size + 1) s.heap.objs.size 0 .none := by
    have := Heap.get?_push_size (s.heap.push { cls := .type "tuple_iterator", data := .fields #[.ref l, .int 0 0] })
      (o := { cls := .type "enumerate", data := .fields #[.none, .bool false, .ref s.heap.objs.size, rawInt 0, .none, .none] }) rfl
    rw [hz] at this; exact this
  refine ⟨⟨_, he, rfl⟩, h _ he ⟨_, Heap.get?_push_of_some _ (Heap.get?_push_size _ rfl), rfl, rfl⟩ (by rw [Heap.size_push, hz]) fun b o x => Heap.get?_push_of_some _ (Heap.get?_push_of_some _ x)⟩
end
theorem pyNext_enumT_end {prog : Program} {w : World} {A : Around} {E : Value → Shared → Prop} {s : Shared} {e it l : Addr} {i : Nat} {items : Array Value} {old : Value} {Q : Option Value → Shared → Prop} (hh : A.in1.handled = none)
    (he : IsEnum s.heap e it i old) (hit : s.heap.IsTupleIter it l i) (hl : s.heap.IsTuple l items) (hx : items[i]? = none)
    (hQ : ∀ h', Heap.ExtBut it s.heap h' → Q none { s with heap := h' }) : wpAny (model prog w) A (pyNext (.ref e)) Q E s := by
  have hT : s.TypeIs (.ref e) "enumerate" := ⟨_, he, rfl⟩
  unfold pyNext
  refine wpAny_bind (wpAny_attempt (wpAny_callSpecial?_slot (name := Str.ofString "__next__") hT F.slot_enumerate_next
    (wpAny_call_entry F.slot_enumerate_next hT F.entry_enumerate_next ?_ (F.args_enumerate_next_1 _))))
  show wpAny _ _ (field (.ref e) 2 >>= _) _ _ _
  refine wpAny_bind (wpAny_field he rfl (x := .ref it) rfl ?_)
  refine wpAny_bind (wpAny_nextOf_tuple_end hh hit hl hx fun h' x he' hx' => ?_)
  obtain ⟨o, ho, hc⟩ := hx'
  refine wpAny_bind (wpAny_isInstance (T := "StopIteration") (b := true) ⟨o, ho, hc⟩ isSubtype_stop ?_)
  exact wpAny_pure (hQ _ he')
/-- the tuple at a at each turn, each item in a new pair -/
def IteT (K : PySem.W.Frag) (a : Addr) : It :=
  ⟨fun i H => ∃ (xs : List V) (x : V), SqT K H a xs ∧ xs[i]? = some x, fun i H v H' => ∃ T x, v = .ref T ∧ H T = none ∧ H' = upd H T (.tup [.int (i : Nat), x]) ∧ ∀ xs, SqT K H a xs → xs[i]? = some x, fun i H => ∃ xs : List V, SqT K H a xs ∧ xs.length ≤ i⟩
theorem turn_enumT {P : Program} {w : World} {K : PySem.W.Frag} {elts : List Expr} {kk : Nat} {tpos : Pos} (a e it : Addr) :
    Turn P w K (.Tuple elts kk tpos) (IteT K a) [e, it] e (fun i h => (∃ old, IsEnum h e it ((i : Nat) : Int) old) ∧ h.IsTupleIter it a i ∧ e ≠ it ∧ e ≠ a ∧ a ≠ it) where
  mem := by simp
  obj := fun i h st b hb => by
    obtain ⟨⟨old, he⟩, ⟨o, ho, hc, hd⟩, _⟩ := st
    have e' : b = e ∨ b = it := by simpa using hb
    rcases e' with z | z
    · rw [z]; exact ⟨_, he, fun v q => nomatch q⟩
    · rw [z]; exact ⟨o, ho, fun v q => by rw [hd] at q; cases q⟩
  keep := fun i h h' st k => let ⟨⟨old, he⟩, hi, hne⟩ := st; ⟨⟨old, k e (by simp) _ he⟩, hi.at fun o q => k it (by simp) o q, hne⟩
  item := by
    intro X hP hw hK hc i pins s σ H E I hf st hg
    subst hP hw hK
    obtain ⟨⟨old, he⟩, hit, hne, hea, hai⟩ := st
    obtain ⟨xs, x, hq, hx⟩ := hg
    obtain ⟨its, rv, p, hz⟩ := I.tuple hq
    obtain ⟨u, hu, ru⟩ := rv.get hx
    have hel : e < s.heap.objs.size := Heap.lt_size he
    have hil : it < s.heap.objs.size := by obtain ⟨_, q, _⟩ := hit; exact Heap.lt_size q
    have hh : X.A.in1.handled = none := by have := I.ok.hd hc; simp [this]
    have hlt : i < its.toArray.size := by
      rw [List.size_toArray]
      exact (List.getElem?_eq_some_iff.mp hu).1
    refine wpAny_pyNext_enum_itemD (Draws.tuple hh it a hai its.toArray) he ⟨hit, p⟩ hlt hne (by simp only [List.mem_cons, List.not_mem_nil, or_false, not_or]; exact ⟨hne, hea⟩) fun x' h' tk px ho hst' hT hsz hk => ?_
    have ex : x' = u := by
      have : its.toArray[i]? = some u := by simpa using hu
      rw [this] at px
      exact (Option.some.inj px).symm
    subst ex
    have hit' := hst'.1
    refine ⟨_, rfl, wpAny_letOwnedTupleGo_enum (s := { s with heap := h', toks := tk + 1 }) ho fun h'' he' sb => ?_⟩
    have hT2 : h''.get? s.heap.objs.size = some { cls := .type "tuple", data := .seq #[.int i tk, x'] } := (sb.2 _ (Nat.ne_of_gt hel)).trans hT
    have new : ObjOk X.prog X.w (upd H s.heap.objs.size (.tup [.int (i : Nat), x])) h'' s.heap.objs.size (.tup [.int (i : Nat), x]) :=
      ⟨by show 2 ≤ sizeLine; decide, [.int i tk, x'], .cons ⟨_, rfl⟩ (.cons ru .nil), ⟨_, hT2, rfl, _, rfl⟩⟩
    have I1 : Inv X pins σ (upd H s.heap.objs.size (.tup [.int (i : Nat), x])) { s with heap := h'', toks := tk + 1 } :=
      I.turnedNew (ch := [e, it]) (fun b ob hb q => (sb.2 b (fun z => hb (by simp [z]))).trans (hk b ob (fun z => hb (by simp [z])) (fun z => hb (by simp [z])) q)) hf (Nat.le_refl _) new
    refine ⟨.ref s.heap.objs.size, _, I1, rfl, ⟨_, x, rfl, I.hok.fresh (Nat.le_refl _), rfl, fun ys hy => by rw [I.tuple_inj hy hq]; exact hx⟩, ⟨⟨x', ?_⟩, hit'.at fun o q => (sb.2 it (Ne.symm hne)).trans q, hne, hea, hai⟩, fun b hb => ?_⟩
    · have e1 : ((i + 1 : Nat) : Int) = (i : Int) + 1 := by omega
      rw [e1]; exact he'
    · have hb' : b < s.heap.objs.size := by
        have e' : b = e ∨ b = it := by simpa using hb
        rcases e' with z | z
        · rw [z]; exact hel
        · rw [z]; exact hil
      rw [upd_ne (Nat.ne_of_lt hb')]
      exact (hf b hb).1
  done := by
    intro X hP hw hK hc i pins s σ H E I hf st hg
    subst hP hw hK
    obtain ⟨⟨old, he⟩, hit, hne, hea, hai⟩ := st
    obtain ⟨xs, hq, hx⟩ := hg
    obtain ⟨its, rv, p, hz⟩ := I.tuple hq
    obtain ⟨f0, f1, f2, f3, f4, f5⟩ := hf it (by simp)
    have hl := rv.length
    have hh : X.A.in1.handled = none := by have := I.ok.hd hc; simp [this]
    exact pyNext_enumT_end hh he hit p (by simp; omega) fun h' eb => ⟨rfl, I.turned (t' := s.toks) (fun b o hb q => eb b o hb q) f0 f1 f3 f4 f5⟩
  self := fun A i s Q E st h => let ⟨⟨_, he⟩, _⟩ := st; wpAny_pyIter_enum he h
/-- enumerate(x), x a list or a tuple -/
def iEnumA (K : PySem.W.Frag) (ta : TA) : TI := fun σ H R => ta σ H fun vs H1 => ∃ a xs, vs = [.ref a] ∧ ((SqL K H1 a xs ∧ R (Ite K a) H1) ∨ (SqT K H1 a xs ∧ R (IteT K a) H1))
theorem pi_enumA {X : Cx} {e : Expr} {ta : TA} {p pos tpos : Pos} {elts : List Expr} {kk : Nat} (hg : Gl X "enumerate") (hm : X.mg "enumerate" = none) (ha : PA X [e] ta) (hs : starEach [e] X.env = [(false, eval e X.env)] := by rfl) :
    PI X (.Tuple elts kk tpos) (.Call (.Name "enumerate" p) [e] [] pos) (iEnumA X.K ta) := by
  refine ⟨fun pins s σ H R I h => ?_⟩
  refine Call_ (ld_blt I hg hm boot_enumerate (PyProof.Rows.callWith_type1 (thn (ha.run pos pins s σ H _ I h) fun us s1 ⟨vs, H1, I1, r1, q1⟩ => ?_) hs rfl))
  obtain ⟨a, xs, ex, q⟩ := q1
  subst ex
  cases r1 with
  | cons r rr =>
    cases rr
    cases r
    have fresh : ∀ b, b = s1.heap.objs.size + 1 ∨ b = s1.heap.objs.size → s1.heap.objs.size ≤ b := fun b z => by
      rcases z with z | z
      · rw [z]; exact Nat.le_add_right _ _
      · rw [z]; exact Nat.le_refl _
    rcases q with ⟨hq, q⟩ | ⟨hq, q⟩
    · obtain ⟨its, rv, p', hz⟩ := I1.list hq
      refine call_enumerate_list p'.isList fun h' he hit hsz hk => wpAny_pyIter_enum he ?_
      have I2 : Inv X pins σ H1 { s1 with heap := h' } := I1.kept (t' := s1.toks) hk
      refine ⟨s1.heap.objs.size + 1, [s1.heap.objs.size + 1, s1.heap.objs.size], _, _, H1, rfl, I2, turn_enum a (s1.heap.objs.size + 1) s1.heap.objs.size, ⟨⟨.none, he⟩, hit, Nat.succ_ne_self _⟩, fun b hb => ?_, q⟩
      have hle := fresh b (by simpa using hb)
      exact I1.fpOk hle (I1.hok.fresh hle)
    · obtain ⟨its, rv, p', hz⟩ := I1.tuple hq
      have la : a < s1.heap.objs.size := by obtain ⟨o, ho, _⟩ := p'; exact Heap.lt_size ho
      refine call_enumerate_tup p' fun h' he hit hsz hk => wpAny_pyIter_enum he ?_
      have I2 : Inv X pins σ H1 { s1 with heap := h' } := I1.kept (t' := s1.toks) hk
      refine ⟨s1.heap.objs.size + 1, [s1.heap.objs.size + 1, s1.heap.objs.size], _, _, H1, rfl, I2, turn_enumT a (s1.heap.objs.size + 1) s1.heap.objs.size, ⟨⟨.none, he⟩, hit, Nat.succ_ne_self _, Nat.ne_of_gt (Nat.lt_succ_of_lt la), Nat.ne_of_lt la⟩, fun b hb => ?_, q⟩
      have hle := fresh b (by simpa using hb)
      exact I1.fpOk hle (I1.hok.fresh hle)
open PySem PySem.Spec PyProof.Rows L2
section
variable {S R : Type}
def iterN (f : S → S ⊕ R) : Nat → S → Option R
  | 0, _ => none
  | n + 1, s => match f s with
    | .inl s' => iterN f n s'
    | .inr r => some r
theorem iterN_succ {f : S → S ⊕ R} : ∀ {n : Nat} {s : S} {r : R}, iterN f n s = some r → iterN f (n + 1) s = some r
  | 0, _, _, h => by cases h
  | n + 1, s, r, h => by
    unfold iterN at h ⊢
    cases e : f s with
    | inl s' => rw [e] at h; exact iterN_succ (n := n) h
    | inr r' => rw [e] at h; exact h
theorem iterN_mono {f : S → S ⊕ R} {n m : Nat} {s : S} {r : R} (hm : n ≤ m) (h : iterN f n s = some r) : iterN f m s = some r := by
  induction hm with
  | refl => exact h
  | step _ ih => exact iterN_succ ih
theorem iterN_inj {f : S → S ⊕ R} {n m : Nat} {s : S} {r r' : R} (h : iterN f n s = some r) (h' : iterN f m s = some r') : r = r' := by
  have a := iterN_mono (Nat.le_max_left n m) h
  have b := iterN_mono (Nat.le_max_right n m) h'
  rw [a] at b; cases b; rfl
open Classical in
noncomputable def iter (f : S → S ⊕ R) (bad : R) (s : S) : R := if h : ∃ r n, iterN f n s = some r then h.choose else bad
theorem iter_of {f : S → S ⊕ R} {bad : R} {s : S} {r : R} {n : Nat} (h : iterN f n s = some r) : iter f bad s = r := by
  have e : ∃ r n, iterN f n s = some r := ⟨r, n, h⟩
  unfold iter
  rw [dif_pos e]
  obtain ⟨m, hm⟩ := e.choose_spec
  exact iterN_inj hm h
theorem iter_eq {f : S → S ⊕ R} {bad : R} {s : S} : iter f bad s = match f s with
    | .inl s' => iter f bad s'
    | .inr r => r := by
  cases e : f s with
  | inr r => exact iter_of (n := 1) (by unfold iterN; rw [e])
  | inl s' =>
    show iter f bad s = iter f bad s'
    by_cases h : ∃ r n, iterN f n s' = some r
    · obtain ⟨r, n, h⟩ := h
      rw [iter_of h]
      exact iter_of (n := n + 1) (by unfold iterN; rw [e]; exact h)
    · have h2 : ¬ ∃ r n, iterN f n s = some r := fun ⟨r, n, q⟩ => by
        cases n with
        | zero => cases q
        | succ n =>
          unfold iterN at q
          rw [e] at q
          exact h ⟨r, n, q⟩
      unfold iter
      rw [dif_neg h, dif_neg h2]
theorem iter_good {f : S → S ⊕ R} {bad : R} {s : S} (h : iter f bad s ≠ bad) : ∃ n, iterN f n s = some (iter f bad s) := by
  by_cases e : ∃ r n, iterN f n s = some r
  · obtain ⟨r, n, q⟩ := e
    exact ⟨n, by rw [iter_of q]; exact q⟩
  · unfold iter at h
    rw [dif_neg e] at h
    exact absurd rfl h
end
/-- at turn i: an item, or the end; none: the walk is broken -/
structure Src where nxt : Nat → Hs → Option (Option D)
def seqSrc (xs : List D) : Src := ⟨fun i _ => some xs[i]?⟩
def celSrc (n : Nat) : Src := ⟨fun i h => match h[n]? with
  | some (.lst xs) => some xs[i]?
  | _ => none⟩
def rngSrc (lo c : Int) (n : Nat) : Src := ⟨fun i _ => some (if i < n then some (.int (lo + (i : Nat) * c)) else none)⟩
def enuSrc (s : Src) : Src := ⟨fun i h => (s.nxt i h).map fun o => o.map fun d => .tup [.int (i : Nat), d]⟩
def zipSrc (s t : Src) : Src := ⟨fun i h => match s.nxt i h, t.nxt i h with
  | some (some x), some (some y) => if isPr x && isPr y then none else some (some (.tup [x, y]))
  | some _, some _ => some none
  | _, _ => none⟩
def srcOf (h : Hs) : D → Option Src
  | .tup xs => some (seqSrc xs)
  | .ls xs => some (seqSrc xs)
  | .str x => some (seqSrc (x.map fun c => .str [c]))
  | .ref n => match h[n]? with
    | some (.lst _) => some (celSrc n)
    | _ => none
  | _ => none
/-- a list: in the heap, or read only -/
def srcL (h : Hs) : D → Option Src
  | .ls xs => some (seqSrc xs)
  | .ref n => match h[n]? with
    | some (.lst _) => some (celSrc n)
    | _ => none
  | _ => none
/-- what enumerate goes over -/
def srcE (h : Hs) : D → Option Src
  | .tup xs => some (seqSrc xs)
  | d => srcL h d
theorem srcE_no {h : Hs} {d : D} {s : Src} (e : srcE h d = some s) (n : ¬ ∃ ys, d = .tup ys) : srcL h d = some s := by
  cases d with
  | tup ys => exact absurd ⟨ys, rfl⟩ n
  | _ => exact e
def srcT : D → Option Src
  | .tup xs => some (seqSrc xs)
  | _ => none
def zipOf (h : Hs) (x y : D) : Option Src := match srcL h x, srcL h y with
  | some s, some t => some (zipSrc s t)
  | _, _ => match srcT x, srcT y with
    | some s, some t => some (zipSrc s t)
    | _, _ => none
abbrev Sv := Env → Hs → Res Src
def vS (a : Ev) : Sv := fun env h => (a env h).bind fun d h1 => Res.of (srcOf h1 d) h1
def small (i : Int) : Bool := decide (-(2 ^ 62) ≤ i) && decide (i < 2 ^ 62)
def rng1Of : List D → Option Src
  | [.int j] => if small j = true then some (rngSrc 0 1 j.toNat) else none
  | _ => none
def rng2Of : List D → Option Src
  | [.int i, .int j] => if small i = true ∧ small j = true then some (rngSrc i 1 (j - i).toNat) else none
  | _ => none
/-- downwards, by one -/
def rng3Of : List D → Option Src
  | [.int i, .int j, .int c] => if small i = true ∧ small j = true ∧ c = -1 then some (rngSrc i (-1) (i - j).toNat) else none
  | _ => none
theorem rng1_inv {xs : List D} {s : Src} (h : rng1Of xs = some s) : ∃ j, xs = [.int j] ∧ small j = true ∧ s = rngSrc 0 1 j.toNat := by
  unfold rng1Of at h
  split at h
  · rename_i j
    split at h
    · rename_i c
      cases h
      exact ⟨j, rfl, c, rfl⟩
    · cases h
  · cases h
theorem rng2_inv {xs : List D} {s : Src} (h : rng2Of xs = some s) : ∃ i j, xs = [.int i, .int j] ∧ small i = true ∧ small j = true ∧ s = rngSrc i 1 (j - i).toNat := by
  unfold rng2Of at h
  split at h
  · rename_i i j
    split at h
    · rename_i c
      cases h
      exact ⟨i, j, rfl, c.1, c.2, rfl⟩
    · cases h
  · cases h
theorem rng3_inv {xs : List D} {s : Src} (h : rng3Of xs = some s) : ∃ i j, xs = [.int i, .int j, .int (-1)] ∧ small i = true ∧ small j = true ∧ s = rngSrc i (-1) (i - j).toNat := by
  unfold rng3Of at h
  split at h
  · rename_i i j c
    split at h
    · rename_i q
      cases h
      obtain ⟨a, b, rfl⟩ := q
      exact ⟨i, j, rfl, a, b, rfl⟩
    · cases h
  · cases h
def rS (as : Av) (g : List D → Option Src) : Sv := fun env h => (as env h).bind fun xs h1 => Res.of (g xs) h1
def eS (a : Ev) : Sv := fun env h => (a env h).bind fun d h1 => Res.of ((srcE h1 d).map enuSrc) h1
def zS (a b : Ev) : Sv := fun env h => (a env h).bind fun x h1 => (b env h1).bind fun y h2 => Res.of (zipOf h2 x y) h2
def revCel (n m : Nat) : Src := ⟨fun i h => if i < m then match h[n]? with
  | some (.lst ys) => (ys[m - 1 - i]?).map some
  | _ => none
else some none⟩
def revOf (h : Hs) : D → Option Src
  | .tup xs => some (seqSrc xs.reverse)
  | .ls xs => some (seqSrc xs.reverse)
  | .ref n => match h[n]? with
    | some (.lst xs) => some (revCel n xs.length)
    | _ => none
  | _ => none
def revS (a : Ev) : Sv := fun env h => (a env h).bind fun d h1 => Res.of (revOf h1 d) h1
/-- the iterator walks as the source says -/
def JRel (k : Kx) (F : List Addr) (H : Hp) (src : Src) (J : It) : Prop := ∀ (F' : List Addr) (h' : Hs) (H' : Hp) (i : Nat), Step k.K F H F' H' → RelH k F' H' h' →
  (src.nxt i h' = some none → J.stop i H') ∧
  ∀ d, src.nxt i h' = some (some d) → J.go i H' ∧ ∀ x H'', J.yld i H' x H'' → Step k.K F' H' F' H'' ∧ RelH k F' H'' h' ∧ DV k.K F' H'' d x
def tI (k : Kx) (W : WX) (f : Sv) : TI := fun σ H R => ∃ F h env, SR k F H h σ env ∧ Post k F H (fun src F' _ H' => ∀ J, JRel k F' H' src J → R J H') (fun c d H' => W c d σ H') (f env h)
theorem PI.imp {X : Cx} {tg e : Expr} {t t' : TI} (p : PI X tg e t) (h : ∀ σ H R, t' σ H R → t σ H R) : PI X tg e t' := ⟨fun pins s σ H R I q => p.run pins s σ H R I (h σ H R q)⟩
theorem PI.or {X : Cx} {tg e : Expr} {t t' : TI} (p : PI X tg e t) (p' : PI X tg e t') : PI X tg e (fun σ H R => t σ H R ∨ t' σ H R) := ⟨fun pins s σ H R I q => q.elim (p.run pins s σ H R I) (p'.run pins s σ H R I)⟩
section
variable {k : Kx} {F : List Addr} {H : Hp}
theorem jr_tup {xs : List D} {a : Addr} {vs : List V} (hq : TpR H a vs xs) (dv : DVs k.K F H xs vs) : JRel k F H (seqSrc xs) (Itt k.K a) := fun F' h' H' i s r => by
  have hq' : SqT k.K H' a vs := (hq.grow s.tup s.tfr).sqT
  have dv' := DVs.mono s _ _ dv
  refine ⟨fun e => ⟨vs, hq', ?_⟩, fun d e => ?_⟩
  · have e : xs[i]? = none := Option.some.inj e
    rw [← dv.len]; exact List.getElem?_eq_none_iff.mp e
  · have e : xs[i]? = some d := Option.some.inj e
    obtain ⟨v, ev, d1⟩ := dv'.get e
    refine ⟨⟨vs, v, hq', ev⟩, fun x H'' y => ?_⟩
    obtain ⟨rfl, y⟩ := y
    have z := y vs hq'
    rw [ev] at z; cases z
    exact ⟨.refl, r, d1⟩
theorem jr_lst {xs : List D} {a : Addr} {vs : List V} (hq : SqR k.K H a vs) (dv : DVs k.K F H xs vs) : JRel k F H (seqSrc xs) (Itl k.K a) := fun F' h' H' i s r => by
  have hq' := (s.lsr _ _ hq).sq
  have dv' := DVs.mono s _ _ dv
  refine ⟨fun e => ⟨vs, hq', ?_⟩, fun d e => ?_⟩
  · have e : xs[i]? = none := Option.some.inj e
    rw [← dv.len]; exact List.getElem?_eq_none_iff.mp e
  · have e : xs[i]? = some d := Option.some.inj e
    obtain ⟨v, ev, d1⟩ := dv'.get e
    refine ⟨⟨vs, v, hq', ev⟩, fun x H'' y => ?_⟩
    obtain ⟨rfl, y⟩ := y
    have z := y vs hq'
    rw [ev] at z; cases z
    exact ⟨.refl, r, d1⟩
theorem cel_at {n : Nat} {a : Addr} {h : Hs} {o : Option D} {i : Nat} (hf : F[n]? = some a) (r : RelH k F H h) (e : (celSrc n).nxt i h = some o) : ∃ xs vs, H a = some (.lst vs) ∧ DVs k.K F H xs vs ∧ xs[i]? = o := by
  have e : (match h[n]? with | some (.lst xs) => some xs[i]? | _ => none) = some o := e
  cases e1 : h[n]? with
  | none => rw [e1] at e; cases e
  | some c =>
    rw [e1] at e
    cases c with
    | lst xs =>
      obtain ⟨vs, q, dv⟩ := r.cell n _ a e1 hf
      exact ⟨xs, vs, q, dv, Option.some.inj e⟩
    | _ => cases e
theorem jr_cel {n : Nat} {a : Addr} (hf : F[n]? = some a) : JRel k F H (celSrc n) (Itl k.K a) := fun F' h' H' i s r => by
  refine ⟨fun e => ?_, fun d e => ?_⟩
  · obtain ⟨xs, vs, q, dv, e⟩ := cel_at (s.get hf) r e
    exact ⟨vs, SqL.of q, by rw [← dv.len]; exact List.getElem?_eq_none_iff.mp e⟩
  · obtain ⟨xs, vs, q, dv, e⟩ := cel_at (s.get hf) r e
    obtain ⟨v, ev, d1⟩ := dv.get e
    refine ⟨⟨vs, v, SqL.of q, ev⟩, fun x H'' y => ?_⟩
    obtain ⟨rfl, y⟩ := y
    have z := y vs (SqL.of q)
    rw [ev] at z; cases z
    exact ⟨.refl, r, d1⟩
theorem jr_rng {lo : Int} {n : Nat} : JRel k F H (rngSrc lo 1 n) (Itr lo n) := fun F' h' H' i s r => by
  refine ⟨fun e => ?_, fun d e => ?_⟩
  · have e : (if i < n then some (D.int (lo + (i : Nat) * 1)) else none) = none := Option.some.inj e
    show n ≤ i
    by_cases c : i < n
    · rw [if_pos c] at e; cases e
    · omega
  · have e : (if i < n then some (D.int (lo + (i : Nat) * 1)) else none) = some d := Option.some.inj e
    by_cases c : i < n
    · rw [if_pos c] at e; cases e
      refine ⟨c, fun x H'' y => ?_⟩
      obtain ⟨rfl, rfl⟩ := y
      refine ⟨.refl, r, ?_⟩
      rw [Int.mul_one]
      unfold DV; rfl
    · rw [if_neg c] at e; cases e
theorem jr_rngC {lo c : Int} {n : Nat} : JRel k F H (rngSrc lo c n) (Itc lo c n) := fun F' h' H' i s r => by
  refine ⟨fun e => ?_, fun d e => ?_⟩
  · have e : (if i < n then some (D.int (lo + (i : Nat) * c)) else none) = none := Option.some.inj e
    show n ≤ i
    by_cases c : i < n
    · rw [if_pos c] at e; cases e
    · omega
  · have e : (if i < n then some (D.int (lo + (i : Nat) * c)) else none) = some d := Option.some.inj e
    by_cases c : i < n
    · rw [if_pos c] at e; cases e
      refine ⟨c, fun x H'' y => ?_⟩
      obtain ⟨rfl, rfl⟩ := y
      refine ⟨.refl, r, ?_⟩
      unfold DV; rfl
    · rw [if_neg c] at e; cases e
theorem jr_str {x : List Nat} : JRel k F H (seqSrc (x.map fun c => .str [c])) (Its ⟨x.toArray⟩) := fun F' h' H' i s r => by
  refine ⟨fun e => ?_, fun d e => ?_⟩
  · have e : (x.map fun c => D.str [c])[i]? = none := Option.some.inj e
    show x.toArray.size ≤ i
    have := List.getElem?_eq_none_iff.mp e
    simpa using this
  · have e : (x.map fun c => D.str [c])[i]? = some d := Option.some.inj e
    rw [List.getElem?_map] at e
    obtain ⟨c, ec, rfl⟩ := Option.map_eq_some_iff.mp e
    refine ⟨?_, fun v H'' y => ?_⟩
    · show i < x.toArray.size
      have := (List.getElem?_eq_some_iff.mp ec).1
      simpa using this
    · obtain ⟨rfl, c', e1, rfl⟩ := y
      have e1 : x.toArray[i]? = some c' := e1
      have : x[i]? = some c' := by simpa using e1
      rw [ec] at this; cases this
      refine ⟨.refl, r, ?_⟩
      unfold DV; exact ⟨rfl, show 1 ≤ 16777216 by decide⟩
/-- a walk of a list, in new pairs -/
theorem DV.pair {F : List Addr} {H : Hp} {d1 d2 : D} {x y : V} {T : Addr} {h : Hs} (r : RelH k F H h) (hT : H T = none) (h1 : DV k.K F H d1 x) (h2 : DV k.K F H d2 y) (np : (isPr d1 && isPr d2) = false) : DV k.K F (upd H T (.tup [x, y])) (.tup [d1, d2]) (.ref T) := by
  have s := r.stepNew (o := .tup [x, y]) hT
  unfold DV
  exact ⟨T, [x, y], rfl, by unfold TpR; rw [if_neg (by show ¬ (isPr d1 && (isPr d2 && true)) = true; rw [Bool.and_true, np]; decide)]; exact upd_same, DVs.cons (DV.mono s _ _ h1) (DVs.cons (DV.mono s _ _ h2) DVs.nil)⟩
/-- what a list's source knows -/
def LsAt (k : Kx) (F : List Addr) (H : Hp) (src : Src) (a : Addr) : Prop := ∀ (F' : List Addr) (h' : Hs) (H' : Hp) (i : Nat) (o : Option D), Step k.K F H F' H' → RelH k F' H' h' → src.nxt i h' = some o → ∃ xs vs, SqL k.K H' a vs ∧ DVs k.K F' H' xs vs ∧ xs[i]? = o
theorem ls_at {h : Hs} {d : D} {v : V} {src : Src} (r : RelH k F H h) (dv : DV k.K F H d v) (e : srcL h d = some src) : ∃ a, v = .ref a ∧ (∃ vs, SqL k.K H a vs) ∧ LsAt k F H src a ∧ JRel k F H src (Itl k.K a) := by
  unfold srcL at e
  cases d with
  | ls xs =>
    cases e
    unfold DV at dv
    obtain ⟨a, vs, rfl, q, dvs⟩ := dv
    exact ⟨a, rfl, ⟨vs, q.sq⟩, fun F' h' H' i o s _ e => ⟨xs, vs, (s.lsr _ _ q).sq, DVs.mono s _ _ dvs, Option.some.inj e⟩, jr_lst q dvs⟩
  | ref n =>
    have e : (match h[n]? with | some (.lst _) => some (celSrc n) | _ => none) = some src := e
    cases e1 : h[n]? with
    | none => rw [e1] at e; cases e
    | some c =>
      rw [e1] at e
      cases c with
      | lst xs =>
        cases e
        obtain ⟨a, vs, rfl, hf, hl, dvs⟩ := r.lst e1 dv
        refine ⟨a, rfl, ⟨vs, SqL.of hl⟩, fun F' h' H' i o s r' e => ?_, jr_cel hf⟩
        obtain ⟨ys, ws, q, d2, e2⟩ := cel_at (s.get hf) r' e
        exact ⟨ys, ws, SqL.of q, d2, e2⟩
      | _ => cases e
  | _ => cases e
theorem jr_enu {src : Src} {a : Addr} (l : LsAt k F H src a) : JRel k F H (enuSrc src) (Ite k.K a) := fun F' h' H' i s r => by
  refine ⟨fun e => ?_, fun d e => ?_⟩
  · obtain ⟨o, e1, e2⟩ := Option.map_eq_some_iff.mp e
    have : o = none := by simpa using e2
    subst this
    obtain ⟨xs, vs, q, dv, e3⟩ := l F' h' H' i _ s r e1
    exact ⟨vs, q, by rw [← dv.len]; exact List.getElem?_eq_none_iff.mp e3⟩
  · obtain ⟨o, e1, e2⟩ := Option.map_eq_some_iff.mp e
    obtain ⟨d', rfl, rfl⟩ := Option.map_eq_some_iff.mp e2
    obtain ⟨xs, vs, q, dv, e3⟩ := l F' h' H' i _ s r e1
    obtain ⟨v, ev, d1⟩ := dv.get e3
    refine ⟨⟨vs, v, q, ev⟩, fun x H'' y => ?_⟩
    obtain ⟨T, z, rfl, hT, rfl, y⟩ := y
    have w := y vs q
    rw [ev] at w; cases w
    exact ⟨r.stepNew hT, r.addNew hT, DV.pair r hT (by unfold DV; rfl) d1 rfl⟩
theorem jr_enuT {xs : List D} {vs : List V} {a : Addr} (q : TpR H a vs xs) (dv : DVs k.K F H xs vs) : JRel k F H (enuSrc (seqSrc xs)) (IteT k.K a) := fun F' h' H' i s r => by
  have q : SqT k.K H' a vs := (q.grow s.tup s.tfr).sqT
  have dv := DVs.mono s _ _ dv
  refine ⟨fun e => ?_, fun d e => ?_⟩
  · have e : ((seqSrc xs).nxt i h').map (fun o => o.map fun d => D.tup [.int (i : Nat), d]) = some none := e
    obtain ⟨o, e1, e2⟩ := Option.map_eq_some_iff.mp e
    have : o = none := by simpa using e2
    subst this
    have e3 : xs[i]? = none := Option.some.inj e1
    exact ⟨vs, q, by rw [← dv.len]; exact List.getElem?_eq_none_iff.mp e3⟩
  · have e : ((seqSrc xs).nxt i h').map (fun o => o.map fun d => D.tup [.int (i : Nat), d]) = some (some d) := e
    obtain ⟨o, e1, e2⟩ := Option.map_eq_some_iff.mp e
    obtain ⟨d', rfl, rfl⟩ := Option.map_eq_some_iff.mp e2
    have e3 : xs[i]? = some d' := Option.some.inj e1
    obtain ⟨v, ev, d1⟩ := dv.get e3
    refine ⟨⟨vs, v, q, ev⟩, fun x H'' y => ?_⟩
    obtain ⟨T, z, rfl, hT, rfl, y⟩ := y
    have w := y vs q
    rw [ev] at w; cases w
    exact ⟨r.stepNew hT, r.addNew hT, DV.pair r hT (by unfold DV; rfl) d1 rfl⟩
theorem zip_none {s t : Src} {i : Nat} {h : Hs} (e : (zipSrc s t).nxt i h = some none) : ∃ o o', s.nxt i h = some o ∧ t.nxt i h = some o' ∧ (o = none ∨ o' = none) := by
  have e : (match s.nxt i h, t.nxt i h with | some (some x), some (some y) => if isPr x && isPr y then none else some (some (D.tup [x, y])) | some _, some _ => some none | _, _ => none) = some none := e
  cases e1 : s.nxt i h with
  | none => rw [e1] at e; cases e
  | some o =>
    cases e2 : t.nxt i h with
    | none => rw [e1, e2] at e; cases o <;> cases e
    | some o' =>
      rw [e1, e2] at e
      refine ⟨o, o', rfl, rfl, ?_⟩
      cases o with
      | none => exact .inl rfl
      | some x => cases o' with
        | none => exact .inr rfl
        | some y =>
          have e : (if isPr x && isPr y then none else some (some (D.tup [x, y]))) = some none := e
          cases c : (isPr x && isPr y) with
          | true => rw [c] at e; cases e
          | false => rw [c] at e; cases e
theorem zip_some {s t : Src} {i : Nat} {h : Hs} {d : D} (e : (zipSrc s t).nxt i h = some (some d)) : ∃ x y, s.nxt i h = some (some x) ∧ t.nxt i h = some (some y) ∧ d = .tup [x, y] ∧ (isPr x && isPr y) = false := by
  have e : (match s.nxt i h, t.nxt i h with | some (some x), some (some y) => if isPr x && isPr y then none else some (some (D.tup [x, y])) | some _, some _ => some none | _, _ => none) = some (some d) := e
  cases e1 : s.nxt i h with
  | none => rw [e1] at e; cases e
  | some o =>
    cases e2 : t.nxt i h with
    | none => rw [e1, e2] at e; cases o <;> cases e
    | some o' =>
      rw [e1, e2] at e
      cases o with
      | none => cases o' <;> cases e
      | some x => cases o' with
        | none => cases e
        | some y =>
          have e : (if isPr x && isPr y then none else some (some (D.tup [x, y]))) = some (some d) := e
          cases c : (isPr x && isPr y) with
          | true => rw [c] at e; cases e
          | false => rw [c] at e; cases e; exact ⟨x, y, rfl, rfl, rfl, c⟩
theorem jr_zip {s t : Src} {a b : Addr} (l : LsAt k F H s a) (l' : LsAt k F H t b) : JRel k F H (zipSrc s t) (Itz k.K a b) := fun F' h' H' i st r => by
  refine ⟨fun e => ?_, fun d e => ?_⟩
  · obtain ⟨o, o', e1, e2, c⟩ := zip_none e
    obtain ⟨xs, vs, q, dv, e3⟩ := l F' h' H' i _ st r e1
    obtain ⟨ys, ws, q', dv', e4⟩ := l' F' h' H' i _ st r e2
    refine ⟨vs, ws, q, q', ?_⟩
    rcases c with rfl | rfl
    · exact .inl (by rw [← dv.len]; exact List.getElem?_eq_none_iff.mp e3)
    · exact .inr (by rw [← dv'.len]; exact List.getElem?_eq_none_iff.mp e4)
  · obtain ⟨x, y, e1, e2, rfl, np⟩ := zip_some e
    obtain ⟨xs, vs, q, dv, e3⟩ := l F' h' H' i _ st r e1
    obtain ⟨ys, ws, q', dv', e4⟩ := l' F' h' H' i _ st r e2
    obtain ⟨v, ev, d1⟩ := dv.get e3
    obtain ⟨w, ew, d2⟩ := dv'.get e4
    refine ⟨⟨vs, ws, v, w, q, q', ev, ew⟩, fun z H'' yl => ?_⟩
    obtain ⟨T, p1, p2, rfl, hT, rfl, y1, y2⟩ := yl
    have w1 := y1 vs q
    have w2 := y2 ws q'
    rw [ev] at w1; cases w1
    rw [ew] at w2; cases w2
    exact ⟨r.stepNew hT, r.addNew hT, DV.pair r hT d1 d2 np⟩
theorem jr_zipT {xs ys : List D} {vs ws : List V} {a b : Addr} (q : TpR H a vs xs) (q' : TpR H b ws ys) (dv : DVs k.K F H xs vs) (dv' : DVs k.K F H ys ws) : JRel k F H (zipSrc (seqSrc xs) (seqSrc ys)) (RZ.ItzT k.K a b) := fun F' h' H' i st r => by
  have q : SqT k.K H' a vs := (q.grow st.tup st.tfr).sqT
  have q' : SqT k.K H' b ws := (q'.grow st.tup st.tfr).sqT
  have dv := DVs.mono st _ _ dv
  have dv' := DVs.mono st _ _ dv'
  refine ⟨fun e => ?_, fun d e => ?_⟩
  · obtain ⟨o, o', e1, e2, c⟩ := zip_none e
    have e3 : xs[i]? = o := Option.some.inj e1
    have e4 : ys[i]? = o' := Option.some.inj e2
    refine ⟨vs, ws, q, q', ?_⟩
    rcases c with rfl | rfl
    · exact .inl (by rw [← dv.len]; exact List.getElem?_eq_none_iff.mp e3)
    · exact .inr (by rw [← dv'.len]; exact List.getElem?_eq_none_iff.mp e4)
  · obtain ⟨x, y, e1, e2, rfl, np⟩ := zip_some e
    have e3 : xs[i]? = some x := Option.some.inj e1
    have e4 : ys[i]? = some y := Option.some.inj e2
    obtain ⟨v, ev, d1⟩ := dv.get e3
    obtain ⟨w, ew, d2⟩ := dv'.get e4
    refine ⟨⟨vs, ws, v, w, q, q', ev, ew⟩, fun z H'' yl => ?_⟩
    obtain ⟨T, p1, p2, rfl, hT, rfl, y1, y2⟩ := yl
    have w1 := y1 vs q
    have w2 := y2 ws q'
    rw [ev] at w1; cases w1
    rw [ew] at w2; cases w2
    exact ⟨r.stepNew hT, r.addNew hT, DV.pair r hT d1 d2 np⟩
theorem jr_revT {xs : List D} {a : Addr} {vs : List V} (hq : TpR H a vs xs) (dv : DVs k.K F H xs vs) : JRel k F H (seqSrc xs.reverse) (RT.ItvT k.K a vs.length) := fun F' h' H' i s r => by
  have hq' : SqT k.K H' a vs := (hq.grow s.tup s.tfr).sqT
  have dv' := DVs.mono s _ _ dv
  have hl := dv.len
  refine ⟨fun e => ?_, fun d e => ?_⟩
  · have e : xs.reverse[i]? = none := Option.some.inj e
    have := List.getElem?_eq_none_iff.mp e
    rw [List.length_reverse] at this
    show vs.length ≤ i
    omega
  · have e : xs.reverse[i]? = some d := Option.some.inj e
    have hi : i < xs.length := by have := (List.getElem?_eq_some_iff.mp e).1; simpa using this
    rw [List.getElem?_reverse hi] at e
    obtain ⟨v, ev, d1⟩ := dv'.get e
    rw [hl] at ev
    refine ⟨⟨by omega, vs, v, hq', ev⟩, fun x H'' y => ?_⟩
    obtain ⟨rfl, y⟩ := y
    have z := y vs hq'
    rw [ev] at z; cases z
    exact ⟨.refl, r, d1⟩
theorem jr_revL {xs : List D} {a : Addr} {vs : List V} (hq : SqR k.K H a vs) (dv : DVs k.K F H xs vs) : JRel k F H (seqSrc xs.reverse) (Itv k.K a vs.length) := fun F' h' H' i s r => by
  have hq' := (s.lsr _ _ hq).sq
  have dv' := DVs.mono s _ _ dv
  have hl := dv.len
  refine ⟨fun e => ?_, fun d e => ?_⟩
  · have e : xs.reverse[i]? = none := Option.some.inj e
    have := List.getElem?_eq_none_iff.mp e
    rw [List.length_reverse] at this
    show vs.length ≤ i
    omega
  · have e : xs.reverse[i]? = some d := Option.some.inj e
    have hi : i < xs.length := by have := (List.getElem?_eq_some_iff.mp e).1; simpa using this
    rw [List.getElem?_reverse hi] at e
    obtain ⟨v, ev, d1⟩ := dv'.get e
    rw [hl] at ev
    refine ⟨⟨by omega, vs, v, hq', ev⟩, fun x H'' y => ?_⟩
    obtain ⟨rfl, y⟩ := y
    have z := y vs hq'
    rw [ev] at z; cases z
    exact ⟨.refl, r, d1⟩
end
section
variable {X : Cx} {k : Kx} {W : WX} {a b tg : Expr} {fa fb : Ev} {pos : Pos} {fr : Av}
theorem mi_val (hK : X.K = k.K) (ha : PE X a (tE k W fa)) : PI X tg a (tI k W (vS fa)) := by
  refine PI.imp (PI.or (pi_list ha) (PI.or (pi_tup ha) (pi_str ha))) fun σ H R p => ?_
  obtain ⟨F, h, env, sr, p⟩ := p
  have p : Post k F H (fun src F' _ H' => ∀ J, JRel k F' H' src J → R J H') (fun c d H' => W c d σ H') ((fa env h).bind fun d h1 => Res.of (srcOf h1 d) h1) := p
  cases e : fa env h with
  | bad => rw [e] at p; exact p.elim
  | exc x h1 => rw [e] at p; exact .inl ⟨F, h, env, sr, by rw [e]; exact p⟩
  | ok d h1 =>
    rw [e] at p
    have p : Post k F H (fun src F' _ H' => ∀ J, JRel k F' H' src J → R J H') (fun c d H' => W c d σ H') (Res.of (srcOf h1 d) h1) := p
    cases es : srcOf h1 d with
    | none => rw [es] at p; exact p.elim
    | some src =>
      rw [es] at p
      have p : ∀ F' H', Step k.K F H F' H' → RelH k F' H' h1 → ∀ J, JRel k F' H' src J → R J H' := p
      cases d with
      | tup xs =>
        cases es
        refine .inr (.inl ⟨F, h, env, sr, ?_⟩)
        rw [e]
        intro F' H' s r v dv
        unfold DV at dv
        obtain ⟨a, vs, rfl, q, dvs⟩ := dv
        exact ⟨a, rfl, ⟨vs, by rw [hK]; exact q.sqT⟩, by rw [hK]; exact p F' H' s r _ (jr_tup q dvs)⟩
      | ls xs =>
        cases es
        refine .inl ⟨F, h, env, sr, ?_⟩
        rw [e]
        intro F' H' s r v dv
        unfold DV at dv
        obtain ⟨a, vs, rfl, q, dvs⟩ := dv
        exact ⟨a, rfl, ⟨vs, by rw [hK]; exact q.sq⟩, by rw [hK]; exact p F' H' s r _ (jr_lst q dvs)⟩
      | ref n =>
        have es : (match h1[n]? with | some (.lst _) => some (celSrc n) | _ => none) = some src := es
        cases e1 : h1[n]? with
        | none => rw [e1] at es; cases es
        | some c =>
          rw [e1] at es
          cases c with
          | lst xs =>
            cases es
            refine .inl ⟨F, h, env, sr, ?_⟩
            rw [e]
            intro F' H' s r v dv
            obtain ⟨a, vs, rfl, hf, hl, dvs⟩ := r.lst e1 dv
            exact ⟨a, rfl, ⟨vs, SqL.of hl⟩, by rw [hK]; exact p F' H' s r _ (jr_cel hf)⟩
          | _ => cases es
      | str x =>
        cases es
        refine .inr (.inr ⟨F, h, env, sr, ?_⟩)
        rw [e]
        intro F' H' s r v dv
        unfold DV at dv
        obtain ⟨rfl, _⟩ := dv
        exact ⟨_, rfl, p F' H' s r _ jr_str⟩
      | _ => cases es
theorem small_ok {i : Int} (h : small i = true) : -(2 ^ 62) ≤ i ∧ i < 2 ^ 62 := by
  unfold small at h
  simpa using h
theorem DVs.intL {K F H} : ∀ {js : List Int} {vs : List V}, DVs K F H (js.map D.int) vs → vs = js.map V.int
  | [], vs, h => by unfold List.map DVs at h; exact h
  | j :: js, vs, h => by
    unfold List.map DVs at h
    obtain ⟨v, r, rfl, d1, d2⟩ := h
    rw [d1.intV, DVs.intL d2]; rfl
theorem Post.ofOpt {α : Type} {F H h} {P : α → List Addr → Hs → Hp → Prop} {W' : Value → Option Addr → Hp → Prop} {o : Option α} (p : Post k F H P W' (Res.of o h)) (r : RelH k F H h) : ∃ a, o = some a ∧ P a F h H := by
  cases o with
  | none => exact p.elim
  | some a => exact ⟨a, rfl, p F H .refl r⟩
theorem mi_rng1 {p1 : Pos} {c : Expr} (hg : Gl X "range") (hm : X.mg "range" = none) (ha : PA X [c] (tA k W fr)) (hs : starEach [c] X.env = [(false, eval c X.env)]) : PI X tg (.Call (.Name "range" p1) [c] [] pos) (tI k W (rS fr rng1Of)) := by
  refine PI.imp (pi_range1 hg hm ha hs) fun σ H R p => ?_
  obtain ⟨F, h, env, sr, p⟩ := p
  refine ⟨F, h, env, sr, p.bind.imp (fun ds F' h' H' st rl q vs dvs => ?_) fun _ _ _ x => x⟩
  obtain ⟨src, e, q⟩ := Post.ofOpt q rl
  obtain ⟨j, rfl, c, rfl⟩ := rng1_inv e
  obtain rfl := DVs.intL (js := [j]) dvs
  exact ⟨j, rfl, (small_ok c).1, (small_ok c).2, q _ jr_rng⟩
theorem mi_rng2 {p1 : Pos} {c d : Expr} (hg : Gl X "range") (hm : X.mg "range" = none) (ha : PA X [c, d] (tA k W fr)) (hs : starEach [c, d] X.env = [(false, eval c X.env), (false, eval d X.env)]) (hs2 : starEach [d] X.env = [(false, eval d X.env)]) : PI X tg (.Call (.Name "range" p1) [c, d] [] pos) (tI k W (rS fr rng2Of)) := by
  refine PI.imp (pi_range2 hg hm ha hs hs2) fun σ H R p => ?_
  obtain ⟨F, h, env, sr, p⟩ := p
  refine ⟨F, h, env, sr, p.bind.imp (fun ds F' h' H' st rl q vs dvs => ?_) fun _ _ _ x => x⟩
  obtain ⟨src, e, q⟩ := Post.ofOpt q rl
  obtain ⟨i, j, rfl, c, d, rfl⟩ := rng2_inv e
  obtain rfl := DVs.intL (js := [i, j]) dvs
  exact ⟨i, j, rfl, ⟨(small_ok c).1, (small_ok c).2, (small_ok d).1, (small_ok d).2⟩, q _ jr_rng⟩
theorem mi_rng3 {p1 : Pos} {c d e : Expr} (hg : Gl X "range") (hm : X.mg "range" = none) (ha : PA X [c, d, e] (tA k W fr)) (hs : starEach [c, d, e] X.env = (false, eval c X.env) :: starEach [d, e] X.env) (hpl : (backTo pos (starEach [d, e] X.env)).any (·.1) = false) : PI X tg (.Call (.Name "range" p1) [c, d, e] [] pos) (tI k W (rS fr rng3Of)) := by
  refine PI.imp (pi_range3 hg hm ha hs hpl) fun σ H R p => ?_
  obtain ⟨F, h, env, sr, p⟩ := p
  refine ⟨F, h, env, sr, p.bind.imp (fun ds F' h' H' st rl q vs dvs => ?_) fun _ _ _ x => x⟩
  obtain ⟨src, e, q⟩ := Post.ofOpt q rl
  obtain ⟨i, j, rfl, c, d, rfl⟩ := rng3_inv e
  obtain rfl := DVs.intL (js := [i, j, -1]) dvs
  exact ⟨i, j, -1, _, rfl, RgC.neg (small_ok c).1 (small_ok c).2 (small_ok d).1 (small_ok d).2, q _ jr_rngC⟩
theorem mi_enu {p1 tpos : Pos} {elts : List Expr} {kk : Nat} (hK : X.K = k.K) (hg : Gl X "enumerate") (hm : X.mg "enumerate" = none) (ha : PA X [a] (tA k W (aCons fa aNil))) (hs : starEach [a] X.env = [(false, eval a X.env)]) : PI X (.Tuple elts kk tpos) (.Call (.Name "enumerate" p1) [a] [] pos) (tI k W (eS fa)) := by
  refine PI.imp (pi_enumA hg hm ha hs) fun σ H R p => ?_
  obtain ⟨F, h, env, sr, p⟩ := p
  refine ⟨F, h, env, sr, ?_⟩
  have p : Post k F H (fun src F' _ H' => ∀ J, JRel k F' H' src J → R J H') (fun c d H' => W c d σ H') ((fa env h).bind fun d h1 => Res.of ((srcE h1 d).map enuSrc) h1) := p
  show Post k F H _ _ ((fa env h).bind fun x h1 => (aNil env h1).bind fun xs h2 => .ok (x :: xs) h2)
  cases e : fa env h with
  | bad => rw [e] at p; exact p.elim
  | exc x h1 => rw [e] at p; exact p
  | ok d h1 =>
    rw [e] at p
    intro F' H' s r vs dvs
    obtain ⟨src, e2, q⟩ := Post.ofOpt (Post.step p s) r
    obtain ⟨s0, e3, rfl⟩ := Option.map_eq_some_iff.mp e2
    unfold DVs at dvs
    obtain ⟨v, w, rfl, d1, d2⟩ := dvs
    unfold DVs at d2
    subst d2
    by_cases ct : ∃ ys, d = .tup ys
    · obtain ⟨ys, rfl⟩ := ct
      cases e3
      unfold DV at d1
      obtain ⟨a, ws, rfl, q', dvs⟩ := d1
      exact ⟨a, ws, rfl, .inr ⟨by rw [hK]; exact q'.sqT, by rw [hK]; exact q _ (jr_enuT q' dvs)⟩⟩
    · have e3 := srcE_no e3 ct
      obtain ⟨a, rfl, ⟨ws, hq⟩, l, _⟩ := ls_at r d1 e3
      exact ⟨a, ws, rfl, .inl ⟨by rw [hK]; exact hq, by rw [hK]; exact q _ (jr_enu l)⟩⟩
theorem mi_zip {p1 tpos : Pos} {elts : List Expr} {kk : Nat} (hK : X.K = k.K) (hg : Gl X "zip") (hm : X.mg "zip" = none) (ha : PA X [a, b] (tA k W (aCons fa (aCons fb aNil)))) (hs : starEach [a, b] X.env = (false, eval a X.env) :: starEach [b] X.env) (hpl : (backTo pos (starEach [b] X.env)).any (·.1) = false) : PI X (.Tuple elts kk tpos) (.Call (.Name "zip" p1) [a, b] [] pos) (tI k W (zS fa fb)) := by
  refine PI.imp (RZ.pi_zipA hg hm ha hs hpl) fun σ H R p => ?_
  obtain ⟨F, h, env, sr, p⟩ := p
  refine ⟨F, h, env, sr, ?_⟩
  have p : Post k F H (fun src F' _ H' => ∀ J, JRel k F' H' src J → R J H') (fun c d H' => W c d σ H') ((fa env h).bind fun x h1 => (fb env h1).bind fun y h2 => Res.of (zipOf h2 x y) h2) := p
  show Post k F H _ _ ((fa env h).bind fun x h1 => ((fb env h1).bind fun y h2 => (aNil env h2).bind fun xs h3 => .ok (y :: xs) h3).bind fun xs h2 => .ok (x :: xs) h2)
  cases e : fa env h with
  | bad => rw [e] at p; exact p.elim
  | exc x h1 => rw [e] at p; exact p
  | ok d h1 =>
    rw [e] at p
    have p : Post k F H (fun src F' _ H' => ∀ J, JRel k F' H' src J → R J H') (fun c d H' => W c d σ H') ((fb env h1).bind fun y h2 => Res.of (zipOf h2 d y) h2) := p
    show Post k F H _ _ (((fb env h1).bind fun y h2 => (aNil env h2).bind fun xs h3 => .ok (y :: xs) h3).bind fun xs h2 => .ok (d :: xs) h2)
    cases e' : fb env h1 with
    | bad => rw [e'] at p; exact p.elim
    | exc x h2 => rw [e'] at p; exact p
    | ok d' h2 =>
      rw [e'] at p
      intro F' H' s r vs dvs
      obtain ⟨src, e2, q⟩ := Post.ofOpt (Post.step p s) r
      unfold DVs at dvs
      obtain ⟨v, w, rfl, d1, d2⟩ := dvs
      unfold DVs at d2
      obtain ⟨v', w', rfl, d3, d4⟩ := d2
      unfold DVs at d4
      subst d4
      unfold zipOf at e2
      split at e2
      · rename_i s1 s2 z1 z2
        cases e2
        obtain ⟨a, rfl, ⟨ws, hq⟩, l, _⟩ := ls_at r d1 z1
        obtain ⟨a', rfl, ⟨ws', hq'⟩, l', _⟩ := ls_at r d3 z2
        exact ⟨a, a', ws, ws', rfl, .inl (by rw [hK]; exact ⟨hq, hq', q _ (jr_zip l l')⟩)⟩
      · split at e2
        · rename_i s1 s2 z1 z2
          cases e2
          unfold srcT at z1 z2
          split at z1
          · split at z2
            · cases z1; cases z2
              unfold DV at d1 d3
              obtain ⟨a, us, rfl, q1, dv1⟩ := d1
              obtain ⟨a', us', rfl, q2, dv2⟩ := d3
              exact ⟨a, a', us, us', rfl, .inr (by rw [hK]; exact ⟨q1.sqT, q2.sqT, q _ (jr_zipT q1 q2 dv1 dv2)⟩)⟩
            · cases z2
          · cases z1
        · cases e2
theorem mi_rev {p1 : Pos} (hK : X.K = k.K) (hg : Gl X "reversed") (hm : X.mg "reversed" = none) (ha : PE X a (tE k W fa)) (hs : starEach [a] X.env = (false, eval a X.env) :: starEach [] X.env) : PI X tg (.Call (.Name "reversed" p1) [a] [] pos) (tI k W (revS fa)) := by
  refine PI.imp (RT.pi_revA hg hm ha hs) fun σ H R p => ?_
  obtain ⟨F, h, env, sr, p⟩ := p
  refine ⟨F, h, env, sr, p.bind.imp (fun d F' h' H' st rl q v dv => ?_) fun _ _ _ x => x⟩
  obtain ⟨src, e, q⟩ := Post.ofOpt q rl
  cases d with
  | tup xs =>
    cases e
    unfold DV at dv
    obtain ⟨a, us, rfl, q1, dv1⟩ := dv
    exact ⟨a, us, rfl, .inr (by rw [hK]; exact ⟨q1.sqT, q _ (jr_revT q1 dv1)⟩)⟩
  | ls xs =>
    cases e
    unfold DV at dv
    obtain ⟨a, us, rfl, q1, dv1⟩ := dv
    exact ⟨a, us, rfl, .inl (by rw [hK]; exact ⟨q1.sq, q _ (jr_revL q1 dv1)⟩)⟩
  | ref n =>
    have e : (match h'[n]? with | some (.lst xs) => some (revCel n xs.length) | _ => none) = some src := e
    cases e1 : h'[n]? with
    | none => rw [e1] at e; cases e
    | some c =>
      rw [e1] at e
      cases c with
      | lst xs =>
        cases e
        obtain ⟨a, us, rfl, hf, hl, dvs⟩ := rl.lst e1 dv
        refine ⟨a, us, rfl, .inl ⟨by rw [hK]; exact SqL.of hl, ?_⟩⟩
        rw [hK]
        refine q _ fun F2 h2 H2 i s2 r2 => ⟨fun e => ?_, fun d e => ?_⟩
        · show us.length ≤ i
          rw [← dvs.len]
          unfold revCel at e
          by_cases c : i < xs.length
          · simp only [if_pos c] at e
            split at e
            · rename_i ys _
              cases e4 : ys[xs.length - 1 - i]? with
              | none => rw [e4] at e; cases e
              | some y => rw [e4] at e; cases e
            · cases e
          · omega
        · unfold revCel at e
          by_cases c : i < xs.length
          · simp only [if_pos c] at e
            split at e
            · rename_i ys e2
              cases e4 : ys[xs.length - 1 - i]? with
              | none => rw [e4] at e; cases e
              | some y =>
                rw [e4] at e; cases e
                obtain ⟨ws, q2, d2⟩ := r2.cell n _ a e2 (s2.get hf)
                obtain ⟨w, ew, dw⟩ := d2.get e4
                rw [dvs.len] at ew
                refine ⟨⟨by rw [← dvs.len]; exact c, ws, w, SqL.of q2, ew⟩, fun x H'' y => ?_⟩
                obtain ⟨rfl, y⟩ := y
                have z := y ws (SqL.of q2)
                rw [ew] at z; cases z
                exact ⟨.refl, r2, dw⟩
            · cases e
          · simp only [if_neg c] at e; cases e
      | _ => cases e
  | _ => cases e
end
open PySem PySem.Spec PyProof.Rows L2
abbrev Sf := Env → Hs → Fl
def Fl.nxt (f : Fl) (g : Sf) : Fl := match f with
  | .nx env h => g env h
  | f => f
def Res.fl {α : Type} (r : Res α) (env : Env) (f : α → Hs → Fl) : Fl := match r with
  | .ok a h => f a h
  | .exc e h => .exc e env h
  | .bad => .bad
section
variable {α : Type}
@[simp] theorem Res.fl_ok (a : α) (h : Hs) (env : Env) (f : α → Hs → Fl) : (Res.ok a h).fl env f = f a h := rfl
@[simp] theorem Res.fl_exc (e : Ex) (h : Hs) (env : Env) (f : α → Hs → Fl) : (Res.exc e h : Res α).fl env f = .exc e env h := rfl
@[simp] theorem Res.fl_bad (env : Env) (f : α → Hs → Fl) : (Res.bad : Res α).fl env f = .bad := rfl
@[simp] theorem Fl.nxt_nx (env : Env) (h : Hs) (g : Sf) : (Fl.nx env h).nxt g = g env h := rfl
@[simp] theorem Fl.nxt_rt (d : D) (h : Hs) (g : Sf) : (Fl.rt d h).nxt g = .rt d h := rfl
@[simp] theorem Fl.nxt_bk (env : Env) (h : Hs) (g : Sf) : (Fl.bk env h).nxt g = .bk env h := rfl
@[simp] theorem Fl.nxt_ct (env : Env) (h : Hs) (g : Sf) : (Fl.ct env h).nxt g = .ct env h := rfl
@[simp] theorem Fl.nxt_exc (e : Ex) (env : Env) (h : Hs) (g : Sf) : (Fl.exc e env h).nxt g = .exc e env h := rfl
@[simp] theorem Fl.nxt_bad (g : Sf) : Fl.bad.nxt g = .bad := rfl
end
def nextF : Sf := fun env h => .nx env h
def seqF (s t : Sf) : Sf := fun env h => (s env h).nxt t
def dropF (a : Ev) : Sf := fun env h => (a env h).fl env fun _ h1 => .nx env h1
def retF (a : Ev) : Sf := fun env h => (a env h).fl env fun d h1 => .rt d h1
def retNF : Sf := fun _ h => .rt .non h
def bkF : Sf := fun env h => .bk env h
def ctF : Sf := fun env h => .ct env h
def ifF (c : Ev) (s t : Sf) : Sf := fun env h => (tst c env h).fl env fun b h1 => if b then s env h1 else t env h1
def asgF (a : Ev) (g : Gv) : Sf := fun env h => (a env h).fl env fun d h1 => (g d env h1).fl env fun env' h2 => .nx env' h2
def parSet : List Nat → List D → Env → Option Env
  | [], [], env => some env
  | i :: is, d :: ds, env => parSet is ds (env.set i (some d))
  | _, _, _ => none
/-- a, b = x, y of plain locals -/
def parF (is : List Nat) (as : Av) : Sf := fun env h => (as env h).fl env fun ds h1 => match parSet is ds env with
  | some env' => .nx env' h1
  | none => .bad
def augF (i : Nat) (a : Ev) (g : Hs → D → D → Res D) : Sf := fun env h => match env[i]? with
  | some (some x) => (a env h).fl env fun y h1 => (g h1 x y).fl env fun z h2 => .nx (env.set i (some z)) h2
  | _ => .bad
section
variable {X : Cx} {k : Kx} {W : WX} {pos : Pos} {e : Expr} {fa : Ev} {st : Stmt} {rest : List Stmt} {fs ft : Sf}
/-- a statement's end by a part's -/
theorem fl_post {α : Type} {F H h σ env} {N : Ends} {r : Res α} {f : α → Hs → Fl} (sr : SR k F H h σ env) (p : PostF k F H N W (r.fl env f)) : Post k F H (fun a F' h' H' => Step k.K F H F' H' ∧ RelH k F' H' h' ∧ PostF k F' H' N W (f a h')) (fun c d H' => W c d σ H') r := by
  cases r with
  | ok a h1 => exact fun F' H' s r => ⟨s, r, PostF.step (fl := f a h1) p s⟩
  | exc x h1 => exact fun F' H' cls dx s r xr => p F' H' σ cls dx s r (sr.er.mono s) xr
  | bad => exact p
theorem ms_nil : PSs X [] (tS k W nextF) := PSs.imp pss_nil fun N σ H p => by
  obtain ⟨F, h, env, sr, p⟩ := p
  exact p F H σ .refl sr.rel sr.er
theorem ms_cons (h1 : PS X st (tS k W fs)) (h2 : PSs X rest (tS k W ft)) : PSs X (st :: rest) (tS k W (seqF fs ft)) := by
  refine PSs.imp (pss_cons h1 h2) fun N σ H p => ?_
  obtain ⟨F, h, env, sr, p⟩ := p
  refine ⟨F, h, env, sr, ?_⟩
  have p : PostF k F H N W ((fs env h).nxt ft) := p
  cases e : fs env h with
  | nx env' h' =>
    rw [e] at p
    exact fun F' H' σ' s r er => ⟨F', h', env', ⟨r, er, sr.xd.mono s⟩, PostF.step (fl := ft env' h') p s⟩
  | rt d h' => rw [e] at p; exact p
  | bk env' h' => rw [e] at p; exact p
  | ct env' h' => rw [e] at p; exact p
  | exc x env' h' => rw [e] at p; exact p
  | bad => rw [e] at p; exact p
theorem ms_one (h1 : PS X st (tS k W fs)) : PSs X [st] (tS k W fs) := pss_one h1
theorem ms_pass : PS X (.Pass pos) (tS k W nextF) := PS.imp ps_pass fun N σ H p => by
  obtain ⟨F, h, env, sr, p⟩ := p
  exact p F H σ .refl sr.rel sr.er
theorem ms_break : PS X (.Break pos) (tS k W bkF) := PS.imp ps_break fun N σ H p => by
  obtain ⟨F, h, env, sr, p⟩ := p
  exact p F H σ .refl sr.rel sr.er
theorem ms_continue : PS X (.Continue pos) (tS k W ctF) := PS.imp ps_continue fun N σ H p => by
  obtain ⟨F, h, env, sr, p⟩ := p
  exact p F H σ .refl sr.rel sr.er
theorem ms_expr (he : PE X e (tE k W fa)) (hs : swapsWith e none pos.line X.env = pure false) : PS X (.Expr e pos) (tS k W (dropF fa)) := PS.imp (ps_expr he hs) fun N σ H p => by
  obtain ⟨F, h, env, sr, p⟩ := p
  exact ⟨F, h, env, sr, (fl_post sr p).imp (fun d F' h' H' _ _ q v dv => q.2.2 F' H' σ .refl q.2.1 (sr.er.mono q.1)) fun _ _ _ x => x⟩
theorem ms_ret (he : PE X e (tE k W fa)) : PS X (.Return (some e) pos) (tS k W (retF fa)) := PS.imp (ps_ret he) fun N σ H p => by
  obtain ⟨F, h, env, sr, p⟩ := p
  exact ⟨F, h, env, sr, (fl_post sr p).imp (fun d F' h' H' _ _ q v dv => q.2.2 F' H' v .refl q.2.1 dv) fun _ _ _ x => x⟩
theorem ms_retN : PS X (.Return none pos) (tS k W retNF) := PS.imp ps_retN fun N σ H p => by
  obtain ⟨F, h, env, sr, p⟩ := p
  exact p F H .non .refl sr.rel (by unfold DV; rfl)
theorem ms_if {c : Expr} {fc : Ev} {a b : List Stmt} (hc : PT X c (tT k W (tst fc))) (ha : PSs X a (tS k W fs)) (hb : PSs X b (tS k W ft)) : PS X (.If c a b pos) (tS k W (ifF fc fs ft)) := PS.imp (ps_if hc ha hb) fun N σ H p => by
  obtain ⟨F, h, env, sr, p⟩ := p
  refine ⟨F, h, env, sr, (fl_post sr p).imp (fun b F' h' H' _ _ q => ?_) fun _ _ _ x => x⟩
  obtain ⟨s, r, q⟩ := q
  cases b with
  | true => exact ⟨F', h', env, sr.step s r, q⟩
  | false => exact ⟨F', h', env, sr.step s r, q⟩
theorem ms_asg {tg : Expr} {g : Gv} (he : PE X e (tE k W fa)) (hg : PG X tg (tG k W g)) (hs : swapsWithSole [tg] e pos.line X.env = pure false) (hw : swappedStores [tg] e X.env = pure none)
    (h1 : (assignEach [tg] X.env).map (·.2) = [assign tg X.env]) : PS X (.Assign [tg] e pos) (tS k W (asgF fa g)) := PS.imp (ps_asg he hg hs hw h1) fun N σ H p => by
  obtain ⟨F, h, env, sr, p⟩ := p
  refine ⟨F, h, env, sr, (fl_post sr p).imp (fun d F' h' H' _ _ q v dv => ?_) fun _ _ _ x => x⟩
  obtain ⟨s, r, q⟩ := q
  have sr' := sr.step s r
  exact ⟨F', h', env, d, sr', dv, (fl_post sr' q).imp (fun env' F2 h2 H2 _ _ q σ' er => q.2.2 F2 H2 σ' .refl q.2.1 er) fun _ _ _ x => x⟩
theorem ms_par {i j : Nat} {x y : Str} {a b : Expr} {fr : Av} {px py pt : Pos} {kt k2 pt2} (hc : X.calm = true) (hN : X.N.Nodup) (hi : X.N[i]? = some x) (hj : X.N[j]? = some y) (hij : i ≠ j)
    (hx : X.env.scope.names.lookup x = some .local) (hy : X.env.scope.names.lookup y = some .local) (ha : PA X [a, b] (tA k W fr))
    (hw : swappedStores [.Tuple [.Name x px, .Name y py] kt pt] (.Tuple [a, b] k2 pt2) X.env = pure (some [x, y]))
    (hs : swapsWithSole [.Tuple [.Name x px, .Name y py] kt pt] (.Tuple [a, b] k2 pt2) pos.line X.env = pure false) :
    PS X (.Assign [.Tuple [.Name x px, .Name y py] kt pt] (.Tuple [a, b] k2 pt2) pos) (tS k W (parF [i, j] fr)) := PS.imp (ps_par hc hN hi hj hij hx hy ha hw hs) fun N σ H p => by
  obtain ⟨F, h, env, sr, p⟩ := p
  refine ⟨F, h, env, sr, (fl_post sr p).imp (fun ds F' h' H' _ _ q vs dvs => ?_) fun _ _ _ x => x⟩
  obtain ⟨s, r, q⟩ := q
  have sr' := sr.step s r
  match ds, q with
  | [d, e], q =>
    unfold DVs at dvs
    obtain ⟨v, w, rfl, d1, d2⟩ := dvs
    unfold DVs at d2
    obtain ⟨v', w', rfl, d3, d4⟩ := d2
    unfold DVs at d4
    subst d4
    exact ⟨v, v', rfl, q F' H' _ .refl r ((sr'.er.set i d1).set j d3)⟩
  | [], q => exact q.elim
  | [_], q => exact q.elim
  | _ :: _ :: _ :: _, q => exact q.elim
theorem ms_par3 {i j l : Nat} {x y z : Str} {a b c : Expr} {fr : Av} {px py pz pt pos : Pos} {kt k2 pt2} (hc : X.calm = true) (hN : X.N.Nodup) (hi : X.N[i]? = some x) (hj : X.N[j]? = some y) (hl : X.N[l]? = some z) (hij : i ≠ j) (hil : i ≠ l) (hjl : j ≠ l)
    (hx : X.env.scope.names.lookup x = some .local) (hy : X.env.scope.names.lookup y = some .local) (hz : X.env.scope.names.lookup z = some .local) (ha : PA X [a, b, c] (tA k W fr))
    (hw : swappedStores [.Tuple [.Name x px, .Name y py, .Name z pz] kt pt] (.Tuple [a, b, c] k2 pt2) X.env = pure (some [x, y, z]))
    (hs : swapsWithSole [.Tuple [.Name x px, .Name y py, .Name z pz] kt pt] (.Tuple [a, b, c] k2 pt2) pos.line X.env = pure false) :
    PS X (.Assign [.Tuple [.Name x px, .Name y py, .Name z pz] kt pt] (.Tuple [a, b, c] k2 pt2) pos) (tS k W (parF [i, j, l] fr)) := PS.imp (ps_par3 hc hN hi hj hl hij hil hjl hx hy hz ha hw hs) fun N σ H p => by
  obtain ⟨F, h, env, sr, p⟩ := p
  refine ⟨F, h, env, sr, (fl_post sr p).imp (fun ds F' h' H' _ _ q vs dvs => ?_) fun _ _ _ x => x⟩
  obtain ⟨s, r, q⟩ := q
  have sr' := sr.step s r
  match ds, q with
  | [d, e, f], q =>
    unfold DVs at dvs
    obtain ⟨v, w, rfl, d1, d2⟩ := dvs
    unfold DVs at d2
    obtain ⟨v', w', rfl, d3, d4⟩ := d2
    unfold DVs at d4
    obtain ⟨v2, w2, rfl, d5, d6⟩ := d4
    unfold DVs at d6
    subst d6
    exact ⟨v, v', v2, rfl, q F' H' _ .refl r (((sr'.er.set i d1).set j d3).set l d5)⟩
  | [], q => exact q.elim
  | [_], q => exact q.elim
  | [_, _], q => exact q.elim
  | _ :: _ :: _ :: _ :: _, q => exact q.elim
end
def forStep (src : Src) (t : Tg) (b els : Sf) : Nat × Env × Hs → (Nat × Env × Hs) ⊕ Fl := fun s => match src.nxt s.1 s.2.2 with
  | none => .inr .bad
  | some none => .inr (els s.2.1 s.2.2)
  | some (some d) => match asgT t d s.2.1 s.2.2 with
    | .ok env1 h1 => match b env1 h1 with
      | .nx env2 h2 => .inl (s.1 + 1, env2, h2)
      | .ct env2 h2 => .inl (s.1 + 1, env2, h2)
      | .bk env2 h2 => .inr (.nx env2 h2)
      | .rt d h2 => .inr (.rt d h2)
      | .exc e env2 h2 => .inr (.exc e env2 h2)
      | .bad => .inr .bad
    | _ => .inr .bad
noncomputable def forF (s : Sv) (t : Tg) (b els : Sf) : Sf := fun env h => (s env h).fl env fun src h1 => iter (forStep src t b els) .bad (0, env, h1)
def whStep (c : Ev) (b els : Sf) : Env × Hs → (Env × Hs) ⊕ Fl := fun s => match tst c s.1 s.2 with
  | .ok true h1 => match b s.1 h1 with
    | .nx env2 h2 => .inl (env2, h2)
    | .ct env2 h2 => .inl (env2, h2)
    | .bk env2 h2 => .inr (.nx env2 h2)
    | .rt d h2 => .inr (.rt d h2)
    | .exc e env2 h2 => .inr (.exc e env2 h2)
    | .bad => .inr .bad
  | .ok false h1 => .inr (els s.1 h1)
  | .exc e h1 => .inr (.exc e s.1 h1)
  | .bad => .inr .bad
noncomputable def whF (c : Ev) (b els : Sf) : Sf := fun env h => iter (whStep c b els) .bad (env, h)
section
variable {X : Cx} {k : Kx} {W : WX} {pos : Pos}
theorem PostF.good {F H N fl} (p : PostF k F H N W fl) : fl ≠ .bad := fun e => by rw [e] at p; exact p
theorem ms_for {tg ite : Expr} {body orelse : List Stmt} {fi : Sv} {t : Tg} {fb fo : Sf} {W0 : WX} (hp : PassesOwn (model X.prog X.w) X.A X.env X.xe) (hc : X.calm = true) (hi : PI X tg ite (tI k W fi)) (hg : PG X tg (tG k W (asgT t))) (hb : PSs X body (tS k W fb)) (ho : PSs X orelse (tS k W fo))
    (hs : ∀ x, foldedSetIterable ite X.env x = pure x) : PS X (.For tg ite body orelse pos) (tS k W (forF fi t fb fo)) := PS.imp (ps_forE hp hc hi hg hb ho hs) fun N σ H p => by
  obtain ⟨F, h, env, sr, p⟩ := p
  refine ⟨F, h, env, sr, (fl_post sr p).imp (fun src F' h' H' _ _ q J jr => ?_) fun _ _ _ x => x⟩
  obtain ⟨s, r, q⟩ := q
  obtain ⟨m, hm⟩ := iter_good q.good
  generalize iter (forStep src t fb fo) .bad (0, env, h') = fl at q hm
  refine ⟨fun i m σ2 H2 => ∃ F2 h2 env2, Step k.K F' H' F2 H2 ∧ SR k F2 H2 h2 σ2 env2 ∧ iterN (forStep src t fb fo) m (i, env2, h2) = some fl, ⟨m, F', h', env, .refl, sr.step s r, hm⟩, ?_⟩
  rintro i m σ2 H2 ⟨F2, h2, env2, s2, sr2, hm⟩
  cases m with
  | zero => cases hm
  | succ m =>
    unfold iterN at hm
    have jr2 := jr F2 h2 H2 i s2 sr2.rel
    cases e : src.nxt i h2 with
    | none =>
      have : forStep src t fb fo (i, env2, h2) = .inr .bad := by unfold forStep; rw [e]
      rw [this] at hm; cases hm
      exact q.elim
    | some o =>
      cases o with
      | none =>
        have : forStep src t fb fo (i, env2, h2) = .inr (fo env2 h2) := by unfold forStep; rw [e]
        rw [this] at hm; cases hm
        exact .inl ⟨jr2.1 e, F2, h2, env2, sr2, q.step s2⟩
      | some d =>
        obtain ⟨jg, jy⟩ := jr2.2 d e
        refine .inr ⟨jg, fun σ' H' => ∃ F3 h3 env3, Step k.K F' _ F3 H' ∧ SR k F3 H' h3 σ' env3 ∧ iterN (forStep src t fb fo) m (i + 1, env3, h3) = some fl, fun σ' H' z => ⟨m, Nat.lt_succ_self m, z⟩, fun x H3 y => ?_⟩
        obtain ⟨s3, r3, dv⟩ := jy x H3 y
        have sr3 := sr2.step s3 r3
        refine ⟨F2, h2, env2, d, sr3, dv, ?_⟩
        cases ea : asgT t d env2 h2 with
        | bad =>
          have : forStep src t fb fo (i, env2, h2) = .inr .bad := by unfold forStep; rw [e]; show (match asgT t d env2 h2 with | .ok env1 h1 => _ | _ => _) = _; rw [ea]
          rw [this] at hm; cases hm
          exact q.elim
        | exc x h4 => exact absurd ea (asgT_ne _ _ _ _ _ _)
        | ok env4 h4 =>
          intro F4 H4 s4 r4 σ4 er4
          refine ⟨F4, h4, env4, ⟨r4, er4, sr3.xd.mono s4⟩, ?_⟩
          have st4 : Step k.K F' H' F4 H4 := (s2.trans s3).trans s4
          have ef : forStep src t fb fo (i, env2, h2) = match fb env4 h4 with
              | .nx env2 h2 => .inl (i + 1, env2, h2)
              | .ct env2 h2 => .inl (i + 1, env2, h2)
              | .bk env2 h2 => .inr (.nx env2 h2)
              | .rt d h2 => .inr (.rt d h2)
              | .exc e env2 h2 => .inr (.exc e env2 h2)
              | .bad => .inr .bad := by unfold forStep; rw [e]; show (match asgT t d env2 h2 with | .ok env1 h1 => _ | _ => _) = _; rw [ea]
          rw [ef] at hm
          have xd4 := sr3.xd.mono s4
          cases eb : fb env4 h4 with
          | nx env5 h5 => rw [eb] at hm; exact fun F5 H5 σ5 s5 r5 er5 => ⟨F5, h5, env5, st4.trans s5, ⟨r5, er5, xd4.mono s5⟩, hm⟩
          | ct env5 h5 => rw [eb] at hm; exact fun F5 H5 σ5 s5 r5 er5 => ⟨F5, h5, env5, st4.trans s5, ⟨r5, er5, xd4.mono s5⟩, hm⟩
          | bk env5 h5 => rw [eb] at hm; cases hm; exact fun F5 H5 σ5 s5 => q F5 H5 σ5 (st4.trans s5)
          | rt d h5 => rw [eb] at hm; cases hm; exact fun F5 H5 v s5 => q F5 H5 v (st4.trans s5)
          | exc x env5 h5 => rw [eb] at hm; cases hm; exact fun F5 H5 σ5 cls dx s5 => q F5 H5 σ5 cls dx (st4.trans s5)
          | bad => rw [eb] at hm; cases hm; exact q.elim
theorem ms_while {c : Expr} {body orelse : List Stmt} {fc : Ev} {fb fo : Sf} (hp : PassesOwn (model X.prog X.w) X.A X.env X.xe) (hc : PT X c (tT k W (tst fc))) (hb : PSs X body (tS k W fb)) (ho : PSs X orelse (tS k W fo)) : PS X (.While c body orelse pos) (tS k W (whF fc fb fo)) := PS.imp (ps_whileE hp hc hb ho) fun N σ H p => by
  obtain ⟨F, h, env, sr, q⟩ := p
  have q : PostF k F H N W (iter (whStep fc fb fo) .bad (env, h)) := q
  obtain ⟨m, hm⟩ := iter_good q.good
  generalize iter (whStep fc fb fo) .bad (env, h) = fl at q hm
  refine ⟨fun m σ2 H2 => ∃ F2 h2 env2, Step k.K F H F2 H2 ∧ SR k F2 H2 h2 σ2 env2 ∧ iterN (whStep fc fb fo) m (env2, h2) = some fl, ⟨m, F, h, env, .refl, sr, hm⟩, ?_⟩
  rintro m σ2 H2 ⟨F2, h2, env2, s2, sr2, hm⟩
  cases m with
  | zero => cases hm
  | succ m =>
    unfold iterN at hm
    refine ⟨F2, h2, env2, sr2, ?_⟩
    cases e : tst fc env2 h2 with
    | bad =>
      have : whStep fc fb fo (env2, h2) = .inr .bad := by unfold whStep; rw [e]
      rw [this] at hm; cases hm
      exact q.elim
    | exc x h3 =>
      have : whStep fc fb fo (env2, h2) = .inr (.exc x env2 h3) := by unfold whStep; rw [e]
      rw [this] at hm; cases hm
      exact fun F' H' cls dx s r xr => q F' H' σ2 cls dx (s2.trans s) r (sr2.er.mono s) xr
    | ok b h3 =>
      intro F3 H3 s3 r3
      have sr3 := sr2.step s3 r3
      cases b with
      | false =>
        have : whStep fc fb fo (env2, h2) = .inr (fo env2 h3) := by unfold whStep; rw [e]
        rw [this] at hm; cases hm
        exact ⟨F3, h3, env2, sr3, q.step (s2.trans s3)⟩
      | true =>
        refine ⟨fun σ' H' => ∃ F4 h4 env4, Step k.K F H F4 H' ∧ SR k F4 H' h4 σ' env4 ∧ iterN (whStep fc fb fo) m (env4, h4) = some fl, fun σ' H' z => ⟨m, Nat.lt_succ_self m, z⟩, F3, h3, env2, sr3, ?_⟩
        have st3 := s2.trans s3
        have ef : whStep fc fb fo (env2, h2) = match fb env2 h3 with
            | .nx env2 h2 => .inl (env2, h2)
            | .ct env2 h2 => .inl (env2, h2)
            | .bk env2 h2 => .inr (.nx env2 h2)
            | .rt d h2 => .inr (.rt d h2)
            | .exc e env2 h2 => .inr (.exc e env2 h2)
            | .bad => .inr .bad := by unfold whStep; rw [e]
        rw [ef] at hm
        cases eb : fb env2 h3 with
        | nx env5 h5 => rw [eb] at hm; exact fun F5 H5 σ5 s5 r5 er5 => ⟨F5, h5, env5, st3.trans s5, ⟨r5, er5, sr3.xd.mono s5⟩, hm⟩
        | ct env5 h5 => rw [eb] at hm; exact fun F5 H5 σ5 s5 r5 er5 => ⟨F5, h5, env5, st3.trans s5, ⟨r5, er5, sr3.xd.mono s5⟩, hm⟩
        | bk env5 h5 => rw [eb] at hm; cases hm; exact fun F5 H5 σ5 s5 => q F5 H5 σ5 (st3.trans s5)
        | rt d h5 => rw [eb] at hm; cases hm; exact fun F5 H5 v s5 => q F5 H5 v (st3.trans s5)
        | exc x env5 h5 => rw [eb] at hm; cases hm; exact fun F5 H5 σ5 cls dx s5 => q F5 H5 σ5 cls dx (st3.trans s5)
        | bad => rw [eb] at hm; cases hm; exact q.elim
end
open PySem PySem.Spec PyProof.Rows L2
abbrev Tgr (H H' : Hp) : Prop := (∀ a xs, H a = some (.tup xs) → H' a = some (.tup xs)) ∧ ∀ a o xs, H a = some (.frz o (.tup xs)) → H' a = some (.frz o (.tup xs))
section
variable {K : PySem.W.Frag} {F : List Addr} {H H' : Hp}
mutual
theorem DV.grow (ht : Tgr H H') (hl : ∀ a xs, SqR K H a xs → SqR K H' a xs) : ∀ (d : D) (v : V), DV K F H d v → DV K F H' d v
  | .non, _, h => by unfold DV at h ⊢; exact h
  | .bl _, _, h => by unfold DV at h ⊢; exact h
  | .int _, _, h => by unfold DV at h ⊢; exact h
  | .str _, _, h => by unfold DV at h ⊢; exact h
  | .tup ds, v, h => by
    unfold DV at h ⊢
    obtain ⟨a, vs, e, q, r⟩ := h
    exact ⟨a, vs, e, q.grow ht.1 ht.2, DVs.grow ht hl ds vs r⟩
  | .ls ds, v, h => by
    unfold DV at h ⊢
    obtain ⟨a, vs, e, q, r⟩ := h
    exact ⟨a, vs, e, hl _ _ q, DVs.grow ht hl ds vs r⟩
  | .ref n, v, h => by
    unfold DV at h ⊢
    exact h
theorem DVs.grow (ht : Tgr H H') (hl : ∀ a xs, SqR K H a xs → SqR K H' a xs) : ∀ (ds : List D) (vs : List V), DVs K F H ds vs → DVs K F H' ds vs
  | [], _, h => by unfold DVs at h ⊢; exact h
  | d :: ds, vs, h => by
    unfold DVs at h ⊢
    obtain ⟨v, r, e, h1, h2⟩ := h
    exact ⟨v, r, e, DV.grow ht hl d v h1, DVs.grow ht hl ds r h2⟩
end
theorem DFs.grow (ht : Tgr H H') (hl : ∀ a xs, SqR K H a xs → SqR K H' a xs) : ∀ (ds : List (Str × D)) (vs : List (Str × V)), DFs K F H ds vs → DFs K F H' ds vs
  | [], _, h => h
  | (n, d) :: ds, vs, h => by
    obtain ⟨v, r, e, h1, h2⟩ := h
    exact ⟨v, r, e, DV.grow ht hl d v h1, DFs.grow ht hl ds r h2⟩
end
/-- what can be written by one who alone knows it -/
def Soft (o : HO) : Prop := (∀ ys, o ≠ .tup ys) ∧ (∀ ob ys, o ≠ .frz ob (.lst ys)) ∧ ∀ ob ys, o ≠ .frz ob (.tup ys)
theorem soft_lst {xs : List V} : Soft (.lst xs) := ⟨fun _ z => (nomatch z), fun _ _ z => (nomatch z), fun _ _ z => (nomatch z)⟩
theorem soft_dK {xs : List (Key × V)} : Soft (.dK xs) := ⟨fun _ z => (nomatch z), fun _ _ z => (nomatch z), fun _ _ z => (nomatch z)⟩
section
variable {k : Kx} {F : List Addr} {H : Hp} {h : Hs} {p : Addr} {o o' : HO}
theorem grow_t (e : H p = some o) (sf : Soft o) : Tgr H (upd H p o') := ⟨fun a zs => Tp.upd fun u e' => by
  rw [e] at e'; cases e'
  exact sf.1, fun a ob zs => Tf.upd fun u e' => by
  rw [e] at e'; cases e'
  exact sf.2.2⟩
theorem grow_l (e : H p = some o) (sf : Soft o) : ∀ a zs, SqR k.K H a zs → SqR k.K (upd H p o') a zs := fun a zs => SqR.upd fun u e' => by
  rw [e] at e'; cases e'
  exact sf.2.1
theorem RelH.grow (r : RelH k F H h) (hp : p ∉ F) (e : H p = some o) (sf : Soft o) : RelH k F (upd H p o') h := by
  refine ⟨r.len, r.nd, fun i c a e1 e2 => ?_⟩
  have c0 := r.cell i c a e1 e2
  have ne : a ≠ p := fun q => hp (q ▸ List.mem_of_getElem? e2)
  have hu : (upd H p o') a = H a := upd_ne ne
  cases c with
  | lst zs => obtain ⟨vs, q, d⟩ := c0; exact ⟨vs, hu.trans q, DVs.grow (grow_t e sf) (grow_l e sf) _ _ d⟩
  | dic t lk kvs =>
    obtain ⟨ob, d, q⟩ := c0
    refine ⟨ob, ?_, by rw [hu]; exact q⟩
    cases t with
    | false => obtain ⟨l, eo, p⟩ := d; exact ⟨l, eo, Paired.mapP p fun _ _ q => ⟨q.1, q.2.1, DV.grow (grow_t e sf) (grow_l e sf) _ _ q.2.2⟩⟩
    | true => obtain ⟨l, eo, p⟩ := d; exact ⟨l, eo, Paired.mapP p fun _ _ q => ⟨q.1, q.2.1, DV.grow (grow_t e sf) (grow_l e sf) _ _ q.2.2⟩⟩
  | ins c fs => obtain ⟨C, dx, vs, m, q, d⟩ := c0; exact ⟨C, dx, vs, m, hu.trans q, DFs.grow (grow_t e sf) (grow_l e sf) _ _ d⟩
/-- behind the start H0, where nobody knew p -/
theorem Step.grow {F0 : List Addr} {H0 : Hp} (s : Step k.K F0 H0 F H) (h0 : H0 p = none) (e : H p = some o) (sf : Soft o) : Step k.K F0 H0 F (upd H p o') where
  pre := s.pre
  old := fun a o q n => by rw [upd_ne (ne_of_none q h0)]; exact s.old a o q n
  new := s.new
  tup := fun a zs q => (grow_t e sf).1 a zs (s.tup a zs q)
  tfr := fun a ob zs q => (grow_t e sf).2 a ob zs (s.tfr a ob zs q)
  lsr := fun a zs q => grow_l e sf a zs (s.lsr a zs q)
/-- the list comes to light -/
theorem Step.known {F0 : List Addr} {H0 : Hp} (s : Step k.K F0 H0 F H) (h0 : H0 p = none) : Step k.K F0 H0 (F ++ [p]) H where
  pre := let ⟨G, e⟩ := s.pre; ⟨G ++ [p], by rw [e, List.append_assoc]⟩
  old := s.old
  new := fun a m n => by
    rcases List.mem_append.mp m with m | m
    · exact s.new a m n
    · rw [List.mem_singleton.mp m]; exact h0
  tup := s.tup
  lsr := s.lsr
  tfr := s.tfr
mutual
theorem DV.more {K : PySem.W.Frag} {F G : List Addr} {H : Hp} : ∀ (d : D) (v : V), DV K F H d v → DV K (F ++ G) H d v
  | .non, _, h => by unfold DV at h ⊢; exact h
  | .bl _, _, h => by unfold DV at h ⊢; exact h
  | .int _, _, h => by unfold DV at h ⊢; exact h
  | .str _, _, h => by unfold DV at h ⊢; exact h
  | .tup ds, v, h => by
    unfold DV at h ⊢
    obtain ⟨a, vs, e, q, r⟩ := h
    exact ⟨a, vs, e, q, DVs.more ds vs r⟩
  | .ls ds, v, h => by
    unfold DV at h ⊢
    obtain ⟨a, vs, e, q, r⟩ := h
    exact ⟨a, vs, e, q, DVs.more ds vs r⟩
  | .ref n, v, h => by
    unfold DV at h ⊢
    obtain ⟨a, e, q⟩ := h
    exact ⟨a, e, by rw [List.getElem?_append_left (List.getElem?_eq_some_iff.mp q).1]; exact q⟩
theorem DVs.more {K : PySem.W.Frag} {F G : List Addr} {H : Hp} : ∀ (ds : List D) (vs : List V), DVs K F H ds vs → DVs K (F ++ G) H ds vs
  | [], _, h => by unfold DVs at h ⊢; exact h
  | d :: ds, vs, h => by
    unfold DVs at h ⊢
    obtain ⟨v, r, e, h1, h2⟩ := h
    exact ⟨v, r, e, DV.more d v h1, DVs.more ds r h2⟩
end
theorem DFs.more {K : PySem.W.Frag} {F G : List Addr} {H : Hp} : ∀ (ds : List (Str × D)) (vs : List (Str × V)), DFs K F H ds vs → DFs K (F ++ G) H ds vs
  | [], _, h => h
  | (n, d) :: ds, vs, h => by
    obtain ⟨v, r, e, h1, h2⟩ := h
    exact ⟨v, r, e, DV.more d v h1, DFs.more ds r h2⟩
theorem CellR.more {k : Kx} {F G : List Addr} {H : Hp} {a : Addr} : ∀ {c : Cell}, CellR k F H a c → CellR k (F ++ G) H a c
  | .lst xs, ⟨vs, q, d⟩ => ⟨vs, q, DVs.more _ _ d⟩
  | .dic t lk kvs, ⟨o, d, q⟩ => by
    refine ⟨o, ?_, q⟩
    cases t with
    | false => obtain ⟨l, eo, p⟩ := d; exact ⟨l, eo, Paired.mapP p fun _ _ q => ⟨q.1, q.2.1, DV.more _ _ q.2.2⟩⟩
    | true => obtain ⟨l, eo, p⟩ := d; exact ⟨l, eo, Paired.mapP p fun _ _ q => ⟨q.1, q.2.1, DV.more _ _ q.2.2⟩⟩
  | .ins c fs, ⟨C, dx, vs, m, q, d⟩ => ⟨C, dx, vs, m, q, DFs.more _ _ d⟩
theorem RelH.known {c : Cell} (r : RelH k F H h) (hp : p ∉ F) (hc : CellR k (F ++ [p]) H p c) : RelH k (F ++ [p]) H (h ++ [c]) := by
  refine ⟨by simp [r.len], ?_, fun i c' a e1 e2 => ?_⟩
  · refine List.nodup_append.mpr ⟨r.nd, by simp, fun a ha b hb => ?_⟩
    rw [List.mem_singleton.mp hb]
    exact fun e => hp (e ▸ ha)
  · by_cases hi : i < h.length
    · rw [List.getElem?_append_left hi] at e1
      rw [List.getElem?_append_left (by rw [r.len]; exact hi)] at e2
      exact (r.cell i c' a e1 e2).more
    · have hn : h.length ≤ i := Nat.le_of_not_lt hi
      rw [List.getElem?_append_right hn] at e1
      rw [List.getElem?_append_right (by rw [r.len]; exact hn), r.len] at e2
      cases hj : i - h.length with
      | zero =>
        rw [hj] at e1 e2
        have z1 : c = c' := by simpa using e1
        have z2 : p = a := by simpa using e2
        rw [← z1, ← z2]; exact hc
      | succ j => rw [hj] at e1; simp at e1
end
def tGw (k : Kx) (vs : List Nat) (g : D → Env → Hs → Res Env) : TG := fun v σ H Q => ∃ F h env d, SR k F H h σ env ∧ DV k.K F H d v ∧ Post k F H (fun env' F' _ H' => ∀ σ', ER k F' H' σ' env' → wipe σ' vs = wipe σ vs → Q σ' H') (fun _ _ _ => False) (g d env h)
def tGsw (k : Kx) (vs : List Nat) (g : List D → Env → Hs → Res Env) : TGs := fun us σ H Q => ∃ F h env ds, SR k F H h σ env ∧ DVs k.K F H ds us ∧ Post k F H (fun env' F' _ H' => ∀ σ', ER k F' H' σ' env' → wipe σ' vs = wipe σ vs → Q σ' H') (fun _ _ _ => False) (g ds env h)
theorem wipe_set (σ : L2.St) (i : Nat) (o : Option V) : ∀ vs : List Nat, i ∈ vs → wipe (σ.set i o) vs = wipe σ vs := by
  have key : ∀ vs : List Nat, i ∉ vs → wipe (σ.set i o) vs = (wipe σ vs).set i o := by
    intro vs
    induction vs with
    | nil => intro _; rfl
    | cons v vs ih =>
      intro hn
      unfold wipe
      rw [ih (fun h => hn (List.mem_cons_of_mem _ h)), List.set_comm _ _ (fun e => hn (by rw [e]; exact List.mem_cons_self))]
  intro vs
  induction vs with
  | nil => intro h; cases h
  | cons v vs ih =>
    intro hm
    unfold wipe
    by_cases hv : i ∈ vs
    · rw [ih hv]
    · rw [key vs hv]
      rcases List.mem_cons.mp hm with e | e
      · subst e; rw [List.set_set]
      · exact absurd e hv
section
variable {X : Cx} {k : Kx} {vs : List Nat} {pos : Pos}
theorem mgw_name {i : Nat} {x : Str} (hN : X.N.Nodup) (hi : X.N[i]? = some x) (hx : Loc X.env.scope x) (hf : X.fn x = true ∨ X.env.scope.names.lookup x = some .local) (hv : i ∈ vs) : PG X (.Name x pos) (tGw k vs (asgT (.nm i))) :=
  PG.imp (pg_name hN hi hx hf) fun v σ H Q ⟨F, h, env, d, sr, dv, p⟩ => by
    unfold asgT at p
    exact p F H .refl sr.rel _ (sr.er.set i dv) (wipe_set σ i _ vs hv)
theorem mgsw_nil : PGs X [] (tGsw k vs (asgTs [])) := PGs.imp pgs_nil fun us σ H Q ⟨F, h, env, ds, sr, dv, p⟩ => by
  cases ds with
  | nil =>
    unfold DVs at dv
    unfold asgTs at p
    exact ⟨dv, p F H .refl sr.rel σ sr.er rfl⟩
  | cons d ds => unfold asgTs at p; exact p.elim
theorem mgsw_cons {e : Expr} {es : List Expr} {t : Tg} {ts : List Tg} (h1 : PG X e (tGw k vs (asgT t))) (h2 : PGs X es (tGsw k vs (asgTs ts)))
    (hs : (assignEach (e :: es) X.env).map (·.2) = assign e X.env :: (assignEach es X.env).map (·.2)) : PGs X (e :: es) (tGsw k vs (asgTs (t :: ts))) := by
  refine PGs.imp (pgs_cons h1 h2 hs) fun us σ H Q ⟨F, h, env, ds, sr, dv, p⟩ => ?_
  cases ds with
  | nil => unfold asgTs at p; exact p.elim
  | cons d ds =>
    unfold DVs at dv
    obtain ⟨v, r, rfl, d1, d2⟩ := dv
    unfold asgTs at p
    exact ⟨v, r, rfl, F, h, env, d, sr, d1, p.bind.imp (fun env' F' h' H' st rl q σ' er w => ⟨F', h', env', ds, ⟨rl, er, sr.xd.mono st⟩, DVs.mono st _ _ d2, q.imp (fun _ _ _ _ _ _ q σ'' er' w' => q σ'' er' (w'.trans w)) fun _ _ _ x => x⟩) fun _ _ _ x => x⟩
theorem mgw_tup {es : List Expr} {x1 : Nat} {ts : List Tg} (hK : X.K = k.K) (hc : X.calm = true) (h : PGs X es (tGsw k vs (asgTs ts))) (hn : (assignEach es X.env).length = ts.length) (hst : (assignEach es X.env).findIdx? (·.1) = none) :
    PG X (.Tuple es x1 pos) (tGw k vs (asgT (.tp ts))) := by
  refine PG.imp (PG.or (pg_tup hc h hn hst) (pg_unl hc h hn hst)) fun v σ H Q p0 => ?_
  obtain ⟨F, h, env, d, sr, dv, p1⟩ := p0
  unfold asgT at p1
  cases q : seqH h d with
  | none => rw [q] at p1; exact p1.elim
  | some xs =>
    rw [q] at p1
    obtain ⟨c, p⟩ := Post.cond (c := xs.length = ts.length) (r := asgTs ts xs env h) p1
    obtain ⟨a, us, rfl, _, dvs, sT, sL⟩ := sr.rel.seq dv q
    rcases seqH_tup q with z | z
    · exact .inl ⟨a, us, rfl, by rw [hK]; exact (sT xs z).sqT, by rw [← dvs.len]; exact c, F, h, env, xs, sr, dvs, p⟩
    · exact .inr ⟨a, us, rfl, by rw [hK]; exact sL z, by rw [← dvs.len]; exact c, F, h, env, xs, sr, dvs, p⟩
end
def wipeE (env : Env) : List Nat → Env
  | [] => env
  | v :: vs => (wipeE env vs).set v none
theorem ER.wipe {k F H σ env} (e : ER k F H σ env) : ∀ vs, ER k F H (L2.wipe σ vs) (wipeE env vs)
  | [] => e
  | v :: vs => by unfold L2.wipe wipeE; exact (ER.wipe e vs).clear v
def lcC (c : Option Ev) : Tv := match c with
  | none => fun _ h => .ok true h
  | some c => tst c
def lcTurn (c : Option Ev) (e : Ev) (i : Nat) (acc : List D) (env : Env) (h : Hs) : Nat × List D × Hs ⊕ Res (List D) := match lcC c env h with
  | .ok true h2 => match e env h2 with
    | .ok y h3 => if acc.length < lim then .inl (i + 1, acc ++ [y], h3) else .inr .bad
    | _ => .inr .bad
  | .ok false h2 => .inl (i + 1, acc, h2)
  | _ => .inr .bad
theorem wipe_wipe (σ : L2.St) (vs : List Nat) : L2.wipe (L2.wipe σ vs) vs = L2.wipe σ vs := by
  have key : ∀ us : List Nat, (∀ u ∈ us, u ∈ vs) → L2.wipe (L2.wipe σ us) vs = L2.wipe σ vs := by
    intro us
    induction us with
    | nil => intro _; rfl
    | cons u us ih =>
      intro h
      show L2.wipe ((L2.wipe σ us).set u none) vs = _
      rw [wipe_set _ _ _ _ (h u List.mem_cons_self)]
      exact ih fun w hw => h w (List.mem_cons_of_mem _ hw)
  exact key vs fun _ h => h
def lcStep (src : Src) (t : Tg) (c : Option Ev) (e : Ev) (env : Env) : Nat × List D × Hs → (Nat × List D × Hs) ⊕ Res (List D) := fun s => match src.nxt s.1 s.2.2 with
  | none => .inr .bad
  | some none => .inr (.ok s.2.1 s.2.2)
  | some (some d) => match asgT t d env s.2.2 with
    | .ok env1 h1 => lcTurn c e s.1 s.2.1 env1 h1
    | _ => .inr .bad
noncomputable def lcE (s : Sv) (t : Tg) (c : Option Ev) (e : Ev) (vs : List Nat) : Ev := fun env h => (s env h).bind fun src h1 =>
  (iter (lcStep src t c e (wipeE env vs)) .bad (0, [], h1)).bind fun xs h2 => .ok (.ref h2.length) (h2 ++ [.lst xs])
/-- the tests -/
def tTc (k : Kx) (c : Option Ev) : TT := match c with
  | none => tYes
  | some c => tT k (fun _ _ _ _ => False) (tst c)
section
variable {k : Kx} {W : WX}
theorem lc_read {fi : Sv} {t : Tg} {c : Option Ev} {e : Ev} {vs : List Nat} {σ H Q} (p : tE k W (lcE fi t c e vs) σ H Q) : tLc (tI k W fi) (tGw k vs (asgT t)) (tTc k c) (tE k (fun _ _ _ _ => False) e) vs σ H Q := by
  obtain ⟨F, h, env, sr, p⟩ := p
  refine ⟨F, h, env, sr, p.bind.imp (fun src F' h' H' s r q J jr L0 hD => ?_) fun _ _ _ x => x⟩
  have sr' := sr.step s r
  have hne : iter (lcStep src t c e (wipeE env vs)) .bad (0, [], h') ≠ .bad := fun z => by rw [z] at q; exact q
  obtain ⟨m, hm⟩ := iter_good hne
  generalize iter (lcStep src t c e (wipeE env vs)) .bad (0, [], h') = fl at q hm hne
  have hDF : L0 ∉ F' := r.fresh hD
  refine ⟨fun i m H2 => ∃ F2 h2 acc vs, Step k.K F' H' F2 H2 ∧ RelH k F2 H2 h2 ∧ L0 ∉ F2 ∧ H2 L0 = some (.lst vs) ∧ DVs k.K F2 H2 acc vs ∧ iterN (lcStep src t c e (wipeE env _)) m (i, acc, h2) = some fl, ⟨m, F', h', [], [], r.stepNew hD, r.addNew hD, hDF, upd_same, DVs.nil, hm⟩, ?_⟩
  rintro i m H2 ⟨F2, h2, acc, us, s2, r2, n2, e2, dv2, hm⟩
  cases m with
  | zero => cases hm
  | succ m =>
    unfold iterN at hm
    have jr2 := jr F2 h2 H2 i s2 r2
    cases en : src.nxt i h2 with
    | none =>
      have : lcStep src t c e (wipeE env vs) (i, acc, h2) = .inr .bad := by unfold lcStep; rw [en]
      rw [this] at hm; cases hm
      exact absurd rfl hne
    | some o =>
      cases o with
      | none =>
        have : lcStep src t c e (wipeE env vs) (i, acc, h2) = .inr (.ok acc h2) := by unfold lcStep; rw [en]
        rw [this] at hm; cases hm
        refine .inl ⟨jr2.1 en, ?_⟩
        have q : ∀ F'' H'', Step k.K F' H' F'' H'' → RelH k F'' H'' (h2 ++ [.lst acc]) → PV k Q (.ref h2.length) F'' (h2 ++ [.lst acc]) H'' := q
        refine q (F2 ++ [L0]) H2 (s2.known hD) (r2.known n2 ⟨us, e2, DVs.more _ _ dv2⟩) _ ?_
        unfold DV
        exact ⟨L0, rfl, by rw [← r2.len, List.getElem?_append_right (Nat.le_refl _), Nat.sub_self]; rfl⟩
      | some d =>
        obtain ⟨jg, jy⟩ := jr2.2 d en
        refine .inr ⟨jg, fun H' => ∃ F3 h3 acc vs', Step k.K F' _ F3 H' ∧ RelH k F3 H' h3 ∧ L0 ∉ F3 ∧ H' L0 = some (.lst vs') ∧ DVs k.K F3 H' acc vs' ∧ iterN (lcStep src t c e (wipeE env vs)) m (i + 1, acc, h3) = some fl, fun H' z => ⟨m, Nat.lt_succ_self m, z⟩, fun x H3 y => ?_⟩
        obtain ⟨s3, r3, dv⟩ := jy x H3 y
        have st3 := s2.trans s3
        have sr3 : SR k F2 H3 h2 (wipe σ vs) (wipeE env vs) := ⟨r3, (sr'.er.mono st3).wipe vs, sr'.xd.mono st3⟩
        have e3 : H3 L0 = some (.lst us) := s3.old L0 _ e2 n2
        refine ⟨F2, h2, wipeE env vs, d, sr3, dv, ?_⟩
        cases ea : asgT t d (wipeE env vs) h2 with
        | bad =>
          have : lcStep src t c e (wipeE env vs) (i, acc, h2) = .inr .bad := by unfold lcStep; rw [en]; show (match asgT t d (wipeE env vs) h2 with | .ok env1 h1 => _ | _ => _) = _; rw [ea]
          rw [this] at hm; cases hm
          exact absurd rfl hne
        | exc x h4 => exact absurd ea (asgT_ne _ _ _ _ _ _)
        | ok env4 h4 =>
          intro F4 H4 s4 r4 σ4 er4 w4
          have ef : lcStep src t c e (wipeE env vs) (i, acc, h2) = lcTurn c e i acc env4 h4 := by unfold lcStep; rw [en]; show (match asgT t d (wipeE env vs) h2 with | .ok env1 h1 => _ | _ => _) = _; rw [ea]
          rw [ef] at hm
          have n4 : L0 ∉ F4 := fun mm => by have := s4.new L0 mm n2; rw [e3] at this; cases this
          have e4 : H4 L0 = some (.lst us) := s4.old L0 _ e3 n2
          have sr4 : SR k F4 H4 h4 σ4 env4 := ⟨r4, er4, sr3.xd.mono s4⟩
          have st4 := st3.trans s4
          have dv4 := DVs.mono (s3.trans s4) _ _ dv2
          refine ⟨by rw [w4]; exact wipe_wipe σ vs, ?_⟩
          -- behind the tests
          have last : ∀ (b : Bool) (h5 : Hs), lcC c env4 h4 = .ok b h5 → ∀ F5 H5, Step k.K F4 H4 F5 H5 → RelH k F5 H5 h5 →
              if b = true then tE k (fun _ _ _ _ => False) e σ4 H5 (fun y H4 => ∃ acc, H4 L0 = some (.lst acc) ∧ acc.length < sizeLine ∧ ∃ F3 h3 acc_1 vs', Step k.K F' H' F3 (upd H4 L0 (.lst (acc ++ [y]))) ∧ RelH k F3 (upd H4 L0 (.lst (acc ++ [y]))) h3 ∧ L0 ∉ F3 ∧ upd H4 L0 (.lst (acc ++ [y])) L0 = some (.lst vs') ∧ DVs k.K F3 (upd H4 L0 (.lst (acc ++ [y]))) acc_1 vs' ∧ iterN (lcStep src t c e (wipeE env vs)) m (i + 1, acc_1, h3) = some fl)
              else ∃ F3 h3 acc vs', Step k.K F' H' F3 H5 ∧ RelH k F3 H5 h3 ∧ L0 ∉ F3 ∧ H5 L0 = some (.lst vs') ∧ DVs k.K F3 H5 acc vs' ∧ iterN (lcStep src t c e (wipeE env vs)) m (i + 1, acc, h3) = some fl := by
            intro b h5 eb F5 H5 s5 r5
            have n5 : L0 ∉ F5 := fun mm => by have := s5.new L0 mm n4; rw [e4] at this; cases this
            have e5 : H5 L0 = some (.lst us) := s5.old L0 _ e4 n4
            have sr5 := sr4.step s5 r5
            have st5 := st4.trans s5
            have dv5 := DVs.mono s5 _ _ dv4
            unfold lcTurn at hm
            rw [eb] at hm
            cases b with
            | false => exact ⟨F5, h5, acc, us, st5, r5, n5, e5, dv5, hm⟩
            | true =>
              rw [if_pos rfl]
              refine ⟨F5, h5, env4, sr5, ?_⟩
              cases ee : e env4 h5 with
              | bad => simp only [ee] at hm; cases hm; exact absurd rfl hne
              | exc x h6 => simp only [ee] at hm; cases hm; exact absurd rfl hne
              | ok y h6 =>
                simp only [ee] at hm
                by_cases hl : acc.length < lim
                · rw [if_pos hl] at hm
                  intro F6 H6 s6 r6 v dv6
                  have n6 : L0 ∉ F6 := fun mm => by have := s6.new L0 mm n5; rw [e5] at this; cases this
                  have e6 : H6 L0 = some (.lst us) := s6.old L0 _ e5 n5
                  have hz : us.length < sizeLine := by
                    rw [← dv2.len]
                    exact Nat.lt_of_lt_of_le hl (le_lim (Nat.le_refl _))
                  exact ⟨us, e6, hz, F6, h6, acc ++ [y], us ++ [v], (st5.trans s6).grow hD e6 soft_lst, r6.grow n6 e6 soft_lst, n6, upd_same, DVs.grow (grow_t e6 soft_lst) (grow_l (k := k) e6 soft_lst) _ _ ((DVs.mono s6 _ _ dv5).app (DVs.cons dv6 DVs.nil)), hm⟩
                · rw [if_neg hl] at hm; cases hm; exact absurd rfl hne
          cases c with
          | none => exact last true h4 rfl F4 H4 .refl r4
          | some c =>
            refine ⟨F4, h4, env4, sr4, ?_⟩
            have ecc : lcC (some c) env4 h4 = tst c env4 h4 := rfl
            cases ec : tst c env4 h4 with
            | bad => unfold lcTurn at hm; rw [ecc, ec] at hm; cases hm; exact absurd rfl hne
            | exc x h6 => unfold lcTurn at hm; rw [ecc, ec] at hm; cases hm; exact absurd rfl hne
            | ok b h5 => exact fun F5 H5 s5 r5 => last b h5 (ecc.trans ec) F5 H5 s5 r5
end
open PySem PySem.Spec PyProof.Rows L2
def lstAt (h : Hs) : D → Option (Nat × List D)
  | .ref n => match h[n]? with
    | some (.lst xs) => some (n, xs)
    | _ => none
  | _ => none
theorem lstAt_ref {h : Hs} {d : D} {n : Nat} {xs : List D} (e : lstAt h d = some (n, xs)) : d = .ref n ∧ h[n]? = some (.lst xs) := by
  unfold lstAt at e
  cases d with
  | ref m =>
    have e : (match h[m]? with | some (.lst xs) => some (m, xs) | _ => none) = some (n, xs) := e
    cases e1 : h[m]? with
    | none => rw [e1] at e; cases e
    | some c =>
      rw [e1] at e
      cases c with
      | lst ys => cases e; exact ⟨rfl, e1⟩
      | _ => cases e
  | _ => cases e
def isL (h : Hs) (d : D) : Bool := (lstAt h d).isSome
def isS (_ : Hs) : D → Bool
  | .str _ => true
  | _ => false
/-- a method that turns a list -/
def lmet (f : List D → List D → Option (List D × D)) : MF := ⟨isL, fun h d ds => match lstAt h d with
  | some (n, xs) => match f xs ds with
    | some (ys, r) => .ok r (h.set n (.lst ys))
    | none => .bad
  | none => .bad⟩
def appM : MF := lmet fun xs ds => match ds with
  | [y] => if xs.length < lim then some (xs ++ [y], .non) else none
  | _ => none
def popM : MF := lmet fun xs ds => match ds with
  | [] => match xs[xs.length - 1]? with
    | some y => some (xs.dropLast, y)
    | none => none
  | _ => none
def revM : MF := lmet fun xs ds => match ds with
  | [] => some (xs.reverse, .non)
  | _ => none
/-- xs.extend(ys), xs += ys: ys another list -/
def extGo (h : Hs) (d : D) : List D → Res D
  | [e] => match lstAt h d with
    | some (n, xs) => match lstAt h e with
      | some (_, ys) => if xs.length + ys.length ≤ lim then .ok .non (h.set n (.lst (xs ++ ys))) else .bad
      | none => .bad
    | none => .bad
  | _ => .bad
def extM : MF := ⟨isL, extGo⟩
def strOf : D → Option (List Nat)
  | .str x => some x
  | _ => none
theorem strOf_eq {d : D} {x : List Nat} (h : strOf d = some x) : d = .str x := by
  cases d <;> cases h <;> rfl
def joinGo (h : Hs) (d : D) : List D → Res D
  | [e] => match strOf d with
    | some a => match (seqH h e).bind strsD with
      | some ys => if (ys.map (·.length)).sum + ys.length * a.length ≤ lim then .ok (.str (TL.joinL a ys)) h else .bad
      | none => .bad
    | none => .bad
  | _ => .bad
def joinM : MF := ⟨isS, joinGo⟩
def splitGo (h : Hs) (d : D) : List D → Res D
  | [e] => match strOf d with
    | some a => match strOf e with
      | some b => if a.length + 2 ≤ lim ∧ b ≠ [] ∧ b.all (· < 256) = true then .ok (.ref h.length) (h ++ [.lst ((TL.spl b 0 [] a).map .str)]) else .bad
      | none => .bad
    | none => .bad
  | _ => .bad
def splitM : MF := ⟨isS, splitGo⟩
section
variable {X : Cx} {k : Kx}
theorem isL_ty (hK : X.K = k.K) : ∀ F H h d v, RelH k F H h → DV k.K F H d v → isL h d = true → tyV X.K "list" v H := fun F H h d v r dv e => by
  unfold isL at e
  cases q : lstAt h d with
  | none => rw [q] at e; cases e
  | some p =>
    obtain ⟨rfl, e1⟩ := lstAt_ref (n := p.1) (xs := p.2) q
    obtain ⟨a, vs, rfl, hf, hl, dvs⟩ := r.lst e1 dv
    exact .inl ⟨rfl, vs, SqL.of hl⟩
theorem isS_ty : ∀ F H h d v, RelH k F H h → DV k.K F H d v → isS h d = true → tyV X.K "str" v H := fun F H h d v r dv e => by
  cases d with
  | str x => rw [dv.strV.1]; exact rfl
  | _ => cases e
theorem lmet_inv {f : List D → List D → Option (List D × D)} {F H h d ds Q} {W0 : Value → Option Addr → Hp → Prop} (p : Post k F H (PV k Q) W0 ((lmet f).go h d ds)) : ∃ n xs ys r, d = .ref n ∧ h[n]? = some (.lst xs) ∧ f xs ds = some (ys, r) ∧ Post k F H (PV k Q) W0 (.ok r (h.set n (.lst ys))) := by
  have p : Post k F H (PV k Q) W0 (match lstAt h d with | some (n, xs) => (match f xs ds with | some (ys, r) => .ok r (h.set n (.lst ys)) | none => .bad) | none => .bad) := p
  cases q : lstAt h d with
  | none => rw [q] at p; exact p.elim
  | some z =>
    obtain ⟨n, xs⟩ := z
    obtain ⟨rfl, e1⟩ := lstAt_ref q
    rw [q] at p
    have p : Post k F H (PV k Q) W0 (match f xs ds with | some (ys, r) => .ok r (h.set n (.lst ys)) | none => .bad) := p
    cases e : f xs ds with
    | none => rw [e] at p; exact p.elim
    | some z => obtain ⟨ys, r⟩ := z; rw [e] at p; exact ⟨n, xs, ys, r, rfl, e1, e, p⟩
/-- a written list -/
theorem Post.wr {F H h n a ys r v Q} {us : List V} {W0 : Value → Option Addr → Hp → Prop} (p : Post k F H (PV k Q) W0 (.ok r (h.set n (.lst ys)))) (rl : RelH k F H h) (hf : F[n]? = some a) (dvs : DVs k.K F H ys us) (dv : DV k.K F H r v) : Q v (upd H a (.lst us)) := by
  have st := rl.stepSet (o := .lst us) hf
  exact p F _ st (rl.setCell hf ⟨us, upd_same, DVs.mono st _ _ dvs⟩) v (DV.mono st _ _ dv)
theorem m_append (hK : X.K = k.K) : MtD X k "list" "list.append" appM := ⟨isL_ty hK, fun pins s σ H x vs v us Q I rx rv q => by
  obtain ⟨W0, F, h, d, ds, rl, dx, dvs, p⟩ := q
  obtain ⟨n, xs, ys, r, rfl, e1, e2, p⟩ := lmet_inv p
  obtain ⟨a, ws, rfl, hf, hl, dw⟩ := rl.lst e1 dx
  match ds, e2 with
  | [y], e2 =>
    have e2 : (if xs.length < lim then some (xs ++ [y], D.non) else none) = some (ys, r) := e2
    by_cases c : xs.length < lim
    · rw [if_pos c] at e2; cases e2
      unfold DVs at dvs
      obtain ⟨w, w', rfl, d1, d2⟩ := dvs
      unfold DVs at d2
      subst d2
      exact mt_append pins s σ H _ _ v us Q I rx rv ⟨a, ws, w, rfl, rfl, hl, by rw [← dw.len]; exact Nat.lt_of_lt_of_le c (le_lim (Nat.le_refl _)), p.wr rl hf (dw.app (DVs.cons d1 DVs.nil)) (by unfold DV; rfl)⟩
    · rw [if_neg c] at e2; cases e2
  | [], e2 => cases e2
  | _ :: _ :: _, e2 => cases e2⟩
theorem DVs.dropLast {K F H} {ds : List D} {vs : List V} (h : DVs K F H ds vs) : DVs K F H ds.dropLast vs.dropLast := by
  rw [List.dropLast_eq_take, List.dropLast_eq_take, ← h.len]; exact h.take _
theorem m_pop (hK : X.K = k.K) : MtD X k "list" "list.pop" popM := ⟨isL_ty hK, fun pins s σ H x vs v us Q I rx rv q => by
  obtain ⟨W0, F, h, d, ds, rl, dx, dvs, p⟩ := q
  obtain ⟨n, xs, ys, r, rfl, e1, e2, p⟩ := lmet_inv p
  obtain ⟨a, ws, rfl, hf, hl, dw⟩ := rl.lst e1 dx
  match ds, e2 with
  | [], e2 =>
    have e2 : (match xs[xs.length - 1]? with | some y => some (xs.dropLast, y) | none => none) = some (ys, r) := e2
    cases e3 : xs[xs.length - 1]? with
    | none => rw [e3] at e2; cases e2
    | some y =>
      rw [e3] at e2; cases e2
      unfold DVs at dvs
      subst dvs
      obtain ⟨w, ew, d1⟩ := dw.get e3
      rw [dw.len] at ew
      exact mt_pop pins s σ H _ _ v us Q I rx rv ⟨a, ws, w, rfl, rfl, hl, ew, p.wr rl hf dw.dropLast d1⟩
  | _ :: _, e2 => cases e2⟩
theorem m_reverse (hK : X.K = k.K) : MtD X k "list" "list.reverse" revM := ⟨isL_ty hK, fun pins s σ H x vs v us Q I rx rv q => by
  obtain ⟨W0, F, h, d, ds, rl, dx, dvs, p⟩ := q
  obtain ⟨n, xs, ys, r, rfl, e1, e2, p⟩ := lmet_inv p
  obtain ⟨a, ws, rfl, hf, hl, dw⟩ := rl.lst e1 dx
  match ds, e2 with
  | [], e2 =>
    cases e2
    unfold DVs at dvs
    subst dvs
    exact mt_reverse pins s σ H _ _ v us Q I rx rv ⟨a, ws, rfl, rfl, hl, p.wr rl hf dw.rev (by unfold DV; rfl)⟩
  | _ :: _, e2 => cases e2⟩
theorem m_extend (hK : X.K = k.K) : MtD X k "list" "list.extend" extM := ⟨isL_ty hK, fun pins s σ H x vs v us Q I rx rv q => by
  obtain ⟨W0, F, h, d, ds, rl, dx, dvs, p⟩ := q
  have p : Post k F H (PV k Q) W0 (extGo h d ds) := p
  unfold extGo at p
  split at p
  · rename_i e
    split at p
    · rename_i n xs e0
      split at p
      · rename_i m ys e3
        obtain ⟨c, p⟩ := p.cond
        obtain ⟨rfl, e1⟩ := lstAt_ref e0
        obtain ⟨rfl, e2⟩ := lstAt_ref e3
        obtain ⟨a, ws, rfl, hf, hl, dw⟩ := rl.lst e1 dx
        unfold DVs at dvs
        obtain ⟨w, w', rfl, d1, d2⟩ := dvs
        unfold DVs at d2
        subst d2
        obtain ⟨b, zs, rfl, hf2, hl2, dz⟩ := rl.lst e2 d1
        exact mt_extend pins s σ H _ _ v us Q I rx rv ⟨a, b, ws, zs, rfl, rfl, hl, hl2, by rw [← dw.len, ← dz.len]; exact le_lim c, p.wr rl hf (dw.app dz) (by unfold DV; rfl)⟩
      · exact p.elim
    · exact p.elim
  · exact p.elim⟩
theorem joinL_len (a : List Nat) : ∀ ys : List (List Nat), (TL.joinL a ys).length ≤ (ys.map (·.length)).sum + ys.length * a.length
  | [] => Nat.zero_le _
  | [x] => by show x.length ≤ _; simp only [List.map_cons, List.map_nil, List.sum_cons, List.sum_nil]; omega
  | x :: y :: r => by
    have h := joinL_len a (y :: r)
    show (x ++ (a ++ TL.joinL a (y :: r))).length ≤ _
    rw [List.length_append, List.length_append]
    simp only [List.map_cons, List.sum_cons, List.length_cons, Nat.succ_mul] at h ⊢
    omega
theorem m_join (hK : X.K = k.K) : MtD X k "str" "str.join" joinM := ⟨isS_ty, fun pins s σ H x vs v us Q I rx rv q => by
  obtain ⟨W0, F, h, d, ds, rl, dx, dvs, p⟩ := q
  have p : Post k F H (PV k Q) W0 (joinGo h d ds) := p
  unfold joinGo at p
  split at p
  · rename_i e
    split at p
    · rename_i a e0
      split at p
      · rename_i ys e2
        obtain ⟨c, p⟩ := p.cond
        have := strOf_eq e0
        subst this
        obtain ⟨rfl, _⟩ := dx.strV
        unfold DVs at dvs
        obtain ⟨w, w', rfl, d1, d2⟩ := dvs
        unfold DVs at d2
        subst d2
        obtain ⟨xs, e1, e2⟩ := Option.bind_eq_some_iff.mp e2
        obtain ⟨b, zs, rfl, hs, dz, _, _⟩ := rl.seq d1 e1
        have := strsD_eq e2
        subst this
        obtain ⟨rfl, hz⟩ := dz.strs
        refine mt_join pins s σ H _ _ v us Q I rx rv ⟨_, b, ys.map SX.S, rfl, rfl, ?_, ?_, ?_⟩
        · rw [hK, List.map_map]; exact hs
        · rw [SX.lens, List.length_map, SX.S_len]; exact c
        · rw [SX.join_S]
          exact Post.here p rl (DV.mkStr (Nat.le_trans (joinL_len a ys) c))
      · exact p.elim
    · exact p.elim
  · exact p.elim⟩
theorem spl_len (b : List Nat) : ∀ (a : List Nat) (n : Nat) (acc : List Nat), ∀ x ∈ TL.spl b n acc a, x.length ≤ acc.length + a.length
  | [], n, acc, x, h => by
    rw [TL.spl_nil] at h
    rw [List.mem_singleton.mp h]; exact Nat.le_add_right _ _
  | c :: r, 0, acc, x, h => by
    have h : x ∈ (if TL.pre b (c :: r) = true then acc :: TL.spl b (b.length - 1) [] r else TL.spl b 0 (acc ++ [c]) r) := h
    by_cases q : TL.pre b (c :: r) = true
    · rw [if_pos q] at h
      rcases List.mem_cons.mp h with e | e
      · rw [e]; exact Nat.le_add_right _ _
      · have := spl_len b r _ _ x e
        simp only [List.length_nil, List.length_cons] at this ⊢
        omega
    · rw [if_neg q] at h
      have := spl_len b r _ _ x h
      simp only [List.length_append, List.length_cons, List.length_nil] at this ⊢
      omega
  | c :: r, n + 1, acc, x, h => by
    have := spl_len b r n acc x h
    rw [List.length_cons]
    omega
theorem m_split (hK : X.K = k.K) : MtD X k "str" "str.split" splitM := ⟨isS_ty, fun pins s σ H x vs v us Q I rx rv q => by
  obtain ⟨W0, F, h, d, ds, rl, dx, dvs, p⟩ := q
  have p : Post k F H (PV k Q) W0 (splitGo h d ds) := p
  unfold splitGo at p
  split at p
  · rename_i e
    split at p
    · rename_i a e0
      split at p
      · rename_i b e2
        obtain ⟨c, p⟩ := p.cond
        have := strOf_eq e0
        subst this
        have := strOf_eq e2
        subst this
        obtain ⟨rfl, ha⟩ := dx.strV
        unfold DVs at dvs
        obtain ⟨w, w', rfl, d1, d2⟩ := dvs
        unfold DVs at d2
        subst d2
        obtain ⟨rfl, _⟩ := d1.strV
        refine mt_split pins s σ H _ _ v us Q I rx rv ⟨_, _, rfl, rfl, ?_, ?_, ?_⟩
        · have hb : (SX.S b).length = b.length := SX.S_len b
          show ((SX.S b).length == 0) = false
          rw [hb]
          cases b with
          | nil => exact absurd rfl c.2.1
          | cons x y => rfl
        · show (SX.S a).length + 2 ≤ sizeLine
          rw [SX.S_len]; exact le_lim c.1
        · show rNewStrs (Txt.split (SX.S a) (SX.S b)) H Q
          rw [SX.split_S c.2.1 c.2.2]
          intro q hq
          rw [List.map_map]
          refine Post.lst p rl ?_ hq
          have : ∀ l : List (List Nat), (∀ x ∈ l, x.length ≤ lim) → DVs k.K F H (l.map .str) (l.map (V.str ∘ SX.S)) := by
            intro l
            induction l with
            | nil => intro _; exact DVs.nil
            | cons x l ih => exact fun hx => DVs.cons (DV.mkStr (hx x List.mem_cons_self)) (ih fun y hy => hx y (List.mem_cons_of_mem _ hy))
          exact this _ fun x hx => Nat.le_trans (spl_len b a 0 [] x hx) (by simpa using ha)
      · exact p.elim
    · exact p.elim
  · exact p.elim⟩
end
def isubOp (h : Hs) : D → D → Res D
  | .int i, .int j => .ok (.int (i - j)) h
  | _, _ => .bad
def iaddOp (h : Hs) (d e : D) : Res D := match d with
  | .int i => match e with
    | .int j => .ok (.int (i + j)) h
    | _ => .bad
  | .str a => match strOf e with
    | some b => if a.length + b.length ≤ lim then .ok (.str (a ++ b)) h else .bad
    | none => .bad
  | .ref n => match h[n]? with
    | some (.lst xs) => match lstAt h e with
      | some (_, ys) => if xs.length + ys.length ≤ lim then .ok (.ref n) (h.set n (.lst (xs ++ ys))) else .bad
      | none => .bad
    | _ => .bad
  | _ => .bad
def iaugOp : Operator → Hs → D → D → Res D
  | .Add => iaddOp
  | .Sub => isubOp
  | _ => fun _ _ _ => .bad
section
variable {X : Cx} {k : Kx} {W : WX} {pos : Pos}
theorem iop_addD (hK : X.K = k.K) : OpR X (inplaceOp .Add) (rD k iaddOp) := by
  intro pins s σ H x y v u Q I rx ry q
  obtain ⟨W0, F, h, d, e, rl, dx, dy, p⟩ := q
  unfold iaddOp at p
  cases d with
  | int i =>
    cases e with
    | int j => cases dx.intV; cases dy.intV; exact iop_add pins s σ H _ _ v u Q I rx ry ⟨i, j, rfl, rfl, Post.here p rl DV.mkInt⟩
    | _ => exact p.elim
  | str a =>
    dsimp only at p
    split at p
    · rename_i b e0
      obtain ⟨c, p⟩ := p.cond
      have := strOf_eq e0
      subst this
      obtain ⟨rfl, _⟩ := dx.strV
      obtain ⟨rfl, _⟩ := dy.strV
      refine iop_add_str pins s σ H _ _ v u Q I rx ry ⟨_, _, rfl, rfl, ?_, ?_⟩
      · show (SX.S a).length + (SX.S b).length ≤ sizeLine
        rw [SX.S_len, SX.S_len]; exact le_lim c
      · show Q (.str (SX.S a ++ SX.S b)) H
        rw [SX.S_cat]
        exact Post.here p rl (DV.mkStr (by rw [List.length_append]; exact c))
    · exact p.elim
  | ref n =>
    dsimp only at p
    split at p
    · rename_i xs e1
      split at p
      · rename_i m ys e3
        obtain ⟨c, p⟩ := p.cond
        obtain ⟨rfl, e2⟩ := lstAt_ref e3
        obtain ⟨a, ws, rfl, hf, hl, dw⟩ := rl.lst e1 dx
        obtain ⟨b, zs, rfl, hf2, hl2, dz⟩ := rl.lst e2 dy
        exact iop_ext pins s σ H _ _ v u Q I rx ry ⟨a, b, ws, zs, rfl, rfl, hl, hl2, by rw [← dw.len, ← dz.len]; exact le_lim c, p.wr rl hf (dw.app dz) dx⟩
      · exact p.elim
    · exact p.elim
  | _ => exact p.elim
theorem iop_subD : OpR X (inplaceOp .Sub) (rD k isubOp) := by
  intro pins s σ H x y v u Q I rx ry q
  obtain ⟨W0, F, h, d, e, rl, dx, dy, p⟩ := q
  cases d with
  | int i =>
    cases e with
    | int j => cases dx.intV; cases dy.intV; exact iop_sub pins s σ H _ _ v u Q I rx ry ⟨i, j, rfl, rfl, Post.here (d := .int (i - j)) p rl DV.mkInt⟩
    | _ => exact p.elim
  | _ => exact p.elim
theorem iop_D (hK : X.K = k.K) (op : Operator) : OpR X (inplaceOp op) (rD k (iaugOp op)) := by
  cases op with
  | Add => exact iop_addD hK
  | Sub => exact iop_subD
  | _ => exact fun _ _ _ _ _ _ _ _ _ _ _ _ ⟨_, _, _, _, _, _, _, _, p⟩ => p.elim
theorem ms_aug {i : Nat} {x : Str} {e : Expr} {fa : Ev} {op : Operator} {pos' : Pos} (hK : X.K = k.K) (hN : X.N.Nodup) (hi : X.N[i]? = some x) (hx : Loc X.env.scope x) (he : PE X e (tE k W fa)) (hf : X.fn x = true ∨ X.env.scope.names.lookup x = some .local) :
    PS X (.AugAssign (.Name x pos') op e pos) (tS k W (augF i fa (iaugOp op))) := PS.imp (ps_aug hN hi hx he (iop_D (k := k) hK op) hf) fun N σ H p => by
  obtain ⟨F, h, env, sr, p⟩ := p
  have p : PostF k F H N W (match env[i]? with
    | some (some x) => (fa env h).fl env fun y h1 => (iaugOp op h1 x y).fl env fun z h2 => .nx (env.set i (some z)) h2
    | _ => .bad) := p
  cases e1 : env[i]? with
  | none => rw [e1] at p; exact p.elim
  | some o =>
    rw [e1] at p
    cases o with
    | none => exact p.elim
    | some d =>
      obtain ⟨v, e2, dv⟩ := sr.er.2 i d e1
      refine ⟨v, e2, F, h, env, sr, (fl_post sr p).imp (fun y F' h' H' _ _ q w dw => ?_) fun _ _ _ x => x⟩
      obtain ⟨s, r, q⟩ := q
      have sr' := sr.step s r
      have q' := fl_post sr' q
      refine ⟨fun c d H' => W c d σ H', F', h', d, y, r, DV.mono s _ _ dv, dw, q'.imp (fun z F2 h2 H2 _ _ q2 u du => ?_) fun _ _ _ x => x⟩
      obtain ⟨s2, r2, q2⟩ := q2
      exact q2 F2 H2 _ .refl r2 ((sr'.er.mono s2).set i du)
/-- xs[i], xs a list in the heap -/
def getL (h : Hs) (d e : D) : Res D := match lstAt h d with
  | some (_, xs) => match e with
    | .int i => Res.of (atI xs i) h
    | _ => .bad
  | none => .bad
/-- what is read ahead of o[i] op= .. -/
def getOp (h : Hs) (d e : D) : Res D := match dicRd h d with
  | some (t, kvs) => if kOk t e = true then Res.of (dfind kvs e) h else .bad
  | none => getL h d e
def augS (o i a : Ev) (op : Operator) : Sf := fun env h => (o env h).fl env fun x h1 => (i env h1).fl env fun y h2 => (getOp h2 x y).fl env fun z h3 => (a env h3).fl env fun w h4 => (iaugOp op h4 z w).fl env fun u h5 => match setOp h5 x y u with
  | some h6 => .nx env h6
  | none => .bad
theorem ix_getL (hK : X.K = k.K) : PGet X (rD k getL) := by
  intro pins s σ H x y v u Q I rx ry q
  obtain ⟨W0, F, h, d, e, rl, dx, dy, p⟩ := q
  unfold getL at p
  split at p
  · rename_i n xs e0
    obtain ⟨rfl, e1⟩ := lstAt_ref e0
    obtain ⟨a, ws, rfl, hf, hl, dw⟩ := rl.lst e1 dx
    cases e with
    | int i =>
      dsimp only at p
      cases dy.intV
      obtain ⟨z, ez, p⟩ := Post.ofOpt p rl
      obtain ⟨w, e3, dz⟩ := atI_dv dw ez
      cases rx
      obtain ⟨t, rfl⟩ := ry
      obtain ⟨its, r, pl, hz⟩ := I.list (SqL.of hl)
      obtain ⟨j, h1, h2, h3, h4, h5⟩ := atI_get e3
      obtain ⟨w', ew, rw'⟩ := r.get h2
      have hlen := r.length
      have hn := line63
      have fin : EP X pins σ Q w' s := ⟨w, H, I, rw', p w dz⟩
      by_cases h0 : 0 ≤ i
      · have hj : i.toNat = j := by
          rw [seqIndex_of h0 h5] at h1
          exact Option.some.inj h1
        exact wpAny_getItem_list pl.isList h0 (by omega) (by rw [hj]; simpa using ew) fin
      · have hj : (i + (its.toArray.size : Int)).toNat = j := by
          rw [seqIndex_neg (by omega) h4] at h1
          rw [List.size_toArray, ← hlen]
          exact Option.some.inj h1
        exact wpAny_getItem_list_neg pl.isList (by omega) (by rw [List.size_toArray] <;> omega) (by omega) (by rw [hj]; simpa using ew) fin
    | _ => exact p.elim
  · exact p.elim
theorem ix_get (hK : X.K = k.K) (hu : X.A.units + 1 < cLine) : PGet X (rD k getOp) := by
  intro pins s σ H x y v u Q I rx ry q
  obtain ⟨W0, F, h, d, e, rl, dx, dy, p⟩ := q
  unfold getOp at p
  cases e1 : dicRd h d with
  | none => rw [e1] at p; exact ix_getL hK pins s σ H x y v u Q I rx ry ⟨W0, F, h, d, e, rl, dx, dy, p⟩
  | some tk =>
    obtain ⟨t, kvs⟩ := tk
    rw [e1] at p
    obtain ⟨q, p⟩ := Post.cond (c := kOk t e = true) (r := Res.of (dfind kvs e) h) p
    obtain ⟨a, o, rfl, g, co⟩ := rl.dget e1 q dx dy
    rcases co with ⟨e3, rfl⟩ | ⟨z, w, e3, rfl, dz⟩
    · rw [e3] at p; exact p.elim
    · rw [e3] at p
      cases rx
      exact d_getItem hu I g ry fun w' s3 I3 rw' => ⟨w, H, I3, rw', Post.here p rl dz⟩
theorem ms_augS {o i e : Expr} {fo fi fa : Ev} {op : Operator} {tpos : Pos} (hK : X.K = k.K) (hu : X.A.units + 1 < cLine) (ho : PE X o (tE k W fo)) (hi : PE X i (tE k W fi)) (he : PE X e (tE k W fa))
    (ha : ∀ ov iv new, augStore i ov iv new = (do holding [new, ov, iv] (setItem ov iv new); release [new, ov, iv] []; pure .next)) : PS X (.AugAssign (.Subscript o i tpos) op e pos) (tS k W (augS fo fi fa op)) := PS.imp (ps_augS ho hi (ix_get (k := k) hK hu) he (iop_D (k := k) hK op) (set_D (k := k) hu) ha) fun N σ H p => by
  obtain ⟨F, h, env, sr, p⟩ := p
  refine ⟨F, h, env, sr, (fl_post sr p).imp (fun x F1 h1 H1 _ _ q xv dx => ?_) fun _ _ _ x => x⟩
  obtain ⟨s1, r1, q⟩ := q
  have sr1 := sr.step s1 r1
  refine ⟨F1, h1, env, sr1, (fl_post sr1 q).imp (fun y F2 h2 H2 _ _ q yv dy => ?_) fun _ _ _ x => x⟩
  obtain ⟨s2, r2, q⟩ := q
  have sr2 := sr1.step s2 r2
  refine ⟨_, F2, h2, x, y, r2, DV.mono s2 _ _ dx, dy, (fl_post sr2 q).imp (fun z F3 h3 H3 _ _ q zv dz => ?_) fun _ _ _ x => x⟩
  obtain ⟨s3, r3, q⟩ := q
  have sr3 := sr2.step s3 r3
  refine ⟨F3, h3, env, sr3, (fl_post sr3 q).imp (fun w F4 h4 H4 _ _ q wv dw => ?_) fun _ _ _ x => x⟩
  obtain ⟨s4, r4, q⟩ := q
  have sr4 := sr3.step s4 r4
  refine ⟨_, F4, h4, z, w, r4, DV.mono s4 _ _ dz, dw, (fl_post sr4 q).imp (fun u F5 h5 H5 _ _ q uv du => ?_) fun _ _ _ x => x⟩
  obtain ⟨s5, r5, q⟩ := q
  cases e6 : setOp h5 x y u with
  | none => rw [e6] at q; exact q.elim
  | some h6 =>
    rw [e6] at q
    have st := ((s2.trans s3).trans s4).trans s5
    exact ⟨F5, h5, x, y, u, h6, r5, DV.mono st _ _ dx, DV.mono ((s3.trans s4).trans s5) _ _ dy, du, e6, fun H6 s6 r6 => q F5 H6 σ s6 r6 (((sr4.step s5 r5).er).mono s6)⟩
section
variable {elt tg ite : Expr} {scope : Scope} {own : List (Str × Nat)} {fi : Sv} {t : Tg} {fe : Ev}
theorem me_lc {ifs : List Expr} {c : Option Ev} (hc : X.calm = true) (hN : X.N.Nodup) (hi : PI X tg ite (tI k W fi)) (ok : BlkOk X.N X.env.scope scope own)
    (hg : ∀ (s : Shared) (H : Hp) (C : Addr) (cl : List (Str × Addr)) (fp : List Addr), PG (X.blk s H scope (compEnvC scope cl C X.env) fp) tg (tGw k (own.map (·.2)) (asgT t)))
    (ht : ∀ (s : Shared) (H : Hp) (C : Addr) (cl : List (Str × Addr)) (fp : List Addr), PTs (X.blk s H scope (compEnvC scope cl C X.env) fp) ifs (tTc k c))
    (he : ∀ (s : Shared) (H : Hp) (C : Addr) (cl : List (Str × Addr)) (fp : List Addr), PE (X.blk s H scope (compEnvC scope cl C X.env) fp) elt (tE k (fun _ _ _ _ => False) fe)) (hs : ∀ x, foldedSetIterable ite X.env x = pure x) :
    PE X (.ListComp elt [⟨tg, ite, ifs, 0⟩] scope pos) (tE k W (lcE fi t c fe (own.map (·.2)))) :=
  PE.imp (pe_lc hc hN hi ok hg ht he hs) fun σ H Q p => lc_read p
theorem ms_setLc {i : Nat} {y : Str} {py spos : Pos} {ifs : List Expr} {c : Option Ev} (hc : X.calm = true) (hN : X.N.Nodup) (hy : X.N[i]? = some y) (hyl : X.env.scope.names.lookup y = some .local)
    (hsw : swapsWith (.ListComp elt [⟨tg, ite, ifs, 0⟩] scope pos) (some (.Name y py)) spos.line X.env = pure true) (hi : PI X tg ite (tI k W fi)) (ok : BlkOk X.N X.env.scope scope own)
    (hg : ∀ (s : Shared) (H : Hp) (C : Addr) (cl : List (Str × Addr)) (fp : List Addr), PG (X.blk s H scope (compEnvC scope cl C X.env) fp) tg (tGw k (own.map (·.2)) (asgT t)))
    (ht : ∀ (s : Shared) (H : Hp) (C : Addr) (cl : List (Str × Addr)) (fp : List Addr), PTs (X.blk s H scope (compEnvC scope cl C X.env) fp) ifs (tTc k c))
    (he : ∀ (s : Shared) (H : Hp) (C : Addr) (cl : List (Str × Addr)) (fp : List Addr), PE (X.blk s H scope (compEnvC scope cl C X.env) fp) elt (tE k (fun _ _ _ _ => False) fe)) (hs : ∀ x, foldedSetIterable ite X.env x = pure x) :
    PS X (.Assign [.Name y py] (.ListComp elt [⟨tg, ite, ifs, 0⟩] scope pos) spos) (tS k W (asgF (lcE fi t c fe (own.map (·.2))) (asgT (.nm i)))) :=
  PS.imp (ps_setLc hc hN hy hyl hsw hi ok hg ht he hs) fun N σ H p => by
    obtain ⟨F, h, env, sr, p⟩ := p
    refine lc_read (W := W) ⟨F, h, env, sr, (fl_post sr p).imp (fun d F' h' H' _ _ q v dv => ?_) fun _ _ _ x => x⟩
    obtain ⟨s, r, q⟩ := q
    have q : PostF k F' H' N W ((asgT (.nm i) d env h').fl env fun env' h2 => .nx env' h2) := q
    unfold asgT at q
    exact q F' H' _ .refl r ((sr.er.mono s).set i dv)
end
end
open PySem PySem.Spec PyProof.Rows L2
def newD (t : Bool) : Ev := fun _ h => .ok (.ref h.length) (h ++ [.dic t false []])
def prsE : List (Ev × Ev) → Env → Hs → Res (List (D × D))
  | [], _, h => .ok [] h
  | (a, b) :: r, env, h => (a env h).bind fun x h1 => (b env h1).bind fun y h2 => (prsE r env h2).bind fun l h3 => .ok ((x, y) :: l) h3
def mergeD (kvs more : List (D × D)) : List (D × D) := more.foldl (fun acc kv => dput acc kv.1 kv.2) kvs
/-- {k: v, ..} -/
def dspE (fs : List (Ev × Ev)) : Ev := fun env h => (prsE fs env h).bind fun l h1 => if (l.all fun p => k1 p.1) = true then .ok (.ref h1.length) (h1 ++ [.dic false false (mergeD [] l)]) else .bad
section
variable {k : Kx} {W : WX} {X : Cx} {pos : Pos} {F : List Addr} {H : Hp} {h : Hs} {Q : VK} {W' : Value → Option Addr → Hp → Prop}
theorem Post.dicN {a : Addr} {t : Bool} {o : HO} {kvs : List (D × D)} (p : Post k F H (PV k Q) W' (.ok (.ref h.length) (h ++ [.dic t false kvs]))) (r : RelH k F H h) (dr : DicR k.K F H t kvs o) (ha : H a = none) : Q (.ref a) (upd H a o) := by
  have st := r.stepCell (o := o) ha
  refine p (F ++ [a]) _ st (r.addCell ha ⟨o, dr.mono st, upd_same⟩) _ ?_
  unfold DV
  exact ⟨a, rfl, by rw [← r.len, List.getElem?_append_right (Nat.le_refl _), Nat.sub_self]; rfl⟩
theorem me_dnew (t : Bool) : PE X (.Dict [] [] pos) (tE k W (newD t)) := by
  cases t with
  | false => exact PE.imp pe_dnewK fun σ H Q ⟨F, h, env, sr, p⟩ q hq => Post.dicN (t := false) (kvs := []) p sr.rel ⟨[], rfl, .nil⟩ hq
  | true => exact PE.imp pe_dnewT fun σ H Q ⟨F, h, env, sr, p⟩ q hq => Post.dicN (t := true) (kvs := []) p sr.rel ⟨[], rfl, .nil⟩ hq
abbrev PrR (k : Kx) (F : List Addr) (H : Hp) : List (D × D) → List (V × V) → Prop := Paired fun (p : D × D) (q : V × V) => DV k.K F H p.1 q.1 ∧ DV k.K F H p.2 q.2
theorem prs_imp {σ : L2.St} : ∀ (fs : List (Ev × Ev)) (F : List Addr) (H : Hp) (h : Hs) (env : Env) (Q : List (V × V) → Hp → Prop), SR k F H h σ env → Post k F H (fun l F' _ H' => ∀ ps, PrR k F' H' l ps → Q ps H') (fun c d H' => W c d σ H') (prsE fs env h) → tPairs (fs.map fun q => (tE k W q.1, tE k W q.2)) σ H Q
  | [], F, H, h, env, Q, sr, p => Post.ok (P := fun l F' _ H' => ∀ ps, PrR k F' H' l ps → Q ps H') p sr.rel [] .nil
  | (a, b) :: r, F, H, h, env, Q, sr, p => by
    refine ⟨F, h, env, sr, (Post.bind (r := a env h) p).imp (fun x F1 h1 H1 s1 r1 q xv dx => ?_) fun _ _ _ x => x⟩
    have sr1 := sr.step s1 r1
    refine ⟨F1, h1, env, sr1, q.bind.imp (fun y F2 h2 H2 s2 r2 q yv dy => ?_) fun _ _ _ x => x⟩
    have sr2 := sr1.step s2 r2
    exact prs_imp r F2 H2 h2 env _ sr2 (q.bind.imp (fun l F3 h3 H3 s3 r3 q ps pr => q F3 H3 .refl r3 _ (.cons ⟨DV.mono (s2.trans s3) _ _ dx, DV.mono s3 _ _ dy⟩ pr)) fun _ _ _ x => x)
theorem prs_keys {l : List (D × D)} {ps : List (V × V)} (pr : PrR k F H l ps) (hk : (l.all fun p => k1 p.1) = true) : ∃ kvs : List (Key × V), ps = kvs.map (fun kv => (kV kv.1, kv.2)) ∧ TabR (DV k.K F H) keyD keyOk l kvs := by
  induction pr with
  | nil => exact ⟨[], rfl, .nil⟩
  | @cons p q ps qs r _ ih =>
    rw [List.all_cons, Bool.and_eq_true] at hk
    obtain ⟨kvs, e, t⟩ := ih hk.2
    obtain ⟨ky, e1, e2, o⟩ := k1_key hk.1 r.1
    refine ⟨(ky, q.2) :: kvs, ?_, .cons ⟨e1, o, r.2⟩ t⟩
    rw [List.map_cons, ← e, ← e2]
theorem TabR.merge {R : D → V → Prop} : ∀ {l : List (D × D)} {kvs : List (Key × V)}, TabR R keyD keyOk l kvs → ∀ {m : List (D × D)} {ms : List (Key × V)}, TabR R keyD keyOk m ms → TabR R keyD keyOk (mergeD m l) (mergeK ms kvs)
  | _, _, .nil, _, _, t => t
  | _, _, .cons (a := p) (b := q) r t, _, _, t0 => by
    have z := TabR.put kEq_keyD t0 (k := q.1) r.2.1 r.2.2
    rw [← r.1] at z
    exact TabR.merge t z
theorem me_disp {keys : List (Option Expr)} {values : List Expr} {fs : List (Ev × Ev)} (hp : PPs X pos keys values (fs.map fun q => (tE k W q.1, tE k W q.2))) (hall : keys.all (·.isSome) = true) (hl : keys.length = values.length) (h0 : keys ≠ []) (h15 : keys.length ≤ 15) (hf : fs.length = keys.length) :
    PE X (.Dict keys values pos) (tE k W (dspE fs)) := by
  refine PE.imp (pe_disp hp hall hl h0 h15) fun σ H Q p q hq => ?_
  obtain ⟨F, h, env, sr, p⟩ := p
  have nq := sr.rel.fresh hq
  have s0 := sr.rel.stepNew (o := .dK []) hq
  have sr0 : SR k F (upd H q (.dK [])) h σ env := sr.step s0 (sr.rel.addNew hq)
  refine prs_imp fs F _ h env _ sr0 ?_
  cases e : prsE fs env h with
  | bad => have p : Post k F H (PV k Q) _ ((prsE fs env h).bind fun l h1 => if (l.all fun p => k1 p.1) = true then .ok (.ref h1.length) (h1 ++ [.dic false false (mergeD [] l)]) else .bad) := p; rw [e] at p; exact p.elim
  | exc x h1 =>
    have p : Post k F H (PV k Q) (fun c d H' => W c d σ H') ((prsE fs env h).bind fun l h1 => if (l.all fun p => k1 p.1) = true then .ok (.ref h1.length) (h1 ++ [.dic false false (mergeD [] l)]) else .bad) := p
    rw [e] at p
    exact fun F' H' cls dx s r xr => p F' H' cls dx (s0.trans s) r xr
  | ok l h1 =>
    have p : Post k F H (PV k Q) (fun c d H' => W c d σ H') ((prsE fs env h).bind fun l h1 => if (l.all fun p => k1 p.1) = true then .ok (.ref h1.length) (h1 ++ [.dic false false (mergeD [] l)]) else .bad) := p
    rw [e] at p
    obtain ⟨c, p⟩ := Post.cond (c := (l.all fun p => k1 p.1) = true) (r := (.ok (.ref h1.length) (h1 ++ [.dic false false (mergeD [] l)]) : Res D)) p
    intro F1 H1 s1 r1 ps pr
    have n1 : q ∉ F1 := fun mm => by have := s1.new q mm nq; rw [upd_same] at this; cases this
    have e1 : H1 q = some (.dK []) := s1.old q _ upd_same nq
    obtain ⟨kvs, rfl, t⟩ := prs_keys pr c
    have hlen : kvs.length ≤ 15 := by
      have a1 : l.length = kvs.length := t.length
      have a2 : l.length = fs.length := by
        clear p pr t c
        have key : ∀ (fs : List (Ev × Ev)) (h : Hs) (l : List (D × D)) (h1 : Hs), prsE fs env h = .ok l h1 → l.length = fs.length := by
          intro fs
          induction fs with
          | nil => intro h l h1 e; cases e; rfl
          | cons ab r ih =>
            intro h l h1 e
            obtain ⟨a, b⟩ := ab
            have e : ((a env h).bind fun x h1 => (b env h1).bind fun y h2 => (prsE r env h2).bind fun l h3 => .ok ((x, y) :: l) h3) = .ok l h1 := e
            cases ea : a env h with
            | bad => rw [ea] at e; cases e
            | exc => rw [ea] at e; cases e
            | ok x h2 =>
              rw [ea] at e
              have e : ((b env h2).bind fun y h2 => (prsE r env h2).bind fun l h3 => .ok ((x, y) :: l) h3) = .ok l h1 := e
              cases eb : b env h2 with
              | bad => rw [eb] at e; cases e
              | exc => rw [eb] at e; cases e
              | ok y h3 =>
                rw [eb] at e
                have e : ((prsE r env h3).bind fun l h3 => .ok ((x, y) :: l) h3) = .ok l h1 := e
                cases er : prsE r env h3 with
                | bad => rw [er] at e; cases e
                | exc => rw [er] at e; cases e
                | ok l' h4 => rw [er] at e; cases e; rw [List.length_cons, List.length_cons, ih _ _ _ er]
        exact key fs h l h1 e
      omega
    refine ⟨e1, kvs, rfl, hlen, ?_⟩
    have st : Step k.K F H F1 (upd H1 q (.dK (mergeK [] kvs))) := (s0.trans s1).grow hq e1 soft_dK
    have rl : RelH k F1 (upd H1 q (.dK (mergeK [] kvs))) h1 := r1.grow n1 e1 soft_dK
    have tm := TabR.merge t (m := []) (ms := []) .nil
    refine p (F1 ++ [q]) _ (st.known hq) (rl.known n1 ⟨.dK (mergeK [] kvs), ⟨_, rfl, Paired.mapP tm fun _ _ z => ⟨z.1, z.2.1, DV.more _ _ (DV.grow (grow_t e1 soft_dK) (grow_l (k := k) e1 soft_dK) _ _ z.2.2)⟩⟩, upd_same⟩) _ ?_
    unfold DV
    exact ⟨q, rfl, by rw [← r1.len, List.getElem?_append_right (Nat.le_refl _), Nat.sub_self]; rfl⟩
end
def dcTurn (c : Option Ev) (ek ev : Ev) (i : Nat) (acc : List (D × D)) (env : Env) (h : Hs) : Nat × List (D × D) × Hs ⊕ Res (List (D × D)) := match lcC c env h with
  | .ok true h2 => match ek env h2 with
    | .ok y h3 => match ev env h3 with
      | .ok z h4 => if k1 y = true ∧ acc.length < lim then .inl (i + 1, dput acc y z, h4) else .inr .bad
      | _ => .inr .bad
    | _ => .inr .bad
  | .ok false h2 => .inl (i + 1, acc, h2)
  | _ => .inr .bad
def dcStep (src : Src) (t : Tg) (c : Option Ev) (ek ev : Ev) (env : Env) : Nat × List (D × D) × Hs → (Nat × List (D × D) × Hs) ⊕ Res (List (D × D)) := fun s => match src.nxt s.1 s.2.2 with
  | none => .inr .bad
  | some none => .inr (.ok s.2.1 s.2.2)
  | some (some d) => match asgT t d env s.2.2 with
    | .ok env1 h1 => dcTurn c ek ev s.1 s.2.1 env1 h1
    | _ => .inr .bad
noncomputable def dcE (s : Sv) (t : Tg) (c : Option Ev) (ek ev : Ev) (vs : List Nat) : Ev := fun env h => (s env h).bind fun src h1 =>
  (iter (dcStep src t c ek ev (wipeE env vs)) .bad (0, [], h1)).bind fun xs h2 => .ok (.ref h2.length) (h2 ++ [.dic false false xs])
section
variable {k : Kx} {W : WX}
theorem dc_read {fi : Sv} {t : Tg} {c : Option Ev} {ek ev : Ev} {vs : List Nat} {σ H Q} (p : tE k W (dcE fi t c ek ev vs) σ H Q) : tDc (tI k W fi) (tGw k vs (asgT t)) (tTc k c) (tE k (fun _ _ _ _ => False) ek) (tE k (fun _ _ _ _ => False) ev) vs σ H Q := by
  obtain ⟨F, h, env, sr, p⟩ := p
  refine ⟨F, h, env, sr, p.bind.imp (fun src F' h' H' s r q J jr L0 hD => ?_) fun _ _ _ x => x⟩
  have sr' := sr.step s r
  have hne : iter (dcStep src t c ek ev (wipeE env vs)) .bad (0, [], h') ≠ .bad := fun z => by rw [z] at q; exact q
  obtain ⟨m, hm⟩ := iter_good hne
  generalize iter (dcStep src t c ek ev (wipeE env vs)) .bad (0, [], h') = fl at q hm hne
  have hDF : L0 ∉ F' := r.fresh hD
  refine ⟨fun i m H2 => ∃ F2 h2 acc vs, Step k.K F' H' F2 H2 ∧ RelH k F2 H2 h2 ∧ L0 ∉ F2 ∧ H2 L0 = some (.dK vs) ∧ TabR (DV k.K F2 H2) keyD keyOk acc vs ∧ iterN (dcStep src t c ek ev (wipeE env _)) m (i, acc, h2) = some fl, ⟨m, F', h', [], [], r.stepNew hD, r.addNew hD, hDF, upd_same, .nil, hm⟩, ?_⟩
  rintro i m H2 ⟨F2, h2, acc, us, s2, r2, n2, e2, dv2, hm⟩
  cases m with
  | zero => cases hm
  | succ m =>
    unfold iterN at hm
    have jr2 := jr F2 h2 H2 i s2 r2
    cases en : src.nxt i h2 with
    | none =>
      have : dcStep src t c ek ev (wipeE env vs) (i, acc, h2) = .inr .bad := by unfold dcStep; rw [en]
      rw [this] at hm; cases hm
      exact absurd rfl hne
    | some o =>
      cases o with
      | none =>
        have : dcStep src t c ek ev (wipeE env vs) (i, acc, h2) = .inr (.ok acc h2) := by unfold dcStep; rw [en]
        rw [this] at hm; cases hm
        refine .inl ⟨jr2.1 en, ?_⟩
        have q : ∀ F'' H'', Step k.K F' H' F'' H'' → RelH k F'' H'' (h2 ++ [.dic false false acc]) → PV k Q (.ref h2.length) F'' (h2 ++ [.dic false false acc]) H'' := q
        refine q (F2 ++ [L0]) H2 (s2.known hD) (r2.known n2 ⟨.dK us, ⟨us, rfl, Paired.mapP dv2 fun _ _ z => ⟨z.1, z.2.1, DV.more _ _ z.2.2⟩⟩, e2⟩) _ ?_
        unfold DV
        exact ⟨L0, rfl, by rw [← r2.len, List.getElem?_append_right (Nat.le_refl _), Nat.sub_self]; rfl⟩
      | some d =>
        obtain ⟨jg, jy⟩ := jr2.2 d en
        refine .inr ⟨jg, fun H' => ∃ F3 h3 acc vs', Step k.K F' _ F3 H' ∧ RelH k F3 H' h3 ∧ L0 ∉ F3 ∧ H' L0 = some (.dK vs') ∧ TabR (DV k.K F3 H') keyD keyOk acc vs' ∧ iterN (dcStep src t c ek ev (wipeE env vs)) m (i + 1, acc, h3) = some fl, fun H' z => ⟨m, Nat.lt_succ_self m, z⟩, fun x H3 y => ?_⟩
        obtain ⟨s3, r3, dv⟩ := jy x H3 y
        have st3 := s2.trans s3
        have sr3 : SR k F2 H3 h2 (wipe σ vs) (wipeE env vs) := ⟨r3, (sr'.er.mono st3).wipe vs, sr'.xd.mono st3⟩
        have e3 : H3 L0 = some (.dK us) := s3.old L0 _ e2 n2
        refine ⟨F2, h2, wipeE env vs, d, sr3, dv, ?_⟩
        cases ea : asgT t d (wipeE env vs) h2 with
        | bad =>
          have : dcStep src t c ek ev (wipeE env vs) (i, acc, h2) = .inr .bad := by unfold dcStep; rw [en]; show (match asgT t d (wipeE env vs) h2 with | .ok env1 h1 => _ | _ => _) = _; rw [ea]
          rw [this] at hm; cases hm
          exact absurd rfl hne
        | exc x h4 => exact absurd ea (asgT_ne _ _ _ _ _ _)
        | ok env4 h4 =>
          intro F4 H4 s4 r4 σ4 er4 w4
          have ef : dcStep src t c ek ev (wipeE env vs) (i, acc, h2) = dcTurn c ek ev i acc env4 h4 := by unfold dcStep; rw [en]; show (match asgT t d (wipeE env vs) h2 with | .ok env1 h1 => _ | _ => _) = _; rw [ea]
          rw [ef] at hm
          have n4 : L0 ∉ F4 := fun mm => by have := s4.new L0 mm n2; rw [e3] at this; cases this
          have e4 : H4 L0 = some (.dK us) := s4.old L0 _ e3 n2
          have sr4 : SR k F4 H4 h4 σ4 env4 := ⟨r4, er4, sr3.xd.mono s4⟩
          have st4 := st3.trans s4
          have dv4 : TabR (DV k.K F4 H4) keyD keyOk acc us := Paired.mapP dv2 fun _ _ z => ⟨z.1, z.2.1, DV.mono (s3.trans s4) _ _ z.2.2⟩
          refine ⟨by rw [w4]; exact wipe_wipe σ vs, ?_⟩
          -- behind the tests
          have last : ∀ (b : Bool) (h5 : Hs), lcC c env4 h4 = .ok b h5 → ∀ F5 H5, Step k.K F4 H4 F5 H5 → RelH k F5 H5 h5 →
              if b = true then tE k (fun _ _ _ _ => False) ek σ4 H5 (fun y H6 => tE k (fun _ _ _ _ => False) ev σ4 H6 (fun z H7 => ∃ kvs ky, y = kV ky ∧ H7 L0 = some (.dK kvs) ∧ kvs.length < sizeLine ∧ ∃ F3 h3 acc_1 vs', Step k.K F' H' F3 (upd H7 L0 (.dK (putK kvs ky z))) ∧ RelH k F3 (upd H7 L0 (.dK (putK kvs ky z))) h3 ∧ L0 ∉ F3 ∧ upd H7 L0 (.dK (putK kvs ky z)) L0 = some (.dK vs') ∧ TabR (DV k.K F3 (upd H7 L0 (.dK (putK kvs ky z)))) keyD keyOk acc_1 vs' ∧ iterN (dcStep src t c ek ev (wipeE env vs)) m (i + 1, acc_1, h3) = some fl))
              else ∃ F3 h3 acc vs', Step k.K F' H' F3 H5 ∧ RelH k F3 H5 h3 ∧ L0 ∉ F3 ∧ H5 L0 = some (.dK vs') ∧ TabR (DV k.K F3 H5) keyD keyOk acc vs' ∧ iterN (dcStep src t c ek ev (wipeE env vs)) m (i + 1, acc, h3) = some fl := by
            intro b h5 eb F5 H5 s5 r5
            have n5 : L0 ∉ F5 := fun mm => by have := s5.new L0 mm n4; rw [e4] at this; cases this
            have e5 : H5 L0 = some (.dK us) := s5.old L0 _ e4 n4
            have sr5 := sr4.step s5 r5
            have st5 := st4.trans s5
            have dv5 : TabR (DV k.K F5 H5) keyD keyOk acc us := Paired.mapP dv4 fun _ _ z => ⟨z.1, z.2.1, DV.mono s5 _ _ z.2.2⟩
            unfold dcTurn at hm
            rw [eb] at hm
            cases b with
            | false => exact ⟨F5, h5, acc, us, st5, r5, n5, e5, dv5, hm⟩
            | true =>
              rw [if_pos rfl]
              refine ⟨F5, h5, env4, sr5, ?_⟩
              cases ee : ek env4 h5 with
              | bad => simp only [ee] at hm; cases hm; exact absurd rfl hne
              | exc x h6 => simp only [ee] at hm; cases hm; exact absurd rfl hne
              | ok y h6 =>
                simp only [ee] at hm
                intro F6 H6 s6 r6 yv dy
                have n6 : L0 ∉ F6 := fun mm => by have := s6.new L0 mm n5; rw [e5] at this; cases this
                have e6 : H6 L0 = some (.dK us) := s6.old L0 _ e5 n5
                refine ⟨F6, h6, env4, sr5.step s6 r6, ?_⟩
                cases ev' : ev env4 h6 with
                | bad => simp only [ev'] at hm; cases hm; exact absurd rfl hne
                | exc x h7 => simp only [ev'] at hm; cases hm; exact absurd rfl hne
                | ok z h7 =>
                  simp only [ev'] at hm
                  by_cases hl : k1 y = true ∧ acc.length < lim
                  · rw [if_pos hl] at hm
                    intro F7 H7 s7 r7 zv dz
                    have n7 : L0 ∉ F7 := fun mm => by have := s7.new L0 mm n6; rw [e6] at this; cases this
                    have e7 : H7 L0 = some (.dK us) := s7.old L0 _ e6 n6
                    have hz : us.length < sizeLine := by
                      have a1 : acc.length = us.length := dv2.length
                      rw [← a1]
                      exact Nat.lt_of_lt_of_le hl.2 (le_lim (Nat.le_refl _))
                    obtain ⟨ky, rfl, rfl, ok⟩ := k1_key hl.1 dy
                    have dv7 : TabR (DV k.K F7 H7) keyD keyOk acc us := Paired.mapP dv5 fun _ _ z => ⟨z.1, z.2.1, DV.mono (s6.trans s7) _ _ z.2.2⟩
                    have dp := TabR.put kEq_keyD dv7 (k := ky) ok dz
                    exact ⟨us, ky, rfl, e7, hz, F7, h7, dput acc (keyD ky) z, putK us ky zv, ((st5.trans s6).trans s7).grow hD e7 soft_dK, r7.grow n7 e7 soft_dK, n7, upd_same, Paired.mapP dp fun _ _ z => ⟨z.1, z.2.1, DV.grow (grow_t e7 soft_dK) (grow_l (k := k) e7 soft_dK) _ _ z.2.2⟩, hm⟩
                  · rw [if_neg hl] at hm; cases hm; exact absurd rfl hne
          cases c with
          | none => exact last true h4 rfl F4 H4 .refl r4
          | some c =>
            refine ⟨F4, h4, env4, sr4, ?_⟩
            have ecc : lcC (some c) env4 h4 = tst c env4 h4 := rfl
            cases ec : tst c env4 h4 with
            | bad => unfold dcTurn at hm; rw [ecc, ec] at hm; cases hm; exact absurd rfl hne
            | exc x h6 => unfold dcTurn at hm; rw [ecc, ec] at hm; cases hm; exact absurd rfl hne
            | ok b h5 => exact fun F5 H5 s5 r5 => last b h5 (ecc.trans ec) F5 H5 s5 r5
end
section
variable {X : Cx} {k : Kx} {W : WX} {pos : Pos} {kx vx tg ite : Expr} {scope : Scope} {own : List (Str × Nat)} {fi : Sv} {t : Tg} {fk fv : Ev}
theorem me_dc {ifs : List Expr} {c : Option Ev} (hc : X.calm = true) (hN : X.N.Nodup) (hi : PI X tg ite (tI k W fi)) (ok : BlkOk X.N X.env.scope scope own)
    (hg : ∀ (s : Shared) (H : Hp) (C : Addr) (cl : List (Str × Addr)) (fp : List Addr), PG (X.blk s H scope (compEnvC scope cl C X.env) fp) tg (tGw k (own.map (·.2)) (asgT t)))
    (ht : ∀ (s : Shared) (H : Hp) (C : Addr) (cl : List (Str × Addr)) (fp : List Addr), PTs (X.blk s H scope (compEnvC scope cl C X.env) fp) ifs (tTc k c))
    (hk : ∀ (s : Shared) (H : Hp) (C : Addr) (cl : List (Str × Addr)) (fp : List Addr), PE (X.blk s H scope (compEnvC scope cl C X.env) fp) kx (tE k (fun _ _ _ _ => False) fk))
    (he : ∀ (s : Shared) (H : Hp) (C : Addr) (cl : List (Str × Addr)) (fp : List Addr), PE (X.blk s H scope (compEnvC scope cl C X.env) fp) vx (tE k (fun _ _ _ _ => False) fv)) (hs : ∀ x, foldedSetIterable ite X.env x = pure x) :
    PE X (.DictComp kx vx [⟨tg, ite, ifs, 0⟩] scope pos) (tE k W (dcE fi t c fk fv (own.map (·.2)))) :=
  PE.imp (pe_dc hc hN hi ok hg ht hk he hs) fun σ H Q p => dc_read p
end
section
variable {X : Cx}
/-- name = {..} on one line, the name a local -/
theorem ps_setDc {i : Nat} {y : Str} {py : Pos} {kx vx tg iter : Expr} {ifs : List Expr} {scope : Scope} {own : List (Str × Nat)} {pos spos : Pos} {wi : TI} {g : TG} {tt : TT} {tk tv : TE} (hc : X.calm = true) (hN : X.N.Nodup) (hy : X.N[i]? = some y) (hyl : X.env.scope.names.lookup y = some .local)
    (hsw : swapsWith (.DictComp kx vx [⟨tg, iter, ifs, 0⟩] scope pos) (some (.Name y py)) spos.line X.env = pure true) (hi : PI X tg iter wi) (ok : BlkOk X.N X.env.scope scope own)
    (hg : ∀ (s : Shared) (H : Hp) (C : Addr) (cl : List (Str × Addr)) (fp : List Addr), PG (X.blk s H scope (compEnvC scope cl C X.env) fp) tg g) (ht : ∀ (s : Shared) (H : Hp) (C : Addr) (cl : List (Str × Addr)) (fp : List Addr), PTs (X.blk s H scope (compEnvC scope cl C X.env) fp) ifs tt)
    (hk : ∀ (s : Shared) (H : Hp) (C : Addr) (cl : List (Str × Addr)) (fp : List Addr), PE (X.blk s H scope (compEnvC scope cl C X.env) fp) kx tk)
    (he : ∀ (s : Shared) (H : Hp) (C : Addr) (cl : List (Str × Addr)) (fp : List Addr), PE (X.blk s H scope (compEnvC scope cl C X.env) fp) vx tv) (hs : ∀ x, foldedSetIterable iter X.env x = pure x) :
    PS X (.Assign [.Name y py] (.DictComp kx vx [⟨tg, iter, ifs, 0⟩] scope pos) spos) (tAsg (tDc wi g tt tk tv (own.map (·.2))) (gName i)) := by
  refine ⟨fun pins s σ H D I h => ?_⟩
  rw [exec_Assign_Name_used _ _ _ _ hsw]
  refine wpAny_bind (wpAny_standAt (wpAny_bind ?_))
  show wpAny _ X.A (do let _ ← comprehension (.DictComp kx vx [⟨tg, iter, ifs, 0⟩] scope pos) scope X.env (firstIterPos [⟨tg, iter, ifs, 0⟩] pos) newDict false (eval iter X.env) (some (assign (.Name y py) X.env))) _ _ s
  have h : tDc wi g tt tk tv (own.map (·.2)) σ H (fun x H1 => gName i x σ H1 D.nx) := h
  refine wpAny_bind (thn (dc_core (Qf := fun _ s' => SP X pins D .next s') hc hN I hi ok hg ht hk he hs h fun L C s' m H' I' q hn f => ?_) fun _ s' hq => wpAny_pure (wpAny_pure hq))
  show wpAny _ _ (assign (.Name y py) X.env (.ref L)) _ _ _
  refine wpAny_assign_Name (store_ok2 (v := V.ref L) I' hN hy (.inl hyl) rfl (fun s2 I2 ⟨a, sb, ha⟩ => ?_) (.inr hyl))
  obtain ⟨f0, f1, f2, f3, f4, f5⟩ := f
  have haC : C ≠ a := by
    rcases ha with z | z
    · rw [z]; exact f1
    · exact fun e => f4 y a z e.symm
  refine ⟨m, hn.sameBut sb haC, fun h3 sb3 => ?_⟩
  exact ⟨_, H', I2.turned (t' := s2.toks) (fun b o hb e => (sb3.2 b hb).trans e) f0 f1 f3 f4 f5, q⟩
theorem sw_trueD {kx vx : Expr} {gs : List Comprehension} {scope : Scope} {pos py : Pos} {y : Str} {l : Nat} {env : PySem.Env} (hk : env.scope.kind = .function) (hy : env.scope.names.lookup y = some .local) (hl : (py.line == pos.line) = true)
    (ha : (scope.names.any fun (n, k) => n == y && (k == .local || k == .cell)) = false) : swapsWith (.DictComp kx vx gs scope pos) (some (.Name y py)) l env = pure true := by
  have ky : env.kindOf y = some .local := hy
  have hb : env.blockKind = .function := by unfold Env.blockKind; rw [hk]; rfl
  unfold swapsWith
  simp only [hb, ky, ha, Expr.pos, hl]
  rfl
end
section
variable {X : Cx} {k : Kx} {W : WX} {pos : Pos} {kx vx tg ite : Expr} {scope : Scope} {own : List (Str × Nat)} {fi : Sv} {t : Tg} {fk fv : Ev}
theorem ms_setDc {i : Nat} {y : Str} {py spos : Pos} {ifs : List Expr} {c : Option Ev} (hc : X.calm = true) (hN : X.N.Nodup) (hy : X.N[i]? = some y) (hyl : X.env.scope.names.lookup y = some .local)
    (hsw : swapsWith (.DictComp kx vx [⟨tg, ite, ifs, 0⟩] scope pos) (some (.Name y py)) spos.line X.env = pure true) (hi : PI X tg ite (tI k W fi)) (ok : BlkOk X.N X.env.scope scope own)
    (hg : ∀ (s : Shared) (H : Hp) (C : Addr) (cl : List (Str × Addr)) (fp : List Addr), PG (X.blk s H scope (compEnvC scope cl C X.env) fp) tg (tGw k (own.map (·.2)) (asgT t)))
    (ht : ∀ (s : Shared) (H : Hp) (C : Addr) (cl : List (Str × Addr)) (fp : List Addr), PTs (X.blk s H scope (compEnvC scope cl C X.env) fp) ifs (tTc k c))
    (hk : ∀ (s : Shared) (H : Hp) (C : Addr) (cl : List (Str × Addr)) (fp : List Addr), PE (X.blk s H scope (compEnvC scope cl C X.env) fp) kx (tE k (fun _ _ _ _ => False) fk))
    (he : ∀ (s : Shared) (H : Hp) (C : Addr) (cl : List (Str × Addr)) (fp : List Addr), PE (X.blk s H scope (compEnvC scope cl C X.env) fp) vx (tE k (fun _ _ _ _ => False) fv)) (hs : ∀ x, foldedSetIterable ite X.env x = pure x) :
    PS X (.Assign [.Name y py] (.DictComp kx vx [⟨tg, ite, ifs, 0⟩] scope pos) spos) (tS k W (asgF (dcE fi t c fk fv (own.map (·.2))) (asgT (.nm i)))) :=
  PS.imp (ps_setDc hc hN hy hyl hsw hi ok hg ht hk he hs) fun N σ H p => by
    obtain ⟨F, h, env, sr, p⟩ := p
    refine dc_read (W := W) ⟨F, h, env, sr, (fl_post sr p).imp (fun d F' h' H' _ _ q v dv => ?_) fun _ _ _ x => x⟩
    obtain ⟨s, r, q⟩ := q
    have q : PostF k F' H' N W ((asgT (.nm i) d env h').fl env fun env' h2 => .nx env' h2) := q
    unfold asgT at q
    exact q F' H' _ .refl r ((sr.er.mono s).set i dv)
end
def isDc (h : Hs) (d : D) : Bool := (dicAt h d).isSome
def getGo (h : Hs) (d : D) : List D → Res D
  | [e] => match dicRd h d with
    | some (t, kvs) => if kOk t e = true then .ok ((dfind kvs e).getD .non) h else .bad
    | none => .bad
  | [e, z] => match dicRd h d with
    | some (t, kvs) => if kOk t e = true then .ok ((dfind kvs e).getD z) h else .bad
    | none => .bad
  | _ => .bad
def getM : MF := ⟨isDc, getGo⟩
def insGo (h : Hs) (d : D) : List D → Res D
  | [e, z] => match lstAt h d with
    | some (n, xs) => match e with
      | .int i => if 0 ≤ i ∧ i < 2 ^ 63 ∧ xs.length < lim then .ok .non (h.set n (.lst (xs.take i.toNat ++ [z] ++ xs.drop i.toNat))) else .bad
      | _ => .bad
    | none => .bad
  | _ => .bad
def insM : MF := ⟨isL, insGo⟩
section
variable {X : Cx} {k : Kx}
theorem isDc_ty : ∀ F H h d v, RelH k F H h → DV k.K F H d v → isDc h d = true → tyV X.K "dict" v H := fun F H h d v r dv e => by
  unfold isDc at e
  cases q : dicAt h d with
  | none => rw [q] at e; cases e
  | some p =>
    obtain ⟨n, t, kvs⟩ := p
    obtain ⟨rfl, e1⟩ := dicAt_ref q
    unfold DV at dv
    obtain ⟨a, rfl, hf⟩ := dv
    obtain ⟨u, dr, hu⟩ := r.cell n _ a e1 hf
    have hu : H a = some u := hu
    refine .inr (.inr (.inl ⟨rfl, ?_⟩))
    rcases dr.is with ⟨l, rfl⟩ | ⟨l, rfl⟩
    · exact .inl ⟨l, hu⟩
    · exact .inr ⟨l, hu⟩
theorem m_get (hu : X.A.units + 1 < cLine) : MtD X k "dict" "dict.get" getM := ⟨isDc_ty, fun pins s σ H x vs v us Q I rx rv q => by
  obtain ⟨W0, F, h, d, ds, rl, dx, dvs, p⟩ := q
  have p : Post k F H (PV k Q) W0 (getGo h d ds) := p
  unfold getGo at p
  split at p
  · rename_i e
    split at p
    · rename_i t kvs e1
      obtain ⟨c, p⟩ := p.cond
      unfold DVs at dvs
      obtain ⟨w, w', rfl, d1, d2⟩ := dvs
      unfold DVs at d2
      subst d2
      obtain ⟨a, o, rfl, g, co⟩ := rl.dget e1 c dx d1
      obtain ⟨u, rfl, ru⟩ := rv.one
      cases rx
      refine d_get1 hu I g ru fun w' s' I' rw' => ⟨_, H, I', rw', ?_⟩
      rcases co with ⟨e3, rfl⟩ | ⟨z, v, e3, rfl, dz⟩
      · rw [e3] at p; exact Post.here (d := .non) p rl (by unfold DV; rfl)
      · rw [e3] at p; exact Post.here (d := z) p rl dz
    · exact p.elim
  · rename_i e z0 _
    split at p
    · rename_i t kvs e1
      obtain ⟨c, p⟩ := p.cond
      unfold DVs at dvs
      obtain ⟨w, w', rfl, d1, d2⟩ := dvs
      unfold DVs at d2
      obtain ⟨w2, w3, rfl, d3, d4⟩ := d2
      unfold DVs at d4
      subst d4
      obtain ⟨a, o, rfl, g, co⟩ := rl.dget e1 c dx d1
      obtain ⟨u, u2, rfl, ru, ru2⟩ := rv.two
      cases rx
      refine d_get2 hu I g ru ru2 fun w' s' I' rw' => ⟨_, H, I', rw', ?_⟩
      rcases co with ⟨e3, rfl⟩ | ⟨z, v, e3, rfl, dz⟩
      · rw [e3] at p; exact Post.here (d := z0) p rl d3
      · rw [e3] at p; exact Post.here (d := z) p rl dz
    · exact p.elim
  · exact p.elim⟩
theorem m_insert (hK : X.K = k.K) : MtD X k "list" "list.insert" insM := ⟨isL_ty hK, fun pins s σ H x vs v us Q I rx rv q => by
  obtain ⟨W0, F, h, d, ds, rl, dx, dvs, p⟩ := q
  have p : Post k F H (PV k Q) W0 (insGo h d ds) := p
  unfold insGo at p
  split at p
  · rename_i e z
    split at p
    · rename_i n xs e0
      split at p
      · rename_i i
        obtain ⟨c, p⟩ := p.cond
        obtain ⟨rfl, e1⟩ := lstAt_ref e0
        obtain ⟨a, ws, rfl, hf, hl, dw⟩ := rl.lst e1 dx
        unfold DVs at dvs
        obtain ⟨w, w', rfl, d1, d2⟩ := dvs
        unfold DVs at d2
        obtain ⟨w2, w3, rfl, d3, d4⟩ := d2
        unfold DVs at d4
        subst d4
        cases d1.intV
        refine mt_insert pins s σ H _ _ v us Q I rx rv ⟨a, ws, i, w2, rfl, rfl, hl, by rw [← dw.len]; exact Nat.lt_of_lt_of_le c.2.2 (le_lim (Nat.le_refl _)), c.1, c.2.1, ?_⟩
        exact p.wr rl hf (((dw.take _).app (DVs.cons d3 DVs.nil)).app (dw.drop _)) (by unfold DV; rfl)
      · exact p.elim
    · exact p.elim
  · exact p.elim⟩
def aStar (a : Ev) (r : Av) : Av := fun env h => (a env h).bind fun x h1 => match seqH h1 x with
  | some xs => (r env h1).bind fun ys h2 => .ok (xs ++ ys) h2
  | none => .bad
theorem ma_star {W : WX} {e : Expr} {es : List Expr} {fa : Ev} {fr : Av} {p : Pos} (hK : X.K = k.K) (ha : PE X e (tE k W fa)) (hr : PA X es (tA k W fr)) : PA X (.Starred e p :: es) (tA k W (aStar fa fr)) := by
  refine PA.imp (StX.pa_star ha hr rfl) fun σ H Q p => ?_
  obtain ⟨F, h, env, sr, p⟩ := p
  refine ⟨F, h, env, sr, p.bind.imp (fun x F1 h1 H1 s1 r1 q v dv => ?_) fun _ _ _ x => x⟩
  cases e1 : seqH h1 x with
  | none => rw [e1] at q; exact q.elim
  | some xs =>
    rw [e1] at q
    obtain ⟨a, vs, rfl, sq, dvs, _, _⟩ := r1.seq dv e1
    refine ⟨a, vs, rfl, by rw [hK]; exact sq.symm, F1, h1, env, sr.step s1 r1, (Post.bind (r := fr env h1) q).imp (fun ys F2 h2 H2 s2 r2 q ws dws => ?_) fun _ _ _ x => x⟩
    exact q F2 H2 .refl r2 _ ((DVs.mono s2 _ _ dvs).app dws)
end
open PySem PySem.Spec PyProof.Rows L2
section
variable {X : Cx}
/-- one pair more, the key a tuple -/
theorem dset_t {pn : List (Addr × Obj)} {ν : L2.St} {G : Hp} {t : Shared} {E : Value → Shared → Prop} {d b : Addr} {kvs : List (List Key × V)} {ks : List Key} {z : V} {zv : Value} {Q : Unit → Shared → Prop} (hu : X.A.units + 1 < cLine) (J : Inv X pn ν G t) (hd : G d = some (.dT kvs)) (hb : G b = some (.tup (ks.map kV))) (hl : kvs.length < sizeLine)
    (rz : RelV z zv) (h : ∀ t', Inv X pn ν (upd G d (.dT (putK kvs ks z))) t' → Q () t') : wpAny (model X.prog X.w) X.A (dictSet d (.ref b) zv) Q E t := by
  obtain ⟨m1, m2, xs, rel, dd⟩ := dt_of J.hok hd
  have l1 : xs.length ≤ sizeLine := by (rw [← Paired.length rel]; exact m1)
  have l2 : (putK kvs ks z).length ≤ sizeLine := by (have := length_putK kvs ks z; omega)
  refine wpAny_dictSet_heap (hsz := l1) (show X.A.units < cLine by omega) (key_of J.hok hb) dd fun g' dd' sb => h _ ?_
  obtain ⟨o, es, ep, w1, w2, w3, w4, _, w5⟩ := dd'
  refine d_write J (by (rw [hd]; exact True.intro)) sb ⟨o, w1⟩ ⟨l2, m2, _, (rel.put ks hb rz).keeps fun c ys ec => ?_, o, es, ep, w1, w2, w3, w4, w5⟩
  rw [upd_ne (ne_of ec hd (fun q => nomatch q))]; exact ec
/-- {k: v for tg in ..}, the keys tuples of ints and texts: d the new dict -/
def tDcT (wi : TI) (g : TG) (tt : TT) (tk tv : TE) (vs : List Nat) : TE := fun ν G Q => wi ν G fun J G1 => ∀ d, G1 d = none → ∃ R : Nat → Nat → Hp → Prop, (∃ m, R 0 m (upd G1 d (.dT []))) ∧ ∀ i m G, R i m G →
  (J.stop i G ∧ Q (.ref d) G) ∨ (J.go i G ∧ ∃ N : Hp → Prop, (∀ G', N G' → ∃ m', m' < m ∧ R (i + 1) m' G') ∧ ∀ x G', J.yld i G x G' → g x (wipe ν vs) G' fun ν2 G2 => wipe ν2 vs = wipe ν vs ∧ tt ν2 G2 fun b G3 =>
    if b = true then tk ν2 G3 fun y G4 => tv ν2 G4 fun z G5 => ∃ kvs ks b, y = .ref b ∧ G5 b = some (.tup (ks.map kV)) ∧ G5 d = some (.dT kvs) ∧ kvs.length < sizeLine ∧ N (upd G5 d (.dT (putK kvs ks z))) else N G3)
abbrev dTree (kx vx tg it : Expr) (ifs : List Expr) (sc : Scope) (p : Pos) : Expr := .DictComp kx vx [⟨tg, it, ifs, 0⟩] sc p
abbrev BlkP (X : Cx) (sc : Scope) (f : Cx → Prop) : Prop := ∀ (s : Shared) (H : Hp) (C : Addr) (cl : List (Str × Addr)) (fp : List Addr), f (X.blk s H sc (compEnvC sc cl C X.env) fp)
theorem dct_core {pn : List (Addr × Obj)} {t0 : Shared} {ν : L2.St} {G : Hp} {Q : VK} {kx vx tg it : Expr} {ifs : List Expr} {sc : Scope} {own : List (Str × Nat)} {p p' : Pos} {wi : TI} {g : TG} {tt : TT} {tk tv : TE} {use : Option (Value → Sem Unit)} {Qf : Value → Shared → Prop}
    (hu : X.A.units + 1 < cLine) (calm : X.calm = true) (nd : X.N.Nodup) (I : Inv X pn ν G t0) (hi : PI X tg it wi) (ok : BlkOk X.N X.env.scope sc own) (hg : BlkP X sc fun Y => PG Y tg g) (ht : BlkP X sc fun Y => PTs Y ifs tt) (hk : BlkP X sc fun Y => PE Y kx tk) (he : BlkP X sc fun Y => PE Y vx tv) (fld : ∀ x, foldedSetIterable it X.env x = pure x)
    (q0 : tDcT wi g tt tk tv (own.map (·.2)) ν G Q)
    (fin : ∀ D C t m G', Inv X pn ν G' t → Q (.ref D) G' → t.heap.Ns C m → FpOk X pn G' C → compPost (model X.prog X.w) X.A X.xe use Qf (.ref D) C (.ok .next) t) :
    wpAny (model X.prog X.w) X.A (comprehension (dTree kx vx tg it ifs sc p) sc X.env p' newDict false (eval it X.env) use) Qf X.xe t0 := by
  have fr : ∀ y ∈ sc.names, y.2 = .free → ∃ c, X.env.cells.lookup y.1 = some c := fun y hy e => (ok.free y hy e).elim (fun k => I.ok.has _ (.inl k)) (fun k => I.ok.has _ (.inr k))
  refine wpAny_comprehension_free (use := use) rfl fld (closure_ok fr) ok.kind (fun y hy e => by (rw [ok.uniq y hy, e])) ?_
  refine thn (hi.run pn t0 ν G _ I q0) fun xv t1 hx => thn hx fun itv t2 h2 => ?_
  obtain ⟨iv, fp, tn, J, G2, e, I2, T, n2, f2, q⟩ := h2
  (subst e; refine wpAny_newObj_type (newEnv_comp ?_))
  generalize hD : t2.heap.objs.size = D
  have free2 : G2 D = none := I2.hok.fresh (Nat.le_of_eq hD)
  obtain ⟨R, ⟨m0, r0⟩, turn⟩ := q D free2
  let nw : Obj := { cls := .type "dict", data := .dict #[] }
  generalize ht3 : ({ t2 with heap := t2.heap.push nw } : Shared) = t3
  have I3 : Inv X pn ν (upd G2 D (.dT [])) t3 := by
    (rw [← ht3]; refine I2.laid (t' := t2.toks) (fun b o e => Heap.get?_push_of_some _ e) (Nat.le_of_eq hD) ?_)
    (rw [← hD]; exact dt_empty t2.heap I2.big)
  have e3 : t3.heap = t2.heap.push nw := by (rw [← ht3])
  have below : ∀ b ∈ fp, b < t2.heap.objs.size := fun b hb => (let ⟨o, e, _⟩ := T.obj _ _ n2 b hb; Heap.lt_size e)
  have f3 : ∀ b ∈ fp, FpOk X pn (upd G2 D (.dT [])) b ∧ b < t3.heap.objs.size := fun b hb => ⟨⟨by (rw [upd_ne (by (rw [← hD]; exact Nat.ne_of_lt (below b hb)))]; exact (f2 b hb).1), (f2 b hb).2⟩, by (rw [e3, Heap.size_push]; exact Nat.lt_succ_of_lt (below b hb))⟩
  have n3 : tn 0 t3.heap := T.keep _ _ _ n2 fun b _ o e => by (rw [e3]; exact Heap.get?_push_of_some _ e)
  have I4 := block_start I3 ok nd f3
  let cl4 := cellsFrom (t3.heap.objs.size + 1) sc.names (cloFrom X.env.cells sc.names [])
  have pg := hg t3 (upd G2 D (.dT [])) t3.heap.objs.size cl4 fp
  have pt := ht t3 (upd G2 D (.dT [])) t3.heap.objs.size cl4 fp
  have pk := hk t3 (upd G2 D (.dT [])) t3.heap.objs.size cl4 fp
  have pe := he t3 (upd G2 D (.dT [])) t3.heap.objs.size cl4 fp
  show codeAny _ _ (.compStart (dTree kx vx tg it ifs sc p) 0 (.ref iv) (.ref D) (compEnvC sc cl4 t3.heap.objs.size X.env)) (compPost (model X.prog X.w) X.A X.xe use Qf (.ref D) t3.heap.objs.size) { t3 with heap := pushCells (t3.heap.push nw) sc.names }
  have none3 : ∀ b ∈ fp, (upd G2 D (.dT [])) b = none := fun b hb => (f3 b hb).1.1
  generalize hce : compEnvC sc cl4 t3.heap.objs.size X.env = ce at I4 pg pt pk pe ⊢
  have loc : ce.locals = t3.heap.objs.size := by (subst hce; rfl)
  generalize hG3 : upd G2 D (.dT []) = G3 at I3 I4 pg pt pk pe r0 none3 f3
  generalize ht4 : ({ t3 with heap := pushCells (t3.heap.push nw) sc.names } : Shared) = t4 at I4 ⊢
  have n4 : tn 0 t4.heap := T.keep _ _ _ n3 fun b _ o e => by (rw [← ht4]; exact pushCells_keeps _ _ _ _ (Heap.get?_push_of_some _ e))
  have still : ∀ {ν' : L2.St} {G' : Hp} {t' : Shared}, Inv (X.blk t3 G3 sc ce fp) [] ν' G' t' → (∀ b ∈ fp, G' b = none) → ∀ b ∈ fp, FpOk (X.blk t3 G3 sc ce fp) [] G' b := fun {ν' G' t'} I' z b hb =>
    ⟨z b hb, (I'.ok.exf b hb).1, I'.ok.exfs b hb, .inl hb, fun x c e => (I'.ok.exf b hb).2 x c e, fun pp hp => absurd (show pp ∈ ([] : List (Addr × Obj)) ++ [] from hp) (by simp)⟩
  have loop : codeAny (model X.prog X.w) X.A (.compLoop (dTree kx vx tg it ifs sc p) 0 (.ref iv) (.ref D) ce) (compPost (model X.prog X.w) X.A X.xe use Qf (.ref D) t3.heap.objs.size) t4 := by
    refine compLoop_anyD (fun n t => ∃ i G', Inv (X.blk t3 G3 sc ce fp) [] (wipe ν (own.map (·.2))) G' t ∧ tn i t.heap ∧ (∀ b ∈ fp, G' b = none) ∧ R i n G') ?_ m0 ⟨0, G3, I4, n4, none3, r0⟩
    rintro n t5 ⟨i, G5, I5, n5, z5, r5⟩
    rcases turn i n G5 r5 with ⟨stop, qq⟩ | ⟨go, N, hN, step⟩
    · refine thnF (T.done (X.blk t3 G3 sc ce fp) rfl rfl rfl calm i [] t5 _ G5 (fun _ _ => False) I5 (still I5 z5) n5 stop) fun r t6 ⟨hr, I6⟩ => ?_
      subst hr
      have I7 : Inv X pn ν G5 t6 := I3.call' (ch := fp) I6.os I6.base I6.hok I6.bare fun b hb => (let ⟨_, a1, a2, a3, a4, a5⟩ := (f3 b hb).1; ⟨a3, a1, a4, a5⟩)
      have noC : G5 t3.heap.objs.size = none := by (rw [← loc]; exact I6.free)
      obtain ⟨m, hm, _⟩ := I6.loc
      have hm : t6.heap.Ns ce.locals m := hm
      (rw [loc] at hm; exact fin D t3.heap.objs.size t6 m G5 I7 qq hm (I3.fpOk (Nat.le_refl _) noC))
    · refine thnF (T.item (X.blk t3 G3 sc ce fp) rfl rfl rfl calm i [] t5 _ G5 (fun _ _ => False) I5 (still I5 z5) n5 go) fun r t6 ⟨u, hr, h6⟩ => ?_
      (subst hr; refine thnF h6 fun _ t7 ⟨x, G7, I7, r7, y7, n7, z7⟩ => ?_)
      have I7p := I7.pinned (still I7 z7) (T.obj _ _ n7)
      refine thnF (pg.run _ t7 _ G7 x u _ I7p r7 (step x G7 y7)) fun _ t8 ⟨ν8, G8, I8, w8, q8⟩ => ?_
      refine thnF (pt.run _ t8 ν8 G8 _ I8 q8) fun b t9 ⟨G9, I9, q9⟩ => ?_
      have back : ∀ {t' : Shared} {G' : Hp}, Inv (X.blk t3 G3 sc ce fp) ([] ++ pinsAt fp t7.heap) ν8 G' t' → N G' → ∃ m, m < n ∧ ∃ i G', Inv (X.blk t3 G3 sc ce fp) [] (wipe ν (own.map (·.2))) G' t' ∧ tn i t'.heap ∧ (∀ b ∈ fp, G' b = none) ∧ R i m G' := fun {t' G'} I' nx => by
        obtain ⟨m', hm, r'⟩ := hN G' nx
        have pin : ∀ b ∈ fp, ∀ o, t7.heap.get? b = some o → t'.heap.get? b = some o ∧ G' b = none := fun b hb o e => (let z := I'.pin (b, o) (List.mem_append_right _ (List.mem_append_right _ (mem_pinsAt hb e))); ⟨z.1, z.2.1⟩)
        have wl : (wipe ν (own.map (·.2))).length = ν8.length := by (rw [← w8, wipe_length])
        refine ⟨m', hm, i + 1, G', (I'.unpinned (pins := [])).weak wl (fun j v e => by (rw [← w8] at e; exact (wipe_some e).1)), T.keep _ _ _ n7 fun b hb o e => (pin b hb o e).1, fun b hb => ?_, r'⟩
        obtain ⟨o, e, _⟩ := T.obj _ _ n7 b hb
        exact (pin b hb o e).2
      cases b with
      | false => (simp only [Bool.false_eq_true, if_false] at q9 ⊢; exact back I9 q9)
      | true =>
        simp only [if_true] at q9 ⊢
        refine thnF (pk.run _ t9 ν8 G9 _ I9 q9) fun z t10 ⟨yk, G10, I10, rk, q10⟩ => ?_
        refine thnF (pe.run _ t10 ν8 G10 _ I10 q10) fun z2 t11 ⟨yv, G11, I11, rv, kvs, ks, bk, ek, eb, ed, ez, nx⟩ => ?_
        (subst ek; cases rk)
        exact dset_t (X := X.blk t3 G3 sc ce fp) hu I11 ed eb ez rv fun t12 I12 => back I12 nx
  exact codeAny_compStart_dict loop (T.self X.A 0 _ _ _ n4 loop)
theorem pe_dcT {kx vx tg it : Expr} {ifs : List Expr} {sc : Scope} {own : List (Str × Nat)} {p : Pos} {wi : TI} {g : TG} {tt : TT} {tk tv : TE} (hu : X.A.units + 1 < cLine) (calm : X.calm = true) (nd : X.N.Nodup) (hi : PI X tg it wi) (ok : BlkOk X.N X.env.scope sc own) (hg : BlkP X sc fun Y => PG Y tg g) (ht : BlkP X sc fun Y => PTs Y ifs tt)
    (hk : BlkP X sc fun Y => PE Y kx tk) (he : BlkP X sc fun Y => PE Y vx tv) (fld : ∀ x, foldedSetIterable it X.env x = pure x) : PE X (dTree kx vx tg it ifs sc p) (tDcT wi g tt tk tv (own.map (·.2))) := by
  refine ⟨fun pn t0 ν G Q I h => ?_⟩
  rw [arm_eval_DictComp]
  refine dct_core hu calm nd I hi ok hg ht hk he fld h fun D C t' m G' I' q hn f => ⟨m, hn, fun g2 sb => ?_⟩
  obtain ⟨f0, f1, f2, f3, f4, f5⟩ := f
  exact ⟨.ref D, G', I'.turned (t' := t'.toks) (fun b o hb e => (sb.2 b hb).trans e) f0 f1 f3 f4 f5, rfl, q⟩
end
open PySem PySem.Spec PyProof.Rows L2
abbrev keyT (q : List Key) : D := .tup (q.map keyD)
abbrev keysOk (q : List Key) : Prop := ∀ z ∈ q, keyOk z
theorem soft_dT {xs : List (List Key × V)} : Soft (.dT xs) := ⟨fun _ z => (nomatch z), fun _ _ z => (nomatch z), fun _ _ z => (nomatch z)⟩
theorem kT_key {K : PySem.W.Frag} {F : List Addr} {H : Hp} {d : D} {y : V} (h : kOk true d = true) (dv : DV K F H d y) : ∃ ks b, d = keyT ks ∧ y = .ref b ∧ H b = some (.tup (ks.map kV)) ∧ keysOk ks := by
  cases d with
  | tup ds =>
    unfold DV at dv
    obtain ⟨b, vs, rfl, hb, dvs⟩ := dv
    have hb1 := hb.tup (kOk_tup h).2
    clear hb
    obtain ⟨ks, rfl, rfl, o⟩ := ks_keys (kOk_tup h).1 dvs
    exact ⟨ks, b, rfl, rfl, hb1, o⟩
  | _ => cases h
def dtTurn (c : Option Ev) (ek ev : Ev) (i : Nat) (acc : List (D × D)) (env : Env) (h : Hs) : Nat × List (D × D) × Hs ⊕ Res (List (D × D)) := match lcC c env h with
  | .ok true h2 => match ek env h2 with
    | .ok y h3 => match ev env h3 with
      | .ok z h4 => if kOk true y = true ∧ acc.length < lim then .inl (i + 1, dput acc y z, h4) else .inr .bad
      | _ => .inr .bad
    | _ => .inr .bad
  | .ok false h2 => .inl (i + 1, acc, h2)
  | _ => .inr .bad
def dtStep (src : Src) (t : Tg) (c : Option Ev) (ek ev : Ev) (env : Env) : Nat × List (D × D) × Hs → (Nat × List (D × D) × Hs) ⊕ Res (List (D × D)) := fun s => match src.nxt s.1 s.2.2 with
  | none => .inr .bad
  | some none => .inr (.ok s.2.1 s.2.2)
  | some (some d) => match asgT t d env s.2.2 with
    | .ok env1 h1 => dtTurn c ek ev s.1 s.2.1 env1 h1
    | _ => .inr .bad
noncomputable def dtE (s : Sv) (t : Tg) (c : Option Ev) (ek ev : Ev) (vs : List Nat) : Ev := fun env h => (s env h).bind fun src h1 =>
  (iter (dtStep src t c ek ev (wipeE env vs)) .bad (0, [], h1)).bind fun xs h2 => .ok (.ref h2.length) (h2 ++ [.dic true false xs])
section
variable {k : Kx} {W : WX}
theorem dt_read {fi : Sv} {t : Tg} {c : Option Ev} {ek ev : Ev} {vs : List Nat} {σ H Q} (p : tE k W (dtE fi t c ek ev vs) σ H Q) : tDcT (tI k W fi) (tGw k vs (asgT t)) (tTc k c) (tE k (fun _ _ _ _ => False) ek) (tE k (fun _ _ _ _ => False) ev) vs σ H Q := by
  obtain ⟨F, h, env, sr, p⟩ := p
  refine ⟨F, h, env, sr, p.bind.imp (fun src F' h' H' s r q J jr L0 hD => ?_) fun _ _ _ x => x⟩
  have sr' := sr.step s r
  have hne : iter (dtStep src t c ek ev (wipeE env vs)) .bad (0, [], h') ≠ .bad := fun z => by rw [z] at q; exact q
  obtain ⟨m, hm⟩ := iter_good hne
  generalize iter (dtStep src t c ek ev (wipeE env vs)) .bad (0, [], h') = fl at q hm hne
  have hDF : L0 ∉ F' := r.fresh hD
  refine ⟨fun i m H2 => ∃ F2 h2 acc vs, Step k.K F' H' F2 H2 ∧ RelH k F2 H2 h2 ∧ L0 ∉ F2 ∧ H2 L0 = some (.dT vs) ∧ TabR (DV k.K F2 H2) keyT keysOk acc vs ∧ iterN (dtStep src t c ek ev (wipeE env _)) m (i, acc, h2) = some fl, ⟨m, F', h', [], [], r.stepNew hD, r.addNew hD, hDF, upd_same, .nil, hm⟩, ?_⟩
  rintro i m H2 ⟨F2, h2, acc, us, s2, r2, n2, e2, dv2, hm⟩
  cases m with
  | zero => cases hm
  | succ m =>
    unfold iterN at hm
    have jr2 := jr F2 h2 H2 i s2 r2
    cases en : src.nxt i h2 with
    | none =>
      have : dtStep src t c ek ev (wipeE env vs) (i, acc, h2) = .inr .bad := by unfold dtStep; rw [en]
      rw [this] at hm; cases hm
      exact absurd rfl hne
    | some o =>
      cases o with
      | none =>
        have : dtStep src t c ek ev (wipeE env vs) (i, acc, h2) = .inr (.ok acc h2) := by unfold dtStep; rw [en]
        rw [this] at hm; cases hm
        refine .inl ⟨jr2.1 en, ?_⟩
        have q : ∀ F'' H'', Step k.K F' H' F'' H'' → RelH k F'' H'' (h2 ++ [.dic true false acc]) → PV k Q (.ref h2.length) F'' (h2 ++ [.dic true false acc]) H'' := q
        refine q (F2 ++ [L0]) H2 (s2.known hD) (r2.known n2 ⟨.dT us, ⟨us, rfl, Paired.mapP dv2 fun _ _ z => ⟨z.1, z.2.1, DV.more _ _ z.2.2⟩⟩, e2⟩) _ ?_
        unfold DV
        exact ⟨L0, rfl, by rw [← r2.len, List.getElem?_append_right (Nat.le_refl _), Nat.sub_self]; rfl⟩
      | some d =>
        obtain ⟨jg, jy⟩ := jr2.2 d en
        refine .inr ⟨jg, fun H' => ∃ F3 h3 acc vs', Step k.K F' _ F3 H' ∧ RelH k F3 H' h3 ∧ L0 ∉ F3 ∧ H' L0 = some (.dT vs') ∧ TabR (DV k.K F3 H') keyT keysOk acc vs' ∧ iterN (dtStep src t c ek ev (wipeE env vs)) m (i + 1, acc, h3) = some fl, fun H' z => ⟨m, Nat.lt_succ_self m, z⟩, fun x H3 y => ?_⟩
        obtain ⟨s3, r3, dv⟩ := jy x H3 y
        have st3 := s2.trans s3
        have sr3 : SR k F2 H3 h2 (wipe σ vs) (wipeE env vs) := ⟨r3, (sr'.er.mono st3).wipe vs, sr'.xd.mono st3⟩
        have e3 : H3 L0 = some (.dT us) := s3.old L0 _ e2 n2
        refine ⟨F2, h2, wipeE env vs, d, sr3, dv, ?_⟩
        cases ea : asgT t d (wipeE env vs) h2 with
        | bad =>
          have : dtStep src t c ek ev (wipeE env vs) (i, acc, h2) = .inr .bad := by unfold dtStep; rw [en]; show (match asgT t d (wipeE env vs) h2 with | .ok env1 h1 => _ | _ => _) = _; rw [ea]
          rw [this] at hm; cases hm
          exact absurd rfl hne
        | exc x h4 => exact absurd ea (asgT_ne _ _ _ _ _ _)
        | ok env4 h4 =>
          intro F4 H4 s4 r4 σ4 er4 w4
          have ef : dtStep src t c ek ev (wipeE env vs) (i, acc, h2) = dtTurn c ek ev i acc env4 h4 := by unfold dtStep; rw [en]; show (match asgT t d (wipeE env vs) h2 with | .ok env1 h1 => _ | _ => _) = _; rw [ea]
          rw [ef] at hm
          have n4 : L0 ∉ F4 := fun mm => by have := s4.new L0 mm n2; rw [e3] at this; cases this
          have e4 : H4 L0 = some (.dT us) := s4.old L0 _ e3 n2
          have sr4 : SR k F4 H4 h4 σ4 env4 := ⟨r4, er4, sr3.xd.mono s4⟩
          have st4 := st3.trans s4
          have dv4 : TabR (DV k.K F4 H4) keyT keysOk acc us := Paired.mapP dv2 fun _ _ z => ⟨z.1, z.2.1, DV.mono (s3.trans s4) _ _ z.2.2⟩
          refine ⟨by rw [w4]; exact wipe_wipe σ vs, ?_⟩
          -- behind the tests
          have last : ∀ (b : Bool) (h5 : Hs), lcC c env4 h4 = .ok b h5 → ∀ F5 H5, Step k.K F4 H4 F5 H5 → RelH k F5 H5 h5 →
              if b = true then tE k (fun _ _ _ _ => False) ek σ4 H5 (fun y H6 => tE k (fun _ _ _ _ => False) ev σ4 H6 (fun z H7 => ∃ kvs ks b, y = .ref b ∧ H7 b = some (.tup (ks.map kV)) ∧ H7 L0 = some (.dT kvs) ∧ kvs.length < sizeLine ∧ ∃ F3 h3 acc_1 vs', Step k.K F' H' F3 (upd H7 L0 (.dT (putK kvs ks z))) ∧ RelH k F3 (upd H7 L0 (.dT (putK kvs ks z))) h3 ∧ L0 ∉ F3 ∧ upd H7 L0 (.dT (putK kvs ks z)) L0 = some (.dT vs') ∧ TabR (DV k.K F3 (upd H7 L0 (.dT (putK kvs ks z)))) keyT keysOk acc_1 vs' ∧ iterN (dtStep src t c ek ev (wipeE env vs)) m (i + 1, acc_1, h3) = some fl))
              else ∃ F3 h3 acc vs', Step k.K F' H' F3 H5 ∧ RelH k F3 H5 h3 ∧ L0 ∉ F3 ∧ H5 L0 = some (.dT vs') ∧ TabR (DV k.K F3 H5) keyT keysOk acc vs' ∧ iterN (dtStep src t c ek ev (wipeE env vs)) m (i + 1, acc, h3) = some fl := by
            intro b h5 eb F5 H5 s5 r5
            have n5 : L0 ∉ F5 := fun mm => by have := s5.new L0 mm n4; rw [e4] at this; cases this
            have e5 : H5 L0 = some (.dT us) := s5.old L0 _ e4 n4
            have sr5 := sr4.step s5 r5
            have st5 := st4.trans s5
            have dv5 : TabR (DV k.K F5 H5) keyT keysOk acc us := Paired.mapP dv4 fun _ _ z => ⟨z.1, z.2.1, DV.mono s5 _ _ z.2.2⟩
            unfold dtTurn at hm
            rw [eb] at hm
            cases b with
            | false => exact ⟨F5, h5, acc, us, st5, r5, n5, e5, dv5, hm⟩
            | true =>
              rw [if_pos rfl]
              refine ⟨F5, h5, env4, sr5, ?_⟩
              cases ee : ek env4 h5 with
              | bad => simp only [ee] at hm; cases hm; exact absurd rfl hne
              | exc x h6 => simp only [ee] at hm; cases hm; exact absurd rfl hne
              | ok y h6 =>
                simp only [ee] at hm
                intro F6 H6 s6 r6 yv dy
                have n6 : L0 ∉ F6 := fun mm => by have := s6.new L0 mm n5; rw [e5] at this; cases this
                have e6 : H6 L0 = some (.dT us) := s6.old L0 _ e5 n5
                refine ⟨F6, h6, env4, sr5.step s6 r6, ?_⟩
                cases ev' : ev env4 h6 with
                | bad => simp only [ev'] at hm; cases hm; exact absurd rfl hne
                | exc x h7 => simp only [ev'] at hm; cases hm; exact absurd rfl hne
                | ok z h7 =>
                  simp only [ev'] at hm
                  by_cases hl : kOk true y = true ∧ acc.length < lim
                  · rw [if_pos hl] at hm
                    intro F7 H7 s7 r7 zv dz
                    have n7 : L0 ∉ F7 := fun mm => by have := s7.new L0 mm n6; rw [e6] at this; cases this
                    have e7 : H7 L0 = some (.dT us) := s7.old L0 _ e6 n6
                    have hz : us.length < sizeLine := by
                      have a1 : acc.length = us.length := dv2.length
                      rw [← a1]
                      exact Nat.lt_of_lt_of_le hl.2 (le_lim (Nat.le_refl _))
                    obtain ⟨ks, b, rfl, rfl, hb, ok⟩ := kT_key hl.1 dy
                    have hb7 : H7 b = some (.tup (ks.map kV)) := s7.tup _ _ hb
                    have dv7 : TabR (DV k.K F7 H7) keyT keysOk acc us := Paired.mapP dv5 fun _ _ z => ⟨z.1, z.2.1, DV.mono (s6.trans s7) _ _ z.2.2⟩
                    have dp := TabR.put (f := keyT) kEqT_keyD dv7 (k := ks) ok dz
                    exact ⟨us, ks, b, rfl, hb7, e7, hz, F7, h7, dput acc (keyT ks) z, putK us ks zv, ((st5.trans s6).trans s7).grow hD e7 soft_dT, r7.grow n7 e7 soft_dT, n7, upd_same, Paired.mapP dp fun _ _ z => ⟨z.1, z.2.1, DV.grow (grow_t e7 soft_dT) (grow_l (k := k) e7 soft_dT) _ _ z.2.2⟩, hm⟩
                  · rw [if_neg hl] at hm; cases hm; exact absurd rfl hne
          cases c with
          | none => exact last true h4 rfl F4 H4 .refl r4
          | some c =>
            refine ⟨F4, h4, env4, sr4, ?_⟩
            have ecc : lcC (some c) env4 h4 = tst c env4 h4 := rfl
            cases ec : tst c env4 h4 with
            | bad => unfold dtTurn at hm; rw [ecc, ec] at hm; cases hm; exact absurd rfl hne
            | exc x h6 => unfold dtTurn at hm; rw [ecc, ec] at hm; cases hm; exact absurd rfl hne
            | ok b h5 => exact fun F5 H5 s5 r5 => last b h5 (ecc.trans ec) F5 H5 s5 r5
end
section
variable {X : Cx} {k : Kx} {W : WX} {pos : Pos} {kx vx tg ite : Expr} {scope : Scope} {own : List (Str × Nat)} {fi : Sv} {t : Tg} {fk fv : Ev}
theorem me_dt {ifs : List Expr} {c : Option Ev} (hu : X.A.units + 1 < cLine) (hc : X.calm = true) (hN : X.N.Nodup) (hi : PI X tg ite (tI k W fi)) (ok : BlkOk X.N X.env.scope scope own)
    (hg : ∀ (s : Shared) (H : Hp) (C : Addr) (cl : List (Str × Addr)) (fp : List Addr), PG (X.blk s H scope (compEnvC scope cl C X.env) fp) tg (tGw k (own.map (·.2)) (asgT t)))
    (ht : ∀ (s : Shared) (H : Hp) (C : Addr) (cl : List (Str × Addr)) (fp : List Addr), PTs (X.blk s H scope (compEnvC scope cl C X.env) fp) ifs (tTc k c))
    (hk : ∀ (s : Shared) (H : Hp) (C : Addr) (cl : List (Str × Addr)) (fp : List Addr), PE (X.blk s H scope (compEnvC scope cl C X.env) fp) kx (tE k (fun _ _ _ _ => False) fk))
    (he : ∀ (s : Shared) (H : Hp) (C : Addr) (cl : List (Str × Addr)) (fp : List Addr), PE (X.blk s H scope (compEnvC scope cl C X.env) fp) vx (tE k (fun _ _ _ _ => False) fv)) (hs : ∀ x, foldedSetIterable ite X.env x = pure x) :
    PE X (.DictComp kx vx [⟨tg, ite, ifs, 0⟩] scope pos) (tE k W (dtE fi t c fk fv (own.map (·.2)))) :=
  PE.imp (pe_dcT hu hc hN hi ok hg ht hk he hs) fun σ H Q p => dt_read p
end
section
variable {X : Cx}
/-- name = {..} on one line, the name a local -/
theorem ps_setDt {i : Nat} {y : Str} {py : Pos} {kx vx tg iter : Expr} {ifs : List Expr} {scope : Scope} {own : List (Str × Nat)} {pos spos : Pos} {wi : TI} {g : TG} {tt : TT} {tk tv : TE} (hu : X.A.units + 1 < cLine) (hc : X.calm = true) (hN : X.N.Nodup) (hy : X.N[i]? = some y) (hyl : X.env.scope.names.lookup y = some .local)
    (hsw : swapsWith (.DictComp kx vx [⟨tg, iter, ifs, 0⟩] scope pos) (some (.Name y py)) spos.line X.env = pure true) (hi : PI X tg iter wi) (ok : BlkOk X.N X.env.scope scope own)
    (hg : ∀ (s : Shared) (H : Hp) (C : Addr) (cl : List (Str × Addr)) (fp : List Addr), PG (X.blk s H scope (compEnvC scope cl C X.env) fp) tg g) (ht : ∀ (s : Shared) (H : Hp) (C : Addr) (cl : List (Str × Addr)) (fp : List Addr), PTs (X.blk s H scope (compEnvC scope cl C X.env) fp) ifs tt)
    (hk : ∀ (s : Shared) (H : Hp) (C : Addr) (cl : List (Str × Addr)) (fp : List Addr), PE (X.blk s H scope (compEnvC scope cl C X.env) fp) kx tk)
    (he : ∀ (s : Shared) (H : Hp) (C : Addr) (cl : List (Str × Addr)) (fp : List Addr), PE (X.blk s H scope (compEnvC scope cl C X.env) fp) vx tv) (hs : ∀ x, foldedSetIterable iter X.env x = pure x) :
    PS X (.Assign [.Name y py] (.DictComp kx vx [⟨tg, iter, ifs, 0⟩] scope pos) spos) (tAsg (tDcT wi g tt tk tv (own.map (·.2))) (gName i)) := by
  refine ⟨fun pins s σ H D I h => ?_⟩
  rw [exec_Assign_Name_used _ _ _ _ hsw]
  refine wpAny_bind (wpAny_standAt (wpAny_bind ?_))
  show wpAny _ X.A (do let _ ← comprehension (.DictComp kx vx [⟨tg, iter, ifs, 0⟩] scope pos) scope X.env (firstIterPos [⟨tg, iter, ifs, 0⟩] pos) newDict false (eval iter X.env) (some (assign (.Name y py) X.env))) _ _ s
  have h : tDcT wi g tt tk tv (own.map (·.2)) σ H (fun x H1 => gName i x σ H1 D.nx) := h
  refine wpAny_bind (thn (dct_core (Qf := fun _ s' => SP X pins D .next s') hu hc hN I hi ok hg ht hk he hs h fun L C s' m H' I' q hn f => ?_) fun _ s' hq => wpAny_pure (wpAny_pure hq))
  show wpAny _ _ (assign (.Name y py) X.env (.ref L)) _ _ _
  refine wpAny_assign_Name (store_ok2 (v := V.ref L) I' hN hy (.inl hyl) rfl (fun s2 I2 ⟨a, sb, ha⟩ => ?_) (.inr hyl))
  obtain ⟨f0, f1, f2, f3, f4, f5⟩ := f
  have haC : C ≠ a := by
    rcases ha with z | z
    · rw [z]; exact f1
    · exact fun e => f4 y a z e.symm
  refine ⟨m, hn.sameBut sb haC, fun h3 sb3 => ?_⟩
  exact ⟨_, H', I2.turned (t' := s2.toks) (fun b o hb e => (sb3.2 b hb).trans e) f0 f1 f3 f4 f5, q⟩
end
section
variable {X : Cx} {k : Kx} {W : WX} {pos : Pos} {kx vx tg ite : Expr} {scope : Scope} {own : List (Str × Nat)} {fi : Sv} {t : Tg} {fk fv : Ev}
theorem ms_setDt {i : Nat} {y : Str} {py spos : Pos} {ifs : List Expr} {c : Option Ev} (hu : X.A.units + 1 < cLine) (hc : X.calm = true) (hN : X.N.Nodup) (hy : X.N[i]? = some y) (hyl : X.env.scope.names.lookup y = some .local)
    (hsw : swapsWith (.DictComp kx vx [⟨tg, ite, ifs, 0⟩] scope pos) (some (.Name y py)) spos.line X.env = pure true) (hi : PI X tg ite (tI k W fi)) (ok : BlkOk X.N X.env.scope scope own)
    (hg : ∀ (s : Shared) (H : Hp) (C : Addr) (cl : List (Str × Addr)) (fp : List Addr), PG (X.blk s H scope (compEnvC scope cl C X.env) fp) tg (tGw k (own.map (·.2)) (asgT t)))
    (ht : ∀ (s : Shared) (H : Hp) (C : Addr) (cl : List (Str × Addr)) (fp : List Addr), PTs (X.blk s H scope (compEnvC scope cl C X.env) fp) ifs (tTc k c))
    (hk : ∀ (s : Shared) (H : Hp) (C : Addr) (cl : List (Str × Addr)) (fp : List Addr), PE (X.blk s H scope (compEnvC scope cl C X.env) fp) kx (tE k (fun _ _ _ _ => False) fk))
    (he : ∀ (s : Shared) (H : Hp) (C : Addr) (cl : List (Str × Addr)) (fp : List Addr), PE (X.blk s H scope (compEnvC scope cl C X.env) fp) vx (tE k (fun _ _ _ _ => False) fv)) (hs : ∀ x, foldedSetIterable ite X.env x = pure x) :
    PS X (.Assign [.Name y py] (.DictComp kx vx [⟨tg, ite, ifs, 0⟩] scope pos) spos) (tS k W (asgF (dtE fi t c fk fv (own.map (·.2))) (asgT (.nm i)))) :=
  PS.imp (ps_setDt hu hc hN hy hyl hsw hi ok hg ht hk he hs) fun N σ H p => by
    obtain ⟨F, h, env, sr, p⟩ := p
    refine dt_read (W := W) ⟨F, h, env, sr, (fl_post sr p).imp (fun d F' h' H' _ _ q v dv => ?_) fun _ _ _ x => x⟩
    obtain ⟨s, r, q⟩ := q
    have q : PostF k F' H' N W ((asgT (.nm i) d env h').fl env fun env' h2 => .nx env' h2) := q
    unfold asgT at q
    exact q F' H' _ .refl r ((sr.er.mono s).set i dv)
end
open PySem PySem.Spec PyProof.Rows L2
/-- the parts of an f-string, each a text, one behind the other -/
def jsE : List Ev → List Nat → Ev
  | [], acc => fun _ h => .ok (.str acc) h
  | f :: fs, acc => fun env h => (f env h).bind fun x h1 => match x with
    | .str y => if acc.length + y.length ≤ lim then jsE fs (acc ++ y) env h1 else .bad
    | _ => .bad
/-- a text or an int as an f-string shows it -/
def fm1 (h : Hs) : D → Res D
  | .int i => str1 h (.int i)
  | .str x => .ok (.str x) h
  | _ => .bad
section
variable {X : Cx} {k : Kx} {W : WX}
theorem me_fm {a : Expr} {fa : Ev} {pos : Pos} (ha : PE X a (tE k W fa)) : PE X (.FormattedValue a (-1) none pos) (tE k W (uE fa fm1)) := by
  refine PE.imp (pe_fmt ha) fun σ H Q p => ?_
  obtain ⟨F, h, env, sr, p⟩ := p
  refine ⟨F, h, env, sr, p.bind.imp (fun d F' h' H' st rl q v dv => ?_) fun _ _ _ x => x⟩
  cases d with
  | str z =>
    obtain ⟨rfl, hl⟩ := dv.strV
    exact .inl ⟨_, rfl, le_lim (by simpa [Str.length] using hl), Post.here (d := .str z) q rl (DV.mkStr hl)⟩
  | int i =>
    cases dv.intV
    obtain ⟨hz, q⟩ := Post.cond (c := i.natAbs.log2 < 1920) (r := (.ok (.str (cs (toString i))) h' : Res D)) q
    refine .inr ⟨i, rfl, hz, ?_⟩
    refine Post.here (d := .str (cs (toString i))) q rl ?_
    have e : (⟨(cs (toString i)).toArray⟩ : Str) = Str.ofString (toString i) := by
      unfold cs
      simp
    have h := DV.mkStr (K := k.K) (F := F') (H := H') (x := cs (toString i)) (by
      have z := int_text_fits hz
      rw [lim_eq] at z
      unfold cs
      rw [Array.length_toList]
      exact z)
    rw [e] at h
    exact h
  | _ => exact q.elim
inductive PJD (X : Cx) (k : Kx) (W : WX) : List Expr → List Ev → Prop where
  | nil : PJD X k W [] []
  | cons {e : Expr} {f : Ev} {es : List Expr} {fs : List Ev} (h : PE X e (tE k W f)) (r : PJD X k W es fs) : PJD X k W (e :: es) (f :: fs)
theorem PJD.pj {es : List Expr} {fs : List Ev} (h : PJD X k W es fs) : PJ X es (fs.map (tE k W)) := by
  induction h with
  | nil => exact .nil
  | cons h _ ih => exact .cons h ih
theorem tJs_of : ∀ (fs : List Ev) (acc : List Nat) (σ : L2.St) (H : Hp) (Q : VK), acc.length ≤ lim → tE k W (jsE fs acc) σ H Q → tJs (fs.map (tE k W)) (⟨acc.toArray⟩ : Str) σ H fun out H1 => Q (.str out) H1
  | [], acc, σ, H, Q, ha, ⟨F, h, env, sr, p⟩ => Post.here (d := .str acc) p sr.rel (DV.mkStr ha)
  | f :: fs, acc, σ, H, Q, ha, ⟨F, h, env, sr, p⟩ => by
    refine ⟨F, h, env, sr, p.bind.imp (fun d F' h' H' st rl q v dv => ?_) fun _ _ _ x => x⟩
    cases d with
    | str y =>
      obtain ⟨rfl, hl⟩ := dv.strV
      obtain ⟨hz, q⟩ := Post.cond (c := acc.length + y.length ≤ lim) (r := (jsE fs (acc ++ y) env h' : Res D)) q
      have e : (⟨acc.toArray⟩ : Str) ++ ⟨y.toArray⟩ = ⟨(acc ++ y).toArray⟩ := by
        show (⟨acc.toArray ++ y.toArray⟩ : Str) = _
        simp
      have hz2 : (acc ++ y).length ≤ lim := by simpa using hz
      refine ⟨_, rfl, ?_, ?_⟩
      · rw [e]; exact le_lim (by simpa [Str.length] using hz2)
      · rw [e]; exact tJs_of fs (acc ++ y) σ H' Q hz2 ⟨F', h', env, sr.step st rl, q⟩
    | _ => exact q.elim
theorem me_js {v1 v2 : Expr} {rest : List Expr} {fs : List Ev} {pos : Pos} (h : PJD X k W (v1 :: v2 :: rest) fs) : PE X (.JoinedStr (v1 :: v2 :: rest) pos) (tE k W (jsE fs [])) :=
  PE.imp (pe_joined h.pj) fun σ H Q p => tJs_of fs [] σ H Q (Nat.zero_le _) p
end
open PySem PySem.Spec PyProof.Rows
/-- one text more -/
def dst (σ : List Str) (v : Str) : List Str := if σ.any (· == v) then σ else σ ++ [v]
/-- the texts of the first i, each once -/
def dd (xs : List Str) : Nat → List Str
  | 0 => []
  | i + 1 => dst (dd xs i) (xs.getD i Str.empty)
theorem dd_le (xs : List Str) : ∀ i, (dd xs i).length ≤ i
  | 0 => Nat.le_refl _
  | i + 1 => by have := dd_le xs i; unfold dd dst; split <;> simp <;> omega
theorem dst_any (σ : List Str) (v k : Str) : (dst σ v).any (· == k) = (σ.any (· == k) || decide (k = v)) := by
  unfold dst
  by_cases e : k = v
  · subst e
    by_cases h : σ.any (· == k) = true
    · rw [if_pos h, h]; rfl
    · rw [if_neg h, List.any_append]; simp
  · have q : (v == k) = false := by simpa using fun z : v = k => e z.symm
    split
    · simp [e]
    · rw [List.any_append]; simp [q, e]
theorem dst_len (σ : List Str) (v : Str) : (dst σ v).length = if σ.any (· == v) then σ.length else σ.length + 1 := by unfold dst; split <;> simp
abbrev SetD (prog : Program) (w : World) (xs : List Str) (h : Heap) (S : Addr) (i : Nat) : Prop := h.SetOf (PySem.strKind prog w) S (fun k => (dd xs i).any (· == k)) (dd xs i).length
theorem SetD.up {prog : Program} {w : World} {xs : List Str} {h h' : Heap} {S : Addr} {i : Nat} (d : SetD prog w xs h S i) (k : ∀ o, h.get? S = some o → h'.get? S = some o) : SetD prog w xs h' S i := by
  obtain ⟨o, es, ep, tb, ho, r⟩ := d
  exact ⟨o, es, ep, tb, k o ho, r⟩
section
variable {prog : Program} {w : World} {A : Around} {R : Result → Shared → Prop} {I : Addr} {fp wr : List Addr} {G : Array GenState → Array GenState → Prop} {n : Nat} {P : Nat → Value → Prop} {St : Nat → Shared → Prop}
theorem set_loop (W : WalksS prog w A.in1 I fp wr G n P St) (S : Addr) (no : S ∉ fp) (xs : List Str) (big : n + 1 < scanBound)
    (hv : ∀ i v, P i v → ∃ t, v = .str (xs.getD i Str.empty) t) : ∀ (k i : Nat) (s : Shared), n - i = k → i ≤ n → St i s → SetD prog w xs s.heap S i →
      (∀ t, Moved (S :: wr) G s t → SetD prog w xs t.heap S n → R (.ok (.ret .none)) t) → codeAny (model prog w) A (.builtin "set.update.loop" ⟨[.ref S, .ref I], []⟩) R s := by
  have nw : S ∉ wr := fun z => no (W.sub _ z)
  have sb : ∀ b ∈ wr, b ∈ S :: wr := fun b z => List.mem_cons_of_mem S z
  intro k
  induction k with
  | zero =>
    intro i s ek ei st d r
    have e : i = n := by omega
    subst e
    (refine codeAny_builtin PyProof.Rows.F.entry_set_update_loop ?_; rw [Around.under_plainId PyProof.Rows.F.plain_set_update_loop _])
    (show wpAny _ A.in1 (pyNext (.ref I) >>= _) _ _ s; refine wpAny_bind (W.done s _ _ st fun t m => ?_); show wpAny _ A.in1 (ret Value.none) _ _ t)
    exact wpAny_pure (r t (m.mono sb) (d.up fun o z => m.heap S o nw z))
  | succ k ih =>
    intro i s ek ei st d r
    have lt : i < n := by omega
    (refine codeAny_builtin PyProof.Rows.F.entry_set_update_loop ?_; rw [Around.under_plainId PyProof.Rows.F.plain_set_update_loop _])
    (show wpAny _ A.in1 (pyNext (.ref I) >>= _) _ _ s; refine wpAny_bind (W.item i s _ _ lt st fun v t pv st2 m => ?_); obtain ⟨tok, rfl⟩ := hv i v pv)
    have d2 : SetD prog w xs t.heap S i := d.up fun o z => m.heap S o nw z
    generalize ex : xs.getD i Str.empty = x
    (show wpAny _ A.in1 (holding [Value.str x tok] (setAdd S (.str x tok)) >>= _) _ _ t; refine wpAny_bind (wpAny_holding ?_); unfold setAdd; refine wpAny_holding ?_)
    refine wpAny_bind ((PySem.strKind prog w).pyHash (k := x) (strKind_is _ _ _ _) ?_)
    have room : (dd xs i).length + 1 < scanBound := by have := dd_le xs i; omega
    refine wpAny_setAddHashed_of (knd := PySem.strKind prog w) (s := { t with toks := t.toks + 1 }) (strKind_is _ _ _ _) rfl d2 room fun g gs g2 => ?_
    have d3 : SetD prog w xs g S (i + 1) := by
      have e1 : dd xs (i + 1) = dst (dd xs i) x := by rw [← ex]; rfl
      exact SetOf_congr g2 (fun k' => by rw [e1, dst_any]) (by rw [e1, dst_len])
    refine wpAny_pure ⟨plainId_quiet PyProof.Rows.F.plain_set_update_loop _, ih (i + 1) _ (by omega) lt (W.frame _ t _ _ st2 (Nat.le_succ _) fun b hb o e => ?_) d3 fun u mu du => ?_⟩
    · rw [gs.2 b fun z : b = S => no (z ▸ hb)]; exact e
    · refine r u (Moved.trans W.gtrans ((m.mono sb).then_heap (Nat.le_succ _) fun b o hb e => ?_) mu) du
      rw [gs.2 b fun z : b = S => hb (z ▸ List.mem_cons_self)]; exact e
end
section
variable {prog : Program} {w : World} {A : Around} {E : Value → Shared → Prop} {s : Shared}
abbrev newSet (led : Bool) : Obj := { cls := .type "set", dict := none, data := .set #[] 0 (.fresh 0 0 led) }
set_option maxHeartbeats 3200000 in
theorem set_list {l : Addr} {its : Array Value} {xs : List Str} {Q : Value → Shared → Prop} (calm : A.handled = none) (hl : s.heap.IsList l its) (hi : PyProof.Rows.StrsAre its.toList xs) (big : its.size + 1 < scanBound)
    (h : ∀ (g : Heap) (tk : Nat), SetD prog w xs g s.heap.objs.size its.size → (∀ b o, b < s.heap.objs.size → s.heap.get? b = some o → g.get? b = some o) → Q (.ref s.heap.objs.size) { s with heap := g, toks := tk }) : wpAny (model prog w) A (call (.type "set") [.ref l]) Q E s := by
  have ⟨c, tl, mro⟩ := PySem.F.called_set.mro
  have made := PySem.F.called_set.made
  have sub := PySem.F.called_set.sub
  refine wpAny_call (codeAny_of_tree ?_)
  (show wpAny _ _ (callAny (.type "set") _) _ _ _; refine wpAny_pure ⟨Code.quiet_builtin _ (by decide +kernel), codeAny_builtin PySem.F.entry_type_call ?_⟩; rw [Around.under_plain (weight_type_call_type "set" [.ref l] []) rfl])
  have k1 := PySem.F.called_set.notType
  have k2 := PySem.F.called_set.canCreate
  have k3 := PySem.F.typeCall_set_1 (.ref l)
  repeat (any_goals (first | assumption | wp_step))
  refine codeAny_mono (code_set_new_1 (.ref l) (E := E) (Q₁ := fun obj t => ∃ led : Bool, obj = .ref s.heap.objs.size ∧ t = { s with heap := s.heap.push (newSet led) }) fun led => ⟨led, rfl, rfl⟩) fun r t hr => ?_
  cases r with
  | error e => exact hr
  | ok fl =>
    cases fl with
    | ret obj =>
      obtain ⟨led, rfl, rfl⟩ := hr
      have gS : (s.heap.push (newSet led)).get? s.heap.objs.size = some (newSet led) := Heap.get?_push_size _ rfl
      have tS : Shared.TypeIs { s with heap := s.heap.push (newSet led) } (.ref s.heap.objs.size) "set" := ⟨_, gS, rfl⟩
      have k4 := PySem.F.called_set.init.lookup
      have k5 := PySem.F.called_set.init.bind (.ref s.heap.objs.size)
      repeat (any_goals (first | assumption | wp_step))
      refine codeAny_mono (codeAny_call_builtin (R := wants (fun r t => r = .none ∧ ∃ g tk, t = { s with heap := g, toks := tk } ∧ SetD prog w xs g s.heap.objs.size its.size ∧ (∀ b o, b < s.heap.objs.size → s.heap.get? b = some o → g.get? b = some o)) E) PySem.F.called_set.init.plain PySem.F.entry_set_init (check_set_init_1 tS ?_)) fun r2 t2 hr2 => ?_
      · obtain ⟨⟨oc, od, oa, osl⟩, ho, hc, nl, hd⟩ := hl
        (simp only at hc hd; subst hc; subst hd)
        have ho2 : (s.heap.push (newSet led)).get? l = some { cls := .type "list", dict := od, data := .seq its nl, slots := osl } := Heap.get?_push_of_some _ ho
        have k6 := PySem.F.sub_list_set
        have k7 := PySem.F.sub_list_frozenset
        have k8 : (Value.type "list" == Value.type "dict") = false := by decide
        have hl1 : (s.heap.push (newSet led)).IsList l its := ⟨_, ho2, rfl, nl, rfl⟩
        unfold Builtin.«set.__init__» noKeywords Builtin.Frozenset.updateFrom
        generalize hPI : pyIter = PI
        wp_walk
        subst hPI
        refine wpAny_pyIter_list hl1 ?_
        refine wpAny_bind (wpAny_runValue ?_)
        have lS : l < s.heap.objs.size := Heap.lt_size ho
        have calm3 : A.in1.in1.in1.handled = none := by simp [calm]
        have sz1 : (s.heap.push (newSet led)).objs.size = s.heap.objs.size + 1 := Heap.size_push ..
        have ne1 : l ≠ (s.heap.push (newSet led)).objs.size := by rw [sz1]; exact Nat.ne_of_lt (Nat.lt_succ_of_lt lS)
        have no1 : s.heap.objs.size ∉ [(s.heap.push (newSet led)).objs.size, l] := by
          (rw [sz1]; simp only [List.mem_cons, List.not_mem_nil, or_false, not_or])
          exact ⟨Nat.ne_of_lt (Nat.lt_succ_self _), Nat.ne_of_gt lS⟩
        have hv : ∀ (i : Nat) (v : Value), its[i]? = some v → ∃ t, v = .str (xs.getD i Str.empty) t := fun i v e => SS.strs_at hi i v (by rw [Array.getElem?_toList]; exact e)
        refine set_loop ((Walks.list calm3 _ l ne1 its).toS) s.heap.objs.size no1 xs big hv (its.size - 0) 0 _ (by omega) (Nat.zero_le _) ⟨⟨_, Heap.get?_push_size _ rfl, rfl, rfl⟩, (hl1.push _)⟩ ?hFresh ?hThen
        case hFresh =>
          have g2 : ((s.heap.push (newSet led)).push { cls := .type "list_iterator", data := .fields #[.ref l, .int 0 0] }).get? s.heap.objs.size = some (newSet led) := Heap.get?_push_of_some _ gS
          exact PyProof.Rows.SetOf_congr ((PyProof.Rows.setObjOf_fresh (knd := PySem.strKind prog w) led).setOf g2 (by unfold scanBound; omega)) (fun _ => rfl) rfl
        case hThen =>
          intro t m d
          obtain ⟨g, gg, dd', tk, oo⟩ := t
          have q1 : gg = s.gens := m.gens
          have q2 : dd' = s.drawn := m.drawn
          have q3 : oo = s.os := m.os
          (subst q1; subst q2; subst q3)
          (show wpAny _ _ _ _ _ _; refine wpAny_pure ?_)
          (show wpAny _ _ (ret Value.none) _ _ _; refine wpAny_pure ⟨rfl, g, tk, rfl, d, fun b o lb e => ?_⟩)
          exact m.heap b o (by (rw [sz1]; simp only [List.mem_cons, List.not_mem_nil, or_false, not_or]); exact ⟨Nat.ne_of_lt lb, Nat.ne_of_lt (Nat.lt_succ_of_lt lb)⟩) (Heap.get?_push_of_some _ (Heap.get?_push_of_some _ e))
      · cases r2 with
        | error e => exact hr2
        | ok fl2 =>
          cases fl2 with
          | ret r =>
            obtain ⟨rfl, g, tk, rfl, d, k⟩ := hr2
            repeat (any_goals (first | assumption | wp_step))
            exact h _ _ d k
          | _ => exact hr2.elim
    | _ => exact hr.elim
end
open PySem PySem.Spec PyProof.Rows L2
/-- len(set(a)), a a list of texts -/
def tLenSetT (K : PySem.W.Frag) (ta : TE) : TE := fun σ H Q => ta σ H fun x H1 => ∃ (l : Addr) (xs : List Str), x = .ref l ∧ SqL K H1 l (xs.map V.str) ∧ xs.length ≤ 4000 ∧ Q (.int ((dd xs xs.length).length : Nat)) H1
theorem pe_lenSetT {X : Cx} {a : Expr} {ta : TE} {p p2 q pos : Pos} (hg : Gl X "len") (hm : X.mg "len" = none) (hg2 : Gl X "set") (hm2 : X.mg "set" = none) (ha : PE X a ta) (hc : X.calm = true)
    (na : starEach [a] X.env = (false, eval a X.env) :: starEach [] X.env := by rfl) : PE X (.Call (.Name "len" p) [.Call (.Name "set" p2) [a] [] q] [] pos) (tLenSetT X.K ta) := ⟨fun pins s σ H Q I h => by
  (refine Call_ (ld_blt I hg hm boot_len ?_); refine PyProof.Rows.callWith_builtin1 (PyProof.Rows.args_cons ?_ rfl) rfl rfl)
  (refine Call_ (ld_blt I hg2 hm2 boot_set ?_); refine PyProof.Rows.callWith_type1 (PyProof.Rows.args_cons (thn (ha.run pins s σ H _ I h) fun v t ⟨x, H1, I1, r1, z⟩ => PyProof.Rows.args_nil ?_) na) na rfl)
  obtain ⟨l, xs, rfl, hq, hl, z⟩ := z
  cases r1
  obtain ⟨its, r, pl, hz⟩ := I1.list hq
  have e : its.toArray.size = xs.length := by rw [List.size_toArray, ← r.length, List.length_map]
  refine set_list (xs := xs) (I1.ok.hd hc) pl.isList (by simpa using strsAre_of r) (by rw [e]; unfold scanBound; omega) fun g tk d k => ?_
  refine PyProof.Rows.args_nil ?_
  rw [e] at d
  have le := dd_le xs xs.length
  obtain ⟨o, es, ep, tb, ho, hx, hd, _, _, _, hf, hn⟩ := d
  have I2 : Inv X pins σ H1 { t with heap := g, toks := tk } := I1.kept fun b o z => k b o (Heap.lt_size z) z
  exact call_len_set ho hx hd hf (by rw [hn] <;> omega) ⟨.int ((dd xs xs.length).length : Nat), H1, I2.tok _, ⟨_, by rw [hn]⟩, z⟩⟩
open PySem PySem.Spec PyProof.Rows L2
def dsN (σ : List (List Nat)) (v : List Nat) : List (List Nat) := if v ∈ σ then σ else σ ++ [v]
/-- the texts, each once -/
def ddN (xs : List (List Nat)) : List (List Nat) := xs.foldl dsN []
def lsR (h : Hs) : Option (List (List Nat)) → Res D
  | some ys => if ys.length ≤ 4000 then .ok (.int ((ddN ys).length : Nat)) h else .bad
  | none => .bad
def refL (h : Hs) : D → Option (List (List Nat))
  | .ref n => (seqH h (.ref n)).bind strsD
  | _ => none
def lsE (a : Ev) : Ev := fun env h => (a env h).bind fun x h1 => lsR h1 (refL h1 x)
abbrev toS (x : List Nat) : Str := ⟨x.toArray⟩
theorem toS_inj {x y : List Nat} (h : toS x = toS y) : x = y := by
  have := congrArg (fun s : Str => s.cps.toList) h
  simpa using this
theorem dsN_map (σ : List (List Nat)) (v : List Nat) : (dsN σ v).map toS = dst (σ.map toS) (toS v) := by
  have e : (σ.map toS).any (· == toS v) = decide (v ∈ σ) := by
    rw [Bool.eq_iff_iff, List.any_eq_true, decide_eq_true_eq]
    constructor
    · rintro ⟨y, m, q⟩
      obtain ⟨x, hx, rfl⟩ := List.mem_map.mp m
      have := toS_inj (eq_of_beq q)
      exact this ▸ hx
    · exact fun m => ⟨toS v, List.mem_map_of_mem m, beq_self_eq_true _⟩
  unfold dsN dst
  rw [e]
  by_cases c : v ∈ σ
  · rw [if_pos c, decide_eq_true c, if_pos rfl]
  · rw [if_neg c, decide_eq_false c, if_neg (by decide)]; simp
theorem ddN_map (xs : List (List Nat)) : ∀ i, i ≤ xs.length → (ddN (xs.take i)).map toS = dd (xs.map toS) i
  | 0, _ => rfl
  | i + 1, hi => by
    have h1 : xs[i]? = some xs[i] := List.getElem?_eq_getElem hi
    have e : ddN (xs.take (i + 1)) = dsN (ddN (xs.take i)) xs[i] := by
      unfold ddN
      rw [List.take_add_one, h1, List.foldl_append]; rfl
    rw [e, dsN_map, ddN_map xs i (by omega)]
    show _ = dst (dd (xs.map toS) i) ((xs.map toS).getD i Str.empty)
    rw [List.getD_eq_getElem?_getD, List.getElem?_map, h1]; rfl
theorem ddN_len (xs : List (List Nat)) : (dd (xs.map toS) (xs.map toS).length).length = (ddN xs).length := by
  have := ddN_map xs xs.length (Nat.le_refl _)
  rw [List.take_length] at this
  rw [List.length_map, ← this, List.length_map]
theorem me_lenSet {X : Cx} {k : Kx} {W : WX} {a : Expr} {fa : Ev} {p p2 q pos : Pos} (hK : X.K = k.K) (hg : Gl X "len") (hm : X.mg "len" = none) (hg2 : Gl X "set") (hm2 : X.mg "set" = none) (ha : PE X a (tE k W fa)) (hc : X.calm = true)
    (na : starEach [a] X.env = (false, eval a X.env) :: starEach [] X.env := by rfl) : PE X (.Call (.Name "len" p) [.Call (.Name "set" p2) [a] [] q] [] pos) (tE k W (lsE fa)) := by
  refine PE.imp (pe_lenSetT hg hm hg2 hm2 ha hc na) fun σ H Q z => ?_
  obtain ⟨F, h, env, sr, z⟩ := z
  refine ⟨F, h, env, sr, z.bind.imp (fun d F' h' H' st rl q v dv => ?_) fun _ _ _ x => x⟩
  cases e : refL h' d with
  | none => rw [e] at q; exact q.elim
  | some ys =>
    rw [e] at q
    unfold lsR at q
    dsimp only at q
    cases d with
    | ref n =>
      obtain ⟨xs, e1, e2⟩ := Option.bind_eq_some_iff.mp (show (seqH h' (.ref n)).bind strsD = some ys from e)
      have e2 := strsD_eq e2
      subst e2
      obtain ⟨b, vs, rfl, sq, dvs, _, nt⟩ := rl.seq dv e1
      obtain ⟨rfl, _⟩ := DVs.strs dvs
      by_cases c : ys.length ≤ 4000
      · rw [if_pos c] at q
        refine ⟨b, ys.map toS, rfl, ?_, by rw [List.length_map]; exact c, ?_⟩
        · rw [hK, List.map_map]
          exact nt fun _ z => nomatch z
        · rw [ddN_len]
          exact Post.here q rl (DV.mkInt)
      · rw [if_neg c] at q; exact q.elim
    | _ => cases e
open PySem PySem.Spec PyProof.Rows L2 HT
section
variable {X : Cx}
theorem pairs_v {pins : List (Addr × Obj)} {σ : L2.St} {H : Hp} {s : Shared} (I : L2.Inv X pins σ H s) : ∀ {ps : List Addr} {kvs : List (Key × V)}, Paired (fun p kv => SqT X.K H p [kV kv.1, kv.2]) ps kvs →
    ∃ (pv : List (Value × Value)) (prs : List (Key × Value)), KV kvs prs ∧ prs.length = ps.length ∧ pv.length = ps.length ∧ ∀ (j : Nat) (q : Value × Value), pv[j]? = some q → ∃ (b : Addr) (k : Key), ps[j]? = some b ∧ IsTup s.heap b #[q.1, q.2] ∧ prs[j]? = some (k, q.2) ∧ keyIs k q.1 = true
  | _, _, .nil => ⟨[], [], .nil, rfl, rfl, fun j q e => by simp at e⟩
  | _, _, .cons (a := p) (b := kv) h t => by
    obtain ⟨pv, prs, r, hl, hl2, hp⟩ := pairs_v I t
    obtain ⟨its, rv, ht, _⟩ := I.tuple h
    obtain ⟨u, y, ei, ru, ry⟩ := vals2 rv
    subst ei
    refine ⟨(u, y) :: pv, (kv.1, y) :: prs, .cons ⟨rfl, ry⟩ r, by rw [List.length_cons, List.length_cons, hl], by rw [List.length_cons, List.length_cons, hl2], fun j q e => ?_⟩
    cases j with
    | zero =>
      have e' : (u, y) = q := Option.some.inj e
      subst e'
      exact ⟨p, kv.1, rfl, ht, rfl, kV_is (P := X.prog) (w := X.w) ru⟩
    | succ j =>
      obtain ⟨b, k, e1, e2, e3, e4⟩ := hp j q (by simpa using e)
      exact ⟨b, k, by simpa using e1, e2, by simpa using e3, e4⟩
/-- dict(t) of a tuple of pairs (key, value) -/
theorem call_dictX (hcalm : X.calm = true) : CallR X (.type "dict") (fun xs H Q => ∃ (a : Addr) (o : Obj) (ps : List Addr) (kvs : List (Key × V)), xs = [.ref a] ∧ H a = some (.frz o (.tup (ps.map V.ref))) ∧ o.dict = none ∧ Paired (fun p kv => SqT X.K H p [kV kv.1, kv.2]) ps kvs ∧
    ∀ p, H p = none → Q (.ref p) (upd H p (.dK (mergeK [] kvs)))) := by
  intro pins s σ H xs us Q I r q
  obtain ⟨a, o, ps, kvs, ex, hq, hd, hp, q⟩ := q
  subst ex
  obtain ⟨u, eu, rx⟩ := vals1 r
  subst eu
  cases rx
  obtain ⟨ho, hz, its, rv, o', ho', hc, n, hdat⟩ := (show ObjOk X.prog X.w H s.heap a (.frz o (.tup (ps.map V.ref))) from I.hok a _ hq)
  rw [ho] at ho'
  cases ho'
  have ei := refs_at rv
  subst ei
  rw [List.length_map] at hz
  obtain ⟨pv, prs, rel, hl, hl2, hpr⟩ := pairs_v I hp
  have ts : ∀ j b, ps[j]? = some b → ps.getD j 0 = b := fun j b e => by rw [List.getD_eq_getElem?_getD, e]; rfl
  refine call_dict_pairs (knd := mixKind X.prog X.w) (kvs := prs) (PairArg.tuple a (ps.map Value.ref).toArray (fun j => ps.getD j 0) pv) (I.ok.hd hcalm) ⟨⟨o, n, ho, hc, hd, hdat⟩, by simp [hl2], fun j k v e => ?_⟩ ⟨by rw [hl, hl2], fun i key v e => ?_⟩ (by rw [hl2]; exact hz) fun h' tk hd' k => ?_
  · obtain ⟨b, ky, e1, e2, e3, e4⟩ := hpr j (k, v) e
    refine ⟨by simp [e1, ts j b e1], ?_⟩
    show PairAt _ (ps.getD j 0) k v
    rw [ts j b e1]
    exact .inl e2
  · obtain ⟨b, ky, e1, e2, e3, e4⟩ := hpr i (key, v) e
    exact ⟨ky, e3, e4⟩
  · have hm : (s.heap.objs.size == sysModules) = false := beq_eq_false_iff_ne.mpr (Nat.ne_of_gt I.big)
    have hlen : (mergeK [] kvs).length ≤ sizeLine := by
      refine Nat.le_trans (length_mergeK kvs []) ?_
      rw [List.length_nil, Nat.zero_add, rel.length, hl]
      exact hz
    exact ⟨.ref s.heap.objs.size, upd H s.heap.objs.size (.dK (mergeK [] kvs)), I.laid (t' := tk) (fun b o e => k b o (fun h => nomatch h) e) (Nat.le_refl _) (show ObjOk X.prog X.w _ _ _ (.dK (mergeK [] kvs)) from ⟨hlen, hm, merged [] prs, KV.merge rel .nil, hd'⟩), rfl, q _ (I.hok.fresh (Nat.le_refl _))⟩
end
open PySem PySem.Spec PyProof.Rows L2
/-- data as the library's, or nothing -/
def pyN (d : D) : PyData := (py d).getD .none
/-- not above -/
def leD (a b : D) : Bool := PySem.W.dataLe false pyN a b
def sortD (xs : List D) : List D := xs.mergeSort leD
/-- all alike, and not deep -/
def alkD (xs : List D) : Bool := xs.all fun x => (py x).isSome && decide ((pyN x).depth ≤ 40) && xs.all fun y => PySem.W.alike (pyN x) (pyN y)
def isTupN : D → Bool
  | .tup (_ :: _) => true
  | _ => false
def isOth : D → Bool
  | .tup _ => false
  | .non => false
  | _ => true
def sorted1 (h : Hs) (d : D) : Res D := match lstOf h d with
  | some xs => if alkD xs = true ∧ (xs.all isTupN = true ∨ xs.all isOth = true) ∧ xs.length ≤ lim then .ok (.ref h.length) (h ++ [.lst (sortD xs)]) else .bad
  | none => .bad
where
  /-- a list, not a tuple -/
  lstOf (h : Hs) : D → Option (List D)
    | .tup _ => none
    | d => seqH h d
def minF (x : D) (xs : List D) : D := xs.foldl (fun a y => if PySem.W.dataLt (pyN y) (pyN a) = true then y else a) x
def maxF (x : D) (xs : List D) : D := xs.foldl (fun a y => if PySem.W.dataLt (pyN a) (pyN y) = true then y else a) x
section
variable {X : Cx} {k : Kx} {F : List Addr} {H : Hp} {s : Shared} {σ : L2.St} {pins : List (Addr × Obj)}
/-- what a value stands for -/
def Sd (k : Kx) (F : List Addr) (H : Hp) (u : Value) (d : D) : Prop := ∃ v, RelV v u ∧ DV k.K F H d v
theorem sd_each : ∀ {ds : List D} {vs : List V} {us : List Value}, DVs k.K F H ds vs → Vals vs us → PySem.W.EachIs (Sd k F H) us ds
  | [], vs, us, h, r => by
    unfold DVs at h; subst h; cases r; exact .nil
  | d :: ds, vs, us, h, r => by
    unfold DVs at h
    obtain ⟨v, rr, rfl, h1, h2⟩ := h
    cases r with
    | cons r1 r2 => exact .cons ⟨v, r1, h1⟩ (sd_each h2 r2)
theorem each_sd : ∀ {ds : List D} {us : List Value}, PySem.W.EachIs (Sd k F H) us ds → ∃ vs, DVs k.K F H ds vs ∧ Vals vs us
  | _, _, .nil => ⟨[], DVs.nil, .nil⟩
  | _, _, .cons ⟨v, r1, h1⟩ t => by
    obtain ⟨vs, h2, r2⟩ := each_sd t
    exact ⟨v :: vs, DVs.cons h1 h2, .cons r1 r2⟩
theorem pyN_some {d : D} (h : (py d).isSome = true) : py d = some (pyN d) := by
  unfold pyN
  cases e : py d with
  | none => rw [e] at h; cases h
  | some p => rfl
theorem each_reads (I : L2.Inv X pins σ H s) (hK : X.K = k.K) : ∀ {ds : List D} {vs : List V} {us : List Value}, DVs k.K F H ds vs → Vals vs us → (∀ d ∈ ds, (py d).isSome = true) → PySem.W.EachIs (fun v b => ∃ as, Reads s.heap v (pyN b) as) us ds
  | [], vs, us, h, r, _ => by
    unfold DVs at h; subst h; cases r; exact .nil
  | d :: ds, vs, us, h, r, hp => by
    unfold DVs at h
    obtain ⟨v, rr, rfl, h1, h2⟩ := h
    cases r with
    | cons r1 r2 => exact .cons (Dp.reads I (pyN d) v _ (by rw [hK]; exact py_dp d v _ h1 (pyN_some (hp d List.mem_cons_self))) r1) (each_reads I hK h2 r2 fun e m => hp e (List.mem_cons_of_mem _ m))
theorem all_reads (I : L2.Inv X pins σ H s) (hK : X.K = k.K) : ∀ {ds : List D} {vs : List V} {us : List Value}, DVs k.K F H ds vs → Vals vs us → (∀ d ∈ ds, (py d).isSome = true) → ∃ as, ReadsAll s.heap us (ds.map pyN) as
  | [], vs, us, h, r, _ => by
    unfold DVs at h; subst h; cases r; exact ⟨_, .nil⟩
  | d :: ds, vs, us, h, r, hp => by
    unfold DVs at h
    obtain ⟨v, rr, rfl, h1, h2⟩ := h
    cases r with
    | cons r1 r2 =>
      obtain ⟨as, q⟩ := Dp.reads I (pyN d) v _ (by rw [hK]; exact py_dp d v _ h1 (pyN_some (hp d List.mem_cons_self))) r1
      obtain ⟨bs, q2⟩ := all_reads I hK h2 r2 fun e m => hp e (List.mem_cons_of_mem _ m)
      exact ⟨_, .cons q q2⟩
theorem alk_all {xs : List D} (h : alkD xs = true) : (∀ x ∈ xs, (py x).isSome = true ∧ (pyN x).depth ≤ 40) ∧ ∀ x ∈ xs, ∀ y ∈ xs, PySem.W.alike (pyN x) (pyN y) = true := by
  unfold alkD at h
  rw [List.all_eq_true] at h
  refine ⟨fun x m => ?_, fun x m y my => ?_⟩
  · have := h x m
    simp only [Bool.and_eq_true, decide_eq_true_eq] at this
    exact this.1
  · have := h x m
    simp only [Bool.and_eq_true, decide_eq_true_eq] at this
    exact List.all_eq_true.mp this.2 y my
theorem sortable {xs : List D} (h : alkD xs = true) (h2 : xs.all isTupN = true ∨ xs.all isOth = true) : PySem.W.Sortable (xs.map pyN) := by
  obtain ⟨h1, _⟩ := alk_all h
  rcases h2 with h2 | h2
  · refine .inl fun d hd => ?_
    obtain ⟨x, m, rfl⟩ := List.mem_map.mp hd
    have t := List.all_eq_true.mp h2 x m
    have e := pyN_some (h1 x m).1
    cases x with
    | tup ys =>
      cases ys with
      | nil => cases t
      | cons y ys =>
        unfold py at e
        obtain ⟨ps, e1, e2⟩ := Option.map_eq_some_iff.mp e
        unfold pys at e1
        split at e1
        · cases e1; exact ⟨_, _, e2.symm⟩
        · cases e1
    | _ => cases t
  · refine .inr fun d hd => ?_
    obtain ⟨x, m, rfl⟩ := List.mem_map.mp hd
    have t := List.all_eq_true.mp h2 x m
    have e := pyN_some (h1 x m).1
    cases x with
    | tup ys => cases t
    | non => cases t
    | bl b => unfold py at e; rw [← Option.some.inj e]; exact ⟨fun z => (nomatch z), fun _ z => (nomatch z)⟩
    | int b => unfold py at e; rw [← Option.some.inj e]; exact ⟨fun z => (nomatch z), fun _ z => (nomatch z)⟩
    | str b => unfold py at e; rw [← Option.some.inj e]; exact ⟨fun z => (nomatch z), fun _ z => (nomatch z)⟩
    | ls ys =>
      unfold py at e
      obtain ⟨ps, e1, e2⟩ := Option.map_eq_some_iff.mp e
      rw [← e2]; exact ⟨fun z => (nomatch z), fun _ z => (nomatch z)⟩
    | ref n => unfold py at e; cases e
theorem c_sorted (hK : X.K = k.K) (hu : X.A.units + 64 < cLine) : CallR X (.builtin "sorted") (rC k (on1 sorted1)) := by
  refine CallR.byD fun pins s σ H xs us Q W0 F hs ds I r rl dv p => ?_
  match ds, dv, p with
  | [], _, p => exact p.elim
  | _ :: _ :: _, _, p => exact p.elim
  | [d], dv, p =>
    unfold DVs at dv
    obtain ⟨v, rr, rfl, d1, d2⟩ := dv
    unfold DVs at d2
    subst d2
    have p : Post k F H (PV k Q) W0 (match sorted1.lstOf hs d with
      | some xs => if alkD xs = true ∧ (xs.all isTupN = true ∨ xs.all isOth = true) ∧ xs.length ≤ lim then .ok (.ref hs.length) (hs ++ [.lst (sortD xs)]) else .bad
      | none => .bad) := p
    cases e : sorted1.lstOf hs d with
    | none => rw [e] at p; exact p.elim
    | some xs =>
      rw [e] at p
      obtain ⟨⟨c1, c2, c3⟩, p⟩ := Post.cond (c := alkD xs = true ∧ (xs.all isTupN = true ∨ xs.all isOth = true) ∧ xs.length ≤ lim) (r := (.ok (.ref hs.length) (hs ++ [.lst (sortD xs)]) : Res D)) p
      have nt : ∀ ys, d ≠ .tup ys := fun ys z => by subst z; cases e
      have e' : seqH hs d = some xs := by cases d <;> first | exact e | exact absurd rfl (nt _)
      obtain ⟨a, vs, rfl, _, dvs, _, sq⟩ := rl.seq d1 e'
      obtain ⟨its, rv, hl, _⟩ := I.list (show SqL X.K H a vs by rw [hK]; exact sq nt)
      rw [Vals.ref1 r]
      obtain ⟨h1, h2⟩ := alk_all c1
      have hz : xs.length ≤ sizeLine := le_lim c3
      refine PySem.W.sorted_data (R := Sd k F H) (enc := pyN) hl.isList (sd_each dvs rv) (each_reads I hK dvs rv fun d m => (h1 d m).1) (fun a ha b hb => ?_) (sortable c1 c2) hz (fun b m => by have := (h1 b m).2; omega) fun out hlen ho => ?_
      · obtain ⟨x, m, rfl⟩ := List.mem_map.mp ha
        obtain ⟨y, my, rfl⟩ := List.mem_map.mp hb
        exact h2 x m y my
      · obtain ⟨vs2, dv2, rv2⟩ := each_sd ho
        obtain ⟨ep, he'⟩ := PyProof.Rows.sortedAll_at s.heap its out.toArray
        have hl2 : vs2.length ≤ sizeLine := by rw [rv2.length, hlen]; exact hz
        refine ⟨.ref (s.heap.objs.size + 1), upd H (s.heap.objs.size + 1) (.lst vs2), I.laid (t' := s.toks) (fun _ _ => PyProof.Rows.sortedAll_old) (Nat.le_succ _) ⟨hl2, out, ep, rv2, he'⟩, rfl, ?_⟩
        exact Post.lst p rl dv2 (I.hok.fresh (Nat.le_succ _))
mutual
theorem py_inj : ∀ (d e : D) (p : PyData), py d = some p → py e = some p → d = e
  | .non, e, p, h1, h2 => by
    unfold py at h1; cases h1
    cases e <;> unfold py at h2 <;> first | rfl | cases h2 | (obtain ⟨_, _, z⟩ := Option.map_eq_some_iff.mp h2; cases z)
  | .bl b, e, p, h1, h2 => by
    unfold py at h1; cases h1
    cases e <;> unfold py at h2 <;> first | (cases h2; rfl) | cases h2 | (obtain ⟨_, _, z⟩ := Option.map_eq_some_iff.mp h2; cases z)
  | .int b, e, p, h1, h2 => by
    unfold py at h1; cases h1
    cases e <;> unfold py at h2 <;> first | (cases h2; rfl) | cases h2 | (obtain ⟨_, _, z⟩ := Option.map_eq_some_iff.mp h2; cases z)
  | .str x, e, p, h1, h2 => by
    unfold py at h1; cases h1
    cases e with
    | str y =>
      unfold py at h2
      have z := PyData.str.inj (Option.some.inj h2)
      have z : y.toArray = x.toArray := Str.mk.inj z
      rw [show y = x by have := congrArg Array.toList z; simpa using this]
    | tup => unfold py at h2; obtain ⟨_, _, z⟩ := Option.map_eq_some_iff.mp h2; cases z
    | ls => unfold py at h2; obtain ⟨_, _, z⟩ := Option.map_eq_some_iff.mp h2; cases z
    | _ => unfold py at h2; cases h2
  | .tup xs, e, p, h1, h2 => by
    unfold py at h1
    obtain ⟨ps, e1, rfl⟩ := Option.map_eq_some_iff.mp h1
    cases e with
    | tup ys =>
      unfold py at h2
      obtain ⟨qs, e2, z⟩ := Option.map_eq_some_iff.mp h2
      have z := PyData.tuple.inj z
      subst z
      rw [pys_inj xs ys qs e1 e2]
    | ls => unfold py at h2; obtain ⟨_, _, z⟩ := Option.map_eq_some_iff.mp h2; cases z
    | _ => unfold py at h2; cases h2
  | .ls xs, e, p, h1, h2 => by
    unfold py at h1
    obtain ⟨ps, e1, rfl⟩ := Option.map_eq_some_iff.mp h1
    cases e with
    | ls ys =>
      unfold py at h2
      obtain ⟨qs, e2, z⟩ := Option.map_eq_some_iff.mp h2
      have z := PyData.list.inj z
      subst z
      rw [pys_inj xs ys qs e1 e2]
    | tup => unfold py at h2; obtain ⟨_, _, z⟩ := Option.map_eq_some_iff.mp h2; cases z
    | _ => unfold py at h2; cases h2
  | .ref n, e, p, h1, h2 => by unfold py at h1; cases h1
theorem pys_inj : ∀ (d e : List D) (p : List PyData), pys d = some p → pys e = some p → d = e
  | [], e, p, h1, h2 => by
    unfold pys at h1; cases h1
    cases e with
    | nil => rfl
    | cons e es =>
      unfold pys at h2
      split at h2
      · cases h2
      · cases h2
  | d :: ds, e, p, h1, h2 => by
    unfold pys at h1
    split at h1
    · rename_i a as e1 e2
      cases h1
      cases e with
      | nil => unfold pys at h2; cases h2
      | cons e es =>
        unfold pys at h2
        split at h2
        · rename_i b bs e3 e4
          cases h2
          rw [py_inj d e _ e1 e3, pys_inj ds es _ e2 e4]
        · cases h2
    · cases h1
end
theorem pyN_inj {d e : D} (h1 : (py d).isSome = true) (h2 : (py e).isSome = true) (h : pyN d = pyN e) : d = e := py_inj d e _ (pyN_some h1) (by rw [h]; exact pyN_some h2)
theorem minF_py (x : D) : ∀ xs : List D, PySem.W.minD (pyN x) (xs.map pyN) = pyN (minF x xs) := by
  intro xs
  unfold PySem.W.minD minF
  induction xs generalizing x with
  | nil => rfl
  | cons y ys ih =>
    rw [List.map_cons, List.foldl_cons, List.foldl_cons]
    split
    · exact ih y
    · exact ih x
theorem maxF_py (x : D) : ∀ xs : List D, PySem.W.maxD (pyN x) (xs.map pyN) = pyN (maxF x xs) := by
  intro xs
  unfold PySem.W.maxD maxF
  induction xs generalizing x with
  | nil => rfl
  | cons y ys ih =>
    rw [List.map_cons, List.foldl_cons, List.foldl_cons]
    split
    · exact ih y
    · exact ih x
theorem minF_mem (x : D) (xs : List D) : minF x xs ∈ x :: xs := by
  unfold minF
  induction xs generalizing x with
  | nil => exact List.mem_cons_self
  | cons y ys ih =>
    rw [List.foldl_cons]
    split
    · exact List.mem_cons_of_mem _ (ih y)
    · rcases List.mem_cons.mp (ih x) with e | m
      · rw [e]; exact List.mem_cons_self
      · exact List.mem_cons_of_mem _ (List.mem_cons_of_mem _ m)
theorem maxF_mem (x : D) (xs : List D) : maxF x xs ∈ x :: xs := by
  unfold maxF
  induction xs generalizing x with
  | nil => exact List.mem_cons_self
  | cons y ys ih =>
    rw [List.foldl_cons]
    split
    · exact List.mem_cons_of_mem _ (ih y)
    · rcases List.mem_cons.mp (ih x) with e | m
      · rw [e]; exact List.mem_cons_self
      · exact List.mem_cons_of_mem _ (List.mem_cons_of_mem _ m)
def isNon : D → Bool
  | .non => true
  | _ => false
/-- min, max of what is walked -/
def best1 (f : D → List D → D) (h : Hs) (d : D) : Res D := match seqH h d with
  | some (x :: xs) => if alkD (x :: xs) = true ∧ (x :: xs).any isNon = false then .ok (f x xs) h else .bad
  | _ => .bad
theorem alk_of {xs : List D} (c : alkD xs = true) (n : xs.any isNon = false) : PySem.W.AlikeAll (xs.map pyN) := by
  obtain ⟨h1, h2⟩ := alk_all c
  refine ⟨fun a ha b hb => ?_, fun a ha z => ?_⟩
  · obtain ⟨x, m, rfl⟩ := List.mem_map.mp ha
    obtain ⟨y, my, rfl⟩ := List.mem_map.mp hb
    exact h2 x m y my
  · obtain ⟨x, m, rfl⟩ := List.mem_map.mp ha
    have e := pyN_some (h1 x m).1
    rw [z] at e
    have : x = .non := py_inj x .non .none e (by unfold py; rfl)
    have := List.any_eq_false.mp n x m
    subst x
    exact this rfl
theorem depth_all : ∀ {xs : List D}, (∀ x ∈ xs, (pyN x).depth ≤ 40) → PyData.depthAll (xs.map pyN) ≤ 40
  | [], _ => by rw [List.map_nil]; unfold PyData.depthAll; omega
  | x :: xs, h => by
    rw [List.map_cons]
    unfold PyData.depthAll
    have h1 := h x List.mem_cons_self
    have h2 := depth_all fun y m => h y (List.mem_cons_of_mem x m)
    omega
theorem getD_at : ∀ {ds : List D} {vs : List V} {us : List Value}, DVs k.K F H ds vs → Vals vs us → ∀ (i : Nat) (u : Value), us[i]? = some u → ∃ d v, ds[i]? = some d ∧ RelV v u ∧ DV k.K F H d v
  | [], vs, us, h, r, i, u, e => by
    unfold DVs at h; subst h; cases r; simp at e
  | d :: ds, vs, us, h, r, i, u, e => by
    unfold DVs at h
    obtain ⟨v, rr, rfl, h1, h2⟩ := h
    cases r with
    | cons r1 r2 =>
      cases i with
      | zero => have e := Option.some.inj (by simpa using e); subst e; exact ⟨d, v, rfl, r1, h1⟩
      | succ i => exact getD_at h2 r2 i u (by simpa using e)
theorem c_best {id : String} {f : D → List D → D} {g : PyData → List PyData → PyData} (hg : ∀ x xs, g (pyN x) (xs.map pyN) = pyN (f x xs)) (hm : ∀ x xs, f x xs ∈ x :: xs) (hK : X.K = k.K) (hu : X.A.units + 64 < cLine) (hc : X.calm = true)
    (hl : ∀ {pins : List (Addr × Obj)} {s : Shared} {σ : L2.St} {H : Hp} {l : Addr} {vs : Array Value} {x : PyData} {xs : List PyData} {as : List Addr} {Q : Value → Shared → Prop}, L2.Inv X pins σ H s → (s.heap.IsList l vs ∨ s.heap.IsTuple l vs) → ReadsAll s.heap vs.toList (x :: xs) as → PySem.W.AlikeAll (x :: xs) → X.A.units + 1 + PyData.depthAll (x :: xs) < cLine →
      (∀ (i : Nat) v h' tk bs, vs[i]? = some v → Reads h' v (g x xs) bs → (∀ b o, s.heap.get? b = some o → h'.get? b = some o) → Q v { s with heap := h', toks := tk }) → wpAny (model X.prog X.w) X.A (call (.builtin id) [.ref l]) Q X.xe s) : CallR X (.builtin id) (rC k (on1 (best1 f))) := by
  refine CallR.byD fun pins s σ H xs us Q W0 F hs ds I r rl dv p => ?_
  match ds, dv, p with
  | [], _, p => exact p.elim
  | _ :: _ :: _, _, p => exact p.elim
  | [d], dv, p =>
    unfold DVs at dv
    obtain ⟨v, rr, rfl, d1, d2⟩ := dv
    unfold DVs at d2
    subst d2
    have p : Post k F H (PV k Q) W0 (match seqH hs d with
      | some (x :: xs) => if alkD (x :: xs) = true ∧ (x :: xs).any isNon = false then .ok (f x xs) hs else .bad
      | _ => .bad) := p
    cases e : seqH hs d with
    | none => rw [e] at p; exact p.elim
    | some xs =>
      cases xs with
      | nil => rw [e] at p; exact p.elim
      | cons x xs =>
        rw [e] at p
        obtain ⟨⟨c1, c2⟩, p⟩ := Post.cond (c := alkD (x :: xs) = true ∧ (x :: xs).any isNon = false) (r := (.ok (f x xs) hs : Res D)) p
        obtain ⟨a, vs, rfl, _, dvs, st, sl⟩ := rl.seq d1 e
        have at_ : ∃ its : List Value, Vals vs its ∧ (s.heap.IsList a its.toArray ∨ s.heap.IsTuple a its.toArray) := by
          rcases seqH_tup e with z | z
          · obtain ⟨its, rv, ht, _⟩ := I.tuple (show SqT X.K H a vs by rw [hK]; exact (st _ z).sqT)
            exact ⟨its, rv, .inr ht⟩
          · obtain ⟨its, rv, ht, _⟩ := I.list (show SqL X.K H a vs by rw [hK]; exact sl z)
            exact ⟨its, rv, .inl ht.isList⟩
        obtain ⟨its, rv, ht⟩ := at_
        rw [Vals.ref1 r]
        obtain ⟨h1, h2⟩ := alk_all c1
        obtain ⟨as, ra⟩ := all_reads I hK dvs rv fun d m => (h1 d m).1
        have dep := depth_all fun y m => (h1 y m).2
        refine hl (x := pyN x) (xs := xs.map pyN) I ht (by simpa using ra) (alk_of c1 c2) (by rw [← List.map_cons]; omega) fun i u h' tk bs hi hr hk => ?_
        obtain ⟨d0, v0, e0, r0, dv0⟩ := getD_at dvs rv i u (by simpa using hi)
        have m0 := List.mem_of_getElem? e0
        obtain ⟨bs0, rd0⟩ := Dp.reads I (pyN d0) v0 u (by rw [hK]; exact py_dp d0 v0 _ dv0 (pyN_some (h1 d0 m0).1)) r0
        have mf := hm x xs
        rw [hg] at hr
        have eq : pyN d0 = pyN (f x xs) := PySem.W.alike_unique _ _ _ _ _ (h2 d0 m0 _ mf) (PyProof.Rows.Reads.keeps hk rd0) hr
        have ed := pyN_inj (h1 d0 m0).1 (h1 _ mf).1 eq
        subst ed
        exact ⟨v0, H, I.kept hk, r0, Post.here p rl dv0⟩
theorem c_min1 (hK : X.K = k.K) (hu : X.A.units + 64 < cLine) (hc : X.calm = true) : CallR X (.builtin "min") (rC k (on1 (best1 minF))) :=
  c_best minF_py minF_mem hK hu hc fun I hl hr ha hd h => hl.elim (fun z => PySem.W.min_list_data (I.ok.hd hc) z hr ha hd h) (fun z => PySem.W.min_tuple_data (I.ok.hd hc) z hr ha hd h)
theorem c_max1 (hK : X.K = k.K) (hu : X.A.units + 64 < cLine) (hc : X.calm = true) : CallR X (.builtin "max") (rC k (on1 (best1 maxF))) :=
  c_best maxF_py maxF_mem hK hu hc fun I hl hr ha hd h => hl.elim (fun z => PySem.W.max_list_data (I.ok.hd hc) z hr ha hd h) (fun z => PySem.W.max_tuple_data (I.ok.hd hc) z hr ha hd h)
def prsL : List D → Option (List (D × D))
  | [] => some []
  | .tup [a, b] :: r => if k1 a = true then (prsL r).map ((a, b) :: ·) else none
  | _ :: _ => none
def dict1 (h : Hs) (d : D) : Res D := match dicRd h d with
  | some (false, kvs) => .ok (.ref h.length) (h ++ [.dic false false kvs])
  | some (true, _) => .bad
  | none => match (seqH h d).bind prsL with
    | some l => .ok (.ref h.length) (h ++ [.dic false false (mergeD [] l)])
    | none => .bad
theorem prsL_all : ∀ {ds : List D} {l : List (D × D)}, prsL ds = some l → allP ds = true
  | [], _, _ => rfl
  | d :: ds, l, e => by
    unfold prsL at e
    split at e
    · rename_i q; cases q
    · rename_i a b r q
      cases q
      by_cases c : k1 a = true
      · rw [if_pos c] at e
        obtain ⟨l', e', rfl⟩ := Option.map_eq_some_iff.mp e
        show (true && allP ds) = true
        rw [prsL_all e']; rfl
      · rw [if_neg c] at e; cases e
    · cases e
theorem prs_ok : ∀ {ds : List D} {vs : List V} {l : List (D × D)}, DVs k.K F H ds vs → prsL ds = some l → ∃ (ps : List Addr) (kvs : List (Key × V)), vs = ps.map V.ref ∧ Paired (fun p kv => SqT k.K H p [kV kv.1, kv.2]) ps kvs ∧ TabR (DV k.K F H) keyD keyOk l kvs
  | [], vs, l, h, e => by
    unfold DVs at h; subst h; unfold prsL at e; cases e
    exact ⟨[], [], rfl, .nil, .nil⟩
  | d :: ds, vs, l, h, e => by
    unfold DVs at h
    obtain ⟨v, rr, rfl, h1, h2⟩ := h
    unfold prsL at e
    split at e
    · rename_i q; cases q
    · rename_i a b r q
      cases q
      by_cases c : k1 a = true
      · rw [if_pos c] at e
        obtain ⟨l', e', rfl⟩ := Option.map_eq_some_iff.mp e
        obtain ⟨ps, kvs, rfl, pp, tt⟩ := prs_ok h2 e'
        unfold DV at h1
        obtain ⟨p, ws, rfl, hp, dws⟩ := h1
        unfold DVs at dws
        obtain ⟨va, r1, rfl, da, dws⟩ := dws
        unfold DVs at dws
        obtain ⟨vb, r2, rfl, db, dws⟩ := dws
        unfold DVs at dws
        subst dws
        obtain ⟨ky, rfl, rfl, ok⟩ := k1_key c da
        exact ⟨p :: ps, (ky, vb) :: kvs, rfl, .cons hp.sqT pp, .cons ⟨rfl, ok, db⟩ tt⟩
      · rw [if_neg c] at e; cases e
    · cases e
theorem c_dict (hK : X.K = k.K) (hc : X.calm = true) : CallR X (.type "dict") (rC k (on1 dict1)) := by
  refine CallR.byD1 (g := dict1) (fun _ _ => rfl) on1_bad fun H x Q W0 F hs d r dv p => ?_
  unfold dict1 at p
  cases e : dicRd hs d with
  | some tk =>
    obtain ⟨t, kvs⟩ := tk
    rw [e] at p
    cases t with
    | true => exact p.elim
    | false =>
      obtain ⟨n, lk, rfl, hn⟩ := dicRd_ref e
      unfold DV at dv
      obtain ⟨a, rfl, hf⟩ := dv
      obtain ⟨u, ⟨l, rfl, pr⟩, hu⟩ := r.cell n _ a hn hf
      have rd : Rd H a (.dK l) := by
        cases lk with
        | false => exact .inl hu
        | true => exact .inr hu
      exact ⟨_, call_dictD, a, l, rfl, rd, fun q hq => Post.dicN p r ⟨l, rfl, pr⟩ hq⟩
  | none =>
    rw [e] at p
    cases e2 : (seqH hs d).bind prsL with
    | none =>
      have p : Post k F H (PV k Q) W0 (match (seqH hs d).bind prsL with | some l => .ok (.ref hs.length) (hs ++ [.dic false false (mergeD [] l)]) | none => .bad) := p
      rw [e2] at p; exact p.elim
    | some l =>
      have p : Post k F H (PV k Q) W0 (match (seqH hs d).bind prsL with | some l => .ok (.ref hs.length) (hs ++ [.dic false false (mergeD [] l)]) | none => .bad) := p
      rw [e2] at p
      obtain ⟨xs, e', e4⟩ := Option.bind_eq_some_iff.mp e2
      obtain ⟨a, vs, rfl, _, dvs, st, sq⟩ := r.seq dv e'
      obtain ⟨ps, kvs, rfl, pp, tt⟩ := prs_ok dvs e4
      have fin : ∀ q, H q = none → Q (.ref q) (upd H q (.dK (mergeK [] kvs))) := fun q hq => Post.dicN p r ⟨_, rfl, TabR.merge tt .nil⟩ hq
      have pp' : Paired (fun p kv => SqT X.K H p [kV kv.1, kv.2]) ps kvs := Paired.mapP pp fun _ _ z => by rw [hK]; exact z
      rcases seqH_tup e' with z | z
      · obtain ⟨o, ho, hd⟩ := (st _ z).plain (prsL_all e4)
        exact ⟨_, call_dictX hc, a, o, ps, kvs, rfl, ho, hd, pp', fin⟩
      · exact ⟨_, call_dictP hc, a, ps, kvs, rfl, by rw [hK]; exact sq z, pp', fin⟩
end
open PySem PySem.Spec PyProof.Rows L2
section
variable {P : Program} {w : World} {K : Type} [DecidableEq K]
/-- an entry and its key -/
structure KeyEl (kd : PySem.KeyKind P w K) (e : Int × Value) (k : K) : Prop where
  is : kd.is k e.2 = true
  hash : e.1 = kd.hash k
  scan : e.2.scannable = true
/-- the set at a: its keys, each once, in some order of its entries -/
def SetG (kd : PySem.KeyKind P w K) (h : Heap) (a : Addr) (ks : List K) : Prop :=
  ∃ o es ep t l, h.get? a = some o ∧ o.ExactSet ∧ o.data = .set es ep t ∧ es.toList.Perm l ∧ PySem.W.EachIs (KeyEl kd) l ks ∧ ks.Nodup ∧ es.size < scanBound ∧ t.fits es.size = true ∧
    Ris t.place.toList ∧ (w.params.followText "set-order" = true ∨ t.led = true)
variable {kd : PySem.KeyKind P w K} {h h' : Heap} {a : Addr} {ks : List K}
theorem each_mem {l : List (Int × Value)} : ∀ {ks : List K}, PySem.W.EachIs (KeyEl kd) l ks → ∀ e ∈ l, ∃ k ∈ ks, KeyEl kd e k := by
  induction l with
  | nil => intro ks _ e m; cases m
  | cons x l ih =>
    intro ks h e m
    cases h with
    | cons h1 h2 =>
      rcases List.mem_cons.mp m with rfl | m
      · exact ⟨_, List.mem_cons_self, h1⟩
      · obtain ⟨k, mk, q⟩ := ih h2 e m
        exact ⟨k, List.mem_cons_of_mem _ mk, q⟩
theorem each_mem2 {l : List (Int × Value)} : ∀ {ks : List K}, PySem.W.EachIs (KeyEl kd) l ks → ∀ k ∈ ks, ∃ e ∈ l, KeyEl kd e k := by
  induction l with
  | nil => intro ks h k m; cases h; cases m
  | cons x l ih =>
    intro ks h k m
    cases h with
    | cons h1 h2 =>
      rcases List.mem_cons.mp m with rfl | m
      · exact ⟨_, List.mem_cons_self, h1⟩
      · obtain ⟨e, me, q⟩ := ih h2 k m
        exact ⟨e, List.mem_cons_of_mem _ me, q⟩
theorem each_snoc {l : List (Int × Value)} {e : Int × Value} {k : K} (q : KeyEl kd e k) : ∀ {ks : List K}, PySem.W.EachIs (KeyEl kd) l ks → PySem.W.EachIs (KeyEl kd) (l ++ [e]) (ks ++ [k]) := by
  induction l with
  | nil => intro ks h; cases h; exact .cons q .nil
  | cons x l ih => intro ks h; cases h with | cons h1 h2 => exact .cons h1 (ih h2)
theorem each_elems {l m : List (Int × Value)} (p : m.Perm l) (h : PySem.W.EachIs (KeyEl kd) l ks) : ElemsOf kd m := fun e he => by
  obtain ⟨k, _, q⟩ := each_mem h e (p.mem_iff.mp he)
  exact ⟨⟨k, q.is, q.hash⟩, q.scan⟩
theorem SetG.at (R : SetG kd h a ks) (k : ∀ o, h.get? a = some o → h'.get? a = some o) : SetG kd h' a ks := by
  obtain ⟨o, es, ep, t, l, ho, r⟩ := R
  exact ⟨o, es, ep, t, l, k o ho, r⟩
/-- the entries are these, then those: where k is, as one of the keys -/
theorem each_key {l m : List (Int × Value)} (p : m.Perm l) (h : PySem.W.EachIs (KeyEl kd) l ks) (k : K) : k ∈ ks ↔ ∃ e ∈ m, kd.is k e.2 = true := by
  constructor
  · intro mk
    obtain ⟨e, me, q⟩ := each_mem2 h k mk
    exact ⟨e, p.mem_iff.mpr me, q.is⟩
  · rintro ⟨e, me, q⟩
    obtain ⟨k2, mk, q2⟩ := each_mem h e (p.mem_iff.mp me)
    rw [kd.inj _ _ _ q q2.is]; exact mk
end
section
variable {P : Program} {w : World} {A : Around} {E : Value → Shared → Prop} {s : Shared} {a : Addr} {K : Type} [DecidableEq K] {kd : PySem.KeyKind P w K} {ks : List K}
theorem setG_tail {g : Bool → Sem Unit} (hg : ∀ (b : Bool) (s₁ : Shared) (Q' : Unit → Shared → Prop), Q' () s₁ → wpAny (model P w) A (g b) Q' E s₁)
    {o : Obj} {es : Array (Int × Value)} {ep : Nat} {t : SetTable} (ho : s.heap.get? a = some o) (hex : o.ExactSet) (hd : o.data = .set es ep t)
    {es1 : Array (Int × Value)} {t2 : SetTable} {l1 : List (Int × Value)} {k1 : List K} (p1 : es1.toList.Perm l1) (e1 : PySem.W.EachIs (KeyEl kd) l1 k1) (nd1 : k1.Nodup)
    (hb1 : es1.size < scanBound) (hf2 : t2.fits es1.size = true) (hr : Ris t2.place.toList) (hl : w.params.followText "set-order" = true ∨ t2.led = true) {wasDummy : Bool} {R : Option Bool → Shared → Prop}
    (hR : ∀ h', Heap.SameBut a s.heap h' → SetG kd h' a k1 → R (some true) { s with heap := h' }) :
    wpAny (model P w) A (do
        storeSet a es1 t2
        if (!wasDummy && t2.tooFull) = true then do
            g (relayAll t2 es1 (SetTable.grown es1.size)).2.2
            storeSet a (relayAll t2 es1 (SetTable.grown es1.size)).1 (relayAll t2 es1 (SetTable.grown es1.size)).2.1
            pure (some true)
          else pure (some true)) R E s := by
  refine wpAny_bind (wpAny_storeSet_of ho hd ?_ (fits_of_scanBound hb1))
  have ho1 := store_at (es' := es1) (t' := t2) ho hd
  have sb1 := Heap.SameBut.update s.heap a (Obj.putSet es1 t2)
  by_cases c : (!wasDummy && t2.tooFull) = true
  · rw [if_pos c]
    have pm := relayAll_perm t2 es1 (SetTable.grown es1.size)
    have hf3 := relayAll_fits t2 es1 (SetTable.grown es1.size)
    have hr3 := relayAll_ris t2 es1 (SetTable.grown es1.size)
    have hl3 := relayAll_led t2 es1 (SetTable.grown es1.size)
    generalize relayAll t2 es1 (SetTable.grown es1.size) = Z at pm hf3 hr3 hl3 ⊢
    obtain ⟨es2, t3, gave⟩ := Z
    dsimp only at pm hf3 hr3 hl3 ⊢
    have hb2 : es2.size < scanBound := by
      have : es2.size = es1.size := by rw [← Array.length_toList, pm.length_eq, Array.length_toList]
      omega
    refine wpAny_bind (hg _ _ _ ?_)
    refine wpAny_bind (wpAny_storeSet_of ho1 rfl ?_ (fits_of_scanBound hb2))
    refine wpAny_pure (hR _ (sb1.trans (Heap.SameBut.update _ a _)) ?_)
    exact ⟨_, es2, _, t3, l1, store_at ho1 rfl, hex, rfl, pm.trans p1, e1, nd1, hb2, hf3, hr3, hl.imp id fun z => by rw [hl3]; exact z⟩
  · rw [if_neg c]
    exact wpAny_pure (hR _ sb1 ⟨_, es1, _, t2, l1, ho1, hex, rfl, p1, e1, nd1, hb1, hf2, hr, hl⟩)
/-- a key more, or none -/
def addK (ks : List K) (k : K) : List K := if k ∈ ks then ks else ks ++ [k]
theorem setG_add {k : K} {v : Value} {Q : Bool → Shared → Prop} (R : SetG kd s.heap a ks) (hk : kd.is k v = true) (hsc : v.scannable = true) (room : ks.length + 1 < scanBound)
    (hQ : ∀ h' b, Heap.SameBut a s.heap h' → SetG kd h' a (addK ks k) → Q b { s with heap := h' }) :
    wpAny (model P w) A (setAddHashed a v (kd.hash k)) Q E s := by
  obtain ⟨o, es, ep, t, l, ho, hex, hd, pl, el, nd, hb, hf, hr, hl⟩ := R
  have hel := each_elems pl el
  have sz : es.size = ks.length := by rw [← Array.length_toList, pl.length_eq, el.length]
  unfold setAddHashed setAddHashedIn
  refine wpAny_holding (wpAny_bind (wpAny_setState_of ho hd hf ?_))
  dsimp only
  rw [byScan_of hsc hb hel]
  simp only [↓reduceIte]
  unfold setAddByScan
  refine wpAny_bind (wpAny_bind (wpAny_rule ?_))
  refine wpAny_bind (wpAny_setScan_of hk ho hd hf hel ?_)
  cases hfi : List.findIdx? (fun e => kd.is k e.2) es.toList with
  | some j =>
    dsimp only
    obtain ⟨hj, pj, _⟩ := List.findIdx?_eq_some_iff_getElem.mp hfi
    have mk : k ∈ ks := (each_key pl el k).mpr ⟨_, List.getElem_mem hj, pj⟩
    refine wpAny_pure (wpAny_pure (hQ s.heap _ (Heap.SameBut.refl a s.heap) ?_))
    unfold addK
    rw [if_pos mk]
    exact ⟨o, es, ep, t, l, ho, hex, hd, pl, el, nd, hb, hf, hr, hl⟩
  | none =>
    dsimp only
    have nk : k ∉ ks := fun z => by
      obtain ⟨e, me, q⟩ := (each_key pl el k).mp z
      have c := List.findIdx?_eq_none_iff.mp hfi e me
      rw [q] at c; cases c
    have ak : addK ks k = ks ++ [k] := if_neg nk
    rw [ak] at hQ
    have pm := layNew_perm t es (kd.hash k) v
    have hf1 := layNew_fits t es (kd.hash k) v
    have hr1 := layNew_ris t es (kd.hash k) v hr
    have hl1 := layNew_led t es (kd.hash k) v
    generalize layNew t es (kd.hash k) v = Z at pm hf1 hr1 hl1 ⊢
    obtain ⟨es1, t1, wasDummy, gave⟩ := Z
    dsimp only at pm hf1 hr1 hl1 ⊢
    rw [Array.toList_push] at pm
    have p1 : es1.toList.Perm (l ++ [(kd.hash k, v)]) := pm.trans (pl.append_right _)
    have e1 := each_snoc (kd := kd) (e := (kd.hash k, v)) ⟨hk, rfl, hsc⟩ el
    have nd1 : (ks ++ [k]).Nodup := List.nodup_append.mpr ⟨nd, List.nodup_cons.mpr ⟨by simp, List.nodup_nil⟩, fun x mx y my z => nk (by rw [List.mem_singleton.mp my] at z; exact z ▸ mx)⟩
    have hb1 : es1.size < scanBound := by
      have : es1.size = ks.length + 1 := by rw [← Array.length_toList, p1.length_eq, e1.length, List.length_append]; rfl
      omega
    have hled : w.params.followText "set-order" = true ∨ t1.led = true := hl.imp id fun z => by rw [hl1]; exact z
    have gw : ∀ (b : Bool) (s₁ : Shared) (Q' : Unit → Shared → Prop), Q' () s₁ → wpAny (model P w) A (match b with | true => rule "set.scan.the-table-gave-way" | false => pure ()) Q' E s₁ := fun b s₁ Q' q => by
      cases b
      · exact wpAny_pure q
      · exact wpAny_rule q
    refine wpAny_bind (gw _ _ _ ?_)
    have fin : ∀ h', Heap.SameBut a s.heap h' → SetG kd h' a (ks ++ [k]) → Q true { s with heap := h' } := fun h' sb r => hQ h' true sb r
    by_cases pl1 : t1.plain = true
    · rw [if_pos pl1]
      refine wpAny_bind ?_
      rw [hashByValue_scannable 8 hsc]
      refine wpAny_pure ?_
      refine setG_tail gw ho hex hd p1 e1 nd1 hb1 ?_ ?_ ?_ fun h' sb r => ?_
      · first | exact hf1 | (split <;> first | exact hf1 | exact SetTable.fits_plain_off hf1)
      · first | exact hr1 | (split <;> exact hr1)
      · first | exact hled | (split <;> exact hled)
      · dsimp only
        exact wpAny_pure (fin h' sb r)
    · rw [if_neg pl1]
      refine wpAny_bind (wpAny_pure ?_)
      simp only [↓reduceIte]
      refine setG_tail gw ho hex hd p1 e1 nd1 hb1 hf1 hr1 hled fun h' sb r => ?_
      dsimp only
      exact wpAny_pure (fin h' sb r)
end
open PySem PySem.Spec PyProof.Rows L2
/-- the keys, each once -/
def keysK {K : Type} [DecidableEq K] (ks : List K) : List K := ks.foldl addK []
theorem addK_le {K : Type} [DecidableEq K] (ks : List K) (k : K) : (addK ks k).length ≤ ks.length + 1 := by
  unfold addK
  split
  · omega
  · rw [List.length_append]; exact Nat.le_refl _
theorem keysK_le {K : Type} [DecidableEq K] (ks : List K) : (keysK ks).length ≤ ks.length := by
  have go : ∀ (ks acc : List K), (ks.foldl addK acc).length ≤ acc.length + ks.length := fun ks => by
    induction ks with
    | nil => exact fun acc => Nat.le_refl _
    | cons k ks ih => exact fun acc => by have := ih (addK acc k); have := addK_le acc k; rw [List.foldl_cons, List.length_cons]; omega
  have := go ks []
  rw [List.length_nil] at this
  unfold keysK
  omega
section
variable {prog : Program} {w : World} {A : Around} {R : Result → Shared → Prop} {I : Addr} {fp wr : List Addr} {G : Array GenState → Array GenState → Prop} {n : Nat} {P : Nat → Value → Prop} {St : Nat → Shared → Prop}
theorem keyed_loop {K : Type} [DecidableEq K] {kd : PySem.KeyKind prog w K} (W : WalksS prog w A.in1 I fp wr G n P St) (S : Addr) (no : S ∉ fp) (ks : List K) (big : n + 1 < scanBound) (hn : ks.length = n)
    (hv : ∀ i v, P i v → ∃ k, ks[i]? = some k ∧ kd.is k v = true ∧ v.scannable = true) : ∀ (k i : Nat) (s : Shared), n - i = k → i ≤ n → St i s → SetG kd s.heap S (keysK (ks.take i)) →
      (∀ t, Moved (S :: wr) G s t → SetG kd t.heap S (keysK ks) → R (.ok (.ret .none)) t) → codeAny (model prog w) A (.builtin "set.update.loop" ⟨[.ref S, .ref I], []⟩) R s := by
  have nw : S ∉ wr := fun z => no (W.sub _ z)
  have sb : ∀ b ∈ wr, b ∈ S :: wr := fun b z => List.mem_cons_of_mem S z
  intro k
  induction k with
  | zero =>
    intro i s ek ei st d r
    have e : i = n := by omega
    subst e
    (refine codeAny_builtin PyProof.Rows.F.entry_set_update_loop ?_; rw [Around.under_plainId PyProof.Rows.F.plain_set_update_loop _])
    (show wpAny _ A.in1 (pyNext (.ref I) >>= _) _ _ s; refine wpAny_bind (W.done s _ _ st fun t m => ?_); show wpAny _ A.in1 (ret Value.none) _ _ t)
    rw [List.take_of_length_le (by omega)] at d
    exact wpAny_pure (r t (m.mono sb) (d.at fun o z => m.heap S o nw z))
  | succ k ih =>
    intro i s ek ei st d r
    have lt : i < n := by omega
    (refine codeAny_builtin PyProof.Rows.F.entry_set_update_loop ?_; rw [Around.under_plainId PyProof.Rows.F.plain_set_update_loop _])
    (show wpAny _ A.in1 (pyNext (.ref I) >>= _) _ _ s; refine wpAny_bind (W.item i s _ _ lt st fun v t pv st2 m => ?_); obtain ⟨x, ex, iv, sv⟩ := hv i v pv)
    have d2 : SetG kd t.heap S (keysK (ks.take i)) := d.at fun o z => m.heap S o nw z
    (show wpAny _ A.in1 (holding [v] (setAdd S v) >>= _) _ _ t; refine wpAny_bind (wpAny_holding ?_); unfold setAdd; refine wpAny_holding ?_)
    refine wpAny_bind (kd.pyHash (k := x) iv ?_)
    have room : (keysK (ks.take i)).length + 1 < scanBound := by have := keysK_le (ks.take i); rw [List.length_take] at this; omega
    refine setG_add (s := { t with toks := t.toks + 1 }) d2 iv sv room fun g b gs d3 => ?_
    rw [show addK (keysK (ks.take i)) x = keysK (ks.take (i + 1)) by unfold keysK; rw [List.take_add_one, ex, List.foldl_append]; rfl] at d3
    refine wpAny_pure ⟨plainId_quiet PyProof.Rows.F.plain_set_update_loop _, ih (i + 1) _ (by omega) lt (W.frame _ t _ _ st2 (Nat.le_succ _) fun b hb o e => ?_) d3 fun u mu du => ?_⟩
    · rw [gs.2 b fun z : b = S => no (z ▸ hb)]; exact e
    · refine r u (Moved.trans W.gtrans ((m.mono sb).then_heap (Nat.le_succ _) fun b o hb e => ?_) mu) du
      rw [gs.2 b fun z : b = S => hb (z ▸ List.mem_cons_self)]; exact e
end
section
variable {prog : Program} {w : World} {A : Around} {E : Value → Shared → Prop} {s : Shared}
/-- set.__new__ of one argument: the table is led as the World has it -/
theorem set_new_led (a : Value) {Q₁ : Value → Shared → Prop} (h : Q₁ (.ref s.heap.objs.size) { s with heap := s.heap.push (newSet (!w.params.followText "set-order")) }) :
    codeAny (model prog w) A (.call (.builtin "set.__new__") ⟨[.type "set", a], []⟩) (wants Q₁ E) s := by
  refine codeAny_of_tree ?_
  show wpAny _ A.in1 (do checkBuiltinCall "set.__new__" ⟨[.type "set", a], []⟩; again (.builtin "set.__new__" ⟨[.type "set", a], []⟩)) _ _ s
  refine wpAny_bind (wpAny_of_eq (PySem.F.newCall_set_1 a) (wpAny_pure ⟨plainId_quiet PySem.F.plain_set_new _, codeAny_builtin PySem.F.entry_set_new ?_⟩))
  rw [Around.under_plainId PySem.F.plain_set_new _]
  unfold Builtin.«set.__new__» Builtin.Frozenset.newClass
  have hsub := sub_set_self
  obtain ⟨hp, g, d, tk, os⟩ := s
  dsimp only
  wp_walk
  refine wpAny_askSetting (wpAny_pure ?_)
  dsimp only
  simp only [newObj]
  refine wpAny_bind (wpAny_alloc (wpAny_pure ?_))
  exact wpAny_pure h
theorem setG_fresh {K : Type} [DecidableEq K] {kd : PySem.KeyKind prog w K} (h : Heap) : SetG kd (h.push (newSet (!w.params.followText "set-order"))) h.objs.size [] := by
  refine ⟨_, #[], 0, _, [], Heap.get?_push_size _ rfl, ⟨rfl, rfl, rfl⟩, rfl, .refl _, .nil, List.nodup_nil, by decide, by rfl, List.Pairwise.nil, ?_⟩
  cases e : w.params.followText "set-order" with
  | true => exact .inl rfl
  | false => exact .inr rfl
set_option maxHeartbeats 3200000 in
theorem keyed_list {K : Type} [DecidableEq K] {kd : PySem.KeyKind prog w K} {l : Addr} {its : Array Value} {ks : List K} {Q : Value → Shared → Prop} (calm : A.handled = none) (hl : s.heap.IsList l its) (hn : ks.length = its.size) (hi : ∀ (i : Nat) (v : Value), its[i]? = some v → ∃ k, ks[i]? = some k ∧ kd.is k v = true ∧ v.scannable = true) (big : its.size + 1 < scanBound)
    (h : ∀ (g : Heap) (tk : Nat), SetG kd g s.heap.objs.size (keysK ks) → (∀ b o, b < s.heap.objs.size → s.heap.get? b = some o → g.get? b = some o) → Q (.ref s.heap.objs.size) { s with heap := g, toks := tk }) : wpAny (model prog w) A (call (.type "set") [.ref l]) Q E s := by
  have ⟨c, tl, mro⟩ := PySem.F.called_set.mro
  have made := PySem.F.called_set.made
  have sub := PySem.F.called_set.sub
  refine wpAny_call (codeAny_of_tree ?_)
  (show wpAny _ _ (callAny (.type "set") _) _ _ _; refine wpAny_pure ⟨Code.quiet_builtin _ (by decide +kernel), codeAny_builtin PySem.F.entry_type_call ?_⟩; rw [Around.under_plain (weight_type_call_type "set" [.ref l] []) rfl])
  have k1 := PySem.F.called_set.notType
  have k2 := PySem.F.called_set.canCreate
  have k3 := PySem.F.typeCall_set_1 (.ref l)
  repeat (any_goals (first | assumption | wp_step))
  refine codeAny_mono (set_new_led (.ref l) (E := E) (Q₁ := fun obj t => obj = .ref s.heap.objs.size ∧ t = { s with heap := s.heap.push (newSet (!w.params.followText "set-order")) }) ⟨rfl, rfl⟩) fun r t hr => ?_
  cases r with
  | error e => exact hr
  | ok fl =>
    cases fl with
    | ret obj =>
      obtain ⟨rfl, rfl⟩ := hr
      have fr := setG_fresh (kd := kd) s.heap
      generalize hled : (!w.params.followText "set-order") = led at *
      have gS : (s.heap.push (newSet led)).get? s.heap.objs.size = some (newSet led) := Heap.get?_push_size _ rfl
      have tS : Shared.TypeIs { s with heap := s.heap.push (newSet led) } (.ref s.heap.objs.size) "set" := ⟨_, gS, rfl⟩
      have k4 := PySem.F.called_set.init.lookup
      have k5 := PySem.F.called_set.init.bind (.ref s.heap.objs.size)
      repeat (any_goals (first | assumption | wp_step))
      refine codeAny_mono (codeAny_call_builtin (R := wants (fun r t => r = .none ∧ ∃ g tk, t = { s with heap := g, toks := tk } ∧ SetG kd g s.heap.objs.size (keysK ks) ∧ (∀ b o, b < s.heap.objs.size → s.heap.get? b = some o → g.get? b = some o)) E) PySem.F.called_set.init.plain PySem.F.entry_set_init (check_set_init_1 tS ?_)) fun r2 t2 hr2 => ?_
      · obtain ⟨⟨oc, od, oa, osl⟩, ho, hc, nl, hd⟩ := hl
        (simp only at hc hd; subst hc; subst hd)
        have ho2 : (s.heap.push (newSet led)).get? l = some { cls := .type "list", dict := od, data := .seq its nl, slots := osl } := Heap.get?_push_of_some _ ho
        have k6 := PySem.F.sub_list_set
        have k7 := PySem.F.sub_list_frozenset
        have k8 : (Value.type "list" == Value.type "dict") = false := by decide
        have hl1 : (s.heap.push (newSet led)).IsList l its := ⟨_, ho2, rfl, nl, rfl⟩
        unfold Builtin.«set.__init__» noKeywords Builtin.Frozenset.updateFrom
        generalize hPI : pyIter = PI
        wp_walk
        subst hPI
        refine wpAny_pyIter_list hl1 ?_
        refine wpAny_bind (wpAny_runValue ?_)
        have lS : l < s.heap.objs.size := Heap.lt_size ho
        have calm3 : A.in1.in1.in1.handled = none := by simp [calm]
        have sz1 : (s.heap.push (newSet led)).objs.size = s.heap.objs.size + 1 := Heap.size_push ..
        have ne1 : l ≠ (s.heap.push (newSet led)).objs.size := by rw [sz1]; exact Nat.ne_of_lt (Nat.lt_succ_of_lt lS)
        have no1 : s.heap.objs.size ∉ [(s.heap.push (newSet led)).objs.size, l] := by
          (rw [sz1]; simp only [List.mem_cons, List.not_mem_nil, or_false, not_or])
          exact ⟨Nat.ne_of_lt (Nat.lt_succ_self _), Nat.ne_of_gt lS⟩
        refine keyed_loop ((Walks.list calm3 _ l ne1 its).toS) s.heap.objs.size no1 ks big hn hi (its.size - 0) 0 _ (by omega) (Nat.zero_le _) ⟨⟨_, Heap.get?_push_size _ rfl, rfl, rfl⟩, (hl1.push _)⟩ ?hFresh ?hThen
        case hFresh =>
          have g2 : ((s.heap.push (newSet led)).push { cls := .type "list_iterator", data := .fields #[.ref l, .int 0 0] }).get? s.heap.objs.size = some (newSet led) := Heap.get?_push_of_some _ gS
          exact fr.at fun o z => Heap.get?_push_of_some _ z
        case hThen =>
          intro t m d
          obtain ⟨g, gg, dd', tk, oo⟩ := t
          have q1 : gg = s.gens := m.gens
          have q2 : dd' = s.drawn := m.drawn
          have q3 : oo = s.os := m.os
          (subst q1; subst q2; subst q3)
          (show wpAny _ _ _ _ _ _; refine wpAny_pure ?_)
          (show wpAny _ _ (ret Value.none) _ _ _; refine wpAny_pure ⟨rfl, g, tk, rfl, d, fun b o lb e => ?_⟩)
          exact m.heap b o (by (rw [sz1]; simp only [List.mem_cons, List.not_mem_nil, or_false, not_or]); exact ⟨Nat.ne_of_lt lb, Nat.ne_of_lt (Nat.lt_succ_of_lt lb)⟩) (Heap.get?_push_of_some _ (Heap.get?_push_of_some _ e))
      · cases r2 with
        | error e => exact hr2
        | ok fl2 =>
          cases fl2 with
          | ret r =>
            obtain ⟨rfl, g, tk, rfl, d, k⟩ := hr2
            repeat (any_goals (first | assumption | wp_step))
            exact h _ _ d k
          | _ => exact hr2.elim
    | _ => exact hr.elim
set_option maxHeartbeats 3200000 in
theorem keyed_tup {K : Type} [DecidableEq K] {kd : PySem.KeyKind prog w K} {l : Addr} {its : Array Value} {ks : List K} {Q : Value → Shared → Prop} (calm : A.handled = none) (hl : s.heap.IsTuple l its) (hn : ks.length = its.size) (hi : ∀ (i : Nat) (v : Value), its[i]? = some v → ∃ k, ks[i]? = some k ∧ kd.is k v = true ∧ v.scannable = true) (big : its.size + 1 < scanBound)
    (h : ∀ (g : Heap) (tk : Nat), SetG kd g s.heap.objs.size (keysK ks) → (∀ b o, b < s.heap.objs.size → s.heap.get? b = some o → g.get? b = some o) → Q (.ref s.heap.objs.size) { s with heap := g, toks := tk }) : wpAny (model prog w) A (call (.type "set") [.ref l]) Q E s := by
  have ⟨c, tl, mro⟩ := PySem.F.called_set.mro
  have made := PySem.F.called_set.made
  have sub := PySem.F.called_set.sub
  refine wpAny_call (codeAny_of_tree ?_)
  (show wpAny _ _ (callAny (.type "set") _) _ _ _; refine wpAny_pure ⟨Code.quiet_builtin _ (by decide +kernel), codeAny_builtin PySem.F.entry_type_call ?_⟩; rw [Around.under_plain (weight_type_call_type "set" [.ref l] []) rfl])
  have k1 := PySem.F.called_set.notType
  have k2 := PySem.F.called_set.canCreate
  have k3 := PySem.F.typeCall_set_1 (.ref l)
  repeat (any_goals (first | assumption | wp_step))
  refine codeAny_mono (set_new_led (.ref l) (E := E) (Q₁ := fun obj t => obj = .ref s.heap.objs.size ∧ t = { s with heap := s.heap.push (newSet (!w.params.followText "set-order")) }) ⟨rfl, rfl⟩) fun r t hr => ?_
  cases r with
  | error e => exact hr
  | ok fl =>
    cases fl with
    | ret obj =>
      obtain ⟨rfl, rfl⟩ := hr
      have fr := setG_fresh (kd := kd) s.heap
      generalize hled : (!w.params.followText "set-order") = led at *
      have gS : (s.heap.push (newSet led)).get? s.heap.objs.size = some (newSet led) := Heap.get?_push_size _ rfl
      have tS : Shared.TypeIs { s with heap := s.heap.push (newSet led) } (.ref s.heap.objs.size) "set" := ⟨_, gS, rfl⟩
      have k4 := PySem.F.called_set.init.lookup
      have k5 := PySem.F.called_set.init.bind (.ref s.heap.objs.size)
      repeat (any_goals (first | assumption | wp_step))
      refine codeAny_mono (codeAny_call_builtin (R := wants (fun r t => r = .none ∧ ∃ g tk, t = { s with heap := g, toks := tk } ∧ SetG kd g s.heap.objs.size (keysK ks) ∧ (∀ b o, b < s.heap.objs.size → s.heap.get? b = some o → g.get? b = some o)) E) PySem.F.called_set.init.plain PySem.F.entry_set_init (check_set_init_1 tS ?_)) fun r2 t2 hr2 => ?_
      · obtain ⟨⟨oc, od, oa, osl⟩, ho, hc, nl, hd⟩ := hl
        (simp only at hc hd; subst hc; subst hd)
        have ho2 : (s.heap.push (newSet led)).get? l = some { cls := .type "tuple", dict := od, data := .seq its nl, slots := osl } := Heap.get?_push_of_some _ ho
        have k6 := PySem.F.sub_tuple_set
        have k7 := PySem.F.sub_tuple_frozenset
        have k8 : (Value.type "tuple" == Value.type "dict") = false := by decide
        have hl1 : (s.heap.push (newSet led)).IsTuple l its := ⟨_, ho2, rfl, nl, rfl⟩
        unfold Builtin.«set.__init__» noKeywords Builtin.Frozenset.updateFrom
        generalize hPI : pyIter = PI
        wp_walk
        subst hPI
        refine wpAny_pyIter_tuple hl1 ?_
        refine wpAny_bind (wpAny_runValue ?_)
        have lS : l < s.heap.objs.size := Heap.lt_size ho
        have calm3 : A.in1.in1.in1.handled = none := by simp [calm]
        have sz1 : (s.heap.push (newSet led)).objs.size = s.heap.objs.size + 1 := Heap.size_push ..
        have ne1 : l ≠ (s.heap.push (newSet led)).objs.size := by rw [sz1]; exact Nat.ne_of_lt (Nat.lt_succ_of_lt lS)
        have no1 : s.heap.objs.size ∉ [(s.heap.push (newSet led)).objs.size, l] := by
          (rw [sz1]; simp only [List.mem_cons, List.not_mem_nil, or_false, not_or])
          exact ⟨Nat.ne_of_lt (Nat.lt_succ_self _), Nat.ne_of_gt lS⟩
        refine keyed_loop ((Walks.tuple calm3 _ l ne1 its).toS) s.heap.objs.size no1 ks big hn hi (its.size - 0) 0 _ (by omega) (Nat.zero_le _) ⟨⟨_, Heap.get?_push_size _ rfl, rfl, rfl⟩, (hl1.push _)⟩ ?hFresh ?hThen
        case hFresh =>
          have g2 : ((s.heap.push (newSet led)).push { cls := .type "tuple_iterator", data := .fields #[.ref l, .int 0 0] }).get? s.heap.objs.size = some (newSet led) := Heap.get?_push_of_some _ gS
          exact fr.at fun o z => Heap.get?_push_of_some _ z
        case hThen =>
          intro t m d
          obtain ⟨g, gg, dd', tk, oo⟩ := t
          have q1 : gg = s.gens := m.gens
          have q2 : dd' = s.drawn := m.drawn
          have q3 : oo = s.os := m.os
          (subst q1; subst q2; subst q3)
          (show wpAny _ _ _ _ _ _; refine wpAny_pure ?_)
          (show wpAny _ _ (ret Value.none) _ _ _; refine wpAny_pure ⟨rfl, g, tk, rfl, d, fun b o lb e => ?_⟩)
          exact m.heap b o (by (rw [sz1]; simp only [List.mem_cons, List.not_mem_nil, or_false, not_or]); exact ⟨Nat.ne_of_lt lb, Nat.ne_of_lt (Nat.lt_succ_of_lt lb)⟩) (Heap.get?_push_of_some _ (Heap.get?_push_of_some _ e))
      · cases r2 with
        | error e => exact hr2
        | ok fl2 =>
          cases fl2 with
          | ret r =>
            obtain ⟨rfl, g, tk, rfl, d, k⟩ := hr2
            repeat (any_goals (first | assumption | wp_step))
            exact h _ _ d k
          | _ => exact hr2.elim
    | _ => exact hr.elim
end
open PySem PySem.Spec PyProof.Rows L2
theorem each_perm {α β : Type} {R : α → β → Prop} {as as2 : List α} (p : as.Perm as2) : ∀ {bs : List β}, PySem.W.EachIs R as bs → ∃ bs2, bs.Perm bs2 ∧ PySem.W.EachIs R as2 bs2 := by
  induction p with
  | nil => intro bs h; exact ⟨bs, .refl _, h⟩
  | cons x _ ih =>
    intro bs h
    cases h with
    | cons h1 h2 =>
      obtain ⟨bs2, q, r⟩ := ih h2
      exact ⟨_, q.cons _, .cons h1 r⟩
  | swap x y l =>
    intro bs h
    cases h with
    | cons h1 h2 => cases h2 with | cons h3 h4 => exact ⟨_, .swap _ _ _, .cons h3 (.cons h1 h4)⟩
  | trans _ _ ih1 ih2 =>
    intro bs h
    obtain ⟨b1, q1, r1⟩ := ih1 h
    obtain ⟨b2, q2, r2⟩ := ih2 r1
    exact ⟨b2, q1.trans q2, r2⟩
theorem each_map1 {α β γ : Type} {R : α → γ → Prop} {f : β → α} {bs : List β} : ∀ {cs : List γ}, PySem.W.EachIs (fun b c => R (f b) c) bs cs → PySem.W.EachIs R (bs.map f) cs := by
  induction bs with
  | nil => intro cs h; cases h; exact .nil
  | cons b bs ih => intro cs h; cases h with | cons h1 h2 => exact .cons h1 (ih h2)
/-- a value that is this text -/
def TxtV (v : Value) (x : Str) : Prop := ∃ tk, v = .str x tk
theorem txt_of {P : Program} {w : World} {v : Value} {x : Str} (h : (PySem.strKind P w).is x v = true) : TxtV v x := by
  cases v with
  | str y tk =>
    have : y = x := by simpa [PySem.strKind, Value.isStrOf] using h
    exact ⟨tk, by rw [this]⟩
  | _ => simp [PySem.strKind, Value.isStrOf] at h
section
variable {P : Program} {w : World} {A : Around} {E : Value → Shared → Prop} {s : Shared} {a : Addr} {ks : List Str}
theorem sorted_txts (R : SetG (PySem.strKind P w) s.heap a ks) (hh : A.handled = none) (hL : ks.length ≤ sizeLine) (hu : A.units + 64 < cLine) {Q : Value → Shared → Prop}
    (hQ : ∀ s' p (out : List Value) (c : Nat) (bs : List Str), (∀ b o, s.heap.get? b = some o → s'.heap.get? b = some o) → s'.gens = s.gens → s'.os = s.os → s.heap.objs.size ≤ p →
      s'.heap.get? p = some (seqObj "list" out.toArray c) → bs.Perm ks → PySem.W.EachIs TxtV out (bs.mergeSort (PySem.W.dataLe false PyData.str)) → Q (.ref p) s') :
    wpAny (model P w) A (call (.builtin "sorted") [.ref a]) Q E s := by
  obtain ⟨o, es, ep, t, l, ho, hex, hd, pl, el, nd, hb, hf, hr, hl⟩ := R
  have e2 : PySem.W.EachIs TxtV (l.map (·.2)) ks := each_map1 (el.mono fun e k q => txt_of q.is)
  refine Calls.call_function_entry kind_sorted plain_sorted entry_sorted (args_sorted1 _) ?_
  unfold Builtin.«sorted»
  refine wpAny_bind (m := checkCount "sorted" 1 1 _) (wpAny_pure ?_)
  refine wpAny_bind (collect_set (A := A.in1) hh ⟨o, ho, hex.1, hd⟩ hf hb hr hl fun s1 vs k1 hz g1 o1 pm => ?_)
  obtain ⟨bs, pb, eb⟩ := each_perm ((pl.map (·.2)).symm.trans pm.symm) e2
  have lvb : vs.length = bs.length := eb.length
  have lbs : bs.length = ks.length := pb.length_eq.symm
  refine wpAny_bind (wpAny_newList ?_ (by omega))
  have hoL : (s1.heap.push (seqObj "list" vs.toArray 0)).get? s1.heap.objs.size = some (seqObj "list" vs.toArray 0) := Heap.get?_push_size _ rfl
  refine wpAny_bind (wpAny_holding (PySem.W.list_sort_data (R := TxtV) (enc := PyData.str) (bs := bs) hoL eb (eb.mono ?_) ?_ ?_ (by omega) ?_ fun out hlen ho2 => ?_))
  · rintro v x ⟨tk, rfl⟩
    exact ⟨[], .str x tk, by simp⟩
  · intro x hx y hy
    obtain ⟨b, _, rfl⟩ := List.mem_map.mp hx
    obtain ⟨c, _, rfl⟩ := List.mem_map.mp hy
    rfl
  · refine .inr fun d hd => ?_
    obtain ⟨b, _, rfl⟩ := List.mem_map.mp hd
    exact ⟨fun z => (nomatch z), fun _ z => (nomatch z)⟩
  · intro b _
    show A.in1.units + 1 + (PyData.str b).depth < cLine
    have : (PyData.str b).depth ≤ 1 := by first | decide | exact Nat.le_refl _ | (unfold PyData.depth; omega)
    have : A.in1.units ≤ A.units + 1 := by first | exact Nat.le_refl _ | (simp [Around.in1]; try omega)
    omega
  · obtain ⟨c, hc⟩ := sortedHeap_at (vs := vs) (out := out.toArray) hoL
    refine wpAny_pure ⟨_, rfl, hQ _ s1.heap.objs.size out c bs (fun b u e => ?_) g1 o1 hz hc pb.symm ho2⟩
    have q := k1 b u e
    have hlt := Heap.lt_size q
    show (sortedHeap (s1.heap.push (seqObj "list" vs.toArray 0)) s1.heap.objs.size vs out.toArray).get? b = some u
    rw [sortedHeap_old (Nat.ne_of_lt hlt) (by rw [size_push']; exact Nat.lt_succ_of_lt hlt)]
    exact Heap.get?_push_of_some _ q
end
open PySem PySem.Spec PyProof.Rows L2
/-- the texts, each once, ascending -/
def srtN (ys : List (List Nat)) : List (List Nat) := (ddN ys).mergeSort fun a b => decide (a ≤ b)
def ssR (h : Hs) : Option (List (List Nat)) → Res D
  | some ys => if ys.length ≤ 4000 then .ok (.ref h.length) (h ++ [.lst ((srtN ys).map .str)]) else .bad
  | none => .bad
/-- the texts of a list or tuple -/
def refS (h : Hs) (d : D) : Option (List (List Nat)) := (seqH h d).bind strsD
def ssE (a : Ev) : Ev := fun env h => (a env h).bind fun x h1 => ssR h1 (refS h1 x)
theorem keysK_ddN (ys : List (List Nat)) : keysK (ys.map toS) = (ddN ys).map toS := by
  have one : ∀ (σ : List (List Nat)) (v : List Nat), addK (σ.map toS) (toS v) = (dsN σ v).map toS := fun σ v => by
    have e : toS v ∈ σ.map toS ↔ v ∈ σ := ⟨fun m => by
      obtain ⟨x, hx, q⟩ := List.mem_map.mp m
      exact toS_inj q ▸ hx, fun m => List.mem_map_of_mem m⟩
    unfold addK dsN
    by_cases c : v ∈ σ
    · rw [if_pos c, if_pos (e.mpr c)]
    · rw [if_neg c, if_neg fun z => c (e.mp z), List.map_append]; rfl
  have go : ∀ (ys σ : List (List Nat)), (ys.map toS).foldl addK (σ.map toS) = (ys.foldl dsN σ).map toS := fun ys => by
    induction ys with
    | nil => exact fun _ => rfl
    | cons y ys ih => exact fun σ => by rw [List.map_cons, List.foldl_cons, List.foldl_cons, one, ih]
  exact go ys []
theorem srt_eq {bs : List Str} {ys : List (List Nat)} (p : bs.Perm (keysK (ys.map toS))) : bs.mergeSort (PySem.W.dataLe false PyData.str) = (srtN ys).map toS := by
  rw [keysK_ddN] at p
  have e1 : PySem.W.dataLe false PyData.str = fun a b : Str => decide (a.cps.toList ≤ b.cps.toList) := PySem.W.dataLe_str id
  have e2 : (bs.mergeSort (PySem.W.dataLe false PyData.str)).map (fun x => x.cps.toList) = (bs.map fun x => x.cps.toList).mergeSort fun a b => decide (a ≤ b) := by
    rw [e1]
    exact List.map_mergeSort fun _ _ _ _ => rfl
  have tr : ∀ a b c : List Nat, decide (a ≤ b) = true → decide (b ≤ c) = true → decide (a ≤ c) = true := fun a b c h1 h2 => decide_eq_true (List.le_trans (of_decide_eq_true h1) (of_decide_eq_true h2))
  have tt : ∀ a b : List Nat, (decide (a ≤ b) || decide (b ≤ a)) = true := fun a b => by
    rcases List.le_total a b with h | h
    · rw [decide_eq_true h]; rfl
    · rw [decide_eq_true h, Bool.or_true]
  have p2 : (bs.map fun x => x.cps.toList).Perm (ddN ys) := by
    have q := p.map fun x : Str => x.cps.toList
    rw [List.map_map] at q
    rwa [show ((fun x : Str => x.cps.toList) ∘ toS) = id from funext fun x => by simp [toS], List.map_id] at q
  have e3 : ((bs.map fun x => x.cps.toList).mergeSort fun a b => decide (a ≤ b)) = srtN ys :=
    List.Perm.eq_of_pairwise (le := fun a b => decide (a ≤ b) = true) (fun a b _ _ h1 h2 => List.le_antisymm (of_decide_eq_true h1) (of_decide_eq_true h2))
      (List.pairwise_mergeSort tr tt _) (List.pairwise_mergeSort tr tt _) ((List.mergeSort_perm _ _).trans (p2.trans (List.mergeSort_perm _ _).symm))
  have e4 : ((bs.mergeSort (PySem.W.dataLe false PyData.str)).map (fun x => x.cps.toList)).map toS = bs.mergeSort (PySem.W.dataLe false PyData.str) := by
    rw [List.map_map, show (toS ∘ fun x : Str => x.cps.toList) = id from funext fun x => by simp [toS], List.map_id]
  rw [← e4, e2, e3]
theorem vals_txt {vs : List Value} : ∀ {xs : List Str}, PySem.W.EachIs TxtV vs xs → Vals (xs.map V.str) vs := by
  induction vs with
  | nil => intro xs h; cases h; exact .nil
  | cons v vs ih => intro xs h; cases h with | cons h1 h2 => exact .cons h1 (ih h2)
/-- sorted(set(a)), a a list of texts -/
def tSortSetT (K : PySem.W.Frag) (ta : TE) : TE := fun σ H Q => ta σ H fun x H1 => ∃ (l : Addr) (ys : List (List Nat)), x = .ref l ∧ (SqL K H1 l ((ys.map toS).map V.str) ∨ SqT K H1 l ((ys.map toS).map V.str)) ∧ ys.length ≤ 4000 ∧
  ∀ p, H1 p = none → Q (.ref p) (upd H1 p (.lst (((srtN ys).map toS).map V.str)))
theorem ddN_le (ys : List (List Nat)) : (ddN ys).length ≤ ys.length := by
  have := keysK_le (ys.map toS)
  rwa [keysK_ddN, List.length_map, List.length_map] at this
theorem ddN_sub (ys : List (List Nat)) : ∀ x ∈ ddN ys, x ∈ ys := by
  have go : ∀ (ys σ : List (List Nat)), ∀ x ∈ ys.foldl dsN σ, x ∈ σ ∨ x ∈ ys := fun ys => by
    induction ys with
    | nil => exact fun _ x m => .inl m
    | cons y ys ih =>
      intro σ x m
      rcases ih _ x m with z | z
      · unfold dsN at z
        by_cases c : y ∈ σ
        · rw [if_pos c] at z; exact .inl z
        · rw [if_neg c] at z
          rcases List.mem_append.mp z with z | z
          · exact .inl z
          · rw [List.mem_singleton.mp z]; exact .inr List.mem_cons_self
      · exact .inr (List.mem_cons_of_mem _ z)
  exact fun x m => (go ys [] x m).resolve_left fun z => nomatch z
theorem keyed_two {K : Type} [DecidableEq K] {prog : Program} {w : World} {A : Around} {E : Value → Shared → Prop} {s : Shared} {kd : PySem.KeyKind prog w K} {l : Addr} {its : Array Value} {ks : List K} {Q : Value → Shared → Prop} (calm : A.handled = none) (hl : s.heap.IsList l its ∨ s.heap.IsTuple l its) (hn : ks.length = its.size) (hi : ∀ (i : Nat) (v : Value), its[i]? = some v → ∃ k, ks[i]? = some k ∧ kd.is k v = true ∧ v.scannable = true) (big : its.size + 1 < scanBound)
    (h : ∀ (g : Heap) (tk : Nat), SetG kd g s.heap.objs.size (keysK ks) → (∀ b o, b < s.heap.objs.size → s.heap.get? b = some o → g.get? b = some o) → Q (.ref s.heap.objs.size) { s with heap := g, toks := tk }) : wpAny (model prog w) A (call (.type "set") [.ref l]) Q E s := by
  rcases hl with hl | hl
  · exact keyed_list calm hl hn hi big h
  · exact keyed_tup calm hl hn hi big h
theorem pe_sortSetT {X : Cx} {a : Expr} {ta : TE} {p p2 q pos : Pos} (hg : Gl X "sorted") (hm : X.mg "sorted" = none) (hg2 : Gl X "set") (hm2 : X.mg "set" = none) (ha : PE X a ta) (hc : X.calm = true) (hu : X.A.units + 64 < cLine)
    (na : starEach [a] X.env = (false, eval a X.env) :: starEach [] X.env := by rfl) : PE X (.Call (.Name "sorted" p) [.Call (.Name "set" p2) [a] [] q] [] pos) (tSortSetT X.K ta) := ⟨fun pins s σ H Q I h => by
  (refine Call_ (ld_blt I hg hm boot_sorted ?_); refine PyProof.Rows.callWith_builtin1 (PyProof.Rows.args_cons ?_ rfl) rfl rfl)
  (refine Call_ (ld_blt I hg2 hm2 boot_set ?_); refine PyProof.Rows.callWith_type1 (PyProof.Rows.args_cons (thn (ha.run pins s σ H _ I h) fun v t ⟨x, H1, I1, r1, z⟩ => PyProof.Rows.args_nil ?_) na) na rfl)
  obtain ⟨l, ys, rfl, hq, hl, z⟩ := z
  cases r1
  have tx : ∀ {xs : List Str} {vs : List Value}, Vals (xs.map V.str) vs → ∀ (i : Nat) (v : Value), vs[i]? = some v → ∃ k, xs[i]? = some k ∧ (PySem.strKind X.prog X.w).is k v = true ∧ v.scannable = true := fun {xs} => by
    induction xs with
    | nil => intro vs r i v hv; cases r; cases hv
    | cons x xs ih =>
      intro vs r i v hv
      cases r with
      | cons r1 r2 =>
        cases i with
        | zero =>
          obtain ⟨tk, rfl⟩ := r1
          cases hv
          exact ⟨x, rfl, PySem.strKind_is _ _ _ _, rfl⟩
        | succ i => exact ih r2 i v hv
  have two : ∃ its : List Value, Vals ((ys.map toS).map V.str) its ∧ (t.heap.IsList l its.toArray ∨ t.heap.IsTuple l its.toArray) := by
    rcases hq with hq | hq
    · obtain ⟨its, r, pl, _⟩ := I1.list hq
      exact ⟨its, r, .inl pl.isList⟩
    · obtain ⟨its, r, pl, _⟩ := I1.tuple hq
      exact ⟨its, r, .inr pl⟩
  obtain ⟨its, r, lt⟩ := two
  have e : its.length = ys.length := by rw [← r.length, List.length_map, List.length_map]
  refine keyed_two (kd := PySem.strKind X.prog X.w) (ks := ys.map toS) (I1.ok.hd hc) lt (by rw [List.length_map, List.size_toArray]; exact e.symm) (fun i v hv => tx r i v (by simpa using hv)) (by rw [List.size_toArray, e]; unfold scanBound; omega) fun g tk d k => ?_
  refine PyProof.Rows.args_nil ?_
  have I2 : Inv X pins σ H1 { t with heap := g, toks := tk } := I1.kept fun b o z => k b o (Heap.lt_size z) z
  have le := keysK_le (ys.map toS)
  rw [List.length_map] at le
  refine sorted_txts (s := { t with heap := g, toks := tk }) d (I1.ok.hd hc) (by rw [sizeLine_eq]; omega) hu fun s' p out c bs ks hg' ho hp hgp pb eo => ?_
  rw [srt_eq pb] at eo
  have rv := vals_txt eo
  have hlen : (((srtN ys).map toS).map V.str).length ≤ sizeLine := by
    rw [List.length_map, List.length_map]
    have := (List.mergeSort_perm (ddN ys) fun a b => decide (a ≤ b)).length_eq
    have := ddN_le ys
    unfold srtN
    rw [sizeLine_eq]
    omega
  have hn : H1 p = none := I2.hok.fresh hp
  have J : Inv X pins σ (upd H1 p (.lst (((srtN ys).map toS).map V.str))) { t with heap := s'.heap, gens := s'.gens, drawn := s'.drawn, toks := s'.toks } :=
    Inv.call (s := { t with heap := g, toks := tk }) (ch := []) I2 (Un.laid (h := g) ks hp hn) (I2.hok.laid ks hp ⟨hlen, out, c, rv, hgp⟩) (by rw [hg']; exact I2.bare) (fun _ z => nomatch z)
  have e : s' = { t with heap := s'.heap, gens := s'.gens, drawn := s'.drawn, toks := s'.toks } := by
    cases s'
    cases t
    cases ho
    rfl
  rw [e]
  exact ⟨.ref p, _, J, rfl, z p hn⟩⟩
theorem me_sortSet {X : Cx} {k : Kx} {W : WX} {a : Expr} {fa : Ev} {p p2 q pos : Pos} (hK : X.K = k.K) (hg : Gl X "sorted") (hm : X.mg "sorted" = none) (hg2 : Gl X "set") (hm2 : X.mg "set" = none) (ha : PE X a (tE k W fa)) (hc : X.calm = true) (hu : X.A.units + 64 < cLine)
    (na : starEach [a] X.env = (false, eval a X.env) :: starEach [] X.env := by rfl) : PE X (.Call (.Name "sorted" p) [.Call (.Name "set" p2) [a] [] q] [] pos) (tE k W (ssE fa)) := by
  refine PE.imp (pe_sortSetT hg hm hg2 hm2 ha hc hu na) fun σ H Q z => ?_
  obtain ⟨F, h, env, sr, z⟩ := z
  refine ⟨F, h, env, sr, z.bind.imp (fun d F' h' H' st rl q v dv => ?_) fun _ _ _ x => x⟩
  cases e : refS h' d with
  | none => rw [e] at q; exact q.elim
  | some ys =>
    rw [e] at q
    unfold ssR at q
    dsimp only at q
    obtain ⟨xs, e1, e2⟩ := Option.bind_eq_some_iff.mp (show (seqH h' d).bind strsD = some ys from e)
    have e2 := strsD_eq e2
    subst e2
    obtain ⟨b, vs, rfl, sq, dvs, _, _⟩ := rl.seq dv e1
    obtain ⟨rfl, bd⟩ := DVs.strs dvs
    by_cases c : ys.length ≤ 4000
    · rw [if_pos c] at q
      refine ⟨b, ys, rfl, ?_, c, fun p hp => ?_⟩
      · rw [hK, List.map_map]
        exact sq
      · have dv2 : DVs k.K F' H' ((srtN ys).map D.str) (((srtN ys).map toS).map V.str) := by
          have bd2 : ∀ x ∈ srtN ys, x.length ≤ lim := fun x m => bd x (ddN_sub ys x ((List.mergeSort_perm _ _).mem_iff.mp m))
          generalize srtN ys = zs at bd2
          clear q
          induction zs with
          | nil => exact DVs.nil
          | cons z zs ih => exact DVs.cons (DV.mkStr (bd2 z List.mem_cons_self)) (ih fun x m => bd2 x (List.mem_cons_of_mem _ m))
        exact Post.lst q rl dv2 hp
    · rw [if_neg c] at q; exact q.elim
open PySem PySem.Spec PyProof.Rows L2
/-- what a text knows of its names -/
structure Cn where
  N : List Str
  sc : Scope
  st : Str → Bool
  fns : List (Str × Fn)
  kst : List (Str × D)
  bl : List Str
  tk : List Nat
def badE : Ev := fun _ _ => .bad
def badA : Av := fun _ _ => .bad
def badS : Sf := fun _ _ => .bad
def badI : Sv := fun _ _ => .bad
def slotOf : List Str → Str → Option Nat
  | [], _ => none
  | y :: l, x => if x = y then some 0 else (slotOf l x).map (· + 1)
theorem slotOf_ok : ∀ {l : List Str} {x : Str} {i : Nat}, slotOf l x = some i → l[i]? = some x
  | [], _, _, h => by cases h
  | y :: l, x, i, h => by
    unfold slotOf at h
    by_cases c : x = y
    · rw [if_pos c] at h; cases h; rw [c]; rfl
    · rw [if_neg c] at h
      obtain ⟨j, e, rfl⟩ := Option.map_eq_some_iff.mp h
      show l[j]? = some x
      exact slotOf_ok e
def visB (sc : Scope) (x : Str) : Bool := match sc.names.lookup x with
  | some .local => true
  | some .cell => true
  | some .free => true
  | _ => false
theorem visB_ok {sc : Scope} {x : Str} (h : visB sc x = true) : Vis sc x := by
  unfold visB at h
  split at h
  · exact .inl ‹_›
  · exact .inr (.inl ‹_›)
  · exact .inr (.inr ‹_›)
  · cases h
/-- a name that can be stored -/
def locB (C : Cn) (x : Str) : Bool := match C.sc.names.lookup x with
  | some .local => true
  | some .cell => C.st x
  | _ => false
def glB (C : Cn) (x : Str) : Bool := match C.sc.names.lookup x with
  | some .globalImplicit => true
  | _ => false
abbrev dbg : Str := "__debug__"
abbrev cdi : Str := "__classdict__"
/-- the table of calls -/
def btOf (x : Str) : Option (Bool × String × BF) :=
  if x = "len" then some (true, "len", on1 len1) else
  if x = "str" then some (false, "str", on1 str1) else
  if x = "int" then some (false, "int", on1 int1) else
  if x = "all" then some (true, "all", on1 all1) else
  if x = "any" then some (true, "any", on1 any1) else
  if x = "sum" then some (true, "sum", on1 sum1) else
  if x = "max" then some (true, "max", on2 max2) else
  if x = "min" then some (true, "min", on2 min2) else
  if x = "abs" then some (true, "abs", on1 abs1) else
  if x = "list" then some (false, "list", on1 list1) else
  if x = "tuple" then some (false, "tuple", on1 tuple1) else
  if x = "bool" then some (false, "bool", on1 bool1) else none
/-- .. of one argument -/
def bt1Of (x : Str) : Option (Bool × String × BF) :=
  if x = "sorted" then some (true, "sorted", on1 sorted1) else
  if x = "min" then some (true, "min", on1 (best1 minF)) else
  if x = "max" then some (true, "max", on1 (best1 maxF)) else
  if x = "dict" then some (false, "dict", on1 dict1) else btOf x
def btN (x : Str) (as : List Expr) : Option (Bool × String × BF) := match as with
  | [] => bt1Of x
  | _ => btOf x
def tyNm (x : Str) : Option String :=
  if x = "str" then some "str" else
  if x = "int" then some "int" else
  if x = "bool" then some "bool" else
  if x = "tuple" then some "tuple" else
  if x = "list" then some "list" else
  if x = "dict" then some "dict" else none
def mtOf (x : Str) : Option MF :=
  if x = "append" then some appM else
  if x = "join" then some joinM else
  if x = "split" then some splitM else
  if x = "pop" then some popM else
  if x = "reverse" then some revM else
  if x = "extend" then some extM else
  if x = "get" then some getM else
  if x = "insert" then some insM else none
def isStar : Expr → Bool
  | .Starred .. => true
  | _ => false
def isSlice : Expr → Bool
  | .Slice .. => true
  | _ => false
def isSet : Expr → Bool
  | .Set .. => true
  | _ => false
def isComp : Expr → Bool
  | .ListComp .. => true
  | .SetComp .. => true
  | .DictComp .. => true
  | _ => false
/-- a receiver that is no call (super().. is) -/
def isCall : Expr → Bool
  | .Call (.Name ..) [] [] _ => true
  | _ => false
/-- a test that is one of its own form -/
def ownT : Expr → Bool
  | .UnaryOp .Not _ _ => true
  | .BoolOp .. => true
  | .IfExp .. => true
  | .Compare .. => true
  | _ => false
def dAs (f : Expr → Ev) : List Expr → Av
  | [] => aNil
  | e :: es => if isStar e then badA else aCons (f e) (dAs f es)
/-- the parts of a display -/
def dAx (f : Expr → Ev) : List Expr → Av
  | [] => aNil
  | e :: es => match e with
    | .Starred e _ => aStar (f e) (dAx f es)
    | e => aCons (f e) (dAx f es)
def dPrs (f : Expr → Ev) : List (Option Expr) → List Expr → Option (List (Ev × Ev))
  | [], [] => some []
  | some k :: ks, v :: vs => (dPrs f ks vs).map fun r => (f k, f v) :: r
  | _, _ => none
def dDict (f : Expr → Ev) (C : Cn) (ks : List (Option Expr)) (vs : List Expr) (pos : Pos) : Ev := match ks with
  | [] => match vs with
    | [] => newD (C.tk.contains pos.line)
    | _ => badE
  | k :: ks => if (k :: ks).length ≤ 15 then match dPrs f (k :: ks) vs with
      | some fs => dspE fs
      | none => badE
    else badE
def dBool (f : Expr → Ev) (op : BoolOp) : List Expr → Ev
  | [] => badE
  | [e] => f e
  | e :: e' :: es => match op with
    | .And => andE (f e) (dBool f op (e' :: es))
    | .Or => orE (f e) (dBool f op (e' :: es))
def dO (f : Expr → Ev) : Option Expr → Option Ev
  | none => none
  | some e => some (f e)
mutual
def dT (C : Cn) : Expr → Option Tg
  | .Name x _ => if locB C x = true then (slotOf C.N x).map .nm else none
  | .Tuple es _ _ => (dTs C es).map .tp
  | _ => none
def dTs (C : Cn) : List Expr → Option (List Tg)
  | [] => some []
  | e :: es => match dT C e with
    | some t => match dTs C es with
      | some ts => some (t :: ts)
      | none => none
    | none => none
end
mutual
/-- the slots of a target -/
def tgV : Tg → List Nat
  | .nm i => [i]
  | .tp ts => tgVs ts
def tgVs : List Tg → List Nat
  | [] => []
  | t :: ts => tgV t ++ tgVs ts
end
def ownOf (N : List Str) (names : List (Str × NameKind)) : List (Str × Nat) := names.filterMap fun y => match y.2 with
  | .local => (slotOf N y.1).map fun i => (y.1, i)
  | .cell => (slotOf N y.1).map fun i => (y.1, i)
  | _ => none
def Cn.blk (C : Cn) (scope : Scope) : Cn := { C with sc := relS scope C.sc, st := fun x => scope.names.lookup x == some .cell }
def fnOfN (C : Cn) (x : Str) : Option Fn := C.fns.lookup x
/-- walks, by what is walked -/
def dI (f : Expr → Ev) (C : Cn) (tg it : Expr) : Sv := if isSet it then badI else match it with
  | .Call (.Name x _) args [] _ =>
    if glB C x && C.bl.contains x then
      if x = "range" then match args with
        | [a] => if isStar a then badI else rS (dAs f [a]) rng1Of
        | [a, b] => if isStar a || isStar b then badI else rS (dAs f [a, b]) rng2Of
        | [a, b, c] => if isStar a || isStar b || isStar c then badI else rS (dAs f [a, b, c]) rng3Of
        | _ => badI
      else if x = "enumerate" then match tg, args with
        | .Tuple .., [a] => if isStar a then badI else eS (f a)
        | _, _ => badI
      else if x = "zip" then match tg, args with
        | .Tuple .., [a, b] => if isStar a || isStar b then badI else zS (f a) (f b)
        | _, _ => badI
      else if x = "reversed" then match args with
        | [a] => if isStar a then badI else revS (f a)
        | _ => badI
      else vS (f it)
    else vS (f it)
  | _ => vS (f it)
def dCmp (f : Expr → Ev) (a : Expr) (ops : List CmpOp) (bs : List Expr) : Ev := match ops, bs with
  | [op], [b] => if behindInMarks op b = true then badE else bE (f a) (f b) (cmpR op)
  | [op, op'], [b, c] => if lastMarks [op, op'] [b, c] = true then badE else chE (f a) (f b) (f c) op op'
  | [o1, o2, o3], [b, c, d] => if lastMarks [o1, o2, o3] [b, c, d] = true then badE else ch3E (f a) (f b) (f c) (f d) o1 o2 o3
  | _, _ => badE
def dSub (f : Expr → Ev) (a s : Expr) : Ev := match s with
  | .Slice lo hi none _ => slE (f a) (dO f lo) (dO f hi)
  | s => if isSlice s = true then badE else bE (f a) (f s) ixOp
/-- len(set(b)) -/
def lenSetOf (x : Str) (a : Expr) (as : List Expr) : Option Expr := match as with
  | [] => match a with
    | .Call (.Name y _) [b] [] _ => if x = "len" ∧ y = "set" then some b else none
    | _ => none
  | _ => none
theorem lenSetOf_some {x : Str} {a : Expr} {as : List Expr} {b : Expr} (h : lenSetOf x a as = some b) : x = "len" ∧ as = [] ∧ ∃ p q, a = .Call (.Name "set" p) [b] [] q := by
  unfold lenSetOf at h
  split at h
  · split at h
    · split at h
      · rename_i c
        cases h
        rw [c.2]
        exact ⟨c.1, rfl, _, _, rfl⟩
      · cases h
    · cases h
  · cases h
/-- sorted(set(b)) -/
def sortSetOf (x : Str) (a : Expr) (as : List Expr) : Option Expr := match as with
  | [] => match a with
    | .Call (.Name y _) [b] [] _ => if x = "sorted" ∧ y = "set" then some b else none
    | _ => none
  | _ => none
theorem sortSetOf_some {x : Str} {a : Expr} {as : List Expr} {b : Expr} (h : sortSetOf x a as = some b) : x = "sorted" ∧ as = [] ∧ ∃ p q, a = .Call (.Name "set" p) [b] [] q := by
  unfold sortSetOf at h
  split at h
  · split at h
    · split at h
      · rename_i c
        cases h
        rw [c.2]
        exact ⟨c.1, rfl, _, _, rfl⟩
      · cases h
    · cases h
  · cases h
/-- a builtin called by its name -/
def dBlt (f : Expr → Ev) (C : Cn) (x : Str) (a : Expr) (as : List Expr) : Ev :=
  if x = "isinstance" then match as with
    | [.Name y _] => if (glB C y && C.bl.contains y) = true then match tyNm y with
        | some T => isiE (f a) T
        | none => badE
      else badE
    | _ => badE
  else match lenSetOf x a as with
    | some b => if (glB C "set" && C.bl.contains ("set" : Str) && !isStar b) = true then lsE (f b) else badE
    | none => match sortSetOf x a as with
      | some b => if (glB C "set" && C.bl.contains ("set" : Str) && !isStar b) = true then ssE (f b) else badE
      | none => match btN x as with
        | some (_, _, h) => cE (dAs f (a :: as)) h
        | none => badE
def dNam (f : Expr → Ev) (C : Cn) (x : Str) (a : Expr) (as : List Expr) : Ev :=
  if x = dbg ∨ isStar a = true ∨ as.any isStar = true ∨ glB C x = false then badE else
  match fnOfN C x with
  | some g => fE (dAs f (a :: as)) g
  | none => if C.bl.contains x = true then dBlt f C x a as else badE
def dMet (f : Expr → Ev) (o : Expr) (name : Str) (args : List Expr) : Ev := match mtOf name with
  | some m => match args with
    | [] => mE (f o) aNil m
    | a :: as => if isStar a = true ∨ as.any isStar = true ∨ ¬ (a :: as).length < 30 then badE else mE (f o) (dAs f (a :: as)) m
  | none => badE
def dCall (f : Expr → Ev) (C : Cn) (g : Expr) (args : List Expr) (kws : List Keyword) (pos : Pos) : Ev := match kws with
  | [] => match g with
    | .Name x _ => match args with
      | [] => badE
      | a :: as => dNam f C x a as
    | .Attribute o name apos => if isCall o = true ∨ (apos.endLine == pos.line) = false then badE else dMet f o name args
    | _ => badE
  | _ => badE
noncomputable def dLc (f : Cn → Expr → Ev) (C : Cn) (elt : Expr) (gs : List Comprehension) (scope : Scope) : Ev := match gs with
  | [⟨tg, it, ifs, 0⟩] => if blkC C.N C.sc scope (ownOf C.N scope.names) = true then
      match dT (C.blk scope) tg with
      | some t => if (tgV t).all (fun i => ((ownOf C.N scope.names).map (·.2)).contains i) = true then match ifs with
          | [] => lcE (dI (f C) C tg it) t none (f (C.blk scope) elt) ((ownOf C.N scope.names).map (·.2))
          | [c] => lcE (dI (f C) C tg it) t (some (f (C.blk scope) c)) (f (C.blk scope) elt) ((ownOf C.N scope.names).map (·.2))
          | _ => badE
        else badE
      | none => badE
    else badE
  | _ => badE
noncomputable def dDc (f : Cn → Expr → Ev) (C : Cn) (kx vx : Expr) (gs : List Comprehension) (scope : Scope) : Ev := match gs with
  | [⟨tg, it, ifs, 0⟩] => if blkC C.N C.sc scope (ownOf C.N scope.names) = true then
      match dT (C.blk scope) tg with
      | some t => if (tgV t).all (fun i => ((ownOf C.N scope.names).map (·.2)).contains i) = true then match ifs with
          | [] => dcE (dI (f C) C tg it) t none (f (C.blk scope) kx) (f (C.blk scope) vx) ((ownOf C.N scope.names).map (·.2))
          | [c] => dcE (dI (f C) C tg it) t (some (f (C.blk scope) c)) (f (C.blk scope) kx) (f (C.blk scope) vx) ((ownOf C.N scope.names).map (·.2))
          | _ => badE
        else badE
      | none => badE
    else badE
  | _ => badE
noncomputable def dDt (f : Cn → Expr → Ev) (C : Cn) (kx vx : Expr) (gs : List Comprehension) (scope : Scope) : Ev := match gs with
  | [⟨tg, it, ifs, 0⟩] => if blkC C.N C.sc scope (ownOf C.N scope.names) = true then
      match dT (C.blk scope) tg with
      | some t => if (tgV t).all (fun i => ((ownOf C.N scope.names).map (·.2)).contains i) = true then match ifs with
          | [] => dtE (dI (f C) C tg it) t none (f (C.blk scope) kx) (f (C.blk scope) vx) ((ownOf C.N scope.names).map (·.2))
          | [c] => dtE (dI (f C) C tg it) t (some (f (C.blk scope) c)) (f (C.blk scope) kx) (f (C.blk scope) vx) ((ownOf C.N scope.names).map (·.2))
          | _ => badE
        else badE
      | none => badE
    else badE
  | _ => badE
noncomputable def dFm (a : Ev) (c : Int) : Option Expr → Ev
  | none => if c = -1 then uE a fm1 else badE
  | some _ => badE
/-- an f-string of two parts or more -/
noncomputable def dJs (d : Expr → Ev) : List Expr → Ev
  | v1 :: v2 :: r => jsE ((v1 :: v2 :: r).map d) []
  | _ => badE
noncomputable def dE : Nat → Cn → Expr → Ev
  | 0, _, _ => badE
  | n + 1, C, e => match e with
    | .Name x _ => if x = dbg ∨ x = cdi then badE else
        if visB C.sc x then match slotOf C.N x with
          | some i => vE i
          | none => badE
        else if glB C x then match C.kst.lookup x with
          | some d => kE d
          | none => badE
        else badE
    | .Constant c _ _ => match c with
      | .int i => kE (.int i)
      | .bool b => kE (.bl b)
      | .none => kE .non
      | .str s => if s.cps.toList.length ≤ lim then kE (.str s.cps.toList) else badE
      | _ => badE
    | .BinOp a op b _ => bE (dE n C a) (dE n C b) (binOp op)
    | .UnaryOp op a _ => match op with
      | .Not => notE (dE n C a)
      | .USub => uE (dE n C a) negD
      | _ => badE
    | .BoolOp op vs _ => dBool (dE n C) op vs
    | .IfExp t a b _ => ifE (dE n C t) (dE n C a) (dE n C b)
    | .Compare a ops bs _ => dCmp (dE n C) a ops bs
    | .Tuple es _ _ => tupE (dAx (dE n C) es)
    | .FormattedValue a c f _ => dFm (dE n C a) c f
    | .JoinedStr es _ => dJs (dE n C) es
    | .List es _ => lstE (dAx (dE n C) es)
    | .Dict ks vs pos => dDict (dE n C) C ks vs pos
    | .DictComp kx vx gs scope pos => if C.tk.contains pos.line = true then dDt (dE n) C kx vx gs scope else dDc (dE n) C kx vx gs scope
    | .Subscript a s _ => dSub (dE n C) a s
    | .Call g args kws pos => dCall (dE n C) C g args kws pos
    | .ListComp elt gs scope _ => dLc (dE n) C elt gs scope
    | _ => badE
theorem star_cons {e : Expr} (h : isStar e = false) (es : List Expr) (env : PySem.Env) : starEach (e :: es) env = (false, eval e env) :: starEach es env := by
  cases e <;> first | rfl | cases h
theorem star_none : ∀ {es : List Expr} {env : PySem.Env} {pos : Pos}, es.any isStar = false → (backTo pos (starEach es env)).any (·.1) = false
  | [], _, _, _ => rfl
  | e :: es, env, pos, h => by
    rw [List.any_cons, Bool.or_eq_false_iff] at h
    rw [star_cons h.1]
    show (false || (backTo pos (starEach es env)).any (·.1)) = false
    rw [star_none h.2]; rfl
theorem star_all : ∀ {es : List Expr} {env : PySem.Env} {pos : Pos}, es.any isStar = false → (backTo pos (starEach es env)).all (fun x => !x.1) = true
  | [], _, _, _ => rfl
  | e :: es, env, pos, h => by
    rw [List.any_cons, Bool.or_eq_false_iff] at h
    rw [star_cons h.1]
    show (true && (backTo pos (starEach es env)).all (fun x => !x.1)) = true
    rw [star_all h.2]; rfl
theorem set_folded {e : Expr} (h : isSet e = false) (env : PySem.Env) (x : Value) : foldedSetIterable e env x = pure x := by
  cases e <;> first | rfl | cases h
theorem base_plain {e : Expr} (h : isCall e = false) (a : Str) (env : PySem.Env) : attributeBase e a env (eval e env) = eval e env := by
  cases e with
  | Call f args kws pos =>
    cases f with
    | Name id p =>
      cases args with
      | nil =>
        cases kws with
        | nil => cases h
        | cons => rfl
      | cons => rfl
    | _ => rfl
  | _ => rfl
theorem slice_plain {e : Expr} (h : isSlice e = false) : PlainIx e := fun o i => by
  cases e <;> first | rfl | cases h
theorem true_plain {e : Expr} (h : ownT e = false) (env : PySem.Env) (whole : Sem Value) : isTrue e env whole = (do let v ← whole; standAt e.pos; holding [v] (truthy v)) := by
  cases e with
  | UnaryOp op a p => cases op <;> first | rfl | cases h
  | BoolOp => cases h
  | IfExp => cases h
  | Compare => cases h
  | _ => rfl
theorem few_ok {b : Expr} {es : List Expr} {env : PySem.Env} {pos : Pos} (h : isStar b = false) (h2 : es.any isStar = false) (hl : (b :: es).length < 30) : ((backTo pos (starEach (b :: es) env)).all (fun x => !x.1) && (backToKw pos (keywordEach [] env)).all (fun x => x.1.isSome)
      && decide ((b :: es).length + ([] : List Keyword).length + (if ([] : List Keyword).isEmpty then 0 else 1) < 30)) = true := by
  have e : (b :: es).any isStar = false := by rw [List.any_cons, h, h2]; rfl
  exact (Bool.and_eq_true _ _).mpr ⟨(Bool.and_eq_true _ _).mpr ⟨star_all e, rfl⟩, decide_eq_true hl⟩
/-- the defs, the constants, the names that are free -/
structure GOk (P : Program) (w : World) (K : PySem.W.Frag) (mg : Str → Option Value) (base : Heap) (k : Kx) (j : Nat) (fns : List (Str × Fn)) (kst : List (Str × D)) (bl : List Str) : Prop where
  fns : ∀ x f, fns.lookup x = some f → ∃ ad fd ps, FnOk P w K mg base (L2N.CX P w) j ad fd ps (spOf k f) ∧ mg x = some (.ref ad) ∧ PySem.W.keepIn K (.ref ad) = true ∧ Binds K fd ps []
  kst : ∀ x d, kst.lookup x = some d → ∃ u v, mg x = some u ∧ RelV v u ∧ ∀ F H, DV k.K F H d v
  bl : ∀ x, bl.contains x = true → mg x = none
structure CtxOk (X : Cx) (k : Kx) (C : Cn) (W : WX) : Prop where
  K : X.K = k.K
  un : X.A.units + 64 < cLine
  calm : X.calm = true
  nd : X.N.Nodup
  N : X.N = C.N
  sc : X.env.scope = C.sc
  st : ∀ x, C.st x = true → X.fn x = true
  tk : L2N.Takes X W
  g : ∃ j, Room j X.A ∧ GOk X.prog X.w X.K X.mg X.base k j C.fns C.kst C.bl
section
variable {X : Cx} {k : Kx} {C : Cn} {W : WX}
theorem CtxOk.gl (c : CtxOk X k C W) {x : Str} (h : glB C x = true) : Gl X x := by
  unfold glB at h
  show X.env.scope.names.lookup x = _
  rw [c.sc]
  split at h
  · assumption
  · cases h
theorem CtxOk.loc (c : CtxOk X k C W) {x : Str} (h : locB C x = true) : Loc X.env.scope x ∧ (X.fn x = true ∨ X.env.scope.names.lookup x = some .local) := by
  unfold locB at h
  rw [c.sc]
  split at h
  · rename_i e; exact ⟨.inl e, .inr e⟩
  · rename_i e; exact ⟨.inr e, .inl (c.st x h)⟩
  · cases h
theorem CtxOk.free (c : CtxOk X k C W) {x : Str} (h : C.bl.contains x = true) : X.mg x = none := let ⟨_, _, g⟩ := c.g; g.bl x h
theorem CtxOk.blk (c : CtxOk X k C W) (s : Shared) (H : Hp) (scope : Scope) (A : Addr) (cl : List (Str × Addr)) (fp : List Addr) : CtxOk (X.blk s H scope (compEnvC scope cl A X.env) fp) k (C.blk scope) (fun _ _ _ _ => False) where
  K := c.K
  un := c.un
  calm := c.calm
  nd := c.nd
  N := c.N
  sc := by
    show relS scope X.env.scope = relS scope C.sc
    rw [c.sc]
  st := fun x h => h
  tk := fun u s' ⟨_, _, _, _, _, _, _, _, _, _, _, _, _, _, _, _, w⟩ => w
  g := c.g
end
theorem bt_ok {x : Str} {b : Bool} {id : String} {h : BF} (e : btOf x = some (b, id, h)) : bootBuiltins x = some (if b = true then .builtin id else .type id) ∧ x ≠ "__name__" ∧ ∀ (X : Cx) (k : Kx), X.K = k.K → X.calm = true → CallR X (if b = true then .builtin id else .type id) (rC k h) := by
  unfold btOf at e
  by_cases q : x = "len"
  · rw [if_pos q] at e; subst q; cases e
    exact ⟨by decide +kernel, by decide, fun X k hK hc => c_len hK⟩
  rw [if_neg q] at e
  by_cases q : x = "str"
  · rw [if_pos q] at e; subst q; cases e
    exact ⟨by decide +kernel, by decide, fun X k hK hc => c_str hK⟩
  rw [if_neg q] at e
  by_cases q : x = "int"
  · rw [if_pos q] at e; subst q; cases e
    exact ⟨by decide +kernel, by decide, fun X k hK hc => c_int hK⟩
  rw [if_neg q] at e
  by_cases q : x = "all"
  · rw [if_pos q] at e; subst q; cases e
    exact ⟨by decide +kernel, by decide, fun X k hK hc => c_all hK hc⟩
  rw [if_neg q] at e
  by_cases q : x = "any"
  · rw [if_pos q] at e; subst q; cases e
    exact ⟨by decide +kernel, by decide, fun X k hK hc => c_any hK hc⟩
  rw [if_neg q] at e
  by_cases q : x = "sum"
  · rw [if_pos q] at e; subst q; cases e
    exact ⟨by decide +kernel, by decide, fun X k hK hc => c_sum hK hc⟩
  rw [if_neg q] at e
  by_cases q : x = "max"
  · rw [if_pos q] at e; subst q; cases e
    exact ⟨by decide +kernel, by decide, fun X k hK hc => c_max hc⟩
  rw [if_neg q] at e
  by_cases q : x = "min"
  · rw [if_pos q] at e; subst q; cases e
    exact ⟨by decide +kernel, by decide, fun X k hK hc => c_min hc⟩
  rw [if_neg q] at e
  by_cases q : x = "abs"
  · rw [if_pos q] at e; subst q; cases e
    exact ⟨by decide +kernel, by decide, fun X k hK hc => c_abs⟩
  rw [if_neg q] at e
  by_cases q : x = "list"
  · rw [if_pos q] at e; subst q; cases e
    exact ⟨by decide +kernel, by decide, fun X k hK hc => c_list hK⟩
  rw [if_neg q] at e
  by_cases q : x = "tuple"
  · rw [if_pos q] at e; subst q; cases e
    exact ⟨by decide +kernel, by decide, fun X k hK hc => c_tuple hK⟩
  rw [if_neg q] at e
  by_cases q : x = "bool"
  · rw [if_pos q] at e; subst q; cases e
    exact ⟨by decide +kernel, by decide, fun X k hK hc => c_bool hK⟩
  rw [if_neg q] at e
  cases e
theorem btN_ok {x : Str} {as : List Expr} {b : Bool} {id : String} {h : BF} (e : btN x as = some (b, id, h)) : bootBuiltins x = some (if b = true then .builtin id else .type id) ∧ x ≠ "__name__" ∧ ∀ (X : Cx) (k : Kx), X.K = k.K → X.calm = true → X.A.units + 64 < cLine → CallR X (if b = true then .builtin id else .type id) (rC k h) := by
  cases as with
  | cons a as =>
    obtain ⟨b1, b2, b3⟩ := bt_ok (show btOf x = _ from e)
    exact ⟨b1, b2, fun X k hK hc _ => b3 X k hK hc⟩
  | nil =>
    have e : bt1Of x = some (b, id, h) := e
    unfold bt1Of at e
    by_cases q : x = "sorted"
    · rw [if_pos q] at e; subst q; cases e
      exact ⟨by decide +kernel, by decide, fun X k hK hc hu => c_sorted hK hu⟩
    rw [if_neg q] at e
    by_cases q : x = "min"
    · rw [if_pos q] at e; subst q; cases e
      exact ⟨by decide +kernel, by decide, fun X k hK hc hu => c_min1 hK hu hc⟩
    rw [if_neg q] at e
    by_cases q : x = "max"
    · rw [if_pos q] at e; subst q; cases e
      exact ⟨by decide +kernel, by decide, fun X k hK hc hu => c_max1 hK hu hc⟩
    rw [if_neg q] at e
    by_cases q : x = "dict"
    · rw [if_pos q] at e; subst q; cases e
      exact ⟨by decide +kernel, by decide, fun X k hK hc hu => c_dict hK hc⟩
    rw [if_neg q] at e
    obtain ⟨b1, b2, b3⟩ := bt_ok e
    exact ⟨b1, b2, fun X k hK hc _ => b3 X k hK hc⟩
theorem ty_ok {x : Str} {T : String} (e : tyNm x = some T) : bootBuiltins x = some (.type T) ∧ x ≠ "__name__" ∧ (x == ("__debug__" : Str)) = false := by
  unfold tyNm at e
  by_cases q : x = "str"
  · rw [if_pos q] at e; subst q; cases e; exact ⟨by decide +kernel, by decide, by decide⟩
  rw [if_neg q] at e
  by_cases q : x = "int"
  · rw [if_pos q] at e; subst q; cases e; exact ⟨by decide +kernel, by decide, by decide⟩
  rw [if_neg q] at e
  by_cases q : x = "bool"
  · rw [if_pos q] at e; subst q; cases e; exact ⟨by decide +kernel, by decide, by decide⟩
  rw [if_neg q] at e
  by_cases q : x = "tuple"
  · rw [if_pos q] at e; subst q; cases e; exact ⟨by decide +kernel, by decide, by decide⟩
  rw [if_neg q] at e
  by_cases q : x = "list"
  · rw [if_pos q] at e; subst q; cases e; exact ⟨by decide +kernel, by decide, by decide⟩
  rw [if_neg q] at e
  by_cases q : x = "dict"
  · rw [if_pos q] at e; subst q; cases e; exact ⟨by decide +kernel, by decide, by decide⟩
  rw [if_neg q] at e
  cases e
/-- a method's rule, whatever the type -/
structure MtOk (X : Cx) (k : Kx) (name : Str) (m : MF) : Prop where
  ex : ∃ (T id : String), PlainAttrs T ∧ Slot T name id ∧ typeOf (.builtin id) = pure (.type "method_descriptor") ∧ MtD X k T id m
theorem mt_ok {X : Cx} {k : Kx} (hK : X.K = k.K) (hu : X.A.units + 1 < cLine) {x : Str} {m : MF} (e : mtOf x = some m) : MtOk X k x m := by
  unfold mtOf at e
  by_cases q : x = "append"
  · rw [if_pos q] at e; subst q; cases e; exact ⟨"list", "list.append", F.plainAttrs_list, F.slot_list_append, F.type_list_append, m_append hK⟩
  rw [if_neg q] at e
  by_cases q : x = "join"
  · rw [if_pos q] at e; subst q; cases e; exact ⟨"str", "str.join", F.plainAttrs_str, F.slot_str_join, F.type_str_join, m_join hK⟩
  rw [if_neg q] at e
  by_cases q : x = "split"
  · rw [if_pos q] at e; subst q; cases e; exact ⟨"str", "str.split", F.plainAttrs_str, F.slot_str_split, F.type_str_split, m_split hK⟩
  rw [if_neg q] at e
  by_cases q : x = "pop"
  · rw [if_pos q] at e; subst q; cases e; exact ⟨"list", "list.pop", F.plainAttrs_list, F.slot_list_pop, F.type_list_pop, m_pop hK⟩
  rw [if_neg q] at e
  by_cases q : x = "reverse"
  · rw [if_pos q] at e; subst q; cases e; exact ⟨"list", "list.reverse", F.plainAttrs_list, F.slot_list_reverse, F.type_list_reverse, m_reverse hK⟩
  rw [if_neg q] at e
  by_cases q : x = "extend"
  · rw [if_pos q] at e; subst q; cases e; exact ⟨"list", "list.extend", F.plainAttrs_list, F.slot_list_extend, F.type_list_extend, m_extend hK⟩
  rw [if_neg q] at e
  by_cases q : x = "get"
  · rw [if_pos q] at e; subst q; cases e; exact ⟨"dict", "dict.get", F.plainAttrs_dict, F.slot_dict_get, F.type_dict_get, m_get hu⟩
  rw [if_neg q] at e
  by_cases q : x = "insert"
  · rw [if_pos q] at e; subst q; cases e; exact ⟨"list", "list.insert", F.plainAttrs_list, F.slot_list_insert, F.type_list_insert, m_insert hK⟩
  rw [if_neg q] at e
  cases e
open PySem PySem.Spec PyProof.Rows L2
section
variable {X : Cx} {k : Kx} {C : Cn} {W : WX}
theorem dT_nm {e : Expr} {i : Nat} (h : dT C e = some (.nm i)) : ∃ x p, e = .Name x p ∧ locB C x = true ∧ slotOf C.N x = some i := by
  unfold dT at h
  cases e with
  | Name x p =>
    dsimp only at h
    by_cases q : locB C x = true
    · rw [if_pos q] at h
      obtain ⟨j, e, e2⟩ := Option.map_eq_some_iff.mp h
      cases e2
      exact ⟨x, p, rfl, q, e⟩
    · rw [if_neg q] at h; cases h
  | Tuple es a p =>
    dsimp only at h
    obtain ⟨j, e, e2⟩ := Option.map_eq_some_iff.mp h
    cases e2
  | _ => cases h
theorem dT_tp {e : Expr} {ts : List Tg} (h : dT C e = some (.tp ts)) : ∃ es a p, e = .Tuple es a p ∧ dTs C es = some ts := by
  unfold dT at h
  cases e with
  | Name x p =>
    dsimp only at h
    by_cases q : locB C x = true
    · rw [if_pos q] at h
      obtain ⟨j, e, e2⟩ := Option.map_eq_some_iff.mp h
      cases e2
    · rw [if_neg q] at h; cases h
  | Tuple es a p =>
    dsimp only at h
    obtain ⟨j, e, e2⟩ := Option.map_eq_some_iff.mp h
    cases e2
    exact ⟨es, a, p, rfl, e⟩
  | _ => cases h
theorem dTs_nil {es : List Expr} (h : dTs C es = some []) : es = [] := by
  unfold dTs at h
  cases es with
  | nil => rfl
  | cons e es =>
    dsimp only at h
    split at h
    · split at h
      · cases h
      · cases h
    · cases h
theorem dTs_cons {es : List Expr} {t : Tg} {ts : List Tg} (h : dTs C es = some (t :: ts)) : ∃ e r, es = e :: r ∧ dT C e = some t ∧ dTs C r = some ts := by
  unfold dTs at h
  cases es with
  | nil => cases h
  | cons e es =>
    dsimp only at h
    split at h
    · rename_i t' e1
      split at h
      · rename_i ts' e2
        cases h
        exact ⟨e, es, rfl, e1, e2⟩
      · cases h
    · cases h
theorem dT_star {e : Expr} {t : Tg} (h : dT C e = some t) (es : List Expr) (env : PySem.Env) : assignEach (e :: es) env = (false, assign e env) :: assignEach es env := by
  cases e <;> first | rfl | (unfold dT at h; cases h)
theorem dTs_len : ∀ {ts : List Tg} {es : List Expr} {env : PySem.Env}, dTs C es = some ts → (assignEach es env).length = ts.length ∧ (assignEach es env).findIdx? (·.1) = none
  | [], es, env, h => by rw [dTs_nil h]; exact ⟨rfl, rfl⟩
  | t :: ts, es, env, h => by
    obtain ⟨e, r, rfl, h1, h2⟩ := dTs_cons h
    obtain ⟨q1, q2⟩ := dTs_len (env := env) h2
    rw [dT_star h1]
    refine ⟨by rw [List.length_cons, List.length_cons, q1], ?_⟩
    rw [List.findIdx?_cons]
    simp [q2]
mutual
theorem dT_ok (c : CtxOk X k C W) {W' : WX} : ∀ (t : Tg) (e : Expr), dT C e = some t → PG X e (tG k W' (asgT t))
  | .nm i, e, h => by
    obtain ⟨x, p, rfl, l, s⟩ := dT_nm h
    exact mg_name c.nd (by rw [c.N]; exact slotOf_ok s) (c.loc l).1 (c.loc l).2
  | .tp ts, e, h => by
    obtain ⟨es, a, p, rfl, h2⟩ := dT_tp h
    exact mg_tup c.K c.calm (dTs_ok c ts es h2) (dTs_len h2).1 (dTs_len h2).2
theorem dTs_ok (c : CtxOk X k C W) : ∀ (ts : List Tg) (es : List Expr), dTs C es = some ts → PGs X es (tGs k (fun _ _ _ _ => False) (asgTs ts))
  | [], es, h => by rw [dTs_nil h]; exact mgs_nil
  | t :: ts, es, h => by
    obtain ⟨e, r, rfl, h1, h2⟩ := dTs_cons h
    exact mgs_cons (dT_ok c t e h1) (dTs_ok c ts r h2) (by rw [dT_star h1]; rfl)
end
mutual
theorem dTw_ok (c : CtxOk X k C W) (vs : List Nat) : ∀ (t : Tg) (e : Expr), dT C e = some t → (∀ i ∈ tgV t, i ∈ vs) → PG X e (tGw k vs (asgT t))
  | .nm i, e, h, hv => by
    obtain ⟨x, p, rfl, l, s⟩ := dT_nm h
    exact mgw_name c.nd (by rw [c.N]; exact slotOf_ok s) (c.loc l).1 (c.loc l).2 (hv i (by unfold tgV; exact List.mem_cons_self))
  | .tp ts, e, h, hv => by
    obtain ⟨es, a, p, rfl, h2⟩ := dT_tp h
    exact mgw_tup c.K c.calm (dTsw_ok c vs ts es h2 (fun i hi => hv i (by unfold tgV; exact hi))) (dTs_len h2).1 (dTs_len h2).2
theorem dTsw_ok (c : CtxOk X k C W) (vs : List Nat) : ∀ (ts : List Tg) (es : List Expr), dTs C es = some ts → (∀ i ∈ tgVs ts, i ∈ vs) → PGs X es (tGsw k vs (asgTs ts))
  | [], es, h, _ => by rw [dTs_nil h]; exact mgsw_nil
  | t :: ts, es, h, hv => by
    obtain ⟨e, r, rfl, h1, h2⟩ := dTs_cons h
    exact mgsw_cons (dTw_ok c vs t e h1 fun i hi => hv i (by unfold tgVs; exact List.mem_append_left _ hi)) (dTsw_ok c vs ts r h2 fun i hi => hv i (by unfold tgVs; exact List.mem_append_right _ hi)) (by rw [dT_star h1]; rfl)
end
theorem me_bad {e : Expr} : PE X e (tE k W badE) := ⟨fun pins s σ H Q I ⟨F, h, env, sr, p⟩ => p.elim⟩
theorem mt_bad {e : Expr} : PT X e (tT k W (tst badE)) := ⟨fun pins s σ H Q I ⟨F, h, env, sr, p⟩ => p.elim⟩
theorem ma_bad {e : List Expr} : PA X e (tA k W badA) := ⟨fun pos pins s σ H Q I ⟨F, h, env, sr, p⟩ => p.elim⟩
theorem mi_bad {tg e : Expr} : PI X tg e (tI k W badI) := ⟨fun pins s σ H Q I ⟨F, h, env, sr, p⟩ => p.elim⟩
theorem ms_bad {e : Stmt} : PS X e (tS k W badS) := ⟨fun pins s σ H N I ⟨F, h, env, sr, p⟩ => p.elim⟩
section
variable {f : Expr → Ev} (hf : ∀ e, PE X e (tE k W (f e)))
include hf
theorem dAs_ok : ∀ es : List Expr, PA X es (tA k W (dAs f es))
  | [] => ma_nil
  | e :: es => by
    unfold dAs
    cases q : isStar e with
    | true => rw [if_pos rfl]; exact ma_bad
    | false => rw [if_neg (by decide)]; exact ma_cons (hf e) (dAs_ok es) (star_cons q es _)
theorem dAx_ok (hK : X.K = k.K) : ∀ es : List Expr, PA X es (tA k W (dAx f es))
  | [] => ma_nil
  | e :: es => by
    cases e with
    | Starred a p => exact ma_star hK (hf a) (dAx_ok hK es)
    | _ => exact ma_cons (hf _) (dAx_ok hK es) rfl
theorem dPrs_ok {pos : Pos} : ∀ (ks : List (Option Expr)) (vs : List Expr) (fs : List (Ev × Ev)), dPrs f ks vs = some fs → PPs X pos ks vs (fs.map fun q => (tE k W q.1, tE k W q.2)) ∧ ks.all (·.isSome) = true ∧ ks.length = vs.length ∧ fs.length = ks.length
  | [], [], fs, h => by cases h; exact ⟨pps_nil, rfl, rfl, rfl⟩
  | some a :: ks, v :: vs, fs, h => by
    unfold dPrs at h
    obtain ⟨r, e, rfl⟩ := Option.map_eq_some_iff.mp h
    obtain ⟨h1, h2, h3, h4⟩ := dPrs_ok ks vs r e
    exact ⟨pps_cons (hf a) (hf v) h1, by simpa using h2, by simpa using h3, by simpa using h4⟩
  | [], _ :: _, _, h => by cases h
  | none :: _, _, _, h => by unfold dPrs at h; cases h
  | some _ :: _, [], _, h => by cases h
theorem dDict_ok (ks : List (Option Expr)) (vs : List Expr) (pos : Pos) : PE X (.Dict ks vs pos) (tE k W (dDict f C ks vs pos)) := by
  unfold dDict
  split
  · split
    · exact me_dnew _
    · exact me_bad
  · rename_i a ks
    by_cases q : (a :: ks).length ≤ 15
    · rw [if_pos q]
      split
      · rename_i fs e
        obtain ⟨h1, h2, h3, h4⟩ := dPrs_ok hf (pos := pos) _ _ _ e
        exact me_disp h1 h2 h3 (by simp) q h4
      · exact me_bad
    · rw [if_neg q]; exact me_bad
theorem dO_ok : ∀ o : Option Expr, PO X o (tO k W (ptE (dO f o)))
  | none => mo_none
  | some e => mo_some (hf e)
theorem dBool_ok (hK : X.K = k.K) {op : BoolOp} {pos : Pos} : ∀ es : List Expr, PE X (.BoolOp op es pos) (tE k W (dBool f op es))
  | [] => me_bad
  | [e] => by
    cases op with
    | And => exact pe_one (hf e)
    | Or => exact pe_one (hf e)
  | e :: e' :: es => by
    cases op with
    | And => exact me_and hK (hf e) (dBool_ok hK (e' :: es))
    | Or => exact me_or hK (hf e) (dBool_ok hK (e' :: es))
theorem dI_ok (c : CtxOk X k C W) (tg it : Expr) : PI X tg it (tI k W (dI f C tg it)) := by
  unfold dI
  by_cases q : isSet it = true
  · rw [if_pos q]; exact mi_bad
  rw [if_neg q]
  have val : PI X tg it (tI k W (vS (f it))) := mi_val c.K (hf it)
  split
  · rename_i x p args pos
    by_cases q1 : (glB C x && C.bl.contains x) = true
    · rw [if_pos q1]
      have q1' := (Bool.and_eq_true _ _).mp q1
      have hg := c.gl q1'.1
      have hm := c.free q1'.2
      by_cases e1 : x = "range"
      · rw [if_pos e1]; subst e1
        split
        · rename_i a
          cases s1 : isStar a with
          | true => rw [if_pos rfl]; exact mi_bad
          | false => rw [if_neg (by decide)]; exact mi_rng1 hg hm (dAs_ok hf _) (star_cons s1 [] _)
        · rename_i a b
          cases s1 : isStar a with
          | true => rw [Bool.true_or, if_pos rfl]; exact mi_bad
          | false =>
            cases s2 : isStar b with
            | true => rw [Bool.or_true, if_pos rfl]; exact mi_bad
            | false => rw [Bool.or_false, if_neg (by decide)]; exact mi_rng2 hg hm (dAs_ok hf _) (by rw [star_cons s1, star_cons s2]; rfl) (star_cons s2 [] _)
        · rename_i a b d
          by_cases s : (isStar a || isStar b || isStar d) = true
          · rw [if_pos s]; exact mi_bad
          · rw [if_neg s]
            simp only [Bool.or_eq_true, not_or, Bool.not_eq_true] at s
            exact mi_rng3 hg hm (dAs_ok hf _) (star_cons s.1.1 _ _) (star_none (by simp [s.1.2, s.2]))
        · exact mi_bad
      · rw [if_neg e1]
        by_cases e2 : x = "enumerate"
        · rw [if_pos e2]; subst e2
          split
          · rename_i a
            cases s1 : isStar a with
            | true => rw [if_pos rfl]; exact mi_bad
            | false => rw [if_neg (by decide)]; exact mi_enu c.K hg hm (ma_cons (hf a) ma_nil (star_cons s1 [] _)) (star_cons s1 [] _)
          · exact mi_bad
        · rw [if_neg e2]
          by_cases e3 : x = "zip"
          · rw [if_pos e3]; subst e3
            split
            · rename_i a b
              by_cases s : (isStar a || isStar b) = true
              · rw [if_pos s]; exact mi_bad
              · rw [if_neg s]
                simp only [Bool.or_eq_true, not_or, Bool.not_eq_true] at s
                exact mi_zip c.K hg hm (ma_cons (hf a) (ma_cons (hf b) ma_nil (star_cons s.2 [] _)) (star_cons s.1 _ _)) (star_cons s.1 _ _) (star_none (by simp [s.2]))
            · exact mi_bad
          · rw [if_neg e3]
            by_cases e4 : x = "reversed"
            · rw [if_pos e4]; subst e4
              split
              · rename_i a
                cases s1 : isStar a with
                | true => rw [if_pos rfl]; exact mi_bad
                | false => rw [if_neg (by decide)]; exact mi_rev c.K hg hm (hf a) (star_cons s1 [] _)
              · exact mi_bad
            · rw [if_neg e4]; exact val
    · rw [if_neg q1]; exact val
  · exact val
end
theorem mw_bad {e : Expr} : PW X e (tT k W (tst badE)) := ⟨fun w pins s σ H Q I ⟨F, h, env, sr, p⟩ => p.elim⟩
theorem dBoolT_ok {f : Expr → Ev} (hf : ∀ e, PT X e (tT k W (tst (f e)))) {op : BoolOp} {pos : Pos} : ∀ es : List Expr, PW X (.BoolOp op es pos) (tT k W (tst (dBool f op es)))
  | [] => mw_bad
  | [e] => by
    cases op with
    | And => exact pw_and1 (hf e)
    | Or => exact pw_or1 (hf e)
  | e :: e' :: es => by
    cases op with
    | And => exact mw_and (hf e) (dBoolT_ok hf (e' :: es))
    | Or => exact mw_or (hf e) (dBoolT_ok hf (e' :: es))
end
section
variable {X : Cx} {k : Kx} {C : Cn} {W : WX}
theorem mt_if {t a b : Expr} {ft fa fb : Ev} {pos : Pos} (ht : PT X t (tT k W (tst ft))) (ha : PT X a (tT k W (tst fa))) (hb : PT X b (tT k W (tst fb))) : PT X (.IfExp t a b pos) (tT k W (tst (ifE ft fa fb))) := by
  refine ⟨fun pins s σ H Q I p => ?_⟩
  rw [PySem.arm_isTrue_IfExp]
  have q : tT k W (tst ft) σ H (fun d H1 => if d = true then tT k W (tst fa) σ H1 Q else tT k W (tst fb) σ H1 Q) := by
    obtain ⟨F, h, env, sr, p⟩ := p
    refine ⟨F, h, env, sr, ?_⟩
    have p : Post k F H (PB Q) (fun c d H' => W c d σ H') (((tst ft env h).bind fun c h1 => if c = true then fa env h1 else fb env h1).bind fun x h1 => Res.of (truth h1 x) h1) := p
    cases e : tst ft env h with
    | bad => rw [e] at p; exact p.elim
    | exc x h1 => rw [e] at p; exact p
    | ok d h1 =>
      rw [e] at p
      intro F' H' st rl
      cases d with
      | true => exact ⟨F', h1, env, sr.step st rl, Post.step (r := tst fa env h1) p st⟩
      | false => exact ⟨F', h1, env, sr.step st rl, Post.step (r := tst fb env h1) p st⟩
  refine wpAny_bind (thn (ht.run pins s σ H _ I q) fun d s1 ⟨H1, I1, q1⟩ => ?_)
  cases d with
  | true => exact ha.run pins s1 σ H1 Q I1 q1
  | false => exact hb.run pins s1 σ H1 Q I1 q1
section
variable {f : Expr → Ev} (hf : ∀ e, PE X e (tE k W (f e)))
include hf
theorem dCmp_ok (c : CtxOk X k C W) {a : Expr} {p : Pos} (ops : List CmpOp) (bs : List Expr) : PE X (.Compare a ops bs p) (tE k W (dCmp f a ops bs)) := by
  unfold dCmp
  split
  · rename_i op b
    by_cases q : behindInMarks op b = true
    · rw [if_pos q]; exact me_bad
    · rw [if_neg q]; exact me_cmp c.K c.un (hf a) (hf b) (Bool.eq_false_iff.mpr q)
  · rename_i op op' b d
    by_cases q : lastMarks [op, op'] [b, d] = true
    · rw [if_pos q]; exact me_bad
    · rw [if_neg q]; exact me_chain c.K c.un (hf a) (hf b) (hf d) (Bool.eq_false_iff.mpr q)
  · rename_i o1 o2 o3 b d e
    by_cases q : lastMarks [o1, o2, o3] [b, d, e] = true
    · rw [if_pos q]; exact me_bad
    · rw [if_neg q]; exact me_chain3 c.K c.un (hf a) (hf b) (hf d) (hf e) (Bool.eq_false_iff.mpr q)
  · exact me_bad
theorem dCmpT_ok (c : CtxOk X k C W) {a : Expr} {p : Pos} (ops : List CmpOp) (bs : List Expr) : PT X (.Compare a ops bs p) (tT k W (tst (dCmp f a ops bs))) := by
  unfold dCmp
  split
  · rename_i op b
    by_cases q : behindInMarks op b = true
    · rw [if_pos q]; exact mt_bad
    · rw [if_neg q]; exact mt_cmp c.K c.un (hf a) (hf b) (Bool.eq_false_iff.mpr q)
  · rename_i op op' b d
    by_cases q : lastMarks [op, op'] [b, d] = true
    · rw [if_pos q]; exact mt_bad
    · rw [if_neg q]; exact mt_chain c.K c.un (hf a) (hf b) (hf d) (Bool.eq_false_iff.mpr q)
  · rename_i o1 o2 o3 b d e
    by_cases q : lastMarks [o1, o2, o3] [b, d, e] = true
    · rw [if_pos q]; exact mt_bad
    · rw [if_neg q]; exact mt_chain3 c.K c.un (hf a) (hf b) (hf d) (hf e) (Bool.eq_false_iff.mpr q)
  · exact mt_bad
theorem dSub_ok (c : CtxOk X k C W) (a s : Expr) {p : Pos} : PE X (.Subscript a s p) (tE k W (dSub f a s)) := by
  unfold dSub
  split
  · exact me_sl c.K (hf a) (dO_ok hf _) (dO_ok hf _)
  · by_cases q : isSlice s = true
    · rw [if_pos q]; exact me_bad
    · rw [if_neg q]; exact me_ix c.K (by have := c.un; omega) (hf a) (hf s) (slice_plain (Bool.eq_false_iff.mpr q))
theorem dCall_ok (c : CtxOk X k C W) (g : Expr) (args : List Expr) (kws : List Keyword) (pos : Pos) : PE X (.Call g args kws pos) (tE k W (dCall f C g args kws pos)) := by
  unfold dCall
  split
  · split
    · rename_i x p
      split
      · exact me_bad
      · rename_i a as
        unfold dNam
        by_cases q : x = dbg ∨ isStar a = true ∨ as.any isStar = true ∨ glB C x = false
        · rw [if_pos q]; exact me_bad
        rw [if_neg q]
        simp only [not_or, Bool.not_eq_true, Bool.not_eq_false] at q
        obtain ⟨q1, q2, q3, q4⟩ := q
        have hd : (x == ("__debug__" : Str)) = false := by simpa using q1
        have hs := star_cons q2 as X.env
        have hp := star_none (env := X.env) (pos := pos) q3
        have hg := c.gl q4
        split
        · rename_i h e
          obtain ⟨j, rm, g⟩ := c.g
          obtain ⟨ad, fd, ps, F, hm, hk, hb⟩ := g.fns x h e
          exact me_fn F rm hg hm hk hb c.tk (dAs_ok hf _) hd hs hp
        · by_cases q5 : C.bl.contains x = true
          · rw [if_pos q5]
            have hm := c.free q5
            unfold dBlt
            by_cases q6 : x = "isinstance"
            · rw [if_pos q6]; subst q6
              split
              · rename_i y p2
                by_cases q7 : (glB C y && C.bl.contains y) = true
                · rw [if_pos q7]
                  have q8 := (Bool.and_eq_true _ _).mp q7
                  split
                  · rename_i T eT
                    obtain ⟨b1, b2, b3⟩ := ty_ok eT
                    exact me_isi c.K hg hm (hf a) hs (c.gl q8.1) (c.free q8.2) b1 b2 b3
                  · exact me_bad
                · rw [if_neg q7]; exact me_bad
              · exact me_bad
            · rw [if_neg q6]
              split
              · rename_i b e
                obtain ⟨rfl, rfl, p0, p9, rfl⟩ := lenSetOf_some e
                by_cases q7 : (glB C "set" && C.bl.contains ("set" : Str) && !isStar b) = true
                · rw [if_pos q7]
                  simp only [Bool.and_eq_true, Bool.not_eq_true'] at q7
                  exact me_lenSet c.K hg hm (c.gl q7.1.1) (c.free q7.1.2) (hf b) c.calm (star_cons q7.2 [] X.env)
                · rw [if_neg q7]; exact me_bad
              split
              · rename_i b e
                obtain ⟨rfl, rfl, p0, p9, rfl⟩ := sortSetOf_some e
                by_cases q7 : (glB C "set" && C.bl.contains ("set" : Str) && !isStar b) = true
                · rw [if_pos q7]
                  simp only [Bool.and_eq_true, Bool.not_eq_true'] at q7
                  exact me_sortSet c.K hg hm (c.gl q7.1.1) (c.free q7.1.2) (hf b) c.calm (by have := c.un; omega) (star_cons q7.2 [] X.env)
                · rw [if_neg q7]; exact me_bad
              split
              · rename_i b id h e
                obtain ⟨b1, b2, b3⟩ := btN_ok e
                have b4 := b3 X k c.K c.calm (by have := c.un; omega)
                cases b with
                | true => exact me_callB b4 hg hm b1 (dAs_ok hf _) b2 hd hs hp
                | false => exact me_callTy b4 hg hm b1 (dAs_ok hf _) b2 hd hs hp
              · exact me_bad
          · rw [if_neg q5]; exact me_bad
    · rename_i o name apos
      by_cases q : isCall o = true ∨ (apos.endLine == pos.line) = false
      · rw [if_pos q]; exact me_bad
      rw [if_neg q]
      simp only [not_or, Bool.not_eq_true, Bool.not_eq_false] at q
      unfold dMet
      split
      · rename_i m e
        obtain ⟨T, id, pa, sl, ty, md⟩ := (mt_ok (X := X) (k := k) c.K (by have := c.un; omega) e).ex
        have hbase := base_plain q.1 name X.env
        split
        · exact me_bm0 pa sl ty md (hf o) hbase q.2
        · rename_i a as
          by_cases q2 : isStar a = true ∨ as.any isStar = true ∨ ¬ (a :: as).length < 30
          · rw [if_pos q2]; exact me_bad
          rw [if_neg q2]
          simp only [not_or, Bool.not_eq_true, Decidable.not_not] at q2
          exact me_bm pa sl ty md (hf o) (dAs_ok hf _) hbase (few_ok q2.1 q2.2.1 q2.2.2) q.2 (star_cons q2.1 as _) (star_none q2.2.1)
      · exact me_bad
    · exact me_bad
  · exact me_bad
end
theorem contains_mem {l : List Nat} {i : Nat} (h : l.contains i = true) : i ∈ l := by simpa using h
theorem dLc_ok {f : Cn → Expr → Ev} (hf : ∀ X C W, CtxOk X k C W → ∀ e, PE X e (tE k W (f C e)) ∧ PT X e (tT k W (tst (f C e)))) (c : CtxOk X k C W) (elt : Expr) (gs : List Comprehension) (scope : Scope) (p : Pos) :
    PE X (.ListComp elt gs scope p) (tE k W (dLc f C elt gs scope)) ∧ ∀ (y : Str) (py spos : Pos) (i : Nat), X.N[i]? = some y → X.env.scope.names.lookup y = some .local → swapsWith (.ListComp elt gs scope p) (some (.Name y py)) spos.line X.env = pure true →
      PS X (.Assign [.Name y py] (.ListComp elt gs scope p) spos) (tS k W (asgF (dLc f C elt gs scope) (asgT (.nm i)))) := by
  have he := fun e => (hf X C W c e).1
  have bad : PE X (.ListComp elt gs scope p) (tE k W badE) ∧ ∀ (y : Str) (py spos : Pos) (i : Nat), X.N[i]? = some y → X.env.scope.names.lookup y = some .local → swapsWith (.ListComp elt gs scope p) (some (.Name y py)) spos.line X.env = pure true →
      PS X (.Assign [.Name y py] (.ListComp elt gs scope p) spos) (tS k W (asgF badE (asgT (.nm i)))) := ⟨me_bad, fun _ _ _ _ _ _ _ => ⟨fun pins s σ H N I ⟨F, h, env, sr, p⟩ => p.elim⟩⟩
  unfold dLc
  split
  · rename_i tg it ifs
    by_cases q1 : blkC C.N C.sc scope (ownOf C.N scope.names) = true
    · rw [if_pos q1]
      split
      · rename_i t et
        by_cases q2 : (tgV t).all (fun i => ((ownOf C.N scope.names).map (·.2)).contains i) = true
        · rw [if_pos q2]
          have hv : ∀ i ∈ tgV t, i ∈ (ownOf C.N scope.names).map (·.2) := fun i hi => contains_mem (List.all_eq_true.mp q2 i hi)
          by_cases q3 : isSet it = true
          · have e3 : dI (f C) C tg it = badI := by unfold dI; rw [if_pos q3]
            have b2 : ∀ t c fe vs, PE X (.ListComp elt [⟨tg, it, ifs, 0⟩] scope p) (tE k W (lcE badI t c fe vs)) ∧ ∀ (y : Str) (py spos : Pos) (i : Nat), X.N[i]? = some y → X.env.scope.names.lookup y = some .local → swapsWith (.ListComp elt [⟨tg, it, ifs, 0⟩] scope p) (some (.Name y py)) spos.line X.env = pure true →
              PS X (.Assign [.Name y py] (.ListComp elt [⟨tg, it, ifs, 0⟩] scope p) spos) (tS k W (asgF (lcE badI t c fe vs) (asgT (.nm i)))) := fun t c fe vs => ⟨⟨fun pins s σ H Q I ⟨F, h, env, sr, p⟩ => p.elim⟩, fun _ _ _ _ _ _ _ => ⟨fun pins s σ H N I ⟨F, h, env, sr, p⟩ => p.elim⟩⟩
            split
            · rw [e3]; exact b2 _ _ _ _
            · rw [e3]; exact b2 _ _ _ _
            · exact bad
          have hs := fun v => set_folded (Bool.eq_false_iff.mpr q3) X.env v
          have bk : BlkOk X.N X.env.scope scope (ownOf C.N scope.names) := by rw [c.N, c.sc]; exact blkOk_by q1
          have hg := fun (s : Shared) (H : Hp) (A : Addr) (cl : List (Str × Addr)) (fp : List Addr) => dTw_ok (c.blk s H scope A cl fp) ((ownOf C.N scope.names).map (·.2)) t tg et hv
          have hb := fun (e : Expr) (s : Shared) (H : Hp) (A : Addr) (cl : List (Str × Addr)) (fp : List Addr) => hf _ _ _ (c.blk s H scope A cl fp) e
          split
          · exact ⟨me_lc c.calm c.nd (dI_ok he c tg it) bk hg (fun _ _ _ _ _ => pts_nil) (fun s H A cl fp => (hb elt s H A cl fp).1) hs,
              fun y py spos i e1 e2 e3 => ms_setLc c.calm c.nd e1 e2 e3 (dI_ok he c tg it) bk hg (fun _ _ _ _ _ => pts_nil) (fun s H A cl fp => (hb elt s H A cl fp).1) hs⟩
          · rename_i d
            exact ⟨me_lc c.calm c.nd (dI_ok he c tg it) bk hg (fun s H A cl fp => pts_one (hb d s H A cl fp).2) (fun s H A cl fp => (hb elt s H A cl fp).1) hs,
              fun y py spos i e1 e2 e3 => ms_setLc c.calm c.nd e1 e2 e3 (dI_ok he c tg it) bk hg (fun s H A cl fp => pts_one (hb d s H A cl fp).2) (fun s H A cl fp => (hb elt s H A cl fp).1) hs⟩
          · exact bad
        · rw [if_neg q2]; exact bad
      · exact bad
    · rw [if_neg q1]; exact bad
  · exact bad
theorem dDc_ok {f : Cn → Expr → Ev} (hf : ∀ X C W, CtxOk X k C W → ∀ e, PE X e (tE k W (f C e)) ∧ PT X e (tT k W (tst (f C e)))) (c : CtxOk X k C W) (kx vx : Expr) (gs : List Comprehension) (scope : Scope) (p : Pos) :
    PE X (.DictComp kx vx gs scope p) (tE k W (dDc f C kx vx gs scope)) ∧ ∀ (y : Str) (py spos : Pos) (i : Nat), X.N[i]? = some y → X.env.scope.names.lookup y = some .local → swapsWith (.DictComp kx vx gs scope p) (some (.Name y py)) spos.line X.env = pure true →
      PS X (.Assign [.Name y py] (.DictComp kx vx gs scope p) spos) (tS k W (asgF (dDc f C kx vx gs scope) (asgT (.nm i)))) := by
  have he := fun e => (hf X C W c e).1
  have bad : PE X (.DictComp kx vx gs scope p) (tE k W badE) ∧ ∀ (y : Str) (py spos : Pos) (i : Nat), X.N[i]? = some y → X.env.scope.names.lookup y = some .local → swapsWith (.DictComp kx vx gs scope p) (some (.Name y py)) spos.line X.env = pure true →
      PS X (.Assign [.Name y py] (.DictComp kx vx gs scope p) spos) (tS k W (asgF badE (asgT (.nm i)))) := ⟨me_bad, fun _ _ _ _ _ _ _ => ⟨fun pins s σ H N I ⟨F, h, env, sr, p⟩ => p.elim⟩⟩
  unfold dDc
  split
  · rename_i tg it ifs
    by_cases q1 : blkC C.N C.sc scope (ownOf C.N scope.names) = true
    · rw [if_pos q1]
      split
      · rename_i t et
        by_cases q2 : (tgV t).all (fun i => ((ownOf C.N scope.names).map (·.2)).contains i) = true
        · rw [if_pos q2]
          have hv : ∀ i ∈ tgV t, i ∈ (ownOf C.N scope.names).map (·.2) := fun i hi => contains_mem (List.all_eq_true.mp q2 i hi)
          by_cases q3 : isSet it = true
          · have e3 : dI (f C) C tg it = badI := by unfold dI; rw [if_pos q3]
            have b2 : ∀ t c fk fv vs, PE X (.DictComp kx vx [⟨tg, it, ifs, 0⟩] scope p) (tE k W (dcE badI t c fk fv vs)) ∧ ∀ (y : Str) (py spos : Pos) (i : Nat), X.N[i]? = some y → X.env.scope.names.lookup y = some .local → swapsWith (.DictComp kx vx [⟨tg, it, ifs, 0⟩] scope p) (some (.Name y py)) spos.line X.env = pure true →
              PS X (.Assign [.Name y py] (.DictComp kx vx [⟨tg, it, ifs, 0⟩] scope p) spos) (tS k W (asgF (dcE badI t c fk fv vs) (asgT (.nm i)))) := fun t c fk fv vs => ⟨⟨fun pins s σ H Q I ⟨F, h, env, sr, p⟩ => p.elim⟩, fun _ _ _ _ _ _ _ => ⟨fun pins s σ H N I ⟨F, h, env, sr, p⟩ => p.elim⟩⟩
            split
            · rw [e3]; exact b2 _ _ _ _ _
            · rw [e3]; exact b2 _ _ _ _ _
            · exact bad
          have hs := fun v => set_folded (Bool.eq_false_iff.mpr q3) X.env v
          have bk : BlkOk X.N X.env.scope scope (ownOf C.N scope.names) := by rw [c.N, c.sc]; exact blkOk_by q1
          have hg := fun (s : Shared) (H : Hp) (A : Addr) (cl : List (Str × Addr)) (fp : List Addr) => dTw_ok (c.blk s H scope A cl fp) ((ownOf C.N scope.names).map (·.2)) t tg et hv
          have hb := fun (e : Expr) (s : Shared) (H : Hp) (A : Addr) (cl : List (Str × Addr)) (fp : List Addr) => hf _ _ _ (c.blk s H scope A cl fp) e
          split
          · exact ⟨me_dc c.calm c.nd (dI_ok he c tg it) bk hg (fun _ _ _ _ _ => pts_nil) (fun s H A cl fp => (hb kx s H A cl fp).1) (fun s H A cl fp => (hb vx s H A cl fp).1) hs,
              fun y py spos i e1 e2 e3 => ms_setDc c.calm c.nd e1 e2 e3 (dI_ok he c tg it) bk hg (fun _ _ _ _ _ => pts_nil) (fun s H A cl fp => (hb kx s H A cl fp).1) (fun s H A cl fp => (hb vx s H A cl fp).1) hs⟩
          · rename_i d
            exact ⟨me_dc c.calm c.nd (dI_ok he c tg it) bk hg (fun s H A cl fp => pts_one (hb d s H A cl fp).2) (fun s H A cl fp => (hb kx s H A cl fp).1) (fun s H A cl fp => (hb vx s H A cl fp).1) hs,
              fun y py spos i e1 e2 e3 => ms_setDc c.calm c.nd e1 e2 e3 (dI_ok he c tg it) bk hg (fun s H A cl fp => pts_one (hb d s H A cl fp).2) (fun s H A cl fp => (hb kx s H A cl fp).1) (fun s H A cl fp => (hb vx s H A cl fp).1) hs⟩
          · exact bad
        · rw [if_neg q2]; exact bad
      · exact bad
    · rw [if_neg q1]; exact bad
  · exact bad
theorem dDt_ok {f : Cn → Expr → Ev} (hf : ∀ X C W, CtxOk X k C W → ∀ e, PE X e (tE k W (f C e)) ∧ PT X e (tT k W (tst (f C e)))) (c : CtxOk X k C W) (kx vx : Expr) (gs : List Comprehension) (scope : Scope) (p : Pos) :
    PE X (.DictComp kx vx gs scope p) (tE k W (dDt f C kx vx gs scope)) ∧ ∀ (y : Str) (py spos : Pos) (i : Nat), X.N[i]? = some y → X.env.scope.names.lookup y = some .local → swapsWith (.DictComp kx vx gs scope p) (some (.Name y py)) spos.line X.env = pure true →
      PS X (.Assign [.Name y py] (.DictComp kx vx gs scope p) spos) (tS k W (asgF (dDt f C kx vx gs scope) (asgT (.nm i)))) := by
  have he := fun e => (hf X C W c e).1
  have bad : PE X (.DictComp kx vx gs scope p) (tE k W badE) ∧ ∀ (y : Str) (py spos : Pos) (i : Nat), X.N[i]? = some y → X.env.scope.names.lookup y = some .local → swapsWith (.DictComp kx vx gs scope p) (some (.Name y py)) spos.line X.env = pure true →
      PS X (.Assign [.Name y py] (.DictComp kx vx gs scope p) spos) (tS k W (asgF badE (asgT (.nm i)))) := ⟨me_bad, fun _ _ _ _ _ _ _ => ⟨fun pins s σ H N I ⟨F, h, env, sr, p⟩ => p.elim⟩⟩
  unfold dDt
  split
  · rename_i tg it ifs
    by_cases q1 : blkC C.N C.sc scope (ownOf C.N scope.names) = true
    · rw [if_pos q1]
      split
      · rename_i t et
        by_cases q2 : (tgV t).all (fun i => ((ownOf C.N scope.names).map (·.2)).contains i) = true
        · rw [if_pos q2]
          have hv : ∀ i ∈ tgV t, i ∈ (ownOf C.N scope.names).map (·.2) := fun i hi => contains_mem (List.all_eq_true.mp q2 i hi)
          by_cases q3 : isSet it = true
          · have e3 : dI (f C) C tg it = badI := by unfold dI; rw [if_pos q3]
            have b2 : ∀ t c fk fv vs, PE X (.DictComp kx vx [⟨tg, it, ifs, 0⟩] scope p) (tE k W (dtE badI t c fk fv vs)) ∧ ∀ (y : Str) (py spos : Pos) (i : Nat), X.N[i]? = some y → X.env.scope.names.lookup y = some .local → swapsWith (.DictComp kx vx [⟨tg, it, ifs, 0⟩] scope p) (some (.Name y py)) spos.line X.env = pure true →
              PS X (.Assign [.Name y py] (.DictComp kx vx [⟨tg, it, ifs, 0⟩] scope p) spos) (tS k W (asgF (dtE badI t c fk fv vs) (asgT (.nm i)))) := fun t c fk fv vs => ⟨⟨fun pins s σ H Q I ⟨F, h, env, sr, p⟩ => p.elim⟩, fun _ _ _ _ _ _ _ => ⟨fun pins s σ H N I ⟨F, h, env, sr, p⟩ => p.elim⟩⟩
            split
            · rw [e3]; exact b2 _ _ _ _ _
            · rw [e3]; exact b2 _ _ _ _ _
            · exact bad
          have hs := fun v => set_folded (Bool.eq_false_iff.mpr q3) X.env v
          have bk : BlkOk X.N X.env.scope scope (ownOf C.N scope.names) := by rw [c.N, c.sc]; exact blkOk_by q1
          have hg := fun (s : Shared) (H : Hp) (A : Addr) (cl : List (Str × Addr)) (fp : List Addr) => dTw_ok (c.blk s H scope A cl fp) ((ownOf C.N scope.names).map (·.2)) t tg et hv
          have hb := fun (e : Expr) (s : Shared) (H : Hp) (A : Addr) (cl : List (Str × Addr)) (fp : List Addr) => hf _ _ _ (c.blk s H scope A cl fp) e
          split
          · exact ⟨me_dt (by have := c.un; omega) c.calm c.nd (dI_ok he c tg it) bk hg (fun _ _ _ _ _ => pts_nil) (fun s H A cl fp => (hb kx s H A cl fp).1) (fun s H A cl fp => (hb vx s H A cl fp).1) hs,
              fun y py spos i e1 e2 e3 => ms_setDt (by have := c.un; omega) c.calm c.nd e1 e2 e3 (dI_ok he c tg it) bk hg (fun _ _ _ _ _ => pts_nil) (fun s H A cl fp => (hb kx s H A cl fp).1) (fun s H A cl fp => (hb vx s H A cl fp).1) hs⟩
          · rename_i d
            exact ⟨me_dt (by have := c.un; omega) c.calm c.nd (dI_ok he c tg it) bk hg (fun s H A cl fp => pts_one (hb d s H A cl fp).2) (fun s H A cl fp => (hb kx s H A cl fp).1) (fun s H A cl fp => (hb vx s H A cl fp).1) hs,
              fun y py spos i e1 e2 e3 => ms_setDt (by have := c.un; omega) c.calm c.nd e1 e2 e3 (dI_ok he c tg it) bk hg (fun s H A cl fp => pts_one (hb d s H A cl fp).2) (fun s H A cl fp => (hb kx s H A cl fp).1) (fun s H A cl fp => (hb vx s H A cl fp).1) hs⟩
          · exact bad
        · rw [if_neg q2]; exact bad
      · exact bad
    · rw [if_neg q1]; exact bad
  · exact bad
theorem pjd_map {d : Expr → Ev} (h : ∀ e, PE X e (tE k W (d e))) : ∀ es : List Expr, PJD X k W es (es.map d)
  | [] => .nil
  | e :: es => .cons (h e) (pjd_map h es)
/-- expressions: values and tests -/
theorem dE_ok : ∀ (n : Nat) (X : Cx) (k : Kx) (C : Cn) (W : WX), CtxOk X k C W → ∀ e : Expr, PE X e (tE k W (dE n C e)) ∧ PT X e (tT k W (tst (dE n C e)))
  | 0, X, k, C, W, c, e => ⟨me_bad, mt_bad⟩
  | n + 1, X, k, C, W, c, e => by
    have ih := fun C' X' W' (c' : CtxOk X' k C' W') => dE_ok n X' k C' W' c'
    have he := fun e => (ih C X W c e).1
    have ht := fun e => (ih C X W c e).2
    have val : ownT e = false → PE X e (tE k W (dE (n + 1) C e)) → PE X e (tE k W (dE (n + 1) C e)) ∧ PT X e (tT k W (tst (dE (n + 1) C e))) := fun o p => ⟨p, mt_any c.K p (true_plain o X.env)⟩
    have bad : dE (n + 1) C e = badE → PE X e (tE k W (dE (n + 1) C e)) ∧ PT X e (tT k W (tst (dE (n + 1) C e))) := fun q => by rw [q]; exact ⟨me_bad, mt_bad⟩
    cases e with
    | Name x p =>
      refine val rfl ?_
      unfold dE
      dsimp only
      by_cases q0 : x = dbg ∨ x = cdi
      · rw [if_pos q0]; exact me_bad
      rw [if_neg q0]
      have n1 : (x == ("__debug__" : Str)) = false := by simpa using fun z => q0 (.inl z)
      have n2 : (x == ("__classdict__" : Str)) = false := by simpa using fun z => q0 (.inr z)
      cases q : visB C.sc x with
      | true =>
        rw [if_pos rfl]
        cases e : slotOf C.N x with
        | none => exact me_bad
        | some i => exact me_var (by rw [c.N]; exact slotOf_ok e) (by rw [c.sc]; exact visB_ok q) n1 n2
      | false =>
        rw [if_neg (by decide)]
        cases q2 : glB C x with
        | false => rw [if_neg (by decide)]; exact me_bad
        | true =>
          rw [if_pos rfl]
          cases e : C.kst.lookup x with
          | none => exact me_bad
          | some d =>
            obtain ⟨j, _, g⟩ := c.g
            obtain ⟨u, v, hm, r, dv⟩ := g.kst x d e
            exact me_con (pe_glob (c.gl q2) hm r n1) dv
    | Constant cst a p =>
      refine val rfl ?_
      unfold dE
      dsimp only
      cases cst with
      | int i => exact me_con pe_int fun F H => DV.mkInt
      | bool b => exact me_con pe_bl fun F H => DV.mkBl
      | none => exact me_con pe_non fun F H => by unfold DV; rfl
      | str s =>
        dsimp only
        by_cases q : s.cps.toList.length ≤ lim
        · rw [if_pos q]
          exact me_con pe_str fun F H => by
            have := DV.mkStr (K := k.K) (F := F) (H := H) q
            rwa [show (⟨s.cps.toList.toArray⟩ : Str) = s from SX.S_tl s] at this
        · rw [if_neg q]; exact me_bad
      | _ => exact me_bad
    | BinOp a op b p =>
      refine val rfl ?_
      unfold dE
      exact me_bin (op_binD c.K op) (he a) (he b)
    | UnaryOp op a p =>
      cases op with
      | Not => exact ⟨me_not c.K (he a), mt_not (ht a)⟩
      | USub => exact val rfl (me_un un_negD (he a))
      | _ => exact bad rfl
    | BoolOp op vs p =>
      exact ⟨dBool_ok he c.K vs, (dBoolT_ok ht vs).pt⟩
    | IfExp t a b p =>
      exact ⟨me_if (ht t) (he a) (he b), mt_if (ht t) (ht a) (ht b)⟩
    | Compare a ops bs p => exact ⟨dCmp_ok he c ops bs, dCmpT_ok he c ops bs⟩
    | Tuple es a p => exact val rfl (me_tup (dAx_ok he c.K es))
    | FormattedValue a cv f p =>
      refine val rfl ?_
      show PE X _ (tE k W (dFm (dE n C a) cv f))
      cases f with
      | some _ => exact me_bad
      | none =>
        show PE X _ (tE k W (if cv = -1 then uE (dE n C a) fm1 else badE))
        by_cases q : cv = -1
        · rw [if_pos q]
          subst q
          exact me_fm (he a)
        · rw [if_neg q]; exact me_bad
    | JoinedStr es p =>
      refine val rfl ?_
      match es with
      | [] => exact me_bad
      | [_] => exact me_bad
      | v1 :: v2 :: r => exact me_js (pjd_map he _)
    | List es p => exact val rfl (me_lst (dAx_ok he c.K es))
    | Dict ks vs pos => exact val rfl (dDict_ok he ks vs pos)
    | DictComp kx vx gs scope p =>
      refine val rfl ?_
      show PE X _ (tE k W (if C.tk.contains p.line = true then dDt (dE n) C kx vx gs scope else dDc (dE n) C kx vx gs scope))
      by_cases q : C.tk.contains p.line = true
      · rw [if_pos q]; exact (dDt_ok (fun X C W c e => dE_ok n X k C W c e) c kx vx gs scope p).1
      · rw [if_neg q]; exact (dDc_ok (fun X C W c e => dE_ok n X k C W c e) c kx vx gs scope p).1
    | Subscript a s p => exact val rfl (dSub_ok he c a s)
    | Call g args kws pos => exact val rfl (dCall_ok he c g args kws pos)
    | ListComp elt gs scope p => exact val rfl (dLc_ok (fun X C W c e => dE_ok n X k C W c e) c elt gs scope p).1
    | _ => exact bad rfl
end
open PySem PySem.Spec PyProof.Rows L2
/-- a, b = x, y: the names whose stores are exchanged; none: not told -/
def swP (C : Cn) (ts vs : List Expr) : Option (Option (List Str)) :=
  if (!(ts.length == 2 || ts.length == 3) || vs.length != ts.length) = true then some none else
  if (vs.any fun | .Starred .. => true | _ => false) = true then some none else
  let line := (ts.head?.map (·.pos.line)).getD 0
  let names := ts.filterMap fun
    | .Name id pos => if (C.sc.names.lookup id == some .local && pos.line == line) = true then some id else none
    | _ => none
  if (names.length != ts.length || names.eraseDups.length != names.length) = true then some none else
  if vs.all (foldedForSure 8) = true then some none else
  if vs.all (constantsAlone 8) = true then none else some (some names)
def isTup : Expr → Bool
  | .Tuple .. => true
  | .List .. => true
  | _ => false
def isTup2 : Expr → Bool
  | .Tuple .. => true
  | _ => false
def swC (C : Cn) (y : Str) (py : Pos) (e : Expr) : Bool := match e with
  | .ListComp _ _ s p => C.sc.names.lookup y == some .local && py.line == p.line && !(s.names.any fun (n, k) => n == y && (k == .local || k == .cell))
  | .DictComp _ _ _ s p => C.sc.names.lookup y == some .local && py.line == p.line && !(s.names.any fun (n, k) => n == y && (k == .local || k == .cell))
  | _ => false
def dSet (f : Expr → Ev) (C : Cn) (tg e : Expr) : Sf := match dT C tg with
  | some t => asgF (f e) (asgT t)
  | none => match tg with
    | .Subscript o i _ => if isSlice i = true then badS else asgF (f e) (gS (f o) (f i))
    | _ => badS
def dPar (f : Expr → Ev) (C : Cn) (names : List Str) (ts vs : List Expr) : Sf := match ts, vs with
  | [.Name x _, .Name y _], [_, _] => match slotOf C.N x, slotOf C.N y with
    | some i, some j => if names = [x, y] ∧ i ≠ j ∧ C.sc.names.lookup x = some .local ∧ C.sc.names.lookup y = some .local then parF [i, j] (dAs f vs) else badS
    | _, _ => badS
  | [.Name x _, .Name y _, .Name z _], [_, _, _] => match slotOf C.N x, slotOf C.N y, slotOf C.N z with
    | some i, some j, some l => if names = [x, y, z] ∧ i ≠ j ∧ i ≠ l ∧ j ≠ l ∧ C.sc.names.lookup x = some .local ∧ C.sc.names.lookup y = some .local ∧ C.sc.names.lookup z = some .local then parF [i, j, l] (dAs f vs) else badS
    | _, _, _ => badS
  | _, _ => badS
def dAsg (f : Expr → Ev) (C : Cn) (tg e : Expr) : Sf := match tg, e with
  | .Tuple ts _ _, .Tuple vs _ _ => match swP C ts vs with
    | some (some names) => dPar f C names ts vs
    | some none => dSet f C tg e
    | none => badS
  | .List .., _ => badS
  | _, _ => dSet f C tg e
def dAug (f : Expr → Ev) (C : Cn) (tg : Expr) (op : Operator) (e : Expr) : Sf := match tg with
  | .Name x _ => if locB C x = true then match slotOf C.N x with
      | some i => augF i (f e) (iaugOp op)
      | none => badS
    else badS
  | .Subscript o i _ => if isSlice i = true then badS else augS (f o) (f i) (f e) op
  | _ => badS
def dSs (f : Stmt → Sf) : List Stmt → Sf
  | [] => nextF
  | [s] => f s
  | s :: t :: r => seqF (f s) (dSs f (t :: r))
noncomputable def dS : Nat → Cn → Stmt → Sf
  | 0, _, _ => badS
  | n + 1, C, st => match st with
    | .Pass _ => nextF
    | .Break _ => bkF
    | .Continue _ => ctF
    | .Return o _ => match o with
      | some e => retF (dE n C e)
      | none => retNF
    | .Expr e _ => match e with
      | .Constant (.str _) _ _ => nextF
      | e => if isComp e = true then badS else dropF (dE n C e)
    | .If c a b _ => ifF (dE n C c) (dSs (dS n C) a) (dSs (dS n C) b)
    | .For tg it body els _ => match dT C tg with
      | some t => forF (dI (dE n C) C tg it) t (dSs (dS n C) body) (dSs (dS n C) els)
      | none => badS
    | .While c body els _ => whF (dE n C c) (dSs (dS n C) body) (dSs (dS n C) els)
    | .Assign ts e _ => match ts with
      | [tg] => dAsg (dE n C) C tg e
      | _ => badS
    | .AugAssign tg op e _ => dAug (dE n C) C tg op e
    | _ => badS
/-- a statement's world -/
structure StOk (X : Cx) (k : Kx) (C : Cn) (W : WX) : Prop extends CtxOk X k C W where
  pass : PassesOwn (model X.prog X.w) X.A X.env X.xe
  fnk : C.sc.kind = .function
section
variable {X : Cx} {k : Kx} {C : Cn} {W : WX}
theorem StOk.bk (c : StOk X k C W) : X.env.blockKind = .function := by
  unfold Env.blockKind
  rw [c.sc, c.fnk]
  rfl
theorem kind_eq (c : StOk X k C W) (x : Str) : X.env.kindOf x = C.sc.names.lookup x := by
  show X.env.scope.names.lookup x = _
  rw [c.sc]
theorem swP_ok (c : StOk X k C W) {ts vs : List Expr} {r : Option (List Str)} {a1 a2 : Nat} {p1 p2 : Pos} (h : swP C ts vs = some r) : swappedStores [.Tuple ts a1 p1] (.Tuple vs a2 p2) X.env = pure r := by
  have hk : (X.env.blockKind != .function) = false := by rw [c.bk]; rfl
  unfold swappedStores
  simp only [hk, kind_eq c, Bool.or_false]
  unfold swP at h
  by_cases q1 : (!(ts.length == 2 || ts.length == 3) || vs.length != ts.length) = true
  · rw [if_pos q1] at h; cases h
    rw [if_pos q1]
  rw [if_neg q1] at h
  rw [if_neg q1]
  by_cases q2 : (vs.any fun | .Starred .. => true | _ => false) = true
  · rw [if_pos q2] at h; cases h
    exact if_pos q2
  rw [if_neg q2] at h
  refine (if_neg q2).trans ?_
  dsimp only at h
  generalize (ts.filterMap fun
    | .Name id pos => if (C.sc.names.lookup id == some .local && pos.line == (ts.head?.map (·.pos.line)).getD 0) = true then some id else none
    | _ => none) = names at h ⊢
  by_cases q3 : (names.length != ts.length || names.eraseDups.length != names.length) = true
  · rw [if_pos q3] at h; cases h
    exact if_pos q3
  rw [if_neg q3] at h
  refine (if_neg q3).trans ?_
  by_cases q4 : vs.all (foldedForSure 8) = true
  · rw [if_pos q4] at h; cases h
    exact if_pos q4
  rw [if_neg q4] at h
  refine (if_neg q4).trans ?_
  by_cases q5 : vs.all (constantsAlone 8) = true
  · rw [if_pos q5] at h; cases h
  rw [if_neg q5] at h; cases h
  exact if_neg q5
theorem sw_none {tg e : Expr} (env : PySem.Env) (h : isTup tg = false ∨ isTup2 e = false) : swappedStores [tg] e env = pure none := by
  unfold swappedStores
  cases tg <;> first | rfl | (cases e <;> first | rfl | (rcases h with h | h <;> cases h))
theorem swS (c : StOk X k C W) {tg e : Expr} {l : Nat} (h : isComp e = false) : swapsWithSole [tg] e l X.env = pure false := by
  cases e <;> first | rfl | cases h
theorem asg_one {tg : Expr} {t : Tg} (h : dT C tg = some t) (env : PySem.Env) : (assignEach [tg] env).map (·.2) = [assign tg env] := by
  rw [dT_star h]; rfl
section
variable {n : Nat}
theorem dSet_ok (c : StOk X k C W) (tg e : Expr) (pos : Pos) (hw : swappedStores [tg] e X.env = pure none) : PS X (.Assign [tg] e pos) (tS k W (dSet (dE n C) C tg e)) := by
  have ce := c.toCtxOk
  have he := fun e => (dE_ok n X k C W ce e).1
  unfold dSet
  cases et : dT C tg with
  | some t =>
    dsimp only
    have gen : swapsWithSole [tg] e pos.line X.env = pure false → PS X (.Assign [tg] e pos) (tS k W (asgF (dE n C e) (asgT t))) := fun hs => ms_asg (he e) (dT_ok ce t tg et) hs hw (asg_one et X.env)
    cases q : isComp e with
    | false => exact gen (swS c q)
    | true =>
      cases e with
      | ListComp elt gs scope p =>
        cases t with
        | tp ts =>
          obtain ⟨es, a, p2, rfl, _⟩ := dT_tp et
          exact gen rfl
        | nm i =>
          obtain ⟨y, py, rfl, ly, sy⟩ := dT_nm et
          cases q : swC C y py (.ListComp elt gs scope p) with
          | true =>
            unfold swC at q
            dsimp only at q
            simp only [Bool.and_eq_true, Bool.not_eq_true', beq_iff_eq] at q
            obtain ⟨⟨q1, q2⟩, q3⟩ := q
            have q1' : X.env.scope.names.lookup y = some .local := by rw [c.sc]; exact q1
            cases n with
            | zero => exact ⟨fun pins s σ H N I ⟨F, h, env, sr, p⟩ => p.elim⟩
            | succ n =>
              refine (dLc_ok (fun X C W c e => dE_ok n X k C W c e) ce elt gs scope p).2 y py pos i (by rw [c.N]; exact slotOf_ok sy) q1' ?_
              exact sw_true (by rw [c.sc]; exact c.fnk) q1' (by rw [beq_iff_eq]; exact q2) q3
          | false =>
            refine gen ?_
            show swapsWith (.ListComp elt gs scope p) (some (.Name y py)) pos.line X.env = pure false
            unfold swapsWith
            unfold swC at q
            dsimp only at q
            simp only [c.bk, kind_eq c, Expr.pos]
            have q' : (ScopeKind.function == ScopeKind.function && C.sc.names.lookup y == some NameKind.local && py.line == p.line && !scope.names.any fun x => x.fst == y && (x.snd == NameKind.local || x.snd == NameKind.cell)) = false := by
              rw [← q]; rfl
            exact congrArg pure q'
      | DictComp kx vx gs scope p =>
        cases t with
        | tp ts =>
          obtain ⟨es, a, p2, rfl, _⟩ := dT_tp et
          exact gen rfl
        | nm i =>
          obtain ⟨y, py, rfl, ly, sy⟩ := dT_nm et
          cases q : swC C y py (.DictComp kx vx gs scope p) with
          | true =>
            unfold swC at q
            dsimp only at q
            simp only [Bool.and_eq_true, Bool.not_eq_true', beq_iff_eq] at q
            obtain ⟨⟨q1, q2⟩, q3⟩ := q
            have q1' : X.env.scope.names.lookup y = some .local := by rw [c.sc]; exact q1
            cases n with
            | zero => exact ⟨fun pins s σ H N I ⟨F, h, env, sr, p⟩ => p.elim⟩
            | succ n =>
              have sw := sw_trueD (kx := kx) (vx := vx) (gs := gs) (scope := scope) (pos := p) (py := py) (l := pos.line) (env := X.env) (by rw [c.sc]; exact c.fnk) q1' (by rw [beq_iff_eq]; exact q2) q3
              show PS X _ (tS k W (asgF (if C.tk.contains p.line = true then dDt (dE n) C kx vx gs scope else dDc (dE n) C kx vx gs scope) (asgT (.nm i))))
              by_cases qt : C.tk.contains p.line = true
              · rw [if_pos qt]; exact (dDt_ok (fun X C W c e => dE_ok n X k C W c e) ce kx vx gs scope p).2 y py pos i (by rw [c.N]; exact slotOf_ok sy) q1' sw
              · rw [if_neg qt]; exact (dDc_ok (fun X C W c e => dE_ok n X k C W c e) ce kx vx gs scope p).2 y py pos i (by rw [c.N]; exact slotOf_ok sy) q1' sw
          | false =>
            refine gen ?_
            show swapsWith (.DictComp kx vx gs scope p) (some (.Name y py)) pos.line X.env = pure false
            unfold swapsWith
            unfold swC at q
            dsimp only at q
            simp only [c.bk, kind_eq c, Expr.pos]
            have q' : (ScopeKind.function == ScopeKind.function && C.sc.names.lookup y == some NameKind.local && py.line == p.line && !scope.names.any fun x => x.fst == y && (x.snd == NameKind.local || x.snd == NameKind.cell)) = false := by
              rw [← q]; rfl
            exact congrArg pure q'
      | SetComp => exact ⟨fun pins s σ H N I ⟨F, h, env, sr, p⟩ => by cases n <;> exact p.elim⟩
      | _ => cases q
  | none =>
    dsimp only
    split
    · rename_i o i p
      by_cases q : isSlice i = true
      · rw [if_pos q]; exact ms_bad
      rw [if_neg q]
      have q := Bool.eq_false_iff.mpr q
      have gen : swapsWithSole [.Subscript o i p] e pos.line X.env = pure false → PS X (.Assign [.Subscript o i p] e pos) (tS k W (asgF (dE n C e) (gS (dE n C o) (dE n C i)))) := fun hs =>
        ms_asg (he e) (mg_sub (by have := c.un; omega) (he o) (he i) (fun v => by cases i <;> first | rfl | cases q)) hs hw rfl
      cases q2 : isComp e with
      | false => exact gen (swS c q2)
      | true =>
        cases e with
        | ListComp elt gs scope p => exact gen rfl
        | SetComp => exact ⟨fun pins s σ H N I ⟨F, h, env, sr, p⟩ => by cases n <;> exact p.elim⟩
        | DictComp kx vx gs scope p => exact gen rfl
        | _ => cases q2
    · exact ms_bad
theorem dPar_ok (c : StOk X k C W) (ts vs : List Expr) {names : List Str} {a1 a2 : Nat} {p1 p2 pos : Pos} (h : swP C ts vs = some (some names)) : PS X (.Assign [.Tuple ts a1 p1] (.Tuple vs a2 p2) pos) (tS k W (dPar (dE n C) C names ts vs)) := by
  have ce := c.toCtxOk
  have he := fun e => (dE_ok n X k C W ce e).1
  have hw := swP_ok c (a1 := a1) (a2 := a2) (p1 := p1) (p2 := p2) h
  unfold dPar
  split
  · rename_i x px y py a b
    split
    · rename_i i j e1 e2
      split
      · rename_i q
        obtain ⟨rfl, q1, q2, q3⟩ := q
        exact ms_par c.calm c.nd (by rw [c.N]; exact slotOf_ok e1) (by rw [c.N]; exact slotOf_ok e2) q1 (by rw [c.sc]; exact q2) (by rw [c.sc]; exact q3) (dAs_ok he _) hw rfl
      · exact ms_bad
    · exact ms_bad
  · rename_i x px y py z pz a b d
    split
    · rename_i i j l e1 e2 e3
      split
      · rename_i q
        obtain ⟨rfl, q1, q2, q3, q4, q5, q6⟩ := q
        exact ms_par3 c.calm c.nd (by rw [c.N]; exact slotOf_ok e1) (by rw [c.N]; exact slotOf_ok e2) (by rw [c.N]; exact slotOf_ok e3) q1 q2 q3 (by rw [c.sc]; exact q4) (by rw [c.sc]; exact q5) (by rw [c.sc]; exact q6) (dAs_ok he _) hw rfl
      · exact ms_bad
    · exact ms_bad
  · exact ms_bad
theorem dAsg_ok (c : StOk X k C W) (tg e : Expr) (pos : Pos) : PS X (.Assign [tg] e pos) (tS k W (dAsg (dE n C) C tg e)) := by
  unfold dAsg
  split
  · rename_i ts a1 p1 vs a2 p2
    split
    · rename_i names h
      exact dPar_ok c ts vs h
    · rename_i h
      exact dSet_ok c _ _ pos (swP_ok c h)
    · exact ms_bad
  · exact ms_bad
  · rename_i h1 h2
    refine dSet_ok c tg e pos (sw_none X.env ?_)
    cases tg with
    | List => exact (h1 _ _ rfl).elim
    | Tuple ts a p =>
      right
      cases e with
      | Tuple => exact (h2 _ _ _ _ _ _ rfl rfl).elim
      | _ => rfl
    | _ => exact .inl rfl
theorem dAug_ok (c : StOk X k C W) (tg : Expr) (op : Operator) (e : Expr) (pos : Pos) : PS X (.AugAssign tg op e pos) (tS k W (dAug (dE n C) C tg op e)) := by
  have ce := c.toCtxOk
  have he := fun e => (dE_ok n X k C W ce e).1
  unfold dAug
  split
  · rename_i x p
    by_cases q : locB C x = true
    · rw [if_pos q]
      split
      · rename_i i e1
        exact ms_aug c.K c.nd (by rw [c.N]; exact slotOf_ok e1) (ce.loc q).1 (he e) (ce.loc q).2
      · exact ms_bad
    · rw [if_neg q]; exact ms_bad
  · rename_i o i p
    by_cases q : isSlice i = true
    · rw [if_pos q]; exact ms_bad
    rw [if_neg q]
    have q := Bool.eq_false_iff.mpr q
    exact ms_augS c.K (by have := c.un; omega) (he o) (he i) (he e) (fun ov iv new => by cases i <;> first | rfl | cases q)
  · exact ms_bad
theorem dSs_ok {f : Stmt → Sf} (hf : ∀ st, PS X st (tS k W (f st))) : ∀ l : List Stmt, PSs X l (tS k W (dSs f l))
  | [] => ms_nil
  | [s] => ms_one (hf s)
  | s :: t :: r => ms_cons (hf s) (dSs_ok hf (t :: r))
theorem dS_ok (c : StOk X k C W) : ∀ (n : Nat) (st : Stmt), PS X st (tS k W (dS n C st))
  | 0, st => ms_bad
  | n + 1, st => by
    have ce := c.toCtxOk
    have he := fun e => (dE_ok n X k C W ce e).1
    have ht := fun e => (dE_ok n X k C W ce e).2
    have ih := dSs_ok (dS_ok c n)
    cases st with
    | Pass p => exact ms_pass
    | Break p => exact ms_break
    | Continue p => exact ms_continue
    | Return o p =>
      cases o with
      | none => exact ms_retN
      | some e => exact ms_ret (he e)
    | Expr e p =>
      show PS X _ (tS k W (match e with | .Constant (.str _) _ _ => nextF | e => if isComp e = true then badS else dropF (dE n C e)))
      split
      · exact PS.imp ps_doc fun N σ H ⟨F, h, env, sr, p⟩ => p F H σ .refl sr.rel sr.er
      · by_cases q : isComp e = true
        · rw [if_pos q]; exact ms_bad
        · rw [if_neg q]
          exact ms_expr (he e) (by cases e <;> first | rfl | exact absurd rfl q)
    | If t a b p => exact ms_if (ht t) (ih a) (ih b)
    | For tg it body els p =>
      show PS X _ (tS k W (match dT C tg with | some t => forF (dI (dE n C) C tg it) t (dSs (dS n C) body) (dSs (dS n C) els) | none => badS))
      split
      · rename_i t et
        by_cases q3 : isSet it = true
        · have e3 : dI (dE n C) C tg it = badI := by unfold dI; rw [if_pos q3]
          rw [e3]; exact ⟨fun pins s σ H N I ⟨F, h, env, sr, p⟩ => p.elim⟩
        exact ms_for (W0 := W) c.pass c.calm (dI_ok he ce tg it) (dT_ok ce t tg et) (ih body) (ih els) (fun v => set_folded (Bool.eq_false_iff.mpr q3) X.env v)
      · exact ms_bad
    | While t body els p => exact ms_while c.pass (ht t) (ih body) (ih els)
    | Assign ts e p =>
      show PS X _ (tS k W (match ts with | [tg] => dAsg (dE n C) C tg e | _ => badS))
      split
      · exact dAsg_ok c _ e p
      · exact ms_bad
    | AugAssign tg op e p => exact dAug_ok c tg op e p
    | _ => exact ms_bad
end
end
open PySem PySem.Spec PyProof.Rows L2
def runF : Fl → Res D
  | .nx _ h => .ok .non h
  | .rt d h => .ok d h
  | .exc e _ h => .exc e h
  | _ => .bad
@[simp] theorem runF_nx (env : Env) (h : Hs) : runF (.nx env h) = .ok .non h := rfl
@[simp] theorem runF_rt (d : D) (h : Hs) : runF (.rt d h) = .ok d h := rfl
@[simp] theorem runF_exc (e : Ex) (env : Env) (h : Hs) : runF (.exc e env h) = .exc e h := rfl
@[simp] theorem runF_bad : runF .bad = .bad := rfl
def callF (m : Nat) (s : Sf) (ds : List D) (h : Hs) : Res D := runF (s (ds.map some ++ List.replicate (m - ds.length) none) h)
theorem ER.begin {k : Kx} {F : List Addr} {H : Hp} {ds : List D} {vs : List V} (N : List Str) (d : DVs k.K F H ds vs) : ER k F H (L2.start N vs) (ds.map some ++ List.replicate (N.length - ds.length) none) := by
  have hl := d.len
  refine ⟨by unfold L2.start; simp [hl], fun i x e => ?_⟩
  by_cases hi : i < ds.length
  · rw [List.getElem?_append_left (by simpa using hi), List.getElem?_map] at e
    obtain ⟨y, ey, e⟩ := Option.map_eq_some_iff.mp e
    cases e
    obtain ⟨v, ev, dv⟩ := d.get ey
    refine ⟨v, ?_, dv⟩
    unfold L2.start
    rw [List.getElem?_append_left (by rw [List.length_map, ← hl]; exact hi), List.getElem?_map, ev]
    rfl
  · rw [List.getElem?_append_right (by simpa using hi), List.getElem?_replicate] at e
    split at e <;> cases e
section
variable {P : Program} {w : World} {K : PySem.W.Frag} {mg : Str → Option Value} {base : Heap} {k : Kx} {f : Addr} {fd : FuncData} {x qual : Str} {params : Arguments} {body : List Stmt} {scope : Scope} {dvs : List V} {kws : List (Str × V)} {j : Nat}
theorem fn_sound {C : Cn} {ps : List Str} {g : Fn} {sf : Sf} (F : FunD K x qual params body scope dvs kws f fd) (S : FnScope C.N ps scope) (hK : K = k.K) (hsc : C.sc = scope) (G : GOk P w K mg base k j C.fns C.kst C.bl) (fuel : Nat) (hs : dSs (dS fuel C) body = sf) (hn : g.n = ps.length)
    (gc : ∀ ds h, clos h.length ds → ds.length = g.n → Gc h (callF C.N.length sf ds h) (g.go ds h)) : FnOk P w K mg base (L2N.CX P w) (j + 1) f fd ps (spOf k g) := by
  refine F.ok S (fun vs H Q E q => q.1.trans hn) fun cdv A outer s H vs Q E hr q => ?_
  obtain ⟨hv, F0, h, ds, rl, dv, xd, p⟩ := q
  let X := cxOf (L2N.CX P w) P w K mg base C.N qual scope f cdv A outer s H E
  have ctx : StOk X k C (fun cls d _ H => E cls d H) := {
    K := hK
    un := by have := hr.un; show (A.deeper (envOfC qual scope s.heap.objs.size f cdv)).units + 64 < cLine; omega
    calm := rfl
    nd := S.nd
    N := rfl
    sc := hsc.symm
    st := fun _ _ => rfl
    tk := L2N.takes_of rfl rfl rfl rfl
    g := ⟨j, hr, G⟩
    pass := passes_of rfl
    fnk := by rw [hsc]; exact S.kind }
  refine ⟨tS k (fun cls d _ H => E cls d H) sf, by rw [← hs]; exact dSs_ok (dS_ok ctx fuel) body, F0, h, _, ⟨rl, ER.begin C.N dv, xd⟩, ?_⟩
  have cl := DVs.clo ds vs dv
  rw [rl.len] at cl
  have p2 := (gc ds h cl (by rw [dv.len]; exact hv)).post rl p
  unfold callF at p2
  cases e : sf (ds.map some ++ List.replicate (C.N.length - ds.length) none) h with
  | nx env' h' => rw [e] at p2; exact fun F' H' σ' s r er => p2 F' H' s r .non (by unfold DV; rfl)
  | rt d h' => rw [e] at p2; exact fun F' H' v s r dv => p2 F' H' s r v dv
  | exc y env' h' => rw [e] at p2; exact fun F' H' σ' cls dx s r er xr => p2 F' H' cls dx s r xr
  | bk env' h' => rw [e] at p2; exact p2.elim
  | ct env' h' => rw [e] at p2; exact p2.elim
  | bad => rw [e] at p2; exact p2.elim
theorem GOk.mono {i : Nat} {fns : List (Str × Fn)} {kst : List (Str × D)} {bl : List Str} (g : GOk P w K mg base k j fns kst bl) (h : j ≤ i) : GOk P w K mg base k i fns kst bl :=
  ⟨fun x f e => let ⟨ad, fd, ps, F, r⟩ := g.fns x f e; ⟨ad, fd, ps, F.mono h, r⟩, g.kst, g.bl⟩
theorem GOk.nil : GOk P w K mg base k j [] [] [] := ⟨fun _ _ e => (nomatch e), fun _ _ e => (nomatch e), fun _ e => Bool.noConfusion e⟩
theorem GOk.fn {fns : List (Str × Fn)} {kst : List (Str × D)} {bl : List Str} {ps : List Str} {y : Str} {g : Fn} (G : GOk P w K mg base k j fns kst bl) (F : FnOk P w K mg base (L2N.CX P w) j f fd ps (spOf k g)) (hm : mg y = some (.ref f)) (hk : PySem.W.keepIn K (.ref f) = true) (hb : Binds K fd ps []) :
    GOk P w K mg base k j ((y, g) :: fns) kst bl := by
  refine ⟨fun z u e => ?_, G.kst, G.bl⟩
  rw [List.lookup_cons] at e
  by_cases q : z = y
  · subst q
    rw [show (z == z) = true from beq_self_eq_true z] at e
    cases e
    exact ⟨f, fd, ps, F, hm, hk, hb⟩
  · rw [show (z == y) = false from by simpa using q] at e
    exact G.fns z u e
theorem GOk.cs {fns : List (Str × Fn)} {kst : List (Str × D)} {bl : List Str} {y : Str} {d : D} {u : Value} {v : V} (G : GOk P w K mg base k j fns kst bl) (hm : mg y = some u) (r : RelV v u) (dv : ∀ F H, DV k.K F H d v) :
    GOk P w K mg base k j fns ((y, d) :: kst) bl := by
  refine ⟨G.fns, fun z u' e => ?_, G.bl⟩
  rw [List.lookup_cons] at e
  by_cases q : z = y
  · subst q
    rw [show (z == z) = true from beq_self_eq_true z] at e
    cases e
    exact ⟨u, v, hm, r, dv⟩
  · rw [show (z == y) = false from by simpa using q] at e
    exact G.kst z u' e
theorem GOk.fr {fns : List (Str × Fn)} {kst : List (Str × D)} {bl : List Str} (G : GOk P w K mg base k j fns kst []) (h : ∀ x ∈ bl, mg x = none) : GOk P w K mg base k j fns kst bl :=
  ⟨G.fns, G.kst, fun x e => h x (by simpa using e)⟩
end
open PySem PySem.Spec PyProof.Rows L2
/-- a def by its own meaning -/
noncomputable def defn (n m : Nat) (s : Sf) : Fn := ⟨n, callF m s⟩
noncomputable def badFn (n : Nat) : Fn := ⟨n, fun _ _ => .bad⟩
/-- a def that calls itself, so many deep -/
noncomputable def recn (n m : Nat) (s : Fn → Sf) : Nat → Fn
  | 0 => badFn n
  | d + 1 => defn n m (s (recn n m s d))
@[simp] theorem defn_n (n m : Nat) (s : Sf) : (defn n m s).n = n := rfl
@[simp] theorem recn_n (n m : Nat) (s : Fn → Sf) (d : Nat) : (recn n m s d).n = n := by cases d <;> rfl
section
variable (P : Program) (w : World) (K : PySem.W.Frag) (mg : Str → Option Value) (base : Heap) (k : Kx)
def DefOk (j : Nat) (x : Str) (g : Fn) : Prop := ∃ ad fd ps, FnOk P w K mg base (L2N.CX P w) j ad fd ps (spOf k g) ∧ mg x = some (.ref ad) ∧ PySem.W.keepIn K (.ref ad) = true ∧ Binds K fd ps []
/-- what the top has left -/
structure Wd (fa : List He.Fa) (fn : List He.DefD) : Prop where
  d : ∀ (i : Nat) (d : He.DefD), fn[i]? = some d → ∃ fd, FunD K d.name d.qual d.params d.body d.scope (d.dvs K) (d.kws K) (He.fAd K d.at_) fd
  glo : ∀ (i : Nat) (x : Str), fa[i]? = some (.glo x) → mg x = some (.ref (He.ga K x))
  free : ∀ (i : Nat) (x : Str), fa[i]? = some (.free x) → mg x = none
  int : ∀ (i : Nat) (x : Str) (v : Int), fa[i]? = some (.int x v) → ∃ t, mg x = some (.int v t)
  str : ∀ (i : Nat) (x z : Str), fa[i]? = some (.str x z) → ∃ t, mg x = some (.str z t)
end
section
variable {P : Program} {w : World} {K : PySem.W.Frag} {mg : Str → Option Value} {base : Heap} {k : Kx} {j : Nat}
theorem DefOk.mono {i : Nat} {x : Str} {g : Fn} (h : DefOk P w K mg base k j x g) (l : j ≤ i) : DefOk P w K mg base k i x g :=
  let ⟨ad, fd, ps, F, r⟩ := h
  ⟨ad, fd, ps, F.mono l, r⟩
theorem GOk.df {fns : List (Str × Fn)} {kst : List (Str × D)} {bl : List Str} {y : Str} {g : Fn} (G : GOk P w K mg base k j fns kst bl) (D : DefOk P w K mg base k j y g) : GOk P w K mg base k j ((y, g) :: fns) kst bl :=
  let ⟨_, _, _, F, hm, hk, hb⟩ := D
  G.fn F hm hk hb
theorem GOk.ci {fns : List (Str × Fn)} {kst : List (Str × D)} {bl : List Str} {y : Str} {i : Int} (G : GOk P w K mg base k j fns kst bl) (h : ∃ t, mg y = some (.int i t)) : GOk P w K mg base k j fns ((y, .int i) :: kst) bl :=
  let ⟨t, e⟩ := h
  G.cs e (v := .int i) ⟨t, rfl⟩ fun _ _ => DV.mkInt
theorem GOk.ct {fns : List (Str × Fn)} {kst : List (Str × D)} {bl : List Str} {y z : Str} (G : GOk P w K mg base k j fns kst bl) (h : ∃ t, mg y = some (.str z t)) (hl : z.cps.toList.length ≤ lim) : GOk P w K mg base k j fns ((y, .str z.cps.toList) :: kst) bl :=
  let ⟨t, e⟩ := h
  G.cs e (v := .str z) ⟨t, rfl⟩ fun _ _ => by
    have q : z = (⟨z.cps.toList.toArray⟩ : Str) := rfl
    have := DV.mkStr (K := k.K) (F := ‹List Addr›) (H := ‹Hp›) hl
    rw [← q] at this
    exact this
variable {f : Addr} {fd : FuncData} {x qual : Str} {params : Arguments} {body : List Stmt} {scope : Scope}
theorem def_ok {C : Cn} {ps : List Str} {m : Nat} {sf : Sf} (F : FunD K x qual params body scope [] [] f fd) (hm : mg x = some (.ref f)) (S : FnScope C.N ps scope) (hK : K = k.K) (hsc : C.sc = scope) (G : GOk P w K mg base k j C.fns C.kst C.bl) (hs : dSs (dS 60 C) body = sf)
    (hN : C.N.length = m) (hb : ∀ (kV doc pm : Value) (an : Option Addr) (cdv ct : Value) (us : List Value), us.length = ps.length → bindArgs (PySem.W.fnOf x qual params body scope .none kV doc pm an cdv ct) ⟨us, []⟩ = pure (ps.zip us)) : DefOk P w K mg base k (j + 1) x (defn ps.length m sf) := by
  subst hN
  exact ⟨f, fd, ps, fn_sound F S hK hsc G 60 hs rfl fun _ _ _ _ => .keep _, hm, F.kp, F.bindsN hb⟩
theorem def_bad {N ps : List Str} (F : FunD K x qual params body scope [] [] f fd) (hm : mg x = some (.ref f)) (S : FnScope N ps scope)
    (hb : ∀ (kV doc pm : Value) (an : Option Addr) (cdv ct : Value) (us : List Value), us.length = ps.length → bindArgs (PySem.W.fnOf x qual params body scope .none kV doc pm an cdv ct) ⟨us, []⟩ = pure (ps.zip us)) : DefOk P w K mg base k (j + 1) x (badFn ps.length) :=
  ⟨f, fd, ps, F.ok S (fun vs H Q E q => q.1) fun cdv A outer s H vs Q E hr q => let ⟨_, _, _, _, _, _, _, p⟩ := q; p.elim, hm, F.kp, F.bindsN hb⟩
/-- a def that calls itself -/
theorem def_rec {C : Fn → Cn} {ps N : List Str} {m : Nat} {sf : Fn → Sf} (F : FunD K x qual params body scope [] [] f fd) (hm : mg x = some (.ref f)) (S : FnScope N ps scope) (hK : K = k.K) (hsc : ∀ g, (C g).sc = scope)
    (G : ∀ (g : Fn) (i : Nat), j ≤ i → DefOk P w K mg base k i x g → GOk P w K mg base k i (C g).fns (C g).kst (C g).bl) (hs : ∀ g, dSs (dS 60 (C g)) body = sf g)
    (hN : ∀ g, (C g).N = N) (hl : N.length = m) (hb : ∀ (kV doc pm : Value) (an : Option Addr) (cdv ct : Value) (us : List Value), us.length = ps.length → bindArgs (PySem.W.fnOf x qual params body scope .none kV doc pm an cdv ct) ⟨us, []⟩ = pure (ps.zip us)) :
    ∀ d : Nat, DefOk P w K mg base k (j + d + 1) x (recn ps.length m sf d)
  | 0 => def_bad F hm S hb
  | d + 1 => by
    have ih := def_rec F hm S hK hsc G hs hN hl hb d
    have g0 := G _ (j + d + 1) (by omega) ih
    exact def_ok F hm (by rw [hN]; exact S) hK (hsc _) g0 (hs _) (by rw [hN]; exact hl) hb
theorem Wd.of {fa : List He.Fa} {fn : List He.DefD} {h : Heap} (X : K.In h) (G : h.Ns mainGlobals mg) (c : He.SaysD fa fn K) : Wd K mg fa fn :=
  ⟨fun i d e => c.def_ i e, fun i x e => He.glo_ok X G (c.fact i e), fun i x e => He.free_ok X G (c.fact i e), fun i x v e => He.int_ok X G (c.fact i e), fun i x z e => He.str_ok X G (c.fact i e)⟩
/-- the law's call: a script that is read only -/
theorem law_sp {g : Fn} {ns : List Int} {a : Addr} {H : Hp} (hn : g.n = 1) (ho : Only H) (hS : SqL k.K H a (ns.map V.int)) (hx : k.xd = none) (hl : ∃ h', g.go [.ls (ns.map .int)] [] = .ok (.bl true) h') : spOf k g [.ref a] H (fun v _ => v = .bl true) fun _ _ _ => False := by
  obtain ⟨h', e⟩ := hl
  have hR : SqR k.K H a (ns.map V.int) := by
    rcases hS with (hS | hS) | hS
    · rcases ho a with z | ⟨o, xs, z⟩
      · rw [hS] at z; cases z
      · rw [hS] at z; cases z
    · exact .inl hS
    · exact .inr hS
  have hd : ∀ l : List Int, DVs k.K [] H (l.map D.int) (l.map V.int) := fun l => by
    induction l with
    | nil => exact DVs.nil
    | cons i l ih => exact DVs.cons DV.mkInt ih
  refine ⟨hn.symm, [], [], [.ls (ns.map .int)], ⟨rfl, List.nodup_nil, fun i c a e _ => by simp at e⟩, ?_, ?_, ?_⟩
  · refine DVs.cons ?_ DVs.nil
    unfold DV
    exact ⟨a, _, rfl, hR, hd ns⟩
  · unfold XD; rw [hx]; trivial
  · rw [e]
    intro F' H' st r v dv
    unfold DV at dv
    exact dv
theorem FnOk.nox {j : Nat} {fd : FuncData} {ps : List Str} {sp : Sp} (F : FnOk P w K mg base (L2N.CX P w) j f fd ps sp) : FnOk P w K mg base CX0 j f fd ps (fun vs H Q _ => sp vs H Q fun _ _ _ => False) :=
  ⟨fun vs H Q E q => F.len vs H Q _ q, fun A outer s H args us vs Q E hr he hb hv hs => codeAny_mono (F.run A outer s H args us vs Q (fun _ _ _ => False) hr he hb hv hs) fun r s' c => by
    cases r with
    | ok fl => cases fl <;> exact c
    | error e => exact c.elim fun _ c => c.elim fun _ c => c.elim fun _ c => c.elim fun _ c => c.elim fun _ c => c.2.2.2.2.2.2.2⟩
/-- one builtin more -/
theorem GOk.f1 {fns : List (Str × Fn)} {kst : List (Str × D)} {bl : List Str} {y : Str} (G : GOk P w K mg base k j fns kst bl) (h : mg y = none) : GOk P w K mg base k j fns kst (y :: bl) :=
  ⟨G.fns, G.kst, fun x hx => by
    rw [List.contains_cons] at hx
    rcases Bool.or_eq_true_iff.mp hx with q | q
    · rw [eq_of_beq q]; exact h
    · exact G.bl x q⟩
end
open PySem PySem.Spec PyProof.Rows L2
/-- a mark: what stands behind is not looked into -/
class KU : Type where
instance : KU := ⟨⟩
abbrev Kp {α : Sort u} {β : Sort v} (Q : α) (E : β) : Type := KU
def Res.wp {α : Type} (r : Res α) (Q : α → Hs → Prop) (E : Ex → Hs → Prop) [Kp Q E] : Prop := match r with
  | .ok a h => Q a h
  | .exc e h => E e h
  | .bad => False
structure Po where
  nx : Env → Hs → Prop
  bk : Env → Hs → Prop
  ct : Env → Hs → Prop
  rt : D → Hs → Prop
  ex : Ex → Env → Hs → Prop
def Fl.wp (f : Fl) (N : Po) [Kp N N] : Prop := match f with
  | .nx env h => N.nx env h
  | .bk env h => N.bk env h
  | .ct env h => N.ct env h
  | .rt d h => N.rt d h
  | .exc e env h => N.ex e env h
  | .bad => False
def wif (b : Bool) (A B : Prop) [Kp A B] : Prop := if b = true then A else B
theorem wp_ext {α : Type} {r : Res α} {Q Q' : α → Hs → Prop} {E : Ex → Hs → Prop} (h : ∀ a h, Q a h = Q' a h) : r.wp Q E = r.wp Q' E := by
  have e : Q = Q' := funext fun a => funext fun x => h a x
  subst e; rfl
theorem wif_t (A B : Prop) : wif true A B = A := id rfl
theorem wif_f (A B : Prop) : wif false A B = B := id rfl
theorem wif_i {b : Bool} {A B : Prop} (h1 : b = true → A) (h2 : b = false → B) : wif b A B := by
  cases b with
  | true => exact h1 rfl
  | false => exact h2 rfl
theorem wif_d {p : Prop} {_ : Decidable p} {A B : Prop} (h1 : p → A) (h2 : ¬ p → B) : wif (decide p) A B := wif_i (fun e => h1 (of_decide_eq_true e)) (fun e => h2 (of_decide_eq_false e))
/-- an answer that must be there -/
def wo {α : Type} (o : Option α) (Q : α → Prop) [Kp Q Q] : Prop := match o with
  | some a => Q a
  | none => False
theorem wo_ext {α : Type} {o : Option α} {Q Q' : α → Prop} (h : ∀ a, Q a = Q' a) : wo o Q = wo o Q' := by
  have e : Q = Q' := funext h
  subst e; rfl
theorem wo_some {α : Type} (a : α) (Q : α → Prop) : wo (some a) Q = Q a := id rfl
theorem wo_map {α β : Type} (o : Option α) (f : α → β) (Q : β → Prop) : wo (o.map f) Q = wo o (fun a => Q (f a)) := by cases o <;> rfl
def inD : D → Option Int
  | .int j => some j
  | _ => none
section
variable {α β : Type} {Q : α → Hs → Prop} {QD : D → Hs → Prop} {QL : List D → Hs → Prop} {QB : Bool → Hs → Prop} {E : Ex → Hs → Prop} {env : Env} {h : Hs} {N : Po}
theorem Res.wp_mono {r : Res α} {Q' : α → Hs → Prop} {E' : Ex → Hs → Prop} (p : r.wp Q E) (hq : ∀ a h, Q a h → Q' a h) (he : ∀ e h, E e h → E' e h) : r.wp Q' E' := by
  cases r with
  | ok a h => exact hq _ _ p
  | exc e h => exact he _ _ p
  | bad => exact p
theorem Res.wp_q {r : Res α} {Q' : α → Hs → Prop} (p : r.wp Q E) (hq : ∀ a h, Q a h → Q' a h) : r.wp Q' E := Res.wp_mono p hq fun _ _ x => x
theorem Fl.wp_mono {r : Fl} {N' : Po} (p : r.wp N) (h1 : ∀ env h, N.nx env h → N'.nx env h) (h2 : ∀ env h, N.bk env h → N'.bk env h) (h3 : ∀ env h, N.ct env h → N'.ct env h) (h4 : ∀ d h, N.rt d h → N'.rt d h) (h5 : ∀ e env h, N.ex e env h → N'.ex e env h) : r.wp N' := by
  cases r with
  | nx env h => exact h1 _ _ p
  | bk env h => exact h2 _ _ p
  | ct env h => exact h3 _ _ p
  | rt d h => exact h4 _ _ p
  | exc e env h => exact h5 _ _ _ p
  | bad => exact p
theorem w_ok (a : α) : (Res.ok a h).wp Q E = Q a h := id rfl
theorem w_exc (e : Ex) : (Res.exc e h : Res α).wp Q E = E e h := id rfl
theorem w_bind (r : Res β) (f : β → Hs → Res α) : (r.bind f).wp Q E = r.wp (fun a h1 => (f a h1).wp Q E) E := by cases r <;> rfl
theorem w_of (o : Option α) : (Res.of o h).wp Q E = wo o (fun a => Q a h) := by cases o <;> rfl
theorem w_cond {c : Prop} [Decidable c] {r : Res α} : (if c then r else Res.bad).wp Q E = (c ∧ r.wp Q E) := by
  by_cases hc : c
  · simp [hc]
  · simp [hc]; exact fun x => x
theorem w_kE (d : D) : (kE d env h).wp QD E = QD d h := id rfl
theorem w_vE (i : Nat) : (vE i env h).wp QD E = wo (env[i]?.join) (fun d => QD d h) := by
  unfold vE
  cases e : env[i]? with
  | none => rfl
  | some o => cases o <;> rfl
theorem w_bE (a b : Ev) (g : Hs → D → D → Res D) : (bE a b g env h).wp QD E = (a env h).wp (fun x h1 => (b env h1).wp (fun y h2 => (g h2 x y).wp QD E) E) E := by
  unfold bE; rw [w_bind]; refine wp_ext fun x h1 => ?_; rw [w_bind]
theorem w_uE (a : Ev) (g : Hs → D → Res D) : (uE a g env h).wp QD E = (a env h).wp (fun x h1 => (g h1 x).wp QD E) E := by
  unfold uE; rw [w_bind]
/-- a text -/
def jsK : D → (List Nat → Prop) → Prop
  | .str y, q => q y
  | _, _ => False
theorem jsK_s (y : List Nat) (q : List Nat → Prop) : jsK (.str y) q = q y := rfl
theorem w_js0 (acc : List Nat) : (jsE [] acc env h).wp QD E = QD (.str acc) h := rfl
theorem w_js1 (f : Ev) (fs : List Ev) (acc : List Nat) : (jsE (f :: fs) acc env h).wp QD E = (f env h).wp (fun x h1 => jsK x fun y => acc.length + y.length ≤ lim ∧ (jsE fs (acc ++ y) env h1).wp QD E) E := by
  rw [jsE, w_bind]
  refine wp_ext fun x h1 => ?_
  cases x with
  | str y => show (if _ then _ else _ : Res D).wp QD E = _; rw [w_cond]; rfl
  | _ => rfl
theorem w_tst (a : Ev) : (tst a env h).wp QB E = (a env h).wp (fun x h1 => wo (truth h1 x) (fun b => QB b h1)) E := by
  unfold tst; rw [w_bind]; refine wp_ext fun x h1 => ?_; rw [w_of]
theorem w_andE (a b : Ev) : (andE a b env h).wp QD E = (a env h).wp (fun x h1 => wo (truth h1 x) (fun t => wif t ((b env h1).wp QD E) (QD x h1))) E := by
  unfold andE; rw [w_bind]; refine wp_ext fun x h1 => ?_; rw [w_bind, w_of]; refine wo_ext fun t => ?_; cases t <;> rfl
theorem w_orE (a b : Ev) : (orE a b env h).wp QD E = (a env h).wp (fun x h1 => wo (truth h1 x) (fun t => wif t (QD x h1) ((b env h1).wp QD E))) E := by
  unfold orE; rw [w_bind]; refine wp_ext fun x h1 => ?_; rw [w_bind, w_of]; refine wo_ext fun t => ?_; cases t <;> rfl
theorem w_notE (a : Ev) : (notE a env h).wp QD E = (tst a env h).wp (fun t h1 => QD (.bl (!t)) h1) E := by
  unfold notE; rw [w_bind]; rfl
theorem w_ifE (t a b : Ev) : (ifE t a b env h).wp QD E = (tst t env h).wp (fun c h1 => wif c ((a env h1).wp QD E) ((b env h1).wp QD E)) E := by
  unfold ifE; rw [w_bind]; refine wp_ext fun c h1 => ?_; cases c <;> rfl
theorem w_chE (a b c : Ev) (o o' : CmpOp) : (chE a b c o o' env h).wp QD E = (a env h).wp (fun x h1 => (b env h1).wp (fun y h2 => wo (cmpOp o h2 x y) (fun t => wif t ((c env h2).wp (fun z h4 => wo (cmpOp o' h4 y z) (fun t => QD (.bl t) h4)) E) (QD (.bl false) h2))) E) E := by
  unfold chE; rw [w_bind]; refine wp_ext fun x h1 => ?_; rw [w_bind]; refine wp_ext fun y h2 => ?_; rw [w_bind]; unfold cmpR; rw [w_of, wo_map]; refine wo_ext fun t => ?_
  cases t with
  | false => rfl
  | true => show ((c env h2).bind _).wp QD E = _; rw [w_bind, wif_t]; refine wp_ext fun z h4 => ?_; rw [w_of, wo_map]
theorem w_ch3E (a b c d : Ev) (o o' o'' : CmpOp) : (ch3E a b c d o o' o'' env h).wp QD E = (a env h).wp (fun x h1 => (b env h1).wp (fun y h2 => wo (cmpOp o h2 x y) (fun t => wif t ((c env h2).wp (fun z h4 => wo (cmpOp o' h4 y z) (fun t => wif t ((d env h4).wp (fun w h6 => wo (cmpOp o'' h6 z w) (fun t => QD (.bl t) h6)) E) (QD (.bl false) h4))) E) (QD (.bl false) h2))) E) E := by
  unfold ch3E; rw [w_bind]; refine wp_ext fun x h1 => ?_; rw [w_bind]; refine wp_ext fun y h2 => ?_; rw [w_bind]; unfold cmpR; rw [w_of, wo_map]; refine wo_ext fun t => ?_
  cases t with
  | false => rfl
  | true =>
    show ((c env h2).bind _).wp QD E = _
    rw [w_bind, wif_t]; refine wp_ext fun z h4 => ?_; rw [w_bind, w_of, wo_map]; refine wo_ext fun t => ?_
    cases t with
    | false => rfl
    | true => show ((d env h4).bind _).wp QD E = _; rw [w_bind, wif_t]; refine wp_ext fun w h6 => ?_; rw [w_of, wo_map]
theorem w_cmpR (o : CmpOp) (x y : D) : (cmpR o h x y).wp QD E = wo (cmpOp o h x y) (fun t => QD (.bl t) h) := by
  unfold cmpR; rw [w_of, wo_map]
theorem w_aNil : (aNil env h).wp QL E = QL [] h := id rfl
theorem w_aCons (a : Ev) (r : Av) : (aCons a r env h).wp QL E = (a env h).wp (fun x h1 => (r env h1).wp (fun xs h2 => QL (x :: xs) h2) E) E := by
  unfold aCons; rw [w_bind]; refine wp_ext fun x h1 => ?_; rw [w_bind]; rfl
theorem w_aStar (a : Ev) (r : Av) : (aStar a r env h).wp QL E = (a env h).wp (fun x h1 => wo (seqH h1 x) (fun xs => (r env h1).wp (fun ys h2 => QL (xs ++ ys) h2) E)) E := by
  unfold aStar; rw [w_bind]; refine wp_ext fun x h1 => ?_
  cases e : seqH h1 x with
  | none => rfl
  | some xs => show ((r env h1).bind _).wp QL E = _; rw [w_bind]; rfl
theorem w_tupE (a : Av) : (tupE a env h).wp QD E = (a env h).wp (fun xs h1 => xs.length ≤ lim ∧ QD (.tup xs) h1) E := by
  unfold tupE; rw [w_bind]; refine wp_ext fun x h1 => ?_; rw [w_cond, w_ok]
theorem w_lstE (a : Av) : (lstE a env h).wp QD E = (a env h).wp (fun xs h1 => xs.length ≤ lim ∧ QD (.ref h1.length) (h1 ++ [.lst xs])) E := by
  unfold lstE; rw [w_bind]; refine wp_ext fun x h1 => ?_; rw [w_cond, w_ok]
theorem w_cE (as : Av) (g : BF) : (cE as g env h).wp QD E = (as env h).wp (fun xs h1 => (g h1 xs).wp QD E) E := by
  unfold cE; rw [w_bind]
theorem w_isiE (a : Ev) (T : String) : (isiE a T env h).wp QD E = (a env h).wp (fun x h1 => wo (isiT T h1 x) (fun b => QD (.bl b) h1)) E := by
  unfold isiE; rw [w_bind]; refine wp_ext fun x h1 => ?_; rw [w_of, wo_map]
theorem w_ssE (a : Ev) : (ssE a env h).wp QD E = (a env h).wp (fun x h1 => (ssR h1 (refS h1 x)).wp QD E) E := by
  unfold ssE; rw [w_bind]
theorem w_lsE (a : Ev) : (lsE a env h).wp QD E = (a env h).wp (fun x h1 => (lsR h1 (refL h1 x)).wp QD E) E := by
  unfold lsE; rw [w_bind]
theorem w_fE (as : Av) (f : Fn) : (fE as f env h).wp QD E = (as env h).wp (fun xs h1 => xs.length = f.n ∧ (f.go xs h1).wp QD E) E := by
  unfold fE; rw [w_bind]; refine wp_ext fun x h1 => ?_; rw [w_cond]
theorem w_mE (a : Ev) (as : Av) (m : MF) : (mE a as m env h).wp QD E = (a env h).wp (fun x h1 => m.ty h1 x = true ∧ (as env h1).wp (fun xs h2 => (m.go h2 x xs).wp QD E) E) E := by
  unfold mE; rw [w_bind]; refine wp_ext fun x h1 => ?_
  by_cases c : m.ty h1 x = true
  · rw [if_pos c, w_bind]; simp [c]
  · rw [if_neg c]; simp [c]; exact fun x => x
/-- bounds of a slice -/
theorem w_slE (a : Ev) (lo hi : Option Ev) : (slE a lo hi env h).wp QD E = (a env h).wp (fun x h1 => (ptE lo env h1).wp (fun l h2 => (ptE hi env h2).wp (fun u h3 => (slOp h3 x l u).wp QD E) E) E) E := by
  unfold slE; rw [w_bind]; refine wp_ext fun x h1 => ?_; rw [w_bind]; refine wp_ext fun l h2 => ?_; rw [w_bind]
theorem w_ptN {Qp : Option Int → Hs → Prop} : (ptE none env h).wp Qp E = Qp none h := id rfl
theorem w_ptS {Qp : Option Int → Hs → Prop} (l : Ev) : (ptE (some l) env h).wp Qp E = (l env h).wp (fun i h2 => wo (inD i) (fun j => Qp (some j) h2)) E := by
  unfold ptE; rw [w_bind]; refine wp_ext fun i h2 => ?_
  cases i <;> rfl
theorem w_newD (t : Bool) : (newD t env h).wp QD E = QD (.ref h.length) (h ++ [.dic t false []]) := id rfl
theorem w_nextF : (nextF env h).wp N = N.nx env h := id rfl
theorem w_bkF : (bkF env h).wp N = N.bk env h := id rfl
theorem w_ctF : (ctF env h).wp N = N.ct env h := id rfl
theorem w_seqF (s t : Sf) : (seqF s t env h).wp N = (s env h).wp { N with nx := fun env1 h1 => (t env1 h1).wp N } := by
  unfold seqF
  cases s env h <;> rfl
theorem w_cut {s t : Sf} (M : Env → Hs → Prop) (h1 : (s env h).wp { N with nx := M }) (h2 : ∀ env h, M env h → (t env h).wp N) : (seqF s t env h).wp N := by
  rw [w_seqF]
  exact Fl.wp_mono h1 h2 (fun _ _ x => x) (fun _ _ x => x) (fun _ _ x => x) (fun _ _ _ x => x)
theorem w_fl (r : Res α) (f : α → Hs → Fl) : (r.fl env f).wp N = r.wp (fun a h1 => (f a h1).wp N) (fun e h1 => N.ex e env h1) := by cases r <;> rfl
theorem w_dropF (a : Ev) : (dropF a env h).wp N = (a env h).wp (fun _ h1 => N.nx env h1) (fun e h1 => N.ex e env h1) := by
  unfold dropF; rw [w_fl]; rfl
theorem w_retF (a : Ev) : (retF a env h).wp N = (a env h).wp (fun d h1 => N.rt d h1) (fun e h1 => N.ex e env h1) := by
  unfold retF; rw [w_fl]; rfl
theorem w_retNF : (retNF env h).wp N = N.rt .non h := id rfl
theorem w_ifF (c : Ev) (s t : Sf) : (ifF c s t env h).wp N = (tst c env h).wp (fun b h1 => wif b ((s env h1).wp N) ((t env h1).wp N)) (fun e h1 => N.ex e env h1) := by
  unfold ifF; rw [w_fl]; refine wp_ext fun b h1 => ?_; cases b <;> rfl
theorem w_asgF (a : Ev) (g : Gv) : (asgF a g env h).wp N = (a env h).wp (fun d h1 => (g d env h1).wp (fun env' h2 => N.nx env' h2) (fun e h1 => N.ex e env h1)) (fun e h1 => N.ex e env h1) := by
  unfold asgF; rw [w_fl]; refine wp_ext fun d h1 => ?_; rw [w_fl]; rfl
theorem w_nm {Qe : Env → Hs → Prop} (i : Nat) (d : D) : (asgT (.nm i) d env h).wp Qe E = Qe (env.set i (some d)) h := by unfold asgT; rfl
theorem w_tp {Qe : Env → Hs → Prop} (ts : List Tg) (d : D) : (asgT (.tp ts) d env h).wp Qe E = wo (seqH h d) (fun xs => xs.length = ts.length ∧ (asgTs ts xs env h).wp Qe E) := by
  unfold asgT
  cases seqH h d with
  | none => rfl
  | some xs => show (if xs.length = ts.length then asgTs ts xs env h else .bad).wp Qe E = _; rw [w_cond]; rfl
theorem w_ts0 {Qe : Env → Hs → Prop} : (asgTs [] [] env h).wp Qe E = Qe env h := by unfold asgTs; rfl
theorem w_ts1 {Qe : Env → Hs → Prop} (t : Tg) (ts : List Tg) (d : D) (ds : List D) : (asgTs (t :: ts) (d :: ds) env h).wp Qe E = (asgT t d env h).wp (fun env' h' => (asgTs ts ds env' h').wp Qe E) E := by
  conv => lhs; unfold asgTs
  rw [w_bind]
theorem w_gS {Qe : Env → Hs → Prop} (o i : Ev) (d : D) : (gS o i d env h).wp Qe E = (o env h).wp (fun x h1 => (i env h1).wp (fun y h2 => wo (setOp h2 x y d) (fun h3 => Qe env h3)) E) E := by
  unfold gS; rw [w_bind]; refine wp_ext fun x h1 => ?_; rw [w_bind]; refine wp_ext fun y h2 => ?_
  cases setOp h2 x y d <;> rfl
theorem w_augF (i : Nat) (a : Ev) (g : Hs → D → D → Res D) : (augF i a g env h).wp N = wo (env[i]?.join) (fun x => (a env h).wp (fun y h1 => (g h1 x y).wp (fun z h2 => N.nx (env.set i (some z)) h2) (fun e h1 => N.ex e env h1)) (fun e h1 => N.ex e env h1)) := by
  unfold augF
  cases e : env[i]? with
  | none => rfl
  | some o =>
    cases o with
    | none => rfl
    | some x =>
      rw [show (some (some x) : Option (Option D)).join = some x from rfl, wo_some]
      show ((a env h).fl env _).wp N = _
      rw [w_fl]; refine wp_ext fun y h1 => ?_; rw [w_fl]; rfl
theorem w_augS (o i a : Ev) (op : Operator) : (augS o i a op env h).wp N = (o env h).wp (fun x h1 => (i env h1).wp (fun y h2 => (getOp h2 x y).wp (fun z h3 => (a env h3).wp (fun w h4 => (iaugOp op h4 z w).wp (fun u h5 => wo (setOp h5 x y u) (fun h6 => N.nx env h6)) (fun e h1 => N.ex e env h1)) (fun e h1 => N.ex e env h1)) (fun e h1 => N.ex e env h1)) (fun e h1 => N.ex e env h1)) (fun e h1 => N.ex e env h1) := by
  unfold augS; rw [w_fl]; refine wp_ext fun x h1 => ?_; rw [w_fl]; refine wp_ext fun y h2 => ?_; rw [w_fl]; refine wp_ext fun z h3 => ?_; rw [w_fl]; refine wp_ext fun w h4 => ?_; rw [w_fl]; refine wp_ext fun u h5 => ?_
  cases setOp h5 x y u <;> rfl
theorem w_parF (is : List Nat) (as : Av) : (parF is as env h).wp N = (as env h).wp (fun ds h1 => wo (parSet is ds env) (fun env' => N.nx env' h1)) (fun e h1 => N.ex e env h1) := by
  unfold parF; rw [w_fl]; refine wp_ext fun ds h1 => ?_
  cases parSet is ds env <;> rfl
theorem w_defn (n m : Nat) (s : Sf) (ds : List D) : ((defn n m s).go ds h).wp QD E = (s (ds.map some ++ List.replicate (m - ds.length) none) h).wp ⟨fun _ h => QD .non h, fun _ _ => False, fun _ _ => False, QD, fun e _ h => E e h⟩ := by
  show (callF m s ds h).wp QD E = _
  unfold callF
  cases s (ds.map some ++ List.replicate (m - ds.length) none) h <;> rfl
end
section
variable {Q : Fl → Prop} {N : Po} {E : Ex → Hs → Prop} {env : Env} {h : Hs}
theorem iter_wp {S R : Type} {f : S → S ⊕ R} {bad : R} (T : R → Prop) (I : Nat → S → Prop) (step : ∀ n s, I n s → match f s with
    | .inl s' => ∃ m, m < n ∧ I m s'
    | .inr r => T r) : ∀ (n : Nat) (s : S), I n s → T (iter f bad s) := by
  intro n
  induction n using Nat.strongRecOn with
  | _ n ih =>
    intro s hs
    rw [iter_eq]
    have z := step n s hs
    cases e : f s with
    | inl s' =>
      rw [e] at z
      obtain ⟨m, hm, hI⟩ := z
      exact ih m hm s' hI
    | inr r => rw [e] at z; exact z
/-- what a walk tells: xs, as long as J stands -/
def Tells (src : Src) (xs : List D) (J : Hs → Prop) : Prop := ∀ i h, J h → src.nxt i h = some xs[i]?
/-- for x in xs: I i behind i of them -/
theorem w_for {s : Sv} {t : Tg} {b els : Sf} (xs : List D) (J : Hs → Prop) (I : Nat → Env → Hs → Prop)
    (hs : (s env h).wp (fun src h1 => Tells src xs J ∧ I 0 env h1) (fun e h1 => N.ex e env h1)) (hJ : ∀ i env h, I i env h → J h)
    (hb : ∀ i x env h, xs[i]? = some x → I i env h → (asgT t x env h).wp (fun env1 h1 => (b env1 h1).wp ⟨I (i + 1), N.nx, I (i + 1), N.rt, N.ex⟩) (fun _ _ => False))
    (he : ∀ env h, I xs.length env h → (els env h).wp N) : (forF s t b els env h).wp N := by
  unfold forF
  rw [w_fl]
  refine Res.wp_q hs fun src h1 q => ?_
  refine iter_wp (fun fl : Fl => fl.wp N) (fun n s => ∃ i, s.1 = i ∧ n + i = xs.length ∧ I i s.2.1 s.2.2) (fun n s ⟨i, e1, e2, hI⟩ => ?_) xs.length (0, env, h1) ⟨0, rfl, by omega, q.2⟩
  obtain ⟨j, env1, h2⟩ := s
  subst e1
  unfold forStep
  have et := q.1 j h2 (hJ _ _ _ hI)
  dsimp only at et hI ⊢
  rw [et]
  cases ex : xs[j]? with
  | none =>
    have : j = xs.length := by
      have := List.getElem?_eq_none_iff.mp ex
      omega
    subst this
    exact he _ _ hI
  | some x =>
    have hl : j < xs.length := (List.getElem?_eq_some_iff.mp ex).1
    have z := hb j x env1 h2 ex hI
    dsimp only
    cases ea : asgT t x env1 h2 with
    | ok env3 h3 =>
      rw [ea] at z
      dsimp only
      have z : (b env3 h3).wp _ := z
      cases eb : b env3 h3 with
      | nx env4 h4 => rw [eb] at z; exact ⟨n - 1, by omega, j + 1, rfl, by omega, z⟩
      | ct env4 h4 => rw [eb] at z; exact ⟨n - 1, by omega, j + 1, rfl, by omega, z⟩
      | bk env4 h4 => rw [eb] at z; exact z
      | rt d h4 => rw [eb] at z; exact z
      | exc e env4 h4 => rw [eb] at z; exact z
      | bad => rw [eb] at z; exact z
    | exc e h3 => rw [ea] at z; exact z.elim
    | bad => rw [ea] at z; exact z.elim
/-- while c: I n, n falls -/
theorem w_while {c : Ev} {b els : Sf} (I : Nat → Env → Hs → Prop) (n : Nat) (h0 : I n env h)
    (hb : ∀ n env h, I n env h → (tst c env h).wp (fun t h1 => wif t ((b env h1).wp ⟨fun env h => ∃ m, m < n ∧ I m env h, N.nx, fun env h => ∃ m, m < n ∧ I m env h, N.rt, N.ex⟩) ((els env h1).wp N)) (fun e h1 => N.ex e env h1)) : (whF c b els env h).wp N := by
  unfold whF
  refine iter_wp (fun fl : Fl => fl.wp N) (fun n s => I n s.1 s.2) (fun n s hI => ?_) n (env, h) h0
  obtain ⟨env1, h1⟩ := s
  have z := hb n env1 h1 hI
  unfold whStep
  dsimp only
  cases e : tst c env1 h1 with
  | ok t h2 =>
    rw [e] at z
    cases t with
    | true =>
      have z : (b env1 h2).wp _ := z
      dsimp only
      cases eb : b env1 h2 with
      | nx env4 h4 => rw [eb] at z; exact z
      | ct env4 h4 => rw [eb] at z; exact z
      | bk env4 h4 => rw [eb] at z; exact z
      | rt d h4 => rw [eb] at z; exact z
      | exc e env4 h4 => rw [eb] at z; exact z
      | bad => rw [eb] at z; exact z
    | false => exact z
  | exc e' h2 => rw [e] at z; exact z
  | bad => rw [e] at z; exact z
/-- [e for t in xs if c] -/
theorem w_lc {QD : D → Hs → Prop} {s : Sv} {t : Tg} {c : Option Ev} {e : Ev} {vs : List Nat} (xs : List D) (J : Hs → Prop) (I : Nat → List D → Hs → Prop)
    (hs : (s env h).wp (fun src h1 => Tells src xs J ∧ I 0 [] h1) E) (hJ : ∀ i acc h, I i acc h → J h) (hl : ∀ i acc h, I i acc h → acc.length < lim + 1)
    (hb : ∀ i x acc h, xs[i]? = some x → I i acc h → (asgT t x (wipeE env vs) h).wp (fun env1 h1 => (lcC c env1 h1).wp (fun b h2 => wif b ((e env1 h2).wp (fun y h3 => acc.length < lim ∧ I (i + 1) (acc ++ [y]) h3) (fun _ _ => False)) (I (i + 1) acc h2)) (fun _ _ => False)) (fun _ _ => False))
    (he : ∀ acc h, I xs.length acc h → QD (.ref h.length) (h ++ [.lst acc])) : (lcE s t c e vs env h).wp QD E := by
  unfold lcE
  rw [w_bind]
  refine Res.wp_q hs fun src h1 q => ?_
  rw [w_bind]
  refine iter_wp (fun r : Res (List D) => Res.wp r (fun (a : List D) h1 => (Res.ok (D.ref h1.length) (h1 ++ [Cell.lst a])).wp QD E) E) (fun n s => ∃ i, s.1 = i ∧ n + i = xs.length ∧ I i s.2.1 s.2.2) (fun n s ⟨i, e1, e2, hI⟩ => ?_) xs.length (0, [], h1) ⟨0, rfl, by omega, q.2⟩
  obtain ⟨j, acc, h2⟩ := s
  subst e1
  unfold lcStep
  have et := q.1 j h2 (hJ _ _ _ hI)
  dsimp only at et hI ⊢
  rw [et]
  cases ex : xs[j]? with
  | none =>
    have : j = xs.length := by
      have := List.getElem?_eq_none_iff.mp ex
      omega
    subst this
    exact he _ _ hI
  | some x =>
    have hl : j < xs.length := (List.getElem?_eq_some_iff.mp ex).1
    have z := hb j x acc h2 ex hI
    dsimp only
    cases ea : asgT t x (wipeE env vs) h2 with
    | ok env3 h3 =>
      rw [ea] at z
      dsimp only
      have z : (lcC c env3 h3).wp _ _ := z
      unfold lcTurn
      cases eb : lcC c env3 h3 with
      | ok b h4 =>
        rw [eb] at z
        cases b with
        | false => exact ⟨n - 1, by omega, j + 1, rfl, by omega, z⟩
        | true =>
          have z : (e env3 h4).wp _ _ := z
          dsimp only
          cases ee : e env3 h4 with
          | ok y h5 =>
            rw [ee] at z
            obtain ⟨z1, z2⟩ := z
            dsimp only
            rw [if_pos z1]
            exact ⟨n - 1, by omega, j + 1, rfl, by omega, z2⟩
          | exc e h3 => rw [ee] at z; exact z.elim
          | bad => rw [ee] at z; exact z.elim
      | exc e h3 => rw [eb] at z; exact z.elim
      | bad => rw [eb] at z; exact z.elim
    | exc e h3 => rw [ea] at z; exact z.elim
    | bad => rw [ea] at z; exact z.elim
theorem w_lcN {QB : Bool → Hs → Prop} : (lcC none env h).wp QB E = QB true h := id rfl
theorem w_lcS {QB : Bool → Hs → Prop} (c : Ev) : (lcC (some c) env h).wp QB E = (tst c env h).wp QB E := id rfl
/-- {k: v for t in xs if c} -/
theorem w_dc {QD : D → Hs → Prop} {s : Sv} {t : Tg} {c : Option Ev} {ek ev : Ev} {vs : List Nat} (xs : List D) (J : Hs → Prop) (I : Nat → List (D × D) → Hs → Prop)
    (hs : (s env h).wp (fun src h1 => Tells src xs J ∧ I 0 [] h1) E) (hJ : ∀ i acc h, I i acc h → J h)
    (hb : ∀ i x acc h, xs[i]? = some x → I i acc h → (asgT t x (wipeE env vs) h).wp (fun env1 h1 => (lcC c env1 h1).wp (fun b h2 => wif b ((ek env1 h2).wp (fun y h3 => (ev env1 h3).wp (fun z h4 => (k1 y = true ∧ acc.length < lim) ∧ I (i + 1) (dput acc y z) h4) (fun _ _ => False)) (fun _ _ => False)) (I (i + 1) acc h2)) (fun _ _ => False)) (fun _ _ => False))
    (he : ∀ acc h, I xs.length acc h → QD (.ref h.length) (h ++ [.dic false false acc])) : (dcE s t c ek ev vs env h).wp QD E := by
  unfold dcE
  rw [w_bind]
  refine Res.wp_q hs fun src h1 q => ?_
  rw [w_bind]
  refine iter_wp (fun r : Res (List (D × D)) => Res.wp r (fun (a : List (D × D)) h1 => (Res.ok (D.ref h1.length) (h1 ++ [Cell.dic false false a])).wp QD E) E) (fun n s => ∃ i, s.1 = i ∧ n + i = xs.length ∧ I i s.2.1 s.2.2) (fun n s ⟨i, e1, e2, hI⟩ => ?_) xs.length (0, [], h1) ⟨0, rfl, by omega, q.2⟩
  obtain ⟨j, acc, h2⟩ := s
  subst e1
  unfold dcStep
  have et := q.1 j h2 (hJ _ _ _ hI)
  dsimp only at et hI ⊢
  rw [et]
  cases ex : xs[j]? with
  | none =>
    have : j = xs.length := by
      have := List.getElem?_eq_none_iff.mp ex
      omega
    subst this
    exact he _ _ hI
  | some x =>
    have hl : j < xs.length := (List.getElem?_eq_some_iff.mp ex).1
    have z := hb j x acc h2 ex hI
    dsimp only
    cases ea : asgT t x (wipeE env vs) h2 with
    | ok env3 h3 =>
      rw [ea] at z
      dsimp only
      have z : (lcC c env3 h3).wp _ _ := z
      unfold dcTurn
      cases eb : lcC c env3 h3 with
      | ok b h4 =>
        rw [eb] at z
        cases b with
        | false => exact ⟨n - 1, by omega, j + 1, rfl, by omega, z⟩
        | true =>
          have z : (ek env3 h4).wp _ _ := z
          dsimp only
          cases ee : ek env3 h4 with
          | ok y h5 =>
            rw [ee] at z
            have z : (ev env3 h5).wp _ _ := z
            dsimp only
            cases ef : ev env3 h5 with
            | ok z' h6 =>
              rw [ef] at z
              obtain ⟨z1, z2⟩ := z
              dsimp only
              rw [if_pos z1]
              exact ⟨n - 1, by omega, j + 1, rfl, by omega, z2⟩
            | exc e h3 => rw [ef] at z; exact z.elim
            | bad => rw [ef] at z; exact z.elim
          | exc e h3 => rw [ee] at z; exact z.elim
          | bad => rw [ee] at z; exact z.elim
      | exc e h3 => rw [eb] at z; exact z.elim
      | bad => rw [eb] at z; exact z.elim
    | exc e h3 => rw [ea] at z; exact z.elim
    | bad => rw [ea] at z; exact z.elim
end
open PySem PySem.Spec PyProof.Rows L2
theorem kit_NoneType_str : kitB "NoneType" "str" = some false := by decide +kernel
theorem kit_NoneType_int : kitB "NoneType" "int" = some false := by decide +kernel
theorem kit_NoneType_bool : kitB "NoneType" "bool" = some false := by decide +kernel
theorem kit_NoneType_tuple : kitB "NoneType" "tuple" = some false := by decide +kernel
theorem kit_NoneType_list : kitB "NoneType" "list" = some false := by decide +kernel
theorem kit_NoneType_dict : kitB "NoneType" "dict" = some false := by decide +kernel
theorem kit_bool_str : kitB "bool" "str" = some false := by decide +kernel
theorem kit_bool_int : kitB "bool" "int" = some true := by decide +kernel
theorem kit_bool_bool : kitB "bool" "bool" = some true := by decide +kernel
theorem kit_bool_tuple : kitB "bool" "tuple" = some false := by decide +kernel
theorem kit_bool_list : kitB "bool" "list" = some false := by decide +kernel
theorem kit_bool_dict : kitB "bool" "dict" = some false := by decide +kernel
theorem kit_int_str : kitB "int" "str" = some false := by decide +kernel
theorem kit_int_int : kitB "int" "int" = some true := by decide +kernel
theorem kit_int_bool : kitB "int" "bool" = some false := by decide +kernel
theorem kit_int_tuple : kitB "int" "tuple" = some false := by decide +kernel
theorem kit_int_list : kitB "int" "list" = some false := by decide +kernel
theorem kit_int_dict : kitB "int" "dict" = some false := by decide +kernel
theorem kit_str_str : kitB "str" "str" = some true := by decide +kernel
theorem kit_str_int : kitB "str" "int" = some false := by decide +kernel
theorem kit_str_bool : kitB "str" "bool" = some false := by decide +kernel
theorem kit_str_tuple : kitB "str" "tuple" = some false := by decide +kernel
theorem kit_str_list : kitB "str" "list" = some false := by decide +kernel
theorem kit_str_dict : kitB "str" "dict" = some false := by decide +kernel
theorem kit_tuple_str : kitB "tuple" "str" = some false := by decide +kernel
theorem kit_tuple_int : kitB "tuple" "int" = some false := by decide +kernel
theorem kit_tuple_bool : kitB "tuple" "bool" = some false := by decide +kernel
theorem kit_tuple_tuple : kitB "tuple" "tuple" = some true := by decide +kernel
theorem kit_tuple_list : kitB "tuple" "list" = some false := by decide +kernel
theorem kit_tuple_dict : kitB "tuple" "dict" = some false := by decide +kernel
theorem kit_list_str : kitB "list" "str" = some false := by decide +kernel
theorem kit_list_int : kitB "list" "int" = some false := by decide +kernel
theorem kit_list_bool : kitB "list" "bool" = some false := by decide +kernel
theorem kit_list_tuple : kitB "list" "tuple" = some false := by decide +kernel
theorem kit_list_list : kitB "list" "list" = some true := by decide +kernel
theorem kit_list_dict : kitB "list" "dict" = some false := by decide +kernel
theorem kit_dict_str : kitB "dict" "str" = some false := by decide +kernel
theorem kit_dict_int : kitB "dict" "int" = some false := by decide +kernel
theorem kit_dict_bool : kitB "dict" "bool" = some false := by decide +kernel
theorem kit_dict_tuple : kitB "dict" "tuple" = some false := by decide +kernel
theorem kit_dict_list : kitB "dict" "list" = some false := by decide +kernel
theorem kit_dict_dict : kitB "dict" "dict" = some true := by decide +kernel
theorem rp0 : (List.replicate 0 none : Env) = [] := rfl
theorem rp1 : (List.replicate 1 none : Env) = [none] := rfl
theorem rp2 : (List.replicate 2 none : Env) = [none, none] := rfl
theorem rp3 : (List.replicate 3 none : Env) = [none, none, none] := rfl
theorem rp4 : (List.replicate 4 none : Env) = [none, none, none, none] := rfl
theorem rp5 : (List.replicate 5 none : Env) = [none, none, none, none, none] := rfl
theorem rp6 : (List.replicate 6 none : Env) = [none, none, none, none, none, none] := rfl
theorem rp7 : (List.replicate 7 none : Env) = [none, none, none, none, none, none, none] := rfl
theorem rp8 : (List.replicate 8 none : Env) = [none, none, none, none, none, none, none, none] := rfl
theorem rp9 : (List.replicate 9 none : Env) = [none, none, none, none, none, none, none, none, none] := rfl
theorem rp10 : (List.replicate 10 none : Env) = [none, none, none, none, none, none, none, none, none, none] := rfl
theorem rp11 : (List.replicate 11 none : Env) = [none, none, none, none, none, none, none, none, none, none, none] := rfl
theorem rp12 : (List.replicate 12 none : Env) = [none, none, none, none, none, none, none, none, none, none, none, none] := rfl
theorem rp13 : (List.replicate 13 none : Env) = [none, none, none, none, none, none, none, none, none, none, none, none, none] := rfl
theorem rp14 : (List.replicate 14 none : Env) = [none, none, none, none, none, none, none, none, none, none, none, none, none, none] := rfl
theorem rp15 : (List.replicate 15 none : Env) = [none, none, none, none, none, none, none, none, none, none, none, none, none, none, none] := rfl
theorem rp16 : (List.replicate 16 none : Env) = [none, none, none, none, none, none, none, none, none, none, none, none, none, none, none, none] := rfl
theorem rp17 : (List.replicate 17 none : Env) = [none, none, none, none, none, none, none, none, none, none, none, none, none, none, none, none, none] := rfl
theorem rp18 : (List.replicate 18 none : Env) = [none, none, none, none, none, none, none, none, none, none, none, none, none, none, none, none, none, none] := rfl
theorem rp19 : (List.replicate 19 none : Env) = [none, none, none, none, none, none, none, none, none, none, none, none, none, none, none, none, none, none, none] := rfl
theorem rp20 : (List.replicate 20 none : Env) = [none, none, none, none, none, none, none, none, none, none, none, none, none, none, none, none, none, none, none, none] := rfl
theorem rp21 : (List.replicate 21 none : Env) = [none, none, none, none, none, none, none, none, none, none, none, none, none, none, none, none, none, none, none, none, none] := rfl
theorem rp22 : (List.replicate 22 none : Env) = [none, none, none, none, none, none, none, none, none, none, none, none, none, none, none, none, none, none, none, none, none, none] := rfl
theorem rp23 : (List.replicate 23 none : Env) = [none, none, none, none, none, none, none, none, none, none, none, none, none, none, none, none, none, none, none, none, none, none, none] := rfl
theorem rp24 : (List.replicate 24 none : Env) = [none, none, none, none, none, none, none, none, none, none, none, none, none, none, none, none, none, none, none, none, none, none, none, none] := rfl
theorem rp25 : (List.replicate 25 none : Env) = [none, none, none, none, none, none, none, none, none, none, none, none, none, none, none, none, none, none, none, none, none, none, none, none, none] := rfl
theorem rp26 : (List.replicate 26 none : Env) = [none, none, none, none, none, none, none, none, none, none, none, none, none, none, none, none, none, none, none, none, none, none, none, none, none, none] := rfl
theorem rp27 : (List.replicate 27 none : Env) = [none, none, none, none, none, none, none, none, none, none, none, none, none, none, none, none, none, none, none, none, none, none, none, none, none, none, none] := rfl
theorem rp28 : (List.replicate 28 none : Env) = [none, none, none, none, none, none, none, none, none, none, none, none, none, none, none, none, none, none, none, none, none, none, none, none, none, none, none, none] := rfl
theorem rp29 : (List.replicate 29 none : Env) = [none, none, none, none, none, none, none, none, none, none, none, none, none, none, none, none, none, none, none, none, none, none, none, none, none, none, none, none, none] := rfl
theorem rp30 : (List.replicate 30 none : Env) = [none, none, none, none, none, none, none, none, none, none, none, none, none, none, none, none, none, none, none, none, none, none, none, none, none, none, none, none, none, none] := rfl
section
variable {Qs : Src → Hs → Prop} {E : Ex → Hs → Prop} {env : Env} {h : Hs}
theorem w_vS (a : Ev) : (vS a env h).wp Qs E = (a env h).wp (fun d h1 => wo (srcOf h1 d) (fun s => Qs s h1)) E := by
  unfold vS; rw [w_bind]; refine wp_ext fun d h1 => ?_; rw [w_of]
theorem w_rS (as : Av) (g : List D → Option Src) : (rS as g env h).wp Qs E = (as env h).wp (fun xs h1 => wo (g xs) (fun s => Qs s h1)) E := by
  unfold rS; rw [w_bind]; refine wp_ext fun d h1 => ?_; rw [w_of]
theorem w_eS (a : Ev) : (eS a env h).wp Qs E = (a env h).wp (fun d h1 => wo (srcE h1 d) (fun s => Qs (enuSrc s) h1)) E := by
  unfold eS; rw [w_bind]; refine wp_ext fun d h1 => ?_; rw [w_of, wo_map]
theorem w_zS (a b : Ev) : (zS a b env h).wp Qs E = (a env h).wp (fun x h1 => (b env h1).wp (fun y h2 => wo (zipOf h2 x y) (fun s => Qs s h2)) E) E := by
  unfold zS; rw [w_bind]; refine wp_ext fun x h1 => ?_; rw [w_bind]; refine wp_ext fun y h2 => ?_; rw [w_of]
theorem w_revS (a : Ev) : (revS a env h).wp Qs E = (a env h).wp (fun d h1 => wo (revOf h1 d) (fun s => Qs s h1)) E := by
  unfold revS; rw [w_bind]; refine wp_ext fun d h1 => ?_; rw [w_of]
theorem w_iteS {c : Prop} [Decidable c] {α : Type} (s : α) (Q : α → Prop) : wo (if c then some s else none) Q = (c ∧ Q s) := by
  by_cases hc : c
  · simp [hc, wo]
  · simp [hc, wo]
end
theorem t_seq (xs : List D) (J : Hs → Prop) : Tells (seqSrc xs) xs J := fun _ _ _ => rfl
theorem t_cel (n : Nat) (xs : List D) : Tells (celSrc n) xs (fun h => h[n]? = some (.lst xs)) := fun i h e => by
  show (match h[n]? with | some (.lst xs) => some xs[i]? | _ => none) = _
  rw [e]
theorem t_rng (lo : Int) (n : Nat) (J : Hs → Prop) : Tells (rngSrc lo 1 n) ((List.range n).map fun i => .int (lo + (i : Nat))) J := fun i h _ => by
  show some (if i < n then some (D.int (lo + (i : Nat) * 1)) else none) = _
  by_cases c : i < n
  · rw [if_pos c, List.getElem?_map, List.getElem?_range c, Int.mul_one]; rfl
  · rw [if_neg c, List.getElem?_eq_none (by simpa using c)]
theorem t_rng0 (n : Nat) (J : Hs → Prop) : Tells (rngSrc 0 1 n) ((List.range n).map fun i => .int ((i : Nat) : Int)) J := by
  have := t_rng 0 n J
  simpa using this
theorem t_enu {s : Src} {xs : List D} {J : Hs → Prop} (t : Tells s xs J) : Tells (enuSrc s) (xs.mapIdx fun i d => D.tup [.int (i : Nat), d]) J := fun i h j => by
  show (s.nxt i h).map _ = _
  rw [t i h j, List.getElem?_mapIdx]
  cases xs[i]? <;> rfl
mutual
def deq : D → D → Bool
  | .non, .non => true
  | .bl a, .bl b => a == b
  | .bl a, .int j => (if a = true then 1 else 0) == j
  | .int i, .bl b => i == (if b = true then 1 else 0)
  | .int i, .int j => decide (i = j)
  | .str x, .str y => decide (x = y)
  | .tup xs, .tup ys => deqs xs ys
  | .ls xs, .ls ys => deqs xs ys
  | _, _ => false
def deqs : List D → List D → Bool
  | [], [] => true
  | x :: xs, y :: ys => deq x y && deqs xs ys
  | _, _ => false
end
mutual
/-- no reference, so deep -/
def flt : Nat → D → Bool
  | n + 1, .tup xs => flts n xs
  | 0, .tup _ => false
  | n + 1, .ls xs => flts n xs
  | 0, .ls _ => false
  | _, .ref _ => false
  | _, _ => true
def flts : Nat → List D → Bool
  | _, [] => true
  | n, x :: xs => flt n x && flts n xs
end
mutual
theorem flt_py : ∀ (d : D) (n : Nat), flt n d = true → ∃ p, py d = some p ∧ p.depth ≤ n
  | .non, n, _ => ⟨_, by unfold py; rfl, by simp [PyData.depth]⟩
  | .bl b, n, _ => ⟨_, by unfold py; rfl, by simp [PyData.depth]⟩
  | .int b, n, _ => ⟨_, by unfold py; rfl, by simp [PyData.depth]⟩
  | .str b, n, _ => ⟨_, by unfold py; rfl, by simp [PyData.depth]⟩
  | .tup xs, n, h => by
    cases n with
    | zero => simp [flt] at h
    | succ n =>
      obtain ⟨ps, e, q⟩ := flts_py xs n (by simpa [flt] using h)
      exact ⟨.tuple ps, by unfold py; rw [e]; rfl, by simp [PyData.depth]; exact q⟩
  | .ls xs, n, h => by
    cases n with
    | zero => simp [flt] at h
    | succ n =>
      obtain ⟨ps, e, q⟩ := flts_py xs n (by simpa [flt] using h)
      exact ⟨.list ps, by unfold py; rw [e]; rfl, by simp [PyData.depth]; exact q⟩
  | .ref _, n, h => by cases n <;> simp [flt] at h
theorem flts_py : ∀ (ds : List D) (n : Nat), flts n ds = true → ∃ ps, pys ds = some ps ∧ PyData.depthAll ps ≤ n
  | [], n, _ => ⟨[], by unfold pys; rfl, by simp [PyData.depthAll]⟩
  | d :: ds, n, h => by
    unfold flts at h
    rw [Bool.and_eq_true] at h
    obtain ⟨p, e1, q1⟩ := flt_py d n h.1
    obtain ⟨ps, e2, q2⟩ := flts_py ds n h.2
    exact ⟨p :: ps, by unfold pys; rw [e1, e2], by simp only [PyData.depthAll]; omega⟩
end
theorem str_beq (x y : List Nat) : ((⟨x.toArray⟩ : Str) == ⟨y.toArray⟩) = decide (x = y) := by
  by_cases c : x = y
  · subst c; simp
  · rw [decide_eq_false c]
    refine beq_false_of_ne fun e => c ?_
    have := congrArg Str.cps e
    simpa using this
mutual
theorem eqv_deq : ∀ (d e : D) (p q : PyData), py d = some p → py e = some q → PyData.eqv p q = deq d e
  | .non, e, p, q, h1, h2 => by
    unfold py at h1; cases h1
    cases e <;> (unfold py at h2) <;> first | (cases h2; done) | (cases h2; simp [PyData.eqv, deq]; done) | (obtain ⟨ps, _, rfl⟩ := Option.map_eq_some_iff.mp h2; simp [PyData.eqv, deq])
  | .bl b, e, p, q, h1, h2 => by
    unfold py at h1; cases h1
    cases e <;> (unfold py at h2) <;> first | (cases h2; done) | (cases h2; simp [PyData.eqv, deq]; done) | (obtain ⟨ps, _, rfl⟩ := Option.map_eq_some_iff.mp h2; simp [PyData.eqv, deq])
  | .int b, e, p, q, h1, h2 => by
    unfold py at h1; cases h1
    cases e <;> (unfold py at h2) <;> first | (cases h2; done) | (cases h2; simp [PyData.eqv, deq]; done) | (cases h2; simp [PyData.eqv, deq]; rfl) | (obtain ⟨ps, _, rfl⟩ := Option.map_eq_some_iff.mp h2; simp [PyData.eqv, deq])
  | .str b, e, p, q, h1, h2 => by
    unfold py at h1; cases h1
    cases e <;> (unfold py at h2) <;> first | (cases h2; done) | (cases h2; simp only [PyData.eqv, deq]; done) | (cases h2; simp only [PyData.eqv, deq]; exact str_beq _ _) | (obtain ⟨ps, _, rfl⟩ := Option.map_eq_some_iff.mp h2; simp [PyData.eqv, deq])
  | .tup xs, e, p, q, h1, h2 => by
    unfold py at h1
    obtain ⟨ps, e1, rfl⟩ := Option.map_eq_some_iff.mp h1
    cases e <;> (unfold py at h2) <;> first | (cases h2; done) | (cases h2; simp [PyData.eqv, deq]; done) | (obtain ⟨qs, e2, rfl⟩ := Option.map_eq_some_iff.mp h2; first | (simp only [PyData.eqv, deq]; exact eqvs_deqs _ _ _ _ e1 e2) | (simp [PyData.eqv, deq]; done))
  | .ls xs, e, p, q, h1, h2 => by
    unfold py at h1
    obtain ⟨ps, e1, rfl⟩ := Option.map_eq_some_iff.mp h1
    cases e <;> (unfold py at h2) <;> first | (cases h2; done) | (cases h2; simp [PyData.eqv, deq]; done) | (obtain ⟨qs, e2, rfl⟩ := Option.map_eq_some_iff.mp h2; first | (simp only [PyData.eqv, deq]; exact eqvs_deqs _ _ _ _ e1 e2) | (simp [PyData.eqv, deq]; done))
  | .ref _, e, p, q, h1, h2 => by unfold py at h1; cases h1
theorem eqvs_deqs : ∀ (ds es : List D) (ps qs : List PyData), pys ds = some ps → pys es = some qs → PyData.eqvAll ps qs = deqs ds es
  | [], es, ps, qs, h1, h2 => by
    unfold pys at h1; cases h1
    cases es with
    | nil => unfold pys at h2; cases h2; simp [PyData.eqvAll, deqs]
    | cons e es =>
      unfold pys at h2
      split at h2
      · cases h2; simp [PyData.eqvAll, deqs]
      · cases h2
  | d :: ds, es, ps, qs, h1, h2 => by
    unfold pys at h1
    split at h1
    · rename_i p ps' e1 e2
      cases h1
      cases es with
      | nil => unfold pys at h2; cases h2; simp [PyData.eqvAll, deqs]
      | cons e es =>
        unfold pys at h2
        split at h2
        · rename_i q qs' e3 e4
          cases h2
          simp only [PyData.eqvAll, deqs]
          rw [eqv_deq d e p q e1 e3, eqvs_deqs ds es ps' qs' e2 e4]
        · cases h2
    · cases h1
end
theorem pyH_flt {h : Hs} {d : D} {n : Nat} (f : flt n d = true) : pyH h d = py d := by
  cases d <;> first | rfl | (cases n <;> simp [flt] at f)
theorem eq_flat {h : Hs} {d e : D} (h1 : flt 50 d = true) (h2 : flt 50 e = true) : eqOp h d e = some (deq d e) := by
  obtain ⟨p, e1, q1⟩ := flt_py d 50 h1
  obtain ⟨q, e2, q2⟩ := flt_py e 50 h2
  unfold eqOp
  rw [pyH_flt h1, pyH_flt h2, e1, e2]
  show (if min p.depth q.depth ≤ 60 then _ else _) = _
  rw [if_pos (by omega), eqv_deq d e p q e1 e2]
theorem eq_refs {h : Hs} {n m : Nat} {xs ys : List D} (hx : h[n]? = some (.lst xs)) (hy : h[m]? = some (.lst ys)) (h1 : flts 50 xs = true) (h2 : flts 50 ys = true) : eqOp h (.ref n) (.ref m) = some (deqs xs ys) := by
  obtain ⟨p, e1, q1⟩ := flts_py xs 50 h1
  obtain ⟨q, e2, q2⟩ := flts_py ys 50 h2
  unfold eqOp
  have a : pyH h (.ref n) = some (.list p) := by show (match h[n]? with | some (.lst xs) => (pys xs).map PyData.list | _ => none) = _; rw [hx]; show (pys xs).map _ = _; rw [e1]; rfl
  have b : pyH h (.ref m) = some (.list q) := by show (match h[m]? with | some (.lst xs) => (pys xs).map PyData.list | _ => none) = _; rw [hy]; show (pys ys).map _ = _; rw [e2]; rfl
  rw [a, b]
  show (if min (PyData.list p).depth (PyData.list q).depth ≤ 60 then _ else _) = _
  rw [if_pos (by simp only [PyData.depth]; omega)]
  simp only [PyData.eqv]
  rw [eqvs_deqs xs ys p q e1 e2]
theorem in_flat {h : Hs} {x : D} {xs : List D} (h1 : flt 50 x = true) (h2 : flts 50 xs = true) : inSeq h x xs = some (xs.any fun y => deq y x) := by
  obtain ⟨p, e1, q1⟩ := flt_py x 50 h1
  obtain ⟨ps, e2, q2⟩ := flts_py xs 50 h2
  unfold inSeq
  rw [pyH_flt h1, e1, e2]
  show (if p.depth ≤ 60 then _ else _) = _
  rw [if_pos (by omega)]
  congr 1
  clear h2 q2
  induction xs generalizing ps with
  | nil => unfold pys at e2; cases e2; rfl
  | cons y ys ih =>
    unfold pys at e2
    split at e2
    · rename_i q qs e3 e4
      cases e2
      rw [List.any_cons, List.any_cons, ih qs e4, eqv_deq y x q p e3 e1]
    · cases e2
/-- what is not of S stands as before -/
def Fr (S : List Nat) (h h' : Hs) : Prop := h.length ≤ h'.length ∧ ∀ n c, n ∉ S → h[n]? = some c → h'[n]? = some c
theorem Fr.refl {S : List Nat} {h : Hs} : Fr S h h := ⟨Nat.le_refl _, fun _ _ _ e => e⟩
theorem Fr.trans {S : List Nat} {h h1 h2 : Hs} (a : Fr S h h1) (b : Fr S h1 h2) : Fr S h h2 := ⟨Nat.le_trans a.1 b.1, fun n c m e => b.2 n c m (a.2 n c m e)⟩
theorem Fr.app {S : List Nat} {h g : Hs} : Fr S h (h ++ g) := ⟨by simp, fun n c _ e => by rw [List.getElem?_append_left (List.getElem?_eq_some_iff.mp e).1]; exact e⟩
theorem Fr.push {S : List Nat} {h h1 g : Hs} (a : Fr S h h1) : Fr S h (h1 ++ g) := a.trans .app
theorem Fr.mono {S T : List Nat} {h h' : Hs} (a : Fr S h h') (s : ∀ n, n ∈ S → n ∈ T) : Fr T h h' := ⟨a.1, fun n c m e => a.2 n c (fun q => m (s n q)) e⟩
theorem Fr.up {T : List Nat} {h h' : Hs} (a : Fr [] h h') : Fr T h h' := a.mono fun _ q => (nomatch q)
theorem Fr.get {S : List Nat} {h h' : Hs} (a : Fr S h h') {n : Nat} {c : Cell} (e : h[n]? = some c) (m : n ∉ S := by simp) : h'[n]? = some c := a.2 n c m e
theorem Fr.set {S : List Nat} {h : Hs} {n : Nat} {c : Cell} (m : n ∈ S) : Fr S h (h.set n c) := ⟨by simp, fun k d q e => by
  rw [List.getElem?_set_ne (fun z => q (by rw [← z]; exact m))]; exact e⟩
theorem get_lt {h : Hs} {n : Nat} {c : Cell} (e : h[n]? = some c) : n < h.length := (List.getElem?_eq_some_iff.mp e).1
theorem get_new1 {h : Hs} {c : Cell} : (h ++ [c])[h.length]? = some c := by simp
theorem get_old {h g : Hs} {n : Nat} {c : Cell} (e : h[n]? = some c) : (h ++ g)[n]? = some c := by
  rw [List.getElem?_append_left (get_lt e)]; exact e
theorem get_set {h : Hs} {n : Nat} {c d : Cell} (e : h[n]? = some d) : (h.set n c)[n]? = some c := List.getElem?_set_self (get_lt e)
theorem get_setne {h : Hs} {n m : Nat} {c d : Cell} (e : h[n]? = some d) (q : m ≠ n) : (h.set m c)[n]? = some d := by
  rw [List.getElem?_set_ne q]; exact e
open PySem PySem.Spec PyProof.Rows L2
theorem bo_add : binOp .Add = addOp := id rfl
theorem bo_sub : binOp .Sub = subOp := id rfl
theorem bo_mul : binOp .Mult = mulOp := id rfl
theorem bo_fd : binOp .FloorDiv = fdivOp := id rfl
theorem bo_mod : binOp .Mod = modOp := id rfl
theorem bo_pow : binOp .Pow = powOp := id rfl
theorem ia_add : iaugOp .Add = iaddOp := id rfl
theorem isub_i (h : Hs) (i j : Int) : isubOp h (.int i) (.int j) = .ok (.int (i - j)) h := id rfl
theorem ia_sub : iaugOp .Sub = isubOp := id rfl
theorem inD_i (j : Int) : inD (.int j) = some j := id rfl
theorem add_i (h : Hs) (i j : Int) : addOp h (.int i) (.int j) = .ok (.int (i + j)) h := id rfl
theorem iadd_i (h : Hs) (i j : Int) : iaddOp h (.int i) (.int j) = .ok (.int (i + j)) h := id rfl
theorem add_s (h : Hs) (x y : List Nat) : addOp h (.str x) (.str y) = (if x.length + y.length ≤ lim then .ok (.str (x ++ y)) h else .bad) := id rfl
theorem iadd_s (h : Hs) (x y : List Nat) : iaddOp h (.str x) (.str y) = (if x.length + y.length ≤ lim then .ok (.str (x ++ y)) h else .bad) := id rfl
theorem add_t (h : Hs) (x y : List D) : addOp h (.tup x) (.tup y) = (if x.length + y.length ≤ lim then .ok (.tup (x ++ y)) h else .bad) := id rfl
def adC (h : Hs) : Option Cell → Option Cell → Res D
  | some (.lst xs), some (.lst ys) => if xs.length + ys.length ≤ lim then .ok (.ref h.length) (h ++ [.lst (xs ++ ys)]) else .bad
  | _, _ => .bad
theorem add_r (h : Hs) (a b : Nat) : addOp h (.ref a) (.ref b) = adC h h[a]? h[b]? := by
  unfold addOp adC
  dsimp only <;> (generalize h[a]? = x; generalize h[b]? = y; rcases x with _ | c <;> rcases y with _ | d <;> (try rfl) <;> (try (cases c <;> rfl)) <;> (try (cases c <;> cases d <;> rfl)))
theorem adC_s (h : Hs) (xs ys : List D) : adC h (some (.lst xs)) (some (.lst ys)) = (if xs.length + ys.length ≤ lim then .ok (.ref h.length) (h ++ [.lst (xs ++ ys)]) else .bad) := id rfl
theorem add_bi (h : Hs) (b : Bool) (j : Int) : addOp h (.bl b) (.int j) = .ok (.int ((if b = true then 1 else 0) + j)) h := id rfl
theorem sub_bi (h : Hs) (b : Bool) (j : Int) : subOp h (.bl b) (.int j) = .ok (.int ((if b = true then 1 else 0) - j)) h := id rfl
theorem sub_iB (h : Hs) (i : Int) (b : Bool) : subOp h (.int i) (.bl b) = .ok (.int (i - (if b = true then 1 else 0))) h := id rfl
theorem fm_i (h : Hs) (i : Int) : fm1 h (.int i) = str1 h (.int i) := id rfl
theorem fm_s (h : Hs) (x : List Nat) : fm1 h (.str x) = .ok (.str x) h := id rfl
theorem str_b (h : Hs) (b : Bool) : str1 h (.bl b) = .ok (.str (cs (if b = true then "True" else "False"))) h := id rfl
theorem sub_i (h : Hs) (i j : Int) : subOp h (.int i) (.int j) = .ok (.int (i - j)) h := id rfl
theorem mul_i (h : Hs) (i j : Int) : mulOp h (.int i) (.int j) = (if mulOk i j then .ok (.int (i * j)) h else .bad) := id rfl
theorem fd_i (h : Hs) (i j : Int) : fdivOp h (.int i) (.int j) = (if 0 < j ∧ j < 1073741824 then .ok (.int (i / j)) h else .bad) := id rfl
theorem mod_i (h : Hs) (i j : Int) : modOp h (.int i) (.int j) = (if 0 < j then .ok (.int (i % j)) h else .bad) := id rfl
theorem pow_i (h : Hs) (i j : Int) : powOp h (.int i) (.int j) = (if 0 ≤ j ∧ j ≤ 1000 ∧ i.natAbs < 18446744073709551616 then .ok (.int (i ^ j.toNat)) h else .bad) := id rfl
theorem neg_i (h : Hs) (i : Int) : negD h (.int i) = .ok (.int (-i)) h := id rfl
theorem co_eq (h : Hs) (d e : D) : cmpOp .Eq h d e = eqOp h d e := id rfl
theorem co_ne (h : Hs) (d e : D) : cmpOp .NotEq h d e = (eqOp h d e).map not := id rfl
theorem co_in (h : Hs) (d e : D) : cmpOp .In h d e = inOp h d e := id rfl
theorem co_ni (h : Hs) (d e : D) : cmpOp .NotIn h d e = (inOp h d e).map not := id rfl
theorem co_is (h : Hs) (d e : D) : cmpOp .Is h d e = isOp d e := id rfl
theorem co_isn (h : Hs) (d e : D) : cmpOp .IsNot h d e = (isOp d e).map not := id rfl
theorem oi_Lt (h : Hs) (i j : Int) : cmpOp .Lt h (.int i) (.int j) = some (decide (i < j)) := id rfl
theorem os_Lt (h : Hs) (x y : List Nat) : cmpOp .Lt h (.str x) (.str y) = some (decide (x < y)) := id rfl
theorem oi_LtE (h : Hs) (i j : Int) : cmpOp .LtE h (.int i) (.int j) = some (decide (i ≤ j)) := id rfl
theorem os_LtE (h : Hs) (x y : List Nat) : cmpOp .LtE h (.str x) (.str y) = some (!decide (y < x)) := id rfl
theorem oi_Gt (h : Hs) (i j : Int) : cmpOp .Gt h (.int i) (.int j) = some (decide (j < i)) := id rfl
theorem os_Gt (h : Hs) (x y : List Nat) : cmpOp .Gt h (.str x) (.str y) = some (decide (y < x)) := id rfl
theorem oi_GtE (h : Hs) (i j : Int) : cmpOp .GtE h (.int i) (.int j) = some (decide (j ≤ i)) := id rfl
theorem os_GtE (h : Hs) (x y : List Nat) : cmpOp .GtE h (.str x) (.str y) = some (!decide (x < y)) := id rfl
theorem is_non_non : isOp .non .non = some true := id rfl
theorem is_non_bl (a : Bool) : isOp (.bl a) .non = some false := id rfl
theorem is_non_int (a : Int) : isOp (.int a) .non = some false := id rfl
theorem is_non_str (a : List Nat) : isOp (.str a) .non = some false := id rfl
theorem is_non_tup (a : List D) : isOp (.tup a) .non = some false := id rfl
theorem is_non_ls (a : List D) : isOp (.ls a) .non = some false := id rfl
theorem is_non_ref (a : Nat) : isOp (.ref a) .non = some false := id rfl
theorem is_bl_non (b : Bool) : isOp .non (.bl b) = some false := id rfl
theorem is_bl_bl (a : Bool) (b : Bool) : isOp (.bl a) (.bl b) = some (a == b) := id rfl
theorem is_bl_int (a : Int) (b : Bool) : isOp (.int a) (.bl b) = some false := id rfl
theorem is_bl_str (a : List Nat) (b : Bool) : isOp (.str a) (.bl b) = some false := id rfl
theorem is_bl_tup (a : List D) (b : Bool) : isOp (.tup a) (.bl b) = some false := id rfl
theorem is_bl_ls (a : List D) (b : Bool) : isOp (.ls a) (.bl b) = some false := id rfl
theorem is_bl_ref (a : Nat) (b : Bool) : isOp (.ref a) (.bl b) = some false := id rfl
def trC : Option Cell → Option Bool
  | some (.lst xs) => some (!xs.isEmpty)
  | _ => none
def sqC : Option Cell → Option (List D)
  | some (.lst xs) => some xs
  | _ => none
def dcC : Option Cell → Option (Bool × List (D × D))
  | some (.dic t _ kvs) => some (t, kvs)
  | _ => none
def daC (n : Nat) : Option Cell → Option (Nat × Bool × List (D × D))
  | some (.dic t false kvs) => some (n, t, kvs)
  | _ => none
def srC (n : Nat) : Option Cell → Option Src
  | some (.lst _) => some (celSrc n)
  | _ => none
def laC (n : Nat) : Option Cell → Option (Nat × List D)
  | some (.lst xs) => some (n, xs)
  | _ => none
def tyC : Option Cell → Option String
  | some (.lst _) => some "list"
  | some (.dic _ false _) => some "dict"
  | _ => none
def rvC (n : Nat) : Option Cell → Option Src
  | some (.lst xs) => some (revCel n xs.length)
  | _ => none
theorem trC_l (xs : List D) : trC (some (.lst xs)) = some (!xs.isEmpty) := id rfl
theorem sqC_l (xs : List D) : sqC (some (.lst xs)) = some xs := id rfl
theorem sqC_d (t lk : Bool) (kvs : List (D × D)) : sqC (some (.dic t lk kvs)) = none := id rfl
theorem dcC_l (xs : List D) : dcC (some (.lst xs)) = none := id rfl
theorem dcC_d (t lk : Bool) (kvs : List (D × D)) : dcC (some (.dic t lk kvs)) = some (t, kvs) := id rfl
theorem daC_l (n : Nat) (xs : List D) : daC n (some (.lst xs)) = none := id rfl
theorem daC_d (n : Nat) (t : Bool) (kvs : List (D × D)) : daC n (some (.dic t false kvs)) = some (n, t, kvs) := id rfl
theorem srC_l (n : Nat) (xs : List D) : srC n (some (.lst xs)) = some (celSrc n) := id rfl
theorem laC_l (n : Nat) (xs : List D) : laC n (some (.lst xs)) = some (n, xs) := id rfl
theorem tyC_l (xs : List D) : tyC (some (.lst xs)) = some "list" := id rfl
theorem tyC_d (t : Bool) (kvs : List (D × D)) : tyC (some (.dic t false kvs)) = some "dict" := id rfl
theorem rvC_l (n : Nat) (xs : List D) : rvC n (some (.lst xs)) = some (revCel n xs.length) := id rfl
theorem tr_non (h : Hs) : truth h .non = some false := id rfl
theorem tr_bl (h : Hs) (b : Bool) : truth h (.bl b) = some b := id rfl
theorem tr_int (h : Hs) (i : Int) : truth h (.int i) = some (i != 0) := id rfl
theorem tr_str (h : Hs) (x : List Nat) : truth h (.str x) = some (!x.isEmpty) := id rfl
theorem tr_tup (h : Hs) (x : List D) : truth h (.tup x) = some (!x.isEmpty) := id rfl
theorem tr_ref (h : Hs) (n : Nat) : truth h (.ref n) = trC h[n]? := id rfl
theorem tr_ls (h : Hs) (x : List D) : truth h (.ls x) = some (!x.isEmpty) := id rfl
theorem sq_tup (h : Hs) (x : List D) : seqH h (.tup x) = some x := id rfl
theorem sq_ls (h : Hs) (x : List D) : seqH h (.ls x) = some x := id rfl
theorem sq_ref (h : Hs) (n : Nat) : seqH h (.ref n) = sqC h[n]? := id rfl
theorem dr_ref (h : Hs) (n : Nat) : dicRd h (.ref n) = dcC h[n]? := id rfl
theorem da_ref (h : Hs) (n : Nat) : dicAt h (.ref n) = daC n h[n]? := id rfl
theorem sr_tup (h : Hs) (x : List D) : srcOf h (.tup x) = some (seqSrc x) := id rfl
theorem sr_ls (h : Hs) (x : List D) : srcOf h (.ls x) = some (seqSrc x) := id rfl
theorem sr_str (h : Hs) (x : List Nat) : srcOf h (.str x) = some (seqSrc (x.map fun c => .str [c])) := id rfl
theorem sr_ref (h : Hs) (n : Nat) : srcOf h (.ref n) = srC n h[n]? := id rfl
theorem sl_ls (h : Hs) (x : List D) : srcL h (.ls x) = some (seqSrc x) := id rfl
theorem se_ls (h : Hs) (x : List D) : srcE h (.ls x) = some (seqSrc x) := id rfl
theorem se_tup (h : Hs) (x : List D) : srcE h (.tup x) = some (seqSrc x) := id rfl
theorem se_ref (h : Hs) (n : Nat) : srcE h (.ref n) = srC n h[n]? := id rfl
theorem sl_ref (h : Hs) (n : Nat) : srcL h (.ref n) = srC n h[n]? := id rfl
theorem rv_tup (h : Hs) (x : List D) : revOf h (.tup x) = some (seqSrc x.reverse) := id rfl
theorem rv_ref (h : Hs) (n : Nat) : revOf h (.ref n) = rvC n h[n]? := id rfl
theorem la_ref (h : Hs) (n : Nat) : lstAt h (.ref n) = laC n h[n]? := id rfl
theorem it_non (T : String) (h : Hs) : isiT T h .non = kitB "NoneType" T := id rfl
theorem it_bl (T : String) (h : Hs) (a : Bool) : isiT T h (.bl a) = kitB "bool" T := id rfl
theorem it_int (T : String) (h : Hs) (a : Int) : isiT T h (.int a) = kitB "int" T := id rfl
theorem it_str (T : String) (h : Hs) (a : List Nat) : isiT T h (.str a) = kitB "str" T := id rfl
theorem it_tup (T : String) (h : Hs) (a : List D) : isiT T h (.tup a) = kitB "tuple" T := id rfl
theorem it_ls (T : String) (h : Hs) (a : List D) : isiT T h (.ls a) = kitB "list" T := id rfl
theorem it_ref (T : String) (h : Hs) (a : Nat) : isiT T h (.ref a) = (tyC h[a]?).bind (fun t => kitB t T) := id rfl
theorem ix_tup (h : Hs) (x : List D) (i : Int) : ixOp h (.tup x) (.int i) = Res.of (atI x i) h := id rfl
theorem ix_ls (h : Hs) (x : List D) (i : Int) : ixOp h (.ls x) (.int i) = Res.of (atI x i) h := id rfl
theorem ix_str (h : Hs) (x : List Nat) (i : Int) : ixOp h (.str x) (.int i) = Res.of ((atI x i).map fun c => .str [c]) h := id rfl
def ixC (h : Hs) (e : D) : Option Cell → Res D
  | some (.lst xs) => (match e with | .int i => Res.of (atI xs i) h | _ => .bad)
  | some (.dic t _ kvs) => if kOk t e = true then Res.of (dfind kvs e) h else .bad
  | _ => .bad
theorem ix_ref (h : Hs) (n : Nat) (e : D) : ixOp h (.ref n) e = ixC h e h[n]? := by
  unfold ixOp ixC ixSq
  simp only [dr_ref]
  cases q : h[n]? with
  | none => cases e <;> simp [dcC, seqH, q]
  | some c => cases c <;> cases e <;> simp [dcC, seqH, q]
theorem ixC_l (h : Hs) (i : Int) (xs : List D) : ixC h (.int i) (some (.lst xs)) = Res.of (atI xs i) h := id rfl
theorem ixC_d (h : Hs) (e : D) (t lk : Bool) (kvs : List (D × D)) : ixC h e (some (.dic t lk kvs)) = (if kOk t e = true then Res.of (dfind kvs e) h else .bad) := id rfl
theorem atN {α : Type} (xs : List α) (n : Nat) : atI xs (n : Int) = xs[n]? := by
  unfold atI ixN
  rw [if_pos (Int.natCast_nonneg n)]
  by_cases c : ((n : Int) < (xs.length : Int))
  · rw [if_pos c]; simp
  · rw [if_neg c]; exact (List.getElem?_eq_none (by omega)).symm
theorem at0 {α : Type} (xs : List α) : atI xs 0 = xs[0]? := atN xs 0
theorem at1 {α : Type} (xs : List α) : atI xs 1 = xs[1]? := atN xs 1
theorem at2 {α : Type} (xs : List α) : atI xs 2 = xs[2]? := atN xs 2
theorem at3 {α : Type} (xs : List α) : atI xs 3 = xs[3]? := atN xs 3
theorem at4 {α : Type} (xs : List α) : atI xs 4 = xs[4]? := atN xs 4
theorem at5 {α : Type} (xs : List α) : atI xs 5 = xs[5]? := atN xs 5
theorem at6 {α : Type} (xs : List α) : atI xs 6 = xs[6]? := atN xs 6
theorem at7 {α : Type} (xs : List α) : atI xs 7 = xs[7]? := atN xs 7
theorem at8 {α : Type} (xs : List α) : atI xs 8 = xs[8]? := atN xs 8
theorem at9 {α : Type} (xs : List α) : atI xs 9 = xs[9]? := atN xs 9
theorem at10 {α : Type} (xs : List α) : atI xs 10 = xs[10]? := atN xs 10
theorem at11 {α : Type} (xs : List α) : atI xs 11 = xs[11]? := atN xs 11
theorem at12 {α : Type} (xs : List α) : atI xs 12 = xs[12]? := atN xs 12
theorem at13 {α : Type} (xs : List α) : atI xs 13 = xs[13]? := atN xs 13
theorem at14 {α : Type} (xs : List α) : atI xs 14 = xs[14]? := atN xs 14
theorem atm1 {α : Type} (xs : List α) : atI xs (-1) = if xs.length < 1 then none else xs[xs.length - 1]? := by
  unfold atI ixN
  by_cases c : xs.length < 1
  · rw [if_neg (by omega), if_neg (by omega), if_pos c]; rfl
  · rw [if_neg (by omega), if_pos (by omega), if_neg c]
    show xs[(-1 + (xs.length : Int)).toNat]? = _
    congr 1; omega
theorem atm2 {α : Type} (xs : List α) : atI xs (-2) = if xs.length < 2 then none else xs[xs.length - 2]? := by
  unfold atI ixN
  by_cases c : xs.length < 2
  · rw [if_neg (by omega), if_neg (by omega), if_pos c]; rfl
  · rw [if_neg (by omega), if_pos (by omega), if_neg c]
    show xs[(-2 + (xs.length : Int)).toNat]? = _
    congr 1; omega
theorem on1_ (g : Hs → D → Res D) (h : Hs) (d : D) : on1 g h [d] = g h d := id rfl
theorem on2_ (g : Hs → D → D → Res D) (h : Hs) (d e : D) : on2 g h [d, e] = g h d e := id rfl
theorem len_str (h : Hs) (x : List Nat) : len1 h (.str x) = .ok (.int x.length) h := id rfl
theorem len_tup (h : Hs) (x : List D) : len1 h (.tup x) = .ok (.int x.length) h := id rfl
theorem len_ls (h : Hs) (x : List D) : len1 h (.ls x) = .ok (.int x.length) h := id rfl
def lnC (h : Hs) : Option Cell → Res D
  | some (.lst xs) => .ok (.int xs.length) h
  | some (.dic false _ kvs) => .ok (.int kvs.length) h
  | _ => .bad
theorem len_ref (h : Hs) (n : Nat) : len1 h (.ref n) = lnC h h[n]? := by
  unfold len1 lenD lnC
  simp only [sq_ref, dr_ref]
  cases q : h[n]? with
  | none => simp [sqC, dcC]
  | some c =>
    cases c with
    | lst xs => simp [sqC]
    | dic t lk kvs => cases t <;> simp [sqC, dcC]
    | ins => simp [sqC, dcC]
theorem lnC_l (h : Hs) (xs : List D) : lnC h (some (.lst xs)) = .ok (.int xs.length) h := id rfl
theorem lnC_d (h : Hs) (lk : Bool) (kvs : List (D × D)) : lnC h (some (.dic false lk kvs)) = .ok (.int kvs.length) h := id rfl
theorem int_i (h : Hs) (i : Int) : int1 h (.int i) = .ok (.int i) h := id rfl
theorem int_b (h : Hs) (b : Bool) : int1 h (.bl b) = .ok (.int (if b then 1 else 0)) h := id rfl
theorem int_s (h : Hs) (x : List Nat) : int1 h (.str x) = (if x.length ≤ 640 then Res.of ((PySem.intText? ⟨x.toArray⟩).map .int) h else .bad) := id rfl
theorem str_i (h : Hs) (i : Int) : str1 h (.int i) = (if i.natAbs.log2 < 1920 then .ok (.str (cs (toString i))) h else .bad) := id rfl
theorem str_s (h : Hs) (x : List Nat) : str1 h (.str x) = .ok (.str x) h := id rfl
theorem bool_i (h : Hs) (i : Int) : bool1 h (.int i) = .ok (.bl (i != 0)) h := id rfl
theorem bool_b (h : Hs) (b : Bool) : bool1 h (.bl b) = .ok (.bl b) h := id rfl
theorem abs_i (h : Hs) (i : Int) : abs1 h (.int i) = .ok (.int (if i < 0 then -i else i)) h := id rfl
theorem max_i (h : Hs) (i j : Int) : max2 h (.int i) (.int j) = .ok (.int (if j > i then j else i)) h := id rfl
theorem min_i (h : Hs) (i j : Int) : min2 h (.int i) (.int j) = .ok (.int (if j < i then j else i)) h := id rfl
def ofL (h : Hs) (f : List D → Res D) : Option (List D) → Res D
  | some xs => f xs
  | none => .bad
theorem ofL_s (h : Hs) (f : List D → Res D) (xs : List D) : ofL h f (some xs) = f xs := id rfl
theorem lst1 (h : Hs) (d : D) : list1 h d = ofL h (fun xs => .ok (.ref h.length) (h ++ [.lst xs])) (seqH h d) := id rfl
theorem tpl1 (h : Hs) (d : D) : tuple1 h d = ofL h (fun xs => .ok (.tup xs) h) (seqH h d) := id rfl
theorem all_r (h : Hs) (n : Nat) : all1 h (.ref n) = ofL h (fun xs => Res.of ((blsD xs).map fun bs => .bl (bs.all id)) h) (seqH h (.ref n)) := id rfl
theorem any_r (h : Hs) (n : Nat) : any1 h (.ref n) = ofL h (fun xs => Res.of ((blsD xs).map fun bs => .bl (bs.any id)) h) (seqH h (.ref n)) := id rfl
theorem sum_r (h : Hs) (n : Nat) : sum1 h (.ref n) = ofL h (fun xs => Res.of ((intsD xs).map fun bs => .int bs.sum) h) (seqH h (.ref n)) := id rfl
theorem sl_str (h : Hs) (x : List Nat) (lo hi : Option Int) : slOp h (.str x) lo hi = .ok (.str (cutD x lo hi)) h := id rfl
theorem sl_tup (h : Hs) (x : List D) (lo hi : Option Int) : slOp h (.tup x) lo hi = .ok (.tup (cutD x lo hi)) h := id rfl
theorem slo_ref (h : Hs) (n : Nat) (lo hi : Option Int) : slOp h (.ref n) lo hi = ofL h (fun xs => .ok (.ref h.length) (h ++ [.lst (cutD xs lo hi)])) (seqH h (.ref n)) := id rfl
theorem slo_ls (h : Hs) (x : List D) (lo hi : Option Int) : slOp h (.ls x) lo hi = .ok (.ref h.length) (h ++ [.lst (cutD x lo hi)]) := id rfl
theorem ty_l (h : Hs) (n : Nat) : isL h (.ref n) = (laC n h[n]?).isSome := id rfl
theorem ty_s (h : Hs) (x : List Nat) : isS h (.str x) = true := id rfl
theorem ty_d (h : Hs) (n : Nat) : isDc h (.ref n) = (daC n h[n]?).isSome := id rfl
theorem ty_appM : appM.ty = isL := id rfl
theorem ty_popM : popM.ty = isL := id rfl
theorem ty_revM : revM.ty = isL := id rfl
theorem ty_extM : extM.ty = isL := id rfl
theorem ty_joinM : joinM.ty = isS := id rfl
theorem ty_splitM : splitM.ty = isS := id rfl
theorem ty_getM : getM.ty = isDc := id rfl
theorem ty_insM : insM.ty = isL := id rfl
def apC (h : Hs) (y : D) : Option (Nat × List D) → Res D
  | some (n, xs) => (match (if xs.length < lim then some (xs ++ [y], D.non) else none) with | some (ys, r) => .ok r (h.set n (.lst ys)) | none => .bad)
  | none => .bad
theorem go_app (h : Hs) (n : Nat) (y : D) : appM.go h (.ref n) [y] = apC h y (laC n h[n]?) := id rfl
theorem apC_s (h : Hs) (y : D) (n : Nat) (xs : List D) : apC h y (some (n, xs)) = if xs.length < lim then .ok .non (h.set n (.lst (xs ++ [y]))) else .bad := by
  unfold apC
  by_cases c : xs.length < lim <;> simp [c]
def exC (h : Hs) : Option (Nat × List D) → Option (Nat × List D) → Res D
  | some (n, xs), some (_, ys) => if xs.length + ys.length ≤ lim then .ok .non (h.set n (.lst (xs ++ ys))) else .bad
  | _, _ => .bad
theorem go_ext (h : Hs) (n m : Nat) : extM.go h (.ref n) [.ref m] = exC h (laC n h[n]?) (laC m h[m]?) := by
  show extGo h (.ref n) [.ref m] = _
  unfold extGo exC
  simp only [la_ref]
  cases laC n h[n]? <;> cases laC m h[m]? <;> rfl
theorem exC_s (h : Hs) (n m : Nat) (xs ys : List D) : exC h (some (n, xs)) (some (m, ys)) = (if xs.length + ys.length ≤ lim then .ok .non (h.set n (.lst (xs ++ ys))) else .bad) := id rfl
def rvM (h : Hs) : Option (Nat × List D) → Res D
  | some (n, xs) => .ok .non (h.set n (.lst xs.reverse))
  | none => .bad
theorem go_rev (h : Hs) (n : Nat) : revM.go h (.ref n) [] = rvM h (laC n h[n]?) := id rfl
theorem rvM_s (h : Hs) (n : Nat) (xs : List D) : rvM h (some (n, xs)) = .ok .non (h.set n (.lst xs.reverse)) := id rfl
def gtC (h : Hs) (e z : D) : Option (Bool × List (D × D)) → Res D
  | some (t, kvs) => if kOk t e = true then .ok ((dfind kvs e).getD z) h else .bad
  | none => .bad
theorem go_get1 (h : Hs) (n : Nat) (e : D) : getM.go h (.ref n) [e] = gtC h e .non (dcC h[n]?) := id rfl
theorem go_get2 (h : Hs) (n : Nat) (e z : D) : getM.go h (.ref n) [e, z] = gtC h e z (dcC h[n]?) := id rfl
theorem gtC_s (h : Hs) (e z : D) (t : Bool) (kvs : List (D × D)) : gtC h e z (some (t, kvs)) = (if kOk t e = true then .ok ((dfind kvs e).getD z) h else .bad) := id rfl
def jnC (h : Hs) (a : List Nat) : Option (List (List Nat)) → Res D
  | some ys => if (ys.map (·.length)).sum + ys.length * a.length ≤ lim then .ok (.str (TL.joinL a ys)) h else .bad
  | none => .bad
theorem go_join (h : Hs) (a : List Nat) (e : D) : joinM.go h (.str a) [e] = jnC h a ((seqH h e).bind strsD) := id rfl
theorem jnC_s (h : Hs) (a : List Nat) (ys : List (List Nat)) : jnC h a (some ys) = (if (ys.map (·.length)).sum + ys.length * a.length ≤ lim then .ok (.str (TL.joinL a ys)) h else .bad) := id rfl
theorem go_split (h : Hs) (a b : List Nat) : splitM.go h (.str a) [.str b] = (if a.length + 2 ≤ lim ∧ b ≠ [] ∧ b.all (· < 256) = true then .ok (.ref h.length) (h ++ [.lst ((TL.spl b 0 [] a).map .str)]) else .bad) := id rfl
def inC (h : Hs) (i : Int) (z : D) : Option (Nat × List D) → Res D
  | some (n, xs) => if 0 ≤ i ∧ i < 2 ^ 63 ∧ xs.length < lim then .ok .non (h.set n (.lst (xs.take i.toNat ++ [z] ++ xs.drop i.toNat))) else .bad
  | none => .bad
theorem go_ins (h : Hs) (n : Nat) (i : Int) (z : D) : insM.go h (.ref n) [.int i, z] = inC h i z (laC n h[n]?) := id rfl
theorem inC_s (h : Hs) (i : Int) (z : D) (n : Nat) (xs : List D) : inC h i z (some (n, xs)) = (if 0 ≤ i ∧ i < 2 ^ 63 ∧ xs.length < lim then .ok .non (h.set n (.lst (xs.take i.toNat ++ [z] ++ xs.drop i.toNat))) else .bad) := id rfl
def ppC (h : Hs) : Option (Nat × List D) → Res D
  | some (n, xs) => (match (match xs[xs.length - 1]? with | some y => some (xs.dropLast, y) | none => none) with | some (ys, r) => .ok r (h.set n (.lst ys)) | none => .bad)
  | none => .bad
theorem go_pop (h : Hs) (n : Nat) : popM.go h (.ref n) [] = ppC h (laC n h[n]?) := id rfl
def stC (h : Hs) (i d : D) (n : Nat) : Option Cell → Option Hs
  | some (.dic t false kvs) => if kOk t i = true ∧ kvs.length < lim then some (h.set n (.dic t false (dput kvs i d))) else none
  | some (.lst xs) => (match i with | .int j => (ixN xs.length j).map fun m => h.set n (.lst (xs.set m d)) | _ => none)
  | _ => none
theorem so_ref (h : Hs) (n : Nat) (i d : D) : setOp h (.ref n) i d = stC h i d n h[n]? := by
  unfold setOp stC setL
  simp only [da_ref]
  cases q : h[n]? with
  | none => cases i <;> simp [daC, q]
  | some c =>
    cases c with
    | lst xs => cases i <;> simp [daC, q]
    | dic t lk kvs => cases lk <;> cases i <;> simp [daC, q]
    | ins => cases i <;> simp [daC, q]
theorem stC_d (h : Hs) (i d : D) (n : Nat) (t : Bool) (kvs : List (D × D)) : stC h i d n (some (.dic t false kvs)) = (if kOk t i = true ∧ kvs.length < lim then some (h.set n (.dic t false (dput kvs i d))) else none) := id rfl
theorem stC_l (h : Hs) (j : Int) (d : D) (n : Nat) (xs : List D) : stC h (.int j) d n (some (.lst xs)) = (ixN xs.length j).map (fun m => h.set n (.lst (xs.set m d))) := id rfl
def goC (h : Hs) (e : D) : Option Cell → Res D
  | some (.dic t _ kvs) => if kOk t e = true then Res.of (dfind kvs e) h else .bad
  | some (.lst xs) => (match e with | .int i => Res.of (atI xs i) h | _ => .bad)
  | _ => .bad
theorem go_dic (h : Hs) (n : Nat) (e : D) : getOp h (.ref n) e = goC h e h[n]? := by
  unfold getOp goC getL
  simp only [dr_ref, la_ref]
  cases q : h[n]? with
  | none => cases e <;> simp [dcC, laC]
  | some c => cases c <;> cases e <;> simp [dcC, laC]
theorem goC_d (h : Hs) (e : D) (t lk : Bool) (kvs : List (D × D)) : goC h e (some (.dic t lk kvs)) = (if kOk t e = true then Res.of (dfind kvs e) h else .bad) := id rfl
theorem goC_l (h : Hs) (i : Int) (xs : List D) : goC h (.int i) (some (.lst xs)) = Res.of (atI xs i) h := id rfl
theorem in_str1 (h : Hs) (a : Nat) (t : List Nat) : inOp h (.str [a]) (.str t) = some (decide (a ∈ t)) := id rfl
theorem in_tup (h : Hs) (d : D) (x : List D) : inOp h d (.tup x) = inSeq h d x := id rfl
theorem in_ls (h : Hs) (d : D) (x : List D) : inOp h d (.ls x) = inSeq h d x := id rfl
def ioC (h : Hs) (d : D) : Option Cell → Option Bool
  | some (.lst xs) => inSeq h d xs
  | some (.dic t _ kvs) => if kOk t d = true then some (dfind kvs d).isSome else none
  | _ => none
theorem in_ref (h : Hs) (d : D) (n : Nat) : inOp h d (.ref n) = ioC h d h[n]? := by
  unfold inOp ioC
  simp only [sq_ref, dr_ref]
  cases q : h[n]? with
  | none => simp [sqC, dcC]
  | some c => cases c <;> simp [sqC, dcC]
theorem ioC_l (h : Hs) (d : D) (xs : List D) : ioC h d (some (.lst xs)) = inSeq h d xs := id rfl
theorem ioC_d (h : Hs) (d : D) (t lk : Bool) (kvs : List (D × D)) : ioC h d (some (.dic t lk kvs)) = (if kOk t d = true then some (dfind kvs d).isSome else none) := id rfl
theorem kOk_s (x : List Nat) : kOk false (.str x) = true := id rfl
theorem kOk_i (x : Int) : kOk false (.int x) = true := id rfl
theorem kOk_t (x : D) (xs : List D) : kOk true (.tup (x :: xs)) = (x :: xs).all k1 := id rfl
theorem k1_s (x : List Nat) : k1 (.str x) = true := id rfl
theorem k1_i (x : Int) : k1 (.int x) = true := id rfl
theorem r1 (j : Int) : rng1Of [.int j] = (if small j = true then some (rngSrc 0 1 j.toNat) else none) := id rfl
theorem r2 (i j : Int) : rng2Of [.int i, .int j] = (if small i = true ∧ small j = true then some (rngSrc i 1 (j - i).toNat) else none) := id rfl
theorem eq_ss (h : Hs) (x y : List Nat) : eqOp h (.str x) (.str y) = some (decide (x = y)) := by
  rw [eq_flat rfl rfl]; simp [deq]
theorem eq_ii (h : Hs) (x y : Int) : eqOp h (.int x) (.int y) = some (decide (x = y)) := by
  rw [eq_flat rfl rfl]; simp [deq]
theorem eq_nbl (h : Hs) (a : Bool) : eqOp h .non (.bl a) = some false := by
  rw [eq_flat rfl rfl]; simp [deq]
theorem eq_bln (h : Hs) (a : Bool) : eqOp h (.bl a) .non = some false := by
  rw [eq_flat rfl rfl]; simp [deq]
theorem eq_nint (h : Hs) (a : Int) : eqOp h .non (.int a) = some false := by
  rw [eq_flat rfl rfl]; simp [deq]
theorem eq_intn (h : Hs) (a : Int) : eqOp h (.int a) .non = some false := by
  rw [eq_flat rfl rfl]; simp [deq]
theorem eq_nstr (h : Hs) (a : List Nat) : eqOp h .non (.str a) = some false := by
  rw [eq_flat rfl rfl]; simp [deq]
theorem eq_strn (h : Hs) (a : List Nat) : eqOp h (.str a) .non = some false := by
  rw [eq_flat rfl rfl]; simp [deq]
theorem eq_nn (h : Hs) : eqOp h .non .non = some true := by
  rw [eq_flat rfl rfl]; simp [deq]
theorem eq_is (h : Hs) (x : Int) (y : List Nat) : eqOp h (.int x) (.str y) = some false := by
  rw [eq_flat rfl rfl]; simp [deq]
theorem eq_si (h : Hs) (x : Int) (y : List Nat) : eqOp h (.str y) (.int x) = some false := by
  rw [eq_flat rfl rfl]; simp [deq]
theorem go_some {α : Type} {β : Type} (a : α) (f : α → Option β) : (some a).bind f = f a := id rfl
end M
namespace PH
open PySem PySem.Spec PyProof.Rows L2 M
/-- _law_cell(script, k): slots ['script', 'k'] -/
noncomputable def s__law_cell : Sf :=
  seqF (ifF (bE (vE 1) (cE (aCons (vE 0) aNil) (on1 len1)) (cmpR .Lt)) (retF (bE (vE 0) (vE 1) ixOp)) (nextF)) (
  retF (kE (.int 0)))
noncomputable def fn__law_cell : Fn := defn 2 2 s__law_cell
/-- _law_digits(script, first, last): slots ['script', 'first', 'last', 'digits', 'k', 'cell', 'step', 'seed'] -/
noncomputable def s__law_digits : Sf :=
  seqF (asgF (lstE aNil) (asgT (.nm 3))) (
  seqF (forF (rS (aCons (vE 1) (aCons (vE 2) aNil)) rng2Of) (.nm 4) (
    seqF (asgF (fE (aCons (vE 0) (aCons (vE 4) aNil)) PH.fn__law_cell) (asgT (.nm 5))) (
    seqF (ifF (bE (vE 5) (kE (.int 0)) (cmpR .Lt)) (asgF (bE (kE (.int 1)) (bE (kE (.int 2)) (vE 5) (binOp .Mult)) (binOp .Sub)) (asgT (.nm 5))) (nextF)) (
    seqF (ifF (bE (cE (aCons (vE 3) aNil) (on1 len1)) (kE (.int 1500)) (cmpR .Gt)) (bkF) (nextF)) (
    ifF (bE (vE 5) (bE (kE (.int 10)) (kE (.int 18)) (binOp .Pow)) (cmpR .GtE)) (forF (rS (aCons (kE (.int 60)) aNil) rng1Of) (.nm 6) (
        ifF (bE (vE 5) (kE (.int 0)) (cmpR .Gt)) (seqF (dropF (mE (vE 3) (aCons (bE (cE (aCons (vE 5) aNil) (on1 int1)) (kE (.int 1000)) (binOp .Mod)) aNil) appM)) (
          asgF (bE (vE 5) (kE (.int 1000)) (binOp .FloorDiv)) (asgT (.nm 5)))) (nextF)) (nextF)) (seqF (asgF (bE (cE (aCons (bE (bE (bE (vE 5) (kE (.int 48271)) (binOp .Mult)) (bE (vE 4) (kE (.int 69621)) (binOp .Mult)) (binOp .Add)) (kE (.int 11)) (binOp .Add)) aNil) (on1 int1)) (kE (.int 2147483647)) (binOp .Mod)) (asgT (.nm 7))) (
      forF (rS (aCons (kE (.int 12)) aNil) rng1Of) (.nm 6) (
        seqF (asgF (bE (cE (aCons (bE (bE (bE (vE 7) (kE (.int 16807)) (binOp .Mult)) (bE (kE (.int 7)) (vE 6) (binOp .Mult)) (binOp .Add)) (kE (.int 1)) (binOp .Add)) aNil) (on1 int1)) (kE (.int 2147483647)) (binOp .Mod)) (asgT (.nm 7))) (
        dropF (mE (vE 3) (aCons (bE (cE (aCons (bE (vE 7) (kE (.int 997)) (binOp .FloorDiv)) aNil) (on1 int1)) (kE (.int 1000)) (binOp .Mod)) aNil) appM))) (nextF))))))) (nextF)) (
  retF (vE 3)))
noncomputable def fn__law_digits : Fn := defn 3 8 s__law_digits
/-- _law_draw(box, many): slots ['box', 'many', 'at'] -/
noncomputable def s__law_draw : Sf :=
  seqF (asgF (bE (vE 0) (kE (.int 1)) ixOp) (asgT (.nm 2))) (
  seqF (asgF (bE (vE 2) (kE (.int 1)) (binOp .Add)) (gS (vE 0) (kE (.int 1)))) (
  seqF (ifF (bE (vE 2) (cE (aCons (bE (vE 0) (kE (.int 0)) ixOp) aNil) (on1 len1)) (cmpR .Lt)) (retF (bE (cE (aCons (bE (bE (vE 0) (kE (.int 0)) ixOp) (vE 2) ixOp) aNil) (on1 int1)) (vE 1) (binOp .Mod))) (nextF)) (
  retF (bE (cE (aCons (bE (vE 2) (kE (.int 7)) (binOp .Mult)) aNil) (on1 int1)) (vE 1) (binOp .Mod)))))
noncomputable def fn__law_draw : Fn := defn 2 3 s__law_draw
/-- _law_wide(box, many): slots ['box', 'many', 'number'] -/
noncomputable def s__law_wide : Sf :=
  seqF (asgF (bE (bE (fE (aCons (vE 0) (aCons (kE (.int 1000)) aNil)) PH.fn__law_draw) (bE (kE (.int 1000)) (fE (aCons (vE 0) (aCons (kE (.int 1000)) aNil)) PH.fn__law_draw) (binOp .Mult)) (binOp .Add)) (bE (kE (.int 1000000)) (fE (aCons (vE 0) (aCons (kE (.int 1000)) aNil)) PH.fn__law_draw) (binOp .Mult)) (binOp .Add)) (asgT (.nm 2))) (
  retF (bE (cE (aCons (vE 2) aNil) (on1 int1)) (vE 1) (binOp .Mod)))
noncomputable def fn__law_wide : Fn := defn 2 3 s__law_wide
/-- _law_like(told, due): slots ['told', 'due', 'k'] -/
noncomputable def s__law_like (self : Fn) : Sf :=
  seqF (ifF (isiE (vE 1) "tuple") (seqF (ifF (orE (notE (isiE (vE 0) "tuple")) (bE (cE (aCons (vE 0) aNil) (on1 len1)) (cE (aCons (vE 1) aNil) (on1 len1)) (cmpR .NotEq))) (retF (kE (.bl false))) (nextF)) (
    retF (bE (lcE (rS (aCons (cE (aCons (vE 1) aNil) (on1 len1)) aNil) rng1Of) (.nm 2) (some (notE (fE (aCons (bE (vE 0) (vE 2) ixOp) (aCons (bE (vE 1) (vE 2) ixOp) aNil)) self))) (kE (.int 1)) [2]) (lstE aNil) (cmpR .Eq)))) (nextF)) (
  seqF (ifF (bE (vE 1) (kE .non) (cmpR .Is)) (retF (bE (vE 0) (kE .non) (cmpR .Is))) (nextF)) (
  seqF (ifF (bE (vE 1) (kE (.bl true)) (cmpR .Is)) (retF (bE (vE 0) (kE (.bl true)) (cmpR .Is))) (nextF)) (
  seqF (ifF (bE (vE 1) (kE (.bl false)) (cmpR .Is)) (retF (bE (vE 0) (kE (.bl false)) (cmpR .Is))) (nextF)) (
  seqF (ifF (isiE (vE 1) "str") (retF (andE (isiE (vE 0) "str") (bE (mE (kE (.str (cs ""))) (aCons (lstE (aCons (vE 0) aNil)) aNil) joinM) (vE 1) (cmpR .Eq)))) (nextF)) (
  retF (andE (isiE (vE 0) "int") (andE (notE (isiE (vE 0) "bool")) (bE (vE 0) (vE 1) (cmpR .Eq)))))))))
noncomputable def fn__law_like : Fn := recn 2 3 s__law_like 12
/-- _law_bounds(box, wide): slots ['box', 'wide', 'least', 'most'] -/
noncomputable def s__law_bounds : Sf :=
  seqF (asgF (bE (fE (aCons (vE 0) (aCons (kE (.int 9)) aNil)) PH.fn__law_draw) (kE (.int 4)) (binOp .Sub)) (asgT (.nm 2))) (
  seqF (asgF (bE (vE 2) (fE (aCons (vE 0) (aCons (kE (.int 4)) aNil)) PH.fn__law_draw) (binOp .Add)) (asgT (.nm 3))) (
  seqF (ifF (vE 1) (seqF (asgF (bE (lstE (aCons (uE (kE (.int 99999)) negD) (aCons (kE (.int 99999)) (aCons (kE (.int 0)) (aCons (bE (fE (aCons (vE 0) (aCons (kE (.int 199999)) aNil)) PH.fn__law_wide) (kE (.int 99999)) (binOp .Sub)) aNil))))) (fE (aCons (vE 0) (aCons (kE (.int 4)) aNil)) PH.fn__law_draw) ixOp) (asgT (.nm 2))) (
    asgF (cE (aCons (kE (.int 99999)) (aCons (bE (vE 2) (bE (lstE (aCons (kE (.int 0)) (aCons (kE (.int 1)) (aCons (kE (.int 99999)) aNil)))) (fE (aCons (vE 0) (aCons (kE (.int 3)) aNil)) PH.fn__law_draw) ixOp) (binOp .Add)) aNil)) (on2 min2)) (asgT (.nm 3)))) (nextF)) (
  retF (bE (lstE (aCons (tupE (aCons (vE 2) (aCons (vE 3) aNil))) (aCons (tupE (aCons (vE 2) (aCons (kE .non) aNil))) (aCons (tupE (aCons (kE .non) (aCons (vE 3) aNil))) (aCons (tupE (aCons (vE 2) (aCons (vE 3) aNil))) aNil))))) (fE (aCons (vE 0) (aCons (kE (.int 4)) aNil)) PH.fn__law_draw) ixOp))))
noncomputable def fn__law_bounds : Fn := defn 2 4 s__law_bounds
/-- _law_span(box, name, marks, wide): slots ['box', 'name', 'marks', 'wide', 'ends', 'a', 'b'] -/
noncomputable def s__law_span : Sf :=
  seqF (asgF (bE (lstE (aCons (kE (.str (cs "zero"))) aNil)) (cE (aCons (vE 2) aNil) (on1 list1)) (binOp .Add)) (asgT (.nm 4))) (
  seqF (asgF (bE (fE (aCons (vE 0) (aCons (kE (.int 900)) aNil)) PH.fn__law_draw) (cE (aCons (vE 4) aNil) (on1 len1)) (binOp .Mod)) (asgT (.nm 5))) (
  seqF (asgF (bE (cE (aCons (bE (bE (vE 5) (kE (.int 1)) (binOp .Add)) (bE (fE (aCons (vE 0) (aCons (kE (.int 900)) aNil)) PH.fn__law_draw) (bE (cE (aCons (vE 4) aNil) (on1 len1)) (kE (.int 1)) (binOp .Sub)) (binOp .Mod)) (binOp .Add)) aNil) (on1 int1)) (cE (aCons (vE 4) aNil) (on1 len1)) (binOp .Mod)) (asgT (.nm 6))) (
  retF (bE (tupE (aCons (kE (.str (cs "span"))) (aCons (vE 1) (aCons (bE (vE 4) (vE 5) ixOp) (aCons (bE (vE 4) (vE 6) ixOp) aNil))))) (fE (aCons (vE 0) (aCons (vE 3) aNil)) PH.fn__law_bounds) (binOp .Add)))))
noncomputable def fn__law_span : Fn := defn 4 7 s__law_span
/-- _law_plan(box, many, spans, loose): slots ['box', 'many', 'spans', 'loose', 'marks', 'k', 'rows', 'ends', 'at', 'begin', 'least'] -/
noncomputable def s__law_plan : Sf :=
  seqF (asgF (slE (tupE (aCons (kE (.str (cs "a"))) (aCons (kE (.str (cs "b"))) (aCons (kE (.str (cs "c"))) (aCons (kE (.str (cs "d"))) (aCons (kE (.str (cs "e"))) (aCons (kE (.str (cs "f"))) (aCons (kE (.str (cs "g"))) aNil)))))))) none (some (vE 1))) (asgT (.nm 4))) (
  seqF (parF [6, 7] (aCons (lstE aNil) (aCons (lstE aNil) aNil))) (
  seqF (forF (rS (aCons (ifE (bE (vE 1) (kE (.int 0)) (cmpR .Gt)) (vE 2) (kE (.int 0))) aNil) rng1Of) (.nm 5) (
    dropF (mE (vE 6) (aCons (fE (aCons (vE 0) (aCons (bE (kE (.str (cs "s"))) (cE (aCons (vE 5) aNil) (on1 str1)) (binOp .Add)) (aCons (vE 4) (aCons (kE (.bl false)) aNil)))) PH.fn__law_span) aNil) appM)) (nextF)) (
  seqF (forF (rS (aCons (ifE (bE (vE 1) (kE (.int 0)) (cmpR .Gt)) (vE 3) (kE (.int 0))) aNil) rng1Of) (.nm 5) (
    seqF (asgF (bE (fE (aCons (vE 0) (aCons (kE (.int 900)) aNil)) PH.fn__law_draw) (vE 1) (binOp .Mod)) (asgT (.nm 8))) (
    ifF (bE (bE (vE 4) (vE 8) ixOp) (vE 7) (cmpR .NotIn)) (seqF (asgF (bE (bE (lstE (aCons (kE (.str (cs "zero"))) aNil)) (cE (aCons (slE (vE 4) none (some (vE 8))) aNil) (on1 list1)) (binOp .Add)) (bE (fE (aCons (vE 0) (aCons (kE (.int 900)) aNil)) PH.fn__law_draw) (bE (vE 8) (kE (.int 1)) (binOp .Add)) (binOp .Mod)) ixOp) (asgT (.nm 9))) (
      seqF (asgF (bE (kE (.int 1)) (fE (aCons (vE 0) (aCons (kE (.int 3)) aNil)) PH.fn__law_draw) (binOp .Add)) (asgT (.nm 10))) (
      seqF (dropF (mE (vE 7) (aCons (bE (vE 4) (vE 8) ixOp) aNil) appM)) (
      dropF (mE (vE 6) (aCons (fE (aCons (vE 0) (aCons (bE (cE (aCons (vE 6) aNil) (on1 len1)) (kE (.int 1)) (binOp .Add)) aNil)) PH.fn__law_draw) (aCons (tupE (aCons (kE (.str (cs "loose"))) (aCons (bE (kE (.str (cs "w"))) (cE (aCons (vE 5) aNil) (on1 str1)) (binOp .Add)) (aCons (vE 9) (aCons (bE (vE 4) (vE 8) ixOp) (aCons (vE 10) (aCons (bE (vE 10) (fE (aCons (vE 0) (aCons (kE (.int 3)) aNil)) PH.fn__law_draw) (binOp .Add)) aNil))))))) aNil)) insM))))) (nextF))) (nextF)) (
  retF (tupE (aCons (kE (.str (cs "plan"))) (aCons (vE 4) (aCons (cE (aCons (vE 6) aNil) (on1 tuple1)) aNil))))))))
noncomputable def fn__law_plan : Fn := defn 4 11 s__law_plan
end PH
namespace M
open PySem PySem.Spec PyProof.Rows L2
local macro_rules | `(tactic| wp_walk using $ts,*) => do let xs := Lean.Syntax.TSepArray.getElems ts; `(tactic| simp only [w_ok, w_exc, w_bind, w_of, w_cond, w_kE, w_vE, w_bE, w_uE, w_js0, w_js1, jsK_s, w_tst, w_andE, w_orE, w_notE, w_ifE, w_chE, w_ch3E, w_cmpR, w_aNil, w_aCons, w_aStar, w_tupE, w_lstE, w_cE, w_isiE, w_lsE, w_fE, w_mE, w_slE, w_ptN, w_ptS, w_newD, w_nextF, w_bkF, w_ctF, w_seqF, w_fl, w_dropF, w_retF, w_retNF, w_ifF, w_asgF, w_nm, w_tp, w_ts0, w_ts1, w_gS, w_augF, w_augS, w_parF, w_vS, w_rS, w_eS, w_zS, w_revS, w_iteS, w_lcN, w_lcS, wif_t, wif_f, wo_some, wo_map,
  defn_n, recn_n, List.getElem?_cons_zero, List.getElem?_cons_succ, Option.join_some, List.set_cons_zero, List.set_cons_succ, List.length_cons, List.length_nil, List.length_map, List.map_cons, List.map_nil, List.cons_append, List.nil_append, Nat.reduceAdd, Nat.reduceSub, Nat.zero_add, Option.map_some, Option.isSome_some, wipeE, parSet, Bool.not_true, Bool.not_false, decide_true, decide_false, Nat.reduceLeDiff, lim, Bool.true_eq_false, Bool.false_eq_true, if_true, if_false, true_and, and_true, eq_self, and_self, List.all_cons, List.all_nil, Bool.and_self, Bool.and_true, Bool.true_and, Int.reduceLT, Int.reduceLE, Nat.reduceLT, Int.reduceNeg, Int.reduceAdd, Int.reduceSub, Int.reduceMul, bo_add, bo_sub, bo_mul, bo_fd, bo_mod, bo_pow, ia_add, ia_sub, inD_i, add_i, iadd_i, add_s, iadd_s, add_t, add_r, adC_s, sub_i, isub_i, add_bi, sub_bi, sub_iB, str_b, fm_i, fm_s, mul_i, fd_i, mod_i, pow_i, neg_i, co_eq, co_ne, co_in, co_ni, co_is, co_isn, oi_Lt, os_Lt, oi_LtE, os_LtE, oi_Gt, os_Gt, oi_GtE, os_GtE, is_non_non, is_non_bl, is_non_int, is_non_str, is_non_tup, is_non_ls, is_non_ref, is_bl_non, is_bl_bl, is_bl_int, is_bl_str, is_bl_tup, is_bl_ls, is_bl_ref, trC_l, sqC_l, sqC_d, dcC_l, dcC_d, daC_l, daC_d, srC_l, laC_l, tyC_l, tyC_d, rvC_l, tr_non, tr_bl, tr_int, tr_str, tr_tup, tr_ref, tr_ls, sq_tup, sq_ls, sq_ref, dr_ref, da_ref, sr_tup, sr_ls, sr_str, sr_ref, sl_ls, sl_ref, se_ls, se_tup, se_ref, rv_tup, rv_ref, la_ref, it_non, it_bl, it_int, it_str, it_tup, it_ls, it_ref, ix_tup, ix_ls, ix_str, ix_ref, ixC_l, ixC_d, atN, at0, at1, at2, at3, at4, at5, at6, at7, at8, at9, at10, at11, at12, at13, at14, atm1, atm2, on1_, on2_, len_str, len_tup, len_ls, len_ref, lnC_l, lnC_d, int_i, int_b, int_s, str_i, str_s, bool_i, bool_b, abs_i, max_i, min_i, ofL_s, lst1, tpl1, all_r, any_r, sum_r, sl_str, sl_tup, slo_ref, slo_ls, ty_l, ty_s, ty_d, ty_appM, ty_popM, ty_revM, ty_extM, ty_joinM, ty_splitM, ty_getM, ty_insM, go_app, apC_s, go_ext, exC_s, go_rev, rvM_s, go_get1, go_get2, gtC_s, go_join, jnC_s, go_split, go_ins, inC_s, go_pop, so_ref, stC_d, stC_l, go_dic, goC_d, goC_l, in_str1, in_tup, in_ls, in_ref, ioC_l, ioC_d, kOk_s, kOk_i, kOk_t, k1_s, k1_i, r1, r2, eq_ss, eq_ii, eq_nbl, eq_bln, eq_nint, eq_intn, eq_nstr, eq_strn, eq_nn, eq_is, eq_si, go_some, kit_NoneType_str, kit_NoneType_int, kit_NoneType_bool, kit_NoneType_tuple, kit_NoneType_list, kit_NoneType_dict, kit_bool_str, kit_bool_int, kit_bool_bool, kit_bool_tuple, kit_bool_list, kit_bool_dict, kit_int_str, kit_int_int, kit_int_bool, kit_int_tuple, kit_int_list, kit_int_dict, kit_str_str, kit_str_int, kit_str_bool, kit_str_tuple, kit_str_list, kit_str_dict, kit_tuple_str, kit_tuple_int, kit_tuple_bool, kit_tuple_tuple, kit_tuple_list, kit_tuple_dict, kit_list_str, kit_list_int, kit_list_bool, kit_list_tuple, kit_list_list, kit_list_dict, kit_dict_str, kit_dict_int, kit_dict_bool, kit_dict_tuple, kit_dict_list, kit_dict_dict, rp0, rp1, rp2, rp3, rp4, rp5, rp6, rp7, rp8, rp9, rp10, rp11, rp12, rp13, rp14, rp15, rp16, rp17, rp18, rp19, rp20, rp21, rp22, rp23, rp24, rp25, rp26, rp27, rp28, rp29, rp30, $[$xs:term],*])
local macro_rules | `(tactic| wp_walk) => `(tactic| simp only [w_ok, w_exc, w_bind, w_of, w_cond, w_kE, w_vE, w_bE, w_uE, w_js0, w_js1, jsK_s, w_tst, w_andE, w_orE, w_notE, w_ifE, w_chE, w_ch3E, w_cmpR, w_aNil, w_aCons, w_aStar, w_tupE, w_lstE, w_cE, w_isiE, w_lsE, w_fE, w_mE, w_slE, w_ptN, w_ptS, w_newD, w_nextF, w_bkF, w_ctF, w_fl, w_dropF, w_retF, w_retNF, w_ifF, w_asgF, w_nm, w_tp, w_ts0, w_ts1, w_gS, w_augF, w_augS, w_parF, w_vS, w_rS, w_eS, w_zS, w_revS, w_iteS, w_lcN, w_lcS, wif_t, wif_f, wo_some, wo_map,
  defn_n, recn_n, List.getElem?_cons_zero, List.getElem?_cons_succ, Option.join_some, List.set_cons_zero, List.set_cons_succ, List.length_cons, List.length_nil, List.length_map, List.map_cons, List.map_nil, List.cons_append, List.nil_append, Nat.reduceAdd, Nat.reduceSub, Nat.zero_add, Option.map_some, Option.isSome_some, wipeE, parSet, Bool.not_true, Bool.not_false, decide_true, decide_false, Nat.reduceLeDiff, lim, Bool.true_eq_false, Bool.false_eq_true, if_true, if_false, true_and, and_true, eq_self, and_self, List.all_cons, List.all_nil, Bool.and_self, Bool.and_true, Bool.true_and, Int.reduceLT, Int.reduceLE, Nat.reduceLT, Int.reduceNeg, Int.reduceAdd, Int.reduceSub, Int.reduceMul, bo_add, bo_sub, bo_mul, bo_fd, bo_mod, bo_pow, ia_add, ia_sub, inD_i, add_i, iadd_i, add_s, iadd_s, add_t, add_r, adC_s, sub_i, isub_i, add_bi, sub_bi, sub_iB, str_b, fm_i, fm_s, mul_i, fd_i, mod_i, pow_i, neg_i, co_eq, co_ne, co_in, co_ni, co_is, co_isn, oi_Lt, os_Lt, oi_LtE, os_LtE, oi_Gt, os_Gt, oi_GtE, os_GtE, is_non_non, is_non_bl, is_non_int, is_non_str, is_non_tup, is_non_ls, is_non_ref, is_bl_non, is_bl_bl, is_bl_int, is_bl_str, is_bl_tup, is_bl_ls, is_bl_ref, trC_l, sqC_l, sqC_d, dcC_l, dcC_d, daC_l, daC_d, srC_l, laC_l, tyC_l, tyC_d, rvC_l, tr_non, tr_bl, tr_int, tr_str, tr_tup, tr_ref, tr_ls, sq_tup, sq_ls, sq_ref, dr_ref, da_ref, sr_tup, sr_ls, sr_str, sr_ref, sl_ls, sl_ref, se_ls, se_tup, se_ref, rv_tup, rv_ref, la_ref, it_non, it_bl, it_int, it_str, it_tup, it_ls, it_ref, ix_tup, ix_ls, ix_str, ix_ref, ixC_l, ixC_d, atN, at0, at1, at2, at3, at4, at5, at6, at7, at8, at9, at10, at11, at12, at13, at14, atm1, atm2, on1_, on2_, len_str, len_tup, len_ls, len_ref, lnC_l, lnC_d, int_i, int_b, int_s, str_i, str_s, bool_i, bool_b, abs_i, max_i, min_i, ofL_s, lst1, tpl1, all_r, any_r, sum_r, sl_str, sl_tup, slo_ref, slo_ls, ty_l, ty_s, ty_d, ty_appM, ty_popM, ty_revM, ty_extM, ty_joinM, ty_splitM, ty_getM, ty_insM, go_app, apC_s, go_ext, exC_s, go_rev, rvM_s, go_get1, go_get2, gtC_s, go_join, jnC_s, go_split, go_ins, inC_s, go_pop, so_ref, stC_d, stC_l, go_dic, goC_d, goC_l, in_str1, in_tup, in_ls, in_ref, ioC_l, ioC_d, kOk_s, kOk_i, kOk_t, k1_s, k1_i, r1, r2, eq_ss, eq_ii, eq_nbl, eq_bln, eq_nint, eq_intn, eq_nstr, eq_strn, eq_nn, eq_is, eq_si, go_some, kit_NoneType_str, kit_NoneType_int, kit_NoneType_bool, kit_NoneType_tuple, kit_NoneType_list, kit_NoneType_dict, kit_bool_str, kit_bool_int, kit_bool_bool, kit_bool_tuple, kit_bool_list, kit_bool_dict, kit_int_str, kit_int_int, kit_int_bool, kit_int_tuple, kit_int_list, kit_int_dict, kit_str_str, kit_str_int, kit_str_bool, kit_str_tuple, kit_str_list, kit_str_dict, kit_tuple_str, kit_tuple_int, kit_tuple_bool, kit_tuple_tuple, kit_tuple_list, kit_tuple_dict, kit_list_str, kit_list_int, kit_list_bool, kit_list_tuple, kit_list_list, kit_list_dict, kit_dict_str, kit_dict_int, kit_dict_bool, kit_dict_tuple, kit_dict_list, kit_dict_dict, rp0, rp1, rp2, rp3, rp4, rp5, rp6, rp7, rp8, rp9, rp10, rp11, rp12, rp13, rp14, rp15, rp16, rp17, rp18, rp19, rp20, rp21, rp22, rp23, rp24, rp25, rp26, rp27, rp28, rp29, rp30])
/-- the box of draws, at b; its digits, at dg; how many have been drawn -/
def Bx (b dg : Nat) (h : Hs) : Prop := ∃ (ds : List Int) (i : Int), b ≠ dg ∧ 0 ≤ i ∧ h[b]? = some (.lst [.ref dg, .int i]) ∧ h[dg]? = some (.lst (ds.map .int))
theorem Bx.fr {b dg : Nat} {h h' : Hs} (x : Bx b dg h) (f : Fr [] h h') : Bx b dg h' :=
  let ⟨ds, i, a, c, e1, e2⟩ := x
  ⟨ds, i, a, c, f.get e1, f.get e2⟩
theorem Bx.lt {b dg : Nat} {h : Hs} (x : Bx b dg h) : b < h.length := let ⟨_, _, _, _, e, _⟩ := x; get_lt e
theorem Bx.ltd {b dg : Nat} {h : Hs} (x : Bx b dg h) : dg < h.length := let ⟨_, _, _, _, _, e⟩ := x; get_lt e
theorem Bx.set {b dg n : Nat} {h : Hs} {c : Cell} (x : Bx b dg h) (h1 : n ≠ b) (h2 : n ≠ dg) : Bx b dg (h.set n c) :=
  let ⟨ds, i, a, q, e1, e2⟩ := x
  ⟨ds, i, a, q, get_setne e1 h1, get_setne e2 h2⟩
theorem draw_ok {b dg : Nat} {m : Int} {h : Hs} {Q : D → Hs → Prop} {E : Ex → Hs → Prop} (hb : Bx b dg h) (hm : 0 < m) (hq : ∀ v h', 0 ≤ v → v < m → Bx b dg h' → Fr [b] h h' → Q (.int v) h') : (PH.fn__law_draw.go [.ref b, .int m] h).wp Q E := by
  obtain ⟨ds, i, hne, hi, h1, h2⟩ := hb
  unfold PH.fn__law_draw
  rw [w_defn]
  unfold PH.s__law_draw
  wp_walk using h1, h2
  have e1 : (h.set b (.lst [.ref dg, .int (i + 1)]))[b]? = some (.lst [.ref dg, .int (i + 1)]) := get_set h1
  have e2 : (h.set b (.lst [.ref dg, .int (i + 1)]))[dg]? = some (.lst (ds.map .int)) := get_setne h2 hne
  have fin : ∀ v : Int, 0 ≤ v → v < m → Q (.int v) (h.set b (.lst [.ref dg, .int (i + 1)])) := fun v v0 v1 => hq v _ v0 v1 ⟨ds, i + 1, hne, by omega, e1, e2⟩ (Fr.set (by simp))
  wp_walk using show ixN 2 1 = some 1 from rfl, e1, e2
  refine wif_d (fun c => ?_) (fun c => ?_)
  · wp_walk using e1, e2
    obtain ⟨n, rfl⟩ := Int.eq_ofNat_of_zero_le hi
    have c : n < ds.length := by simpa using c
    wp_walk using e1, e2, atN, List.getElem?_map, List.getElem?_eq_getElem c
    exact ⟨hm, fin _ (Int.emod_nonneg _ (by omega)) (Int.emod_lt_of_pos _ hm)⟩
  · wp_walk using show mulOk i 7 = true from decide_eq_true (.inr (.inl (by omega)))
    exact ⟨hm, fin _ (Int.emod_nonneg _ (by omega)) (Int.emod_lt_of_pos _ hm)⟩
theorem mulS {i j : Int} (h : (-18446744073709551616 < i ∧ i < 18446744073709551616) ∨ (-18446744073709551616 < j ∧ j < 18446744073709551616)) : mulOk i j = true := decide_eq_true (h.elim .inl fun q => .inr (.inl q))
theorem wide_ok {b dg : Nat} {m : Int} {h : Hs} {Q : D → Hs → Prop} {E : Ex → Hs → Prop} (hb : Bx b dg h) (hm : 0 < m) (hq : ∀ v h', 0 ≤ v → v < m → Bx b dg h' → Fr [b] h h' → Q (.int v) h') : (PH.fn__law_wide.go [.ref b, .int m] h).wp Q E := by
  unfold PH.fn__law_wide
  rw [w_defn]
  unfold PH.s__law_wide
  wp_walk using hb
  refine ⟨rfl, draw_ok hb (by decide) fun v1 h1 _ _ b1 f1 => ?_⟩
  wp_walk using hb
  refine ⟨rfl, draw_ok b1 (by decide) fun v2 h2 _ _ b2 f2 => ?_⟩
  wp_walk using mulS (i := 1000) (j := v2) (.inl (by decide))
  refine ⟨rfl, draw_ok b2 (by decide) fun v3 h3 _ _ b3 f3 => ?_⟩
  wp_walk using mulS (i := 1000000) (j := v3) (.inl (by decide))
  exact ⟨hm, hq _ _ (Int.emod_nonneg _ (by omega)) (Int.emod_lt_of_pos _ hm) b3 ((f1.trans f2).trans f3)⟩
theorem cell_ok {ns : List Int} {k : Nat} {h : Hs} {Q : D → Hs → Prop} {E : Ex → Hs → Prop} (hq : ∀ v, Q (.int v) h) : (PH.fn__law_cell.go [.ls (ns.map .int), .int k] h).wp Q E := by
  unfold PH.fn__law_cell
  rw [w_defn]
  unfold PH.s__law_cell
  wp_walk using hq
  refine wif_d (fun c => ?_) (fun c => ?_)
  · have c : k < ns.length := by simpa using c
    wp_walk using atN, List.getElem?_map, List.getElem?_eq_getElem c
    exact hq _
  · wp_walk using hq
theorem range_get {n k : Nat} {x : D} (h : ((List.range n).map fun i => D.int (0 + (i : Nat)))[k]? = some x) : k < n ∧ x = .int (k : Nat) := by
  have hk : k < n := by
    have := (List.getElem?_eq_some_iff.mp h).1
    simpa using this
  rw [List.getElem?_map, List.getElem?_range hk] at h
  have := Option.some.inj h
  exact ⟨hk, by rw [← this]; simp⟩
theorem range_get0 {n k : Nat} {x : D} (h : ((List.range n).map fun i => D.int ((i : Nat) : Int))[k]? = some x) : k < n ∧ x = .int (k : Nat) := by
  have hk : k < n := by
    have := (List.getElem?_eq_some_iff.mp h).1
    simpa using this
  rw [List.getElem?_map, List.getElem?_range hk] at h
  have := Option.some.inj h
  exact ⟨hk, this.symm⟩
theorem digits_ok {ns : List Int} {h : Hs} {Q : D → Hs → Prop} {E : Ex → Hs → Prop} (hq : ∀ (ds : List Int) n h', h'[n]? = some (.lst (ds.map .int)) → Fr [] h h' → n = h.length → h.length < h'.length → Q (.ref n) h') : (PH.fn__law_digits.go [.ls (ns.map .int), .int 0, .int 63] h).wp Q E := by
  unfold PH.fn__law_digits
  rw [w_defn]
  unfold PH.s__law_digits
  wp_walk using hq
  let I : Nat → Env → Hs → Prop := fun k env h' => ∃ (o4 o5 o6 o7 : Option D) (ds : List Int), env = [some (.ls (ns.map .int)), some (.int 0), some (.int 63), some (.ref h.length), o4, o5, o6, o7] ∧ ds.length ≤ 60 * k ∧ h' = h ++ [.lst (ds.map .int)]
  have hI : ∀ k env h', I k env h' = ∃ (o4 o5 o6 o7 : Option D) (ds : List Int), env = [some (.ls (ns.map .int)), some (.int 0), some (.int 63), some (.ref h.length), o4, o5, o6, o7] ∧ ds.length ≤ 60 * k ∧ h' = h ++ [.lst (ds.map .int)] := fun _ _ _ => rfl
  have g : ∀ ds : List Int, (h ++ [Cell.lst (ds.map .int)])[h.length]? = some (.lst (ds.map .int)) := fun ds => get_new1
  have st : ∀ (ds es : List Int) (i : Int), (h ++ [Cell.lst (ds.map .int)]).set h.length (.lst (ds.map .int ++ [.int i])) = h ++ [.lst ((ds ++ [i]).map .int)] := fun ds es i => by simp
  have fin : ∀ (ds : List Int) (env : Env), env[3]? = some (some (.ref h.length)) → (retF (vE 3) env (h ++ [Cell.lst (ds.map .int)])).wp { nx := fun x h => Q D.non h, bk := fun x x_1 => False, ct := fun x x_1 => False, rt := Q, ex := fun e x h => E e h } := fun ds env e => by
    wp_walk using e
    exact hq ds _ _ (g ds) Fr.app rfl (by simp)
  clear_value I
  refine w_for ((List.range 63).map fun i => .int (0 + (i : Nat))) (fun _ => True) I ?_ (fun _ _ _ _ => trivial) ?_ ?_
  · wp_walk using show small 0 = true from rfl, show small 63 = true from rfl, show ((63 : Int) - 0).toNat = 63 from rfl
    exact ⟨t_rng 0 63 _, by rw [hI]; exact ⟨_, _, _, _, [], rfl, by simp, rfl⟩⟩
  · intro k x env h' hx i0
    rw [hI] at i0
    obtain ⟨o4, o5, o6, o7, ds, rfl, hd, rfl⟩ := i0
    obtain ⟨hk, rfl⟩ := range_get hx
    rw [w_nm, w_seqF]
    wp_walk
    refine ⟨rfl, cell_ok fun v => ?_⟩
    wp_walk
    refine w_cut (fun env h' => ∃ v : Int, env = [some (.ls (ns.map .int)), some (.int 0), some (.int 63), some (.ref h.length), some (.int (k : Nat)), some (.int v), o6, o7] ∧ h' = h ++ [.lst (ds.map .int)]) ?_ ?_
    · wp_walk
      refine wif_d (fun c => ?_) (fun c => ?_)
      · wp_walk using mulS (i := 2) (j := v) (.inl (by decide))
        exact ⟨_, rfl⟩
      · wp_walk
        exact ⟨_, rfl⟩
    · rintro env h' ⟨v, rfl, rfl⟩
      wp_walk using g ds
      refine wif_d (fun c => ?_) (fun c => ?_)
      · rw [w_bkF]
        dsimp only
        exact fin ds _ rfl
      · have c : ds.length ≤ 1500 := by omega
        wp_walk using show (10 : Int) ^ (18 : Int).toNat = 1000000000000000000 from rfl, show (10 : Int).natAbs = 10 from rfl
        refine wif_d (fun cv => ?_) (fun cv => ?_)
        · refine w_for ((List.range 60).map fun i => .int ((i : Nat) : Int)) (fun _ => True) (fun j env h' => ∃ (v : Int) (o6 : Option D) (es : List Int), env = [some (.ls (ns.map .int)), some (.int 0), some (.int 63), some (.ref h.length), some (.int (k : Nat)), some (.int v), o6, o7] ∧ es.length ≤ ds.length + j ∧ h' = h ++ [.lst (es.map .int)]) ?_ (fun _ _ _ _ => trivial) ?_ ?_
          · wp_walk using show small 60 = true from rfl, show (60 : Int).toNat = 60 from rfl
            exact ⟨t_rng0 60 _, _, _, ds, rfl, by omega, rfl⟩
          · rintro j x env h' hx ⟨v, o6, es, rfl, he, rfl⟩
            obtain ⟨hj, rfl⟩ := range_get0 hx
            wp_walk
            refine wif_d (fun c => ?_) (fun c => ?_)
            · wp_walk using g es, ty_appM
              refine ⟨by omega, ?_⟩
              wp_walk
              exact ⟨_, _, es ++ [v % 1000], rfl, by simp; omega, st es [] _⟩
            · wp_walk
              exact ⟨_, _, es, rfl, by omega, rfl⟩
          · rintro env h' ⟨v, o6, es, rfl, he, rfl⟩
            wp_walk
            rw [hI]
            simp only [List.length_map, List.length_range] at he
            exact ⟨_, _, _, _, es, rfl, by omega, rfl⟩
        · wp_walk using mulS (i := v) (j := 48271) (.inr (by decide)), mulS (i := ((k : Nat) : Int)) (j := 69621) (.inr (by decide))
          refine w_for ((List.range 12).map fun i => .int ((i : Nat) : Int)) (fun _ => True) (fun j env h' => ∃ (s : Int) (o6 : Option D) (es : List Int), env = [some (.ls (ns.map .int)), some (.int 0), some (.int 63), some (.ref h.length), some (.int (k : Nat)), some (.int v), o6, some (.int s)] ∧ es.length ≤ ds.length + j ∧ h' = h ++ [.lst (es.map .int)]) ?_ (fun _ _ _ _ => trivial) ?_ ?_
          · wp_walk using show small 12 = true from rfl, show (12 : Int).toNat = 12 from rfl
            exact ⟨t_rng0 12 _, _, _, ds, rfl, by omega, rfl⟩
          · rintro j x env h' hx ⟨s, o6, es, rfl, he, rfl⟩
            obtain ⟨hj, rfl⟩ := range_get0 hx
            wp_walk using mulS (i := s) (j := 16807) (.inr (by decide)), mulS (i := 7) (j := ((j : Nat) : Int)) (.inl (by decide))
            wp_walk using g es, ty_appM
            refine ⟨by omega, ?_⟩
            exact ⟨_, _, es ++ [_], rfl, by simp; omega, st es [] _⟩
          · rintro env h' ⟨s, o6, es, rfl, he, rfl⟩
            wp_walk
            rw [hI]
            simp only [List.length_map, List.length_range] at he
            exact ⟨_, _, _, _, es, rfl, by omega, rfl⟩
  · intro env h' i0
    rw [hI] at i0
    obtain ⟨o4, o5, o6, o7, ds, rfl, hd, rfl⟩ := i0
    rw [w_nextF]
    dsimp only
    exact fin ds _ rfl
open PySem PySem.Spec PyProof.Rows L2
abbrev Nm := List Nat
def zro : Nm := cs "zero"
def enO : Option Int → D
  | none => .non
  | some i => .int i
structure Spn where
  loose : Bool
  name : Nm
  a : Nm
  b : Nm
  lo : Option Int
  hi : Option Int
def kindOf (l : Bool) : Nm := if l then cs "loose" else cs "span"
def enS (s : Spn) : D := .tup [.str (kindOf s.loose), .str s.name, .str s.a, .str s.b, enO s.lo, enO s.hi]
structure Pln where
  marks : List Nm
  rows : List Spn
def enP (p : Pln) : D := .tup [.str (cs "plan"), .tup (p.marks.map .str), .tup (p.rows.map enS)]
/-- bounds as they are drawn -/
structure OkB (lo hi : Option Int) : Prop where
  one : lo ≠ none ∨ hi ≠ none
  l : ∀ i, lo = some i → -4 ≤ i ∧ i ≤ 4
  u : ∀ j, hi = some j → -4 ≤ j ∧ j ≤ 7
  le : ∀ i j, lo = some i → hi = some j → i ≤ j
theorem flts_str (n : Nat) : ∀ ys : List Nm, flts n (ys.map .str) = true
  | [] => by simp [flts]
  | y :: ys => by simp only [List.map_cons, flts, flts_str n ys, Bool.and_true]; cases n <;> rfl
theorem in_strs (h : Hs) (x : Nm) (ys : List Nm) : inSeq h (.str x) (ys.map .str) = some (decide (x ∈ ys)) := by
  rw [in_flat (by rfl) (flts_str _ ys)]
  congr 1
  induction ys with
  | nil => simp
  | cons y ys ih =>
    rw [List.map_cons, List.any_cons, ih]
    simp only [deq, List.mem_cons]
    by_cases c : y = x
    · subst c; simp
    · have : ¬ x = y := fun e => c e.symm
      simp [c, this]
theorem bounds_ok {b dg : Nat} {h : Hs} {Q : D → Hs → Prop} {E : Ex → Hs → Prop} (hb : Bx b dg h) (hq : ∀ lo hi h', OkB lo hi → Bx b dg h' → Fr [b] h h' → Q (.tup [enO lo, enO hi]) h') : (PH.fn__law_bounds.go [.ref b, .bl false] h).wp Q E := by
  unfold PH.fn__law_bounds
  rw [w_defn]
  unfold PH.s__law_bounds
  wp_walk using hb
  refine ⟨rfl, draw_ok hb (by decide) fun v1 h1 _ _ b1 f1 => ?_⟩
  wp_walk using hb
  refine ⟨rfl, draw_ok b1 (by decide) fun v2 h2 _ _ b2 f2 => ?_⟩
  wp_walk using hb
  refine ⟨rfl, draw_ok (b2.fr .app) (by decide) fun v3 h3 _ _ b3 f3 => ?_⟩
  have l2 := b2.lt
  have e3 := f3.get (get_new1 (h := h2)) (by simp; omega)
  wp_walk using e3
  have F : Fr [b] h h3 := (f1.trans f2).trans (Fr.app.trans f3)
  obtain rfl | rfl | rfl | rfl : v3 = 0 ∨ v3 = 1 ∨ v3 = 2 ∨ v3 = 3 := by omega
  · wp_walk using hb
    exact hq (some _) (some _) _ ⟨.inl (by simp), fun i e => by cases e; omega, fun i e => by cases e; omega, fun i j e e' => by cases e; cases e'; omega⟩ b3 F
  · wp_walk using hb
    exact hq (some _) none _ ⟨.inl (by simp), fun i e => by cases e; omega, fun i e => by (cases e), fun i j e e' => by cases e'⟩ b3 F
  · wp_walk using hb
    exact hq none (some _) _ ⟨.inr (by simp), fun i e => by (cases e), fun i e => by cases e; omega, fun i j e e' => by cases e⟩ b3 F
  · wp_walk using hb
    exact hq (some _) (some _) _ ⟨.inl (by simp), fun i e => by cases e; omega, fun i e => by cases e; omega, fun i j e e' => by cases e; cases e'; omega⟩ b3 F
theorem span_ok {b dg : Nat} {nm : Nm} {ms : List Nm} {h : Hs} {Q : D → Hs → Prop} {E : Ex → Hs → Prop} (hb : Bx b dg h) (hn : (zro :: ms).Nodup) (h0 : ms ≠ []) (hl : ms.length < 1000) (hq : ∀ x y lo hi h', x ∈ zro :: ms → y ∈ zro :: ms → x ≠ y → OkB lo hi → Bx b dg h' → Fr [b] h h' → Q (enS ⟨false, nm, x, y, lo, hi⟩) h') : (PH.fn__law_span.go [.ref b, .str nm, .tup (ms.map .str), .bl false] h).wp Q E := by
  unfold PH.fn__law_span
  rw [w_defn]
  unfold PH.s__law_span
  wp_walk using hb
  have g1 : (h ++ [Cell.lst [D.str (cs "zero")]] ++ [Cell.lst (ms.map .str)])[h.length]? = some (.lst [.str (cs "zero")]) := get_old get_new1
  have g2 : (h ++ [Cell.lst [D.str (cs "zero")]] ++ [Cell.lst (ms.map .str)])[(h ++ [Cell.lst [D.str (cs "zero")]]).length]? = some (.lst (ms.map .str)) := get_new1
  wp_walk using g1, g2
  have F1 : Fr [] h (h ++ [Cell.lst [D.str (cs "zero")]] ++ [Cell.lst (ms.map .str)] ++ [Cell.lst (D.str (cs "zero") :: ms.map .str)]) := (Fr.app.push).push
  have g3 : (h ++ [Cell.lst [D.str (cs "zero")]] ++ [Cell.lst (ms.map .str)] ++ [Cell.lst (D.str (cs "zero") :: ms.map .str)])[(h ++ [Cell.lst [D.str (cs "zero")]] ++ [Cell.lst (ms.map .str)]).length]? = some (.lst ((zro :: ms).map .str)) := get_new1
  have l3 : b < (h ++ [Cell.lst [D.str (cs "zero")]] ++ [Cell.lst (ms.map .str)]).length := by have := hb.lt; simp; omega
  generalize h ++ [Cell.lst [D.str (cs "zero")]] ++ [Cell.lst (ms.map .str)] ++ [Cell.lst (D.str (cs "zero") :: ms.map .str)] = H at *
  generalize (h ++ [Cell.lst [D.str (cs "zero")]] ++ [Cell.lst (ms.map .str)]).length = e at *
  have lp : 0 < ms.length := List.length_pos_iff.mpr h0
  refine ⟨by omega, rfl, draw_ok (hb.fr F1) (by decide) fun v1 h1 p1 _ b1 f1 => ?_⟩
  have ne : e ∉ [b] := by simp; omega
  have g4 := f1.get g3 ne
  wp_walk using g4
  refine ⟨by omega, rfl, draw_ok b1 (by decide) fun v2 h2 p2 _ b2 f2 => ?_⟩
  have g5 := f2.get g4 ne
  wp_walk using g5
  refine ⟨by omega, by omega, ?_⟩
  have x1 := Int.emod_nonneg v1 (show ((ms.length + 1 : Nat) : Int) ≠ 0 by omega)
  have x2 := Int.emod_lt_of_pos v1 (show 0 < ((ms.length + 1 : Nat) : Int) by omega)
  have y1 := Int.emod_nonneg v2 (show ((ms.length + 1 : Nat) : Int) - 1 ≠ 0 by omega)
  have y2 := Int.emod_lt_of_pos v2 (show 0 < ((ms.length + 1 : Nat) : Int) - 1 by omega)
  generalize v1 % ((ms.length + 1 : Nat) : Int) = x at *
  generalize v2 % (((ms.length + 1 : Nat) : Int) - 1) = y at *
  have z1 := Int.emod_nonneg (x + 1 + y) (show ((ms.length + 1 : Nat) : Int) ≠ 0 by omega)
  have z2 := Int.emod_lt_of_pos (x + 1 + y) (show 0 < ((ms.length + 1 : Nat) : Int) by omega)
  have xz : x ≠ (x + 1 + y) % ((ms.length + 1 : Nat) : Int) := fun q => by
    have d := Int.emod_add_mul_ediv (x + 1 + y) ((ms.length + 1 : Nat) : Int)
    rw [← q] at d
    have d2 : ((ms.length + 1 : Nat) : Int) * ((x + 1 + y) / ((ms.length + 1 : Nat) : Int)) = 1 + y := by omega
    have : (x + 1 + y) / ((ms.length + 1 : Nat) : Int) = 0 ∨ 1 ≤ (x + 1 + y) / ((ms.length + 1 : Nat) : Int) ∨ (x + 1 + y) / ((ms.length + 1 : Nat) : Int) ≤ -1 := by omega
    rcases this with k | k | k
    · rw [k] at d2; omega
    · have := Int.mul_le_mul_of_nonneg_left k (show 0 ≤ ((ms.length + 1 : Nat) : Int) by omega)
      omega
    · have := Int.mul_le_mul_of_nonneg_left k (show 0 ≤ ((ms.length + 1 : Nat) : Int) by omega)
      omega
  generalize (x + 1 + y) % ((ms.length + 1 : Nat) : Int) = z at *
  obtain ⟨i, rfl⟩ := Int.eq_ofNat_of_zero_le x1
  obtain ⟨j, rfl⟩ := Int.eq_ofNat_of_zero_le z1
  have hi : i < (zro :: ms).length := by simp; omega
  have hj : j < (zro :: ms).length := by simp; omega
  have gi : (D.str zro :: ms.map .str)[i]? = some (.str (zro :: ms)[i]) := by rw [← List.map_cons, List.getElem?_map, List.getElem?_eq_getElem hi]; rfl
  have gj : (D.str zro :: ms.map .str)[j]? = some (.str (zro :: ms)[j]) := by rw [← List.map_cons, List.getElem?_map, List.getElem?_eq_getElem hj]; rfl
  wp_walk using g5, atN, gi, gj
  refine ⟨rfl, bounds_ok b2 fun lo hi' h3 ok b3 f3 => ?_⟩
  wp_walk
  exact hq _ _ lo hi' _ (List.getElem_mem hi) (List.getElem_mem hj) (fun q => xz (by have := (List.getElem_inj hn).mp q; omega)) ok b3 (F1.up.trans (f1.trans (f2.trans f3)))
theorem Fr.setNew {S : List Nat} {h h1 : Hs} {n : Nat} {c : Cell} (f : Fr S h h1) (hn : h.length ≤ n) : Fr S h (h1.set n c) :=
  ⟨by simpa using f.1, fun m d q e => by rw [List.getElem?_set_ne (by have := get_lt e; omega)]; exact f.2 m d q e⟩
def abc : List Nm := [cs "a", cs "b", cs "c", cs "d", cs "e", cs "f", cs "g"]
theorem abc_nd : (zro :: abc).Nodup := by decide +kernel
theorem abc_take (n : Nat) : (zro :: abc.take n).Nodup := List.Nodup.sublist (List.Sublist.cons₂ _ (List.take_sublist n abc)) abc_nd
theorem cut_to {α : Type} (xs : List α) (n : Nat) : cutD xs none (some (n : Int)) = xs.take n := by
  unfold cutD
  rw [HT.sIx_none, HT.sIx_nat, List.drop_zero, Nat.sub_zero, List.take_eq_take_iff]
  omega
theorem num_len : ∀ i, i < 60 → (cs (toString ((i : Nat) : Int))).length ≤ 2 := by decide +kernel
theorem num_ch : ∀ i, i < 60 → ∀ c ∈ cs (toString ((i : Nat) : Int)), 48 ≤ c ∧ c ≤ 57 := by decide +kernel
theorem num_inj : ∀ i, i < 60 → ∀ j, j < 60 → cs (toString ((i : Nat) : Int)) = cs (toString ((j : Nat) : Int)) → i = j := by decide +kernel
theorem num_log {i : Nat} (h : i < 1900) : ((i : Int)).natAbs.log2 < 1920 := by
  rw [Int.natAbs_natCast]
  exact Nat.lt_of_le_of_lt (Nat.log2_le_self i) (by omega)
def sNm (c : String) (i : Nat) : Nm := cs c ++ cs (toString ((i : Nat) : Int))
theorem cs_s : cs "s" = [115] := by decide +kernel
theorem cs_w : cs "w" = [119] := by decide +kernel
/-- a loose span as it is drawn -/
def LsOk (ms : List Nm) (s : Spn) : Prop := ∃ (l u : Int), s.lo = some l ∧ s.hi = some u ∧ 1 ≤ l ∧ l ≤ u ∧ l ≤ 3 ∧ u ≤ 5 ∧ ∃ j : Nat, ms[j]? = some s.b ∧ (s.a = zro ∨ ∃ i : Nat, i < j ∧ ms[i]? = some s.a)
/-- rows of a drawn plan -/
structure GR (ms : List Nm) (rows : List Spn) : Prop where
  ok : ∀ s ∈ rows, s.a ∈ zro :: ms ∧ s.b ∈ zro :: ms ∧ s.a ≠ s.b
  bd : ∀ s ∈ rows, OkB s.lo s.hi
  ls : ∀ s ∈ rows, s.loose = true → LsOk ms s
  nd : (rows.map Spn.name).Nodup
  le : ((rows.filter Spn.loose).map Spn.b).Nodup
  nl : ∀ s ∈ rows, s.name.length ≤ 3
  nu : ∀ s ∈ rows, s.name.head? = some 115 ∨ s.name.head? = some 119
  na : ∀ s ∈ rows, ∀ c ∈ s.name, (97 ≤ c ∧ c ≤ 122) ∨ (48 ≤ c ∧ c ≤ 57)
theorem GR.nil (ms : List Nm) : GR ms [] := ⟨fun _ q => (nomatch q), fun _ q => (nomatch q), fun _ q => (nomatch q), List.nodup_nil, List.nodup_nil, fun _ q => (nomatch q), fun _ q => (nomatch q), fun _ q => (nomatch q)⟩
/-- one more, anywhere -/
theorem GR.ins {ms : List Nm} {rows rows' : List Spn} {s : Spn} (g : GR ms rows) (p : rows'.Perm (s :: rows)) (h1 : s.a ∈ zro :: ms ∧ s.b ∈ zro :: ms ∧ s.a ≠ s.b) (h2 : OkB s.lo s.hi)
    (h3 : s.loose = true → LsOk ms s ∧ ∀ r ∈ rows, r.loose = true → r.b ≠ s.b)
    (h4 : ∀ r ∈ rows, r.name ≠ s.name) (h5 : s.name.length ≤ 3 ∧ (s.name.head? = some 115 ∨ s.name.head? = some 119)) (h6 : ∀ c ∈ s.name, (97 ≤ c ∧ c ≤ 122) ∨ (48 ≤ c ∧ c ≤ 57)) : GR ms rows' where
  na := fun r m => by
    rcases List.mem_cons.mp (p.mem_iff.mp m) with rfl | m
    · exact h6
    · exact g.na r m
  nu := fun r m => by
    rcases List.mem_cons.mp (p.mem_iff.mp m) with rfl | m
    · exact h5.2
    · exact g.nu r m
  nl := fun r m => by
    rcases List.mem_cons.mp (p.mem_iff.mp m) with rfl | m
    · exact h5.1
    · exact g.nl r m
  ok := fun r m => by
    rcases List.mem_cons.mp (p.mem_iff.mp m) with rfl | m
    · exact h1
    · exact g.ok r m
  bd := fun r m => by
    rcases List.mem_cons.mp (p.mem_iff.mp m) with rfl | m
    · exact h2
    · exact g.bd r m
  ls := fun r m l => by
    rcases List.mem_cons.mp (p.mem_iff.mp m) with rfl | m
    · exact (h3 l).1
    · exact g.ls r m l
  nd := (p.map Spn.name).nodup_iff.mpr (by
    rw [List.map_cons, List.nodup_cons]
    refine ⟨fun m => ?_, g.nd⟩
    obtain ⟨r, hr, e⟩ := List.mem_map.mp m
    exact h4 r hr e)
  le := ((p.filter Spn.loose).map Spn.b).nodup_iff.mpr (by
    cases c : s.loose with
    | false => rw [List.filter_cons_of_neg (by simp [c])]; exact g.le
    | true =>
      rw [List.filter_cons_of_pos c, List.map_cons, List.nodup_cons]
      refine ⟨fun m => ?_, g.le⟩
      obtain ⟨r, hr, e⟩ := List.mem_map.mp m
      obtain ⟨hr, lr⟩ := List.mem_filter.mp hr
      exact (h3 c).2 r hr lr e)
theorem sNm_ch {x : String} {k : Nat} (h : k < 60) (hx : x = "s" ∨ x = "w") : ∀ c ∈ sNm x k, (97 ≤ c ∧ c ≤ 122) ∨ (48 ≤ c ∧ c ≤ 57) := fun c m => by
  unfold sNm at m
  rcases List.mem_append.mp m with m | m
  · rcases hx with rfl | rfl
    · rw [cs_s] at m; simp at m; omega
    · rw [cs_w] at m; simp at m; omega
  · exact .inr (num_ch k h c m)
/-- a drawn plan -/
structure GP (p : Pln) : Prop where
  n : ∃ n, n ≤ 7 ∧ p.marks = abc.take n
  rows : GR p.marks p.rows
  few : p.rows.length ≤ 30
theorem abcD (m : Nat) : ([.str (cs "a"), .str (cs "b"), .str (cs "c"), .str (cs "d"), .str (cs "e"), .str (cs "f"), .str (cs "g")] : List D).take m = (abc.take m).map .str := by
  rw [List.map_take]; rfl
/-- between two turns of the second loop -/
def PlB (b dg r e m ns nl : Nat) (ms : List Nm) (h : Hs) (k : Nat) (env : Env) (h' : Hs) : Prop := ∃ (o5 o8 o9 o10 : Option D) (rows : List Spn) (es : List Nm), env = [some (.ref b), some (.int m), some (.int ns), some (.int nl), some (.tup (ms.map .str)), o5, some (.ref r), some (.ref e), o8, o9, o10] ∧
  h'[r]? = some (.lst (rows.map enS)) ∧ h'[e]? = some (.lst (es.map .str)) ∧ GR ms rows ∧ rows.length ≤ ns + k ∧ (∀ s ∈ rows, (∃ j, j < 15 ∧ s.name = sNm "s" j) ∨ ∃ j, j < k ∧ s.name = sNm "w" j) ∧ (∀ s ∈ rows, s.loose = true → s.b ∈ es ∧ 0 < k) ∧ es.length ≤ k ∧ (m = 0 → rows = []) ∧ Bx b dg h' ∧ Fr [b] h h'
theorem plan_ok {b dg : Nat} {m ns nl : Nat} {h : Hs} {Q : D → Hs → Prop} {E : Ex → Hs → Prop} (hb : Bx b dg h) (hm : m ≤ 7) (hs : ns ≤ 15) (hl : nl ≤ 10)
    (hq : ∀ p h', GP p → p.marks = abc.take m → p.rows.length ≤ ns + nl → (nl = 0 → ∀ r ∈ p.rows, r.loose = false) → (m = 0 → p.rows = []) → Bx b dg h' → Fr [b] h h' → Q (enP p) h') : (PH.fn__law_plan.go [.ref b, .int m, .int ns, .int nl] h).wp Q E := by
  unfold PH.fn__law_plan
  rw [w_defn]
  unfold PH.s__law_plan
  wp_walk using cut_to, abcD
  have hms : (abc.take m).length = m := by rw [List.length_take]; exact Nat.min_eq_left hm
  have hnd := abc_take m
  have hm0 : m ≠ 0 → abc.take m ≠ [] := fun c q => c (by rw [← hms, q]; rfl)
  have h70 : m = 0 → abc.take m = [] := fun c => by rw [c]; rfl
  have hmark : ∃ n, n ≤ 7 ∧ abc.take m = abc.take n := ⟨m, hm, rfl⟩
  have hmD : ∀ p : Pln, p.marks = abc.take m → GR p.marks p.rows → p.rows.length ≤ ns + nl → GP p := fun p e g l => ⟨⟨m, hm, e⟩, g, by omega⟩
  generalize hM : abc.take m = ms at *
  have e1 : (h ++ [Cell.lst []] ++ [Cell.lst []])[h.length]? = some (.lst []) := get_old get_new1
  have e2 : (h ++ [Cell.lst []] ++ [Cell.lst []])[(h ++ [Cell.lst []]).length]? = some (.lst []) := get_new1
  have F1 : Fr [b] h (h ++ [Cell.lst []] ++ [Cell.lst []]) := Fr.app.push
  have B1 : Bx b dg (h ++ [Cell.lst []] ++ [Cell.lst []]) := hb.fr (Fr.app.push)
  have ne1 : h.length ≠ (h ++ [Cell.lst []]).length := by simp
  have hr0 : h.length ≤ h.length := Nat.le_refl _
  have he0 : h.length ≤ (h ++ [Cell.lst []]).length := by simp
  generalize h ++ [Cell.lst []] ++ [Cell.lst []] = H at *
  generalize hE : (h ++ [Cell.lst []]).length = e at *
  generalize hR : h.length = r at *
  have bL : b < r := by rw [← hR]; exact hb.lt
  have dL : dg < r := by rw [← hR]; exact hb.ltd
  refine w_for ((List.range (if m = 0 then 0 else ns)).map fun i => .int ((i : Nat) : Int)) (fun _ => True) (fun k env h' => ∃ (o5 : Option D) (rows : List Spn), env = [some (.ref b), some (.int m), some (.int ns), some (.int nl), some (.tup (ms.map .str)), o5, some (.ref r), some (.ref e), none, none, none] ∧
      h'[r]? = some (.lst (rows.map enS)) ∧ h'[e]? = some (.lst []) ∧ GR ms rows ∧ rows.length = k ∧ (∀ s ∈ rows, s.loose = false ∧ ∃ j, j < k ∧ s.name = sNm "s" j) ∧ Bx b dg h' ∧ Fr [b] h h') ?_ (fun _ _ _ _ => trivial) ?_ ?_
  · wp_walk
    refine wif_d (fun c => ?_) (fun c => ?_)
    · have c : m ≠ 0 := by omega
      wp_walk using if_neg c
      refine ⟨by unfold small; simp; omega, by simpa using t_rng0 ns _, _, [], rfl, e1, e2, GR.nil ms, rfl, fun _ q => (nomatch q), B1, F1⟩
    · have c : m = 0 := by omega
      wp_walk using if_pos c
      refine ⟨by rfl, by simpa using t_rng0 0 _, _, [], rfl, e1, e2, GR.nil ms, rfl, fun _ q => (nomatch q), B1, F1⟩
  · rintro k x env h' hx ⟨o5, rows, rfl, g1, g2, gr, hk, nm, B, F⟩
    obtain ⟨hk2, rfl⟩ := range_get0 hx
    have c : m ≠ 0 := fun c => by rw [if_pos c] at hk2; omega
    rw [if_neg c] at hk2
    have ln := num_len k (by omega)
    wp_walk using g1, num_log (show k < 1900 by omega)
    refine ⟨by rw [cs_s, show ([115] : List Nat).length = 1 from rfl]; omega, rfl, span_ok B hnd (hm0 c) (by omega) fun x y lo hi h2 hx2 hy ne ok B2 F2 => ?_⟩
    have k1 := F2.get g1 (by simp; omega)
    have k2 := F2.get g2 (by simp; omega)
    wp_walk using k1
    refine ⟨by omega, some (.int k), rows ++ [⟨false, sNm "s" k, x, y, lo, hi⟩], rfl, ?_, get_setne k2 ne1, ?_, by simp [hk], ?_, ?_, ?_⟩
    · rw [get_set k1, List.map_append]; rfl
    · refine gr.ins (List.perm_append_singleton _ _) ⟨hx2, hy, ne⟩ ok (fun q => nomatch q) (fun s hs2 q => ?_) ⟨by show (sNm "s" k).length ≤ 3; unfold sNm; rw [cs_s, List.length_append]; show 1 + _ ≤ 3; omega, .inl (by show (sNm "s" k).head? = _; unfold sNm; rw [cs_s]; rfl)⟩ (sNm_ch (by omega) (.inl rfl))
      obtain ⟨_, j, hj, e⟩ := nm s hs2
      rw [e] at q
      have := num_inj j (by omega) k (by omega) (List.append_cancel_left q)
      omega
    · intro s hs2
      rcases List.mem_append.mp hs2 with q | q
      · obtain ⟨q1, j, hj, e⟩ := nm s q
        exact ⟨q1, j, by omega, e⟩
      · rw [List.mem_singleton.mp q]
        exact ⟨rfl, k, by omega, rfl⟩
    · exact B2.set (by omega) (by omega)
    · exact (F.trans F2).setNew (by omega)
  · rintro env h' ⟨o5, rows, rfl, g1, g2, gr, hk, nm, B, F⟩
    rw [w_nextF]
    dsimp only
    rw [w_seqF]
    rw [List.length_map, List.length_range] at hk nm
    have hN : rows.length ≤ ns := by rw [hk]; split <;> omega
    have hz0 : m = 0 → rows = [] := fun c => by rw [if_pos c] at hk; exact List.length_eq_zero_iff.mp hk
    have hnm : ∀ s ∈ rows, s.loose = false ∧ ∃ j, j < 15 ∧ s.name = sNm "s" j := fun s q => by
      obtain ⟨q1, j, hj, q2⟩ := nm s q
      exact ⟨q1, j, by split at hj <;> omega, q2⟩
    refine w_for ((List.range (if m = 0 then 0 else nl)).map fun i => .int ((i : Nat) : Int)) (fun _ => True) (PlB b dg r e m ns nl ms h) ?_ (fun _ _ _ _ => trivial) ?_ ?_
    · have fin : PlB b dg r e m ns nl ms h 0 [some (.ref b), some (.int m), some (.int ns), some (.int nl), some (.tup (ms.map .str)), o5, some (.ref r), some (.ref e), none, none, none] h' :=
        ⟨_, _, _, _, rows, [], rfl, g1, g2, gr, by omega, fun s q => .inl (hnm s q).2, fun s q l => (by have := (hnm s q).1; rw [this] at l; cases l), Nat.le_refl _, hz0, B, F⟩
      wp_walk
      refine wif_d (fun c => ?_) (fun c => ?_)
      · have c : m ≠ 0 := by omega
        wp_walk
        exact ⟨by unfold small; simp; omega, by rw [if_neg c]; simpa using t_rng0 nl _, fin⟩
      · have c : m = 0 := by omega
        wp_walk
        exact ⟨by rfl, by rw [if_pos c]; exact t_rng0 0 _, fin⟩
    · rintro k x env h' hx ⟨o5, o8, o9, o10, rows, es, rfl, g1, g2, gr, hk, nm, hlo, hes, hz, B, F⟩
      obtain ⟨hk2, rfl⟩ := range_get0 hx
      have c : m ≠ 0 := fun c => by rw [if_pos c] at hk2; omega
      rw [if_neg c] at hk2
      have ln := num_len k (by omega)
      wp_walk using g1
      refine ⟨rfl, draw_ok B (by decide) fun v1 h1 p1 _ B1 F1 => ?_⟩
      have q1 := F1.get g1 (by simp; omega)
      have q2 := F1.get g2 (by simp; omega)
      have x1 := Int.emod_nonneg v1 (show (m : Int) ≠ 0 by omega)
      have x2 := Int.emod_lt_of_pos v1 (show 0 < (m : Int) by omega)
      wp_walk
      refine ⟨by omega, ?_⟩
      generalize v1 % (m : Int) = x at *
      obtain ⟨i, rfl⟩ := Int.eq_ofNat_of_zero_le x1
      have hi : i < ms.length := by omega
      have gi : (ms.map D.str)[i]? = some (.str ms[i]) := by rw [List.getElem?_map, List.getElem?_eq_getElem hi]; rfl
      wp_walk using atN, gi, q1, q2, in_strs
      have keep : ∀ o8 : Option D, PlB b dg r e m ns nl ms h (k + 1) [some (.ref b), some (.int m), some (.int ns), some (.int nl), some (.tup (ms.map .str)), some (.int k), some (.ref r), some (.ref e), o8, o9, o10] h1 := fun o8 =>
        ⟨_, _, _, _, rows, es, rfl, q1, q2, gr, by omega, fun s q => (nm s q).imp id fun ⟨j, a, z⟩ => ⟨j, by omega, z⟩, fun s q l => ⟨(hlo s q l).1, by omega⟩, by omega, hz, B1, F.trans F1⟩
      by_cases ci : ms[i] ∈ es
      · wp_walk using ci
        exact keep _
      · wp_walk using ci, cut_to
        have lt : ((ms.map D.str).take i).length = i := by rw [List.length_take, List.length_map]; omega
        have f2 : Fr [] h1 (h1 ++ [Cell.lst [D.str (cs "zero")]] ++ [Cell.lst ((ms.map D.str).take i)] ++ [Cell.lst (D.str (cs "zero") :: (ms.map D.str).take i)]) := Fr.app.push.push
        have t1 : (h1 ++ [Cell.lst [D.str (cs "zero")]] ++ [Cell.lst ((ms.map D.str).take i)])[h1.length]? = some (.lst [D.str (cs "zero")]) := get_old get_new1
        have t2 : (h1 ++ [Cell.lst [D.str (cs "zero")]] ++ [Cell.lst ((ms.map D.str).take i)])[(h1 ++ [Cell.lst [D.str (cs "zero")]]).length]? = some (.lst ((ms.map D.str).take i)) := get_new1
        have t3 : (h1 ++ [Cell.lst [D.str (cs "zero")]] ++ [Cell.lst ((ms.map D.str).take i)] ++ [Cell.lst (D.str (cs "zero") :: (ms.map D.str).take i)])[(h1 ++ [Cell.lst [D.str (cs "zero")]] ++ [Cell.lst ((ms.map D.str).take i)]).length]? = some (.lst (D.str (cs "zero") :: (ms.map D.str).take i)) := get_new1
        have lb : b < (h1 ++ [Cell.lst [D.str (cs "zero")]] ++ [Cell.lst ((ms.map D.str).take i)]).length := by have := B1.lt; simp; omega
        wp_walk using t1, t2
        generalize h1 ++ [Cell.lst [D.str (cs "zero")]] ++ [Cell.lst ((ms.map D.str).take i)] ++ [Cell.lst (D.str (cs "zero") :: (ms.map D.str).take i)] = H2 at *
        generalize (h1 ++ [Cell.lst [D.str (cs "zero")]] ++ [Cell.lst ((ms.map D.str).take i)]).length = e2 at *
        refine ⟨by omega, rfl, draw_ok (B1.fr f2) (by decide) fun v2 h3 _ _ B3 F3 => ?_⟩
        have t4 := F3.get t3 (by simp; omega)
        wp_walk using t4
        refine ⟨by omega, ?_⟩
        have y1 := Int.emod_nonneg v2 (show (i : Int) + 1 ≠ 0 by omega)
        have y2 := Int.emod_lt_of_pos v2 (show 0 < (i : Int) + 1 by omega)
        generalize v2 % ((i : Int) + 1) = y at *
        obtain ⟨j, rfl⟩ := Int.eq_ofNat_of_zero_le y1
        obtain ⟨bg, hbg, hbg2⟩ : ∃ bg : Nm, (D.str (cs "zero") :: (ms.map D.str).take i)[j]? = some (.str bg) ∧ (bg = zro ∨ ∃ j : Nat, j < i ∧ ms[j]? = some bg) := by
          cases j with
          | zero => exact ⟨zro, rfl, .inl rfl⟩
          | succ j =>
            have hj : j < i := by omega
            have hj2 : j < ms.length := by omega
            refine ⟨ms[j], ?_, .inr ⟨j, hj, List.getElem?_eq_getElem hj2⟩⟩
            rw [List.getElem?_cons_succ, List.getElem?_take_of_lt hj, List.getElem?_map, List.getElem?_eq_getElem hj2]; rfl
        wp_walk using t4, atN, hbg
        refine ⟨rfl, draw_ok B3 (by decide) fun v3 h4 _ _ B4 F4 => ?_⟩
        have nr : r ∉ [b] := by simp; omega
        have ne' : e ∉ [b] := by simp; omega
        have q3 := F4.get (F3.get (f2.get q1) nr) nr
        have q4 := F4.get (F3.get (f2.get q2) ne') ne'
        wp_walk using q3, q4, gi, atN
        have s3 : (h4.set e (.lst (es.map D.str ++ [.str ms[i]])))[r]? = some (.lst (rows.map enS)) := get_setne q3 (by omega)
        have s4 : (h4.set e (.lst (es.map D.str ++ [.str ms[i]])))[e]? = some (.lst ((es ++ [ms[i]]).map D.str)) := by rw [get_set q4, List.map_append]; rfl
        have B5 : Bx b dg (h4.set e (.lst (es.map D.str ++ [.str ms[i]]))) := B4.set (by omega) (by omega)
        have F5 : Fr [b] h (h4.set e (.lst (es.map D.str ++ [.str ms[i]]))) := Fr.setNew (F.trans (F1.trans (f2.up.trans (F3.trans F4)))) (by omega)
        wp_walk using s3
        generalize h4.set e (.lst (es.map D.str ++ [.str ms[i]])) = H5 at *
        refine ⟨by omega, rfl, draw_ok B5 (by omega) fun v4 h6 u1 u2 B6 F6 => ?_⟩
        wp_walk using atN, gi, num_log (show k < 1900 by omega)
        refine ⟨by rw [cs_w, show ([119] : List Nat).length = 1 from rfl]; omega, rfl, draw_ok B6 (by decide) fun v5 h7 _ _ B7 F7 => ?_⟩
        have s5 := F7.get (F6.get s3 nr) nr
        have s6 := F7.get (F6.get s4 ne') ne'
        wp_walk using s5
        obtain ⟨p, rfl⟩ := Int.eq_ofNat_of_zero_le u1
        refine ⟨⟨by omega, by omega, by omega⟩, ?_⟩
        let z : Spn := ⟨true, sNm "w" k, bg, ms[i], some (1 + v3), some (1 + v3 + v5)⟩
        have pz : (rows.take p ++ [z] ++ rows.drop p).Perm (z :: rows) := by
          have : (rows.take p ++ [z] ++ rows.drop p).Perm ([z] ++ (rows.take p ++ rows.drop p)) := by
            rw [← List.append_assoc]
            exact List.Perm.append_right _ List.perm_append_comm
          rwa [List.take_append_drop] at this
        have mi : ms[i] ∈ zro :: ms := List.mem_cons_of_mem _ (List.getElem_mem hi)
        have mbg : bg ∈ zro :: ms := by
          rcases hbg2 with rfl | ⟨j, _, ej⟩
          · exact List.mem_cons_self
          · exact List.mem_cons_of_mem _ (List.mem_of_getElem? ej)
        have nbg : bg ≠ ms[i] := by
          rw [List.nodup_cons] at hnd
          rcases hbg2 with rfl | ⟨j, lj, ej⟩
          · exact fun q => hnd.1 (q ▸ List.getElem_mem hi)
          · intro q
            obtain ⟨hj, ej⟩ := List.getElem?_eq_some_iff.mp ej
            have := (List.getElem_inj hnd.2).mp (ej.trans q)
            omega
        refine ⟨_, _, _, _, rows.take p ++ [z] ++ rows.drop p, es ++ [ms[i]], rfl, ?_, ?_, ?_, ?_, ?_, ?_, ?_, ?_, ?_, ?_⟩
        · rw [get_set s5]
          simp only [List.map_append, List.map_take, List.map_drop, Int.toNat_natCast]
          rfl
        · exact get_setne s6 (by omega)
        · refine gr.ins pz ⟨mbg, mi, nbg⟩ ⟨.inl (by simp [z]), fun a q => by cases q; omega, fun a q => by cases q; omega, fun a c q q' => by cases q; cases q'; omega⟩
            (fun _ => ⟨⟨_, _, rfl, rfl, by omega, by omega, by omega, by omega, i, List.getElem?_eq_getElem hi, hbg2⟩, fun s hs2 l q => ci ((show s.b = ms[i] from q) ▸ (hlo s hs2 l).1)⟩) (fun s hs2 q => ?_) ⟨by show (sNm "w" k).length ≤ 3; unfold sNm; rw [cs_w, List.length_append]; show 1 + _ ≤ 3; omega, .inr (by show (sNm "w" k).head? = _; unfold sNm; rw [cs_w]; rfl)⟩ (sNm_ch (by omega) (.inr rfl))
          rcases nm s hs2 with ⟨j, hj, e⟩ | ⟨j, hj, e⟩
          · have q : s.name = sNm "w" k := q
            rw [e] at q
            unfold sNm at q
            rw [cs_s, cs_w] at q
            simp at q
          · have q : s.name = sNm "w" k := q
            rw [e] at q
            have := num_inj j (by omega) k (by omega) (List.append_cancel_left q)
            omega
        · rw [pz.length_eq, List.length_cons]; omega
        · intro s hs2
          rcases List.mem_cons.mp (pz.mem_iff.mp hs2) with rfl | q
          · exact .inr ⟨k, by omega, rfl⟩
          · exact (nm s q).imp id fun ⟨j, a, z⟩ => ⟨j, by omega, z⟩
        · intro s hs2 l
          rcases List.mem_cons.mp (pz.mem_iff.mp hs2) with rfl | q
          · exact ⟨by simp [z], by omega⟩
          · exact ⟨List.mem_append_left _ (hlo s q l).1, by omega⟩
        · simp; omega
        · exact fun q => absurd q c
        · exact B7.set (by omega) (by omega)
        · exact (F5.trans (F6.trans F7)).setNew (by omega)
    · rintro env h' ⟨o5, o8, o9, o10, rows, es, rfl, g1, g2, gr, hk, nm, hlo, hes, hz, B, F⟩
      rw [List.length_map, List.length_range] at hk hlo
      wp_walk using g1
      have hk2 : rows.length ≤ ns + nl := by
        split at hk
        · rename_i c; rw [hz c]; simp
        · exact hk
      exact hq ⟨ms, rows⟩ h' (hmD ⟨ms, rows⟩ rfl gr hk2) rfl hk2 (fun c s hs2 => Bool.eq_false_iff.mpr fun l => by
        have := (hlo s hs2 l).2
        rw [c] at this
        split at this <;> omega) hz B F
abbrev Arc := List Nat × List Nat × Int
/-- a walk from x to y over arcs, of this length -/
inductive Wk (A : List Arc) : List Nat → List Nat → Int → Prop
  | nil (x : List Nat) : Wk A x x 0
  | snoc {x u v : List Nat} {L l : Int} : Wk A x u L → (u, v, l) ∈ A → Wk A x v (L + l)
theorem Wk.trans {A : List Arc} {x y z : List Nat} {L M : Int} (a : Wk A x y L) (b : Wk A y z M) : Wk A x z (L + M) := by
  induction b with
  | nil => rw [Int.add_zero]; exact a
  | snoc _ h ih => rw [← Int.add_assoc]; exact .snoc ih h
theorem Wk.one {A : List Arc} {x y : List Nat} {l : Int} (h : (x, y, l) ∈ A) : Wk A x y l := by
  have := Wk.snoc (Wk.nil x) h
  rwa [Int.zero_add] at this
theorem Wk.mono {A B : List Arc} {x y : List Nat} {L : Int} (a : Wk A x y L) (h : ∀ q ∈ A, q ∈ B) : Wk B x y L := by
  induction a with
  | nil => exact .nil _
  | snoc _ m ih => exact .snoc ih (h _ m)
/-- no closed walk is below 0 -/
def NoNeg (A : List Arc) : Prop := ∀ x L, Wk A x x L → 0 ≤ L
/-- numbers that meet all arcs -/
def Meets (A : List Arc) (p : List Nat → Int) : Prop := ∀ u v l, (u, v, l) ∈ A → p v - p u ≤ l
theorem Meets.wk {A : List Arc} {p : List Nat → Int} (m : Meets A p) {x y : List Nat} {L : Int} (w : Wk A x y L) : p y - p x ≤ L := by
  induction w with
  | nil => omega
  | snoc _ h ih => have := m _ _ _ h; omega
abbrev Tbl := List Nat → List Nat → Option Int
def upd2 (T : Tbl) (x y : List Nat) (v : Option Int) : Tbl := fun a b => if a = x ∧ b = y then v else T a b
theorem upd2_same (T : Tbl) (x y : List Nat) (v : Option Int) : upd2 T x y v x y = v := by simp [upd2]
theorem upd2_ne (T : Tbl) {x y a b : List Nat} (v : Option Int) (h : ¬ (a = x ∧ b = y)) : upd2 T x y v a b = T a b := by simp [upd2, h]
def init (_ : List (List Nat)) : Tbl := fun x y => if x = y then some 0 else none
/-- T' is nowhere above T -/
def Lo (T' T : Tbl) : Prop := ∀ x y c, T x y = some c → ∃ c', T' x y = some c' ∧ c' ≤ c
theorem Lo.refl (T : Tbl) : Lo T T := fun _ _ c e => ⟨c, e, Int.le_refl _⟩
theorem Lo.trans {A B C : Tbl} (a : Lo A B) (b : Lo B C) : Lo A C := fun x y c e =>
  let ⟨c1, e1, l1⟩ := b x y c e
  let ⟨c2, e2, l2⟩ := a x y c1 e1
  ⟨c2, e2, Int.le_trans l2 l1⟩
/-- an arc with its label -/
structure AR (τ : Type) where
  u : List Nat
  v : List Nat
  l : Int
  t : τ
variable {τ : Type}
def AR.arc (a : AR τ) : Arc := (a.u, a.v, a.l)
def arcsL (A : List (AR τ)) : List Arc := A.map AR.arc
structure DS (τ : Type) where
  dist : List Nat → Option Int
  into : List Nat → Option (AR τ)
  fallen : Option (List Nat)
def setF {α : Type} (f : List Nat → Option α) (x : List Nat) (v : α) : List Nat → Option α := fun y => if y = x then some v else f y
theorem setF_same {α : Type} (f : List Nat → Option α) (x : List Nat) (v : α) : setF f x v x = some v := by simp [setF]
theorem setF_ne {α : Type} (f : List Nat → Option α) {x y : List Nat} (v : α) (h : y ≠ x) : setF f x v y = f y := by simp [setF, h]
/-- whether the arc lowers its end, and to what -/
def falls (s : DS τ) (a : AR τ) : Option Int := match s.dist a.u with
  | none => none
  | some d => match s.dist a.v with
    | none => some (d + a.l)
    | some e => if d + a.l < e then some (d + a.l) else none
def relax1 (s : DS τ) (a : AR τ) : DS τ := match falls s a with
  | none => s
  | some n => ⟨setF s.dist a.v n, setF s.into a.v a, some a.v⟩
/-- going back along the last arcs -/
inductive Bk (into : List Nat → Option (AR τ)) : List Nat → List (AR τ) → List Nat → Prop
  | nil (v : List Nat) : Bk into v [] v
  | cons {v w : List Nat} {a : AR τ} {r : List (AR τ)} : into v = some a → Bk into a.u r w → Bk into v (a :: r) w
theorem Bk.append {into : List Nat → Option (AR τ)} {v w x : List Nat} {r q : List (AR τ)} (a : Bk into v r w) (b : Bk into w q x) : Bk into v (r ++ q) x := by
  induction a with
  | nil => exact b
  | cons h _ ih => exact .cons h (ih b)
theorem Bk.mem {into : List Nat → Option (AR τ)} {v w : List Nat} {r : List (AR τ)} (b : Bk into v r w) : ∀ a ∈ r, ∃ x, into x = some a := by
  induction b with
  | nil => exact fun _ m => nomatch m
  | cons h _ ih =>
    intro a m
    rcases List.mem_cons.mp m with rfl | m
    · exact ⟨_, h⟩
    · exact ih a m
/-- each arc's end is where one began, or the beginning of all -/
theorem Bk.ends {into : List Nat → Option (AR τ)} (hi : ∀ v a, into v = some a → a.v = v) {v w : List Nat} {r : List (AR τ)} (b : Bk into v r w) : (∀ a ∈ r, a.v = v ∨ ∃ c ∈ r, c.u = a.v) ∧ (r ≠ [] → ∃ c ∈ r, c.u = w) := by
  induction b with
  | nil => exact ⟨fun _ m => (nomatch m), fun h => absurd rfl h⟩
  | cons h q ih =>
    rename_i v w a r
    refine ⟨fun c m => ?_, fun _ => ?_⟩
    · rcases List.mem_cons.mp m with rfl | m
      · exact .inl (hi _ _ h)
      · rcases ih.1 c m with e | ⟨d, hd, e⟩
        · exact .inr ⟨a, List.mem_cons_self, e.symm⟩
        · exact .inr ⟨d, List.mem_cons_of_mem _ hd, e⟩
    · cases q with
      | nil => exact ⟨a, List.mem_cons_self, rfl⟩
      | cons h2 q2 =>
        obtain ⟨c, hc, e⟩ := ih.2 (by simp)
        exact ⟨c, List.mem_cons_of_mem _ hc, e⟩
theorem Bk.ring {into : List Nat → Option (AR τ)} (hi : ∀ v a, into v = some a → a.v = v) {v : List Nat} {r : List (AR τ)} (b : Bk into v r v) (hr : r ≠ []) : ∀ a ∈ r, ∃ c ∈ r, c.u = a.v := fun a m => by
  obtain ⟨h1, h2⟩ := b.ends hi
  rcases h1 a m with e | q
  · obtain ⟨c, hc, e2⟩ := h2 hr
    exact ⟨c, hc, e2.trans e.symm⟩
  · exact q
theorem Bk.into_eq {into into' : List Nat → Option (AR τ)} {v w : List Nat} {r : List (AR τ)} (b : Bk into v r w) (h : ∀ x a, a ∈ r → into x = some a → into' x = some a) : Bk into' v r w := by
  induction b with
  | nil => exact .nil _
  | cons e _ ih => exact .cons (h _ _ List.mem_cons_self e) (ih fun x a m => h x a (List.mem_cons_of_mem _ m))
/-- in the middle of round R, these arcs looked at -/
structure BI (A : List (AR τ)) (starts ns : List (List Nat)) (R : Nat) (done : List (AR τ)) (s : DS τ) (last : List Nat → Nat) : Prop where
  wk : ∀ v d, s.dist v = some d → ∃ x ∈ starts, Wk (arcsL A) x v d
  st : ∀ x ∈ starts, ∃ d, s.dist x = some d ∧ d ≤ 0
  ina : ∀ v a, s.into v = some a → a ∈ A ∧ a.v = v ∧ last v ≤ last a.u + 1 ∧ ∃ du dv, s.dist a.u = some du ∧ s.dist v = some dv ∧ du + a.l ≤ dv
  la : ∀ v, s.into v = none ↔ last v = 0
  lr : ∀ v, last v ≤ R
  cyc : ∀ v r, r ≠ [] → Bk s.into v r v → ∃ a ∈ r, ∃ du dv, s.dist a.u = some du ∧ s.dist a.v = some dv ∧ du + a.l < dv
  sat : ∀ a ∈ A, ∀ du, s.dist a.u = some du → (last a.u + 2 ≤ R ∨ (a ∈ done ∧ last a.u + 1 ≤ R)) → ∃ dv, s.dist a.v = some dv ∧ dv ≤ du + a.l
  fal : ∀ v, s.fallen = some v → last v = R
  faln : s.fallen = none → 1 ≤ R → ∀ v, last v + 1 ≤ R
  inn : ∀ v d, s.dist v = some d → v ∈ ns
theorem falls_some {s : DS τ} {a : AR τ} {n : Int} (h : falls s a = some n) : ∃ du, s.dist a.u = some du ∧ n = du + a.l ∧ ∀ dv, s.dist a.v = some dv → n < dv := by
  unfold falls at h
  cases e : s.dist a.u with
  | none => rw [e] at h; cases h
  | some d =>
    rw [e] at h
    dsimp only at h
    cases e2 : s.dist a.v with
    | none => rw [e2] at h; exact ⟨d, rfl, (Option.some.inj h).symm, fun _ q => nomatch q⟩
    | some c =>
      rw [e2] at h
      dsimp only at h
      split at h
      · exact ⟨d, rfl, (Option.some.inj h).symm, fun dv q => by cases q; have := Option.some.inj h; omega⟩
      · cases h
theorem falls_none {s : DS τ} {a : AR τ} (h : falls s a = none) : ∀ du, s.dist a.u = some du → ∃ dv, s.dist a.v = some dv ∧ dv ≤ du + a.l := fun du e => by
  unfold falls at h
  rw [e] at h
  dsimp only at h
  cases e2 : s.dist a.v with
  | none => rw [e2] at h; cases h
  | some c =>
    rw [e2] at h
    dsimp only at h
    split at h
    · cases h
    · exact ⟨c, rfl, by omega⟩
theorem BI.step {A : List (AR τ)} {starts ns : List (List Nat)} {R : Nat} {done : List (AR τ)} {s : DS τ} {last : List Nat → Nat} (b : BI A starts ns R done s last) (hR : 1 ≤ R) (hns : ∀ a ∈ A, a.u ∈ ns ∧ a.v ∈ ns) (hne : ∀ a ∈ A, a.u ≠ a.v) {a : AR τ} (ha : a ∈ A) :
    ∃ last', BI A starts ns R (done ++ [a]) (relax1 s a) last' := by
  cases e : falls s a with
  | none =>
    have es : relax1 s a = s := by unfold relax1; rw [e]
    refine ⟨last, ?_⟩
    rw [es]
    refine { b with sat := fun c hc du hd h => ?_ }
    rcases h with h | ⟨h1, h2⟩
    · exact b.sat c hc du hd (.inl h)
    · rcases List.mem_append.mp h1 with m | m
      · exact b.sat c hc du hd (.inr ⟨m, h2⟩)
      · rw [List.mem_singleton.mp m] at hd ⊢
        exact falls_none e du hd
  | some n =>
    obtain ⟨du0, eu, en, lt⟩ := falls_some e
    have hu := hne a ha
    have es : relax1 s a = ⟨setF s.dist a.v n, setF s.into a.v a, some a.v⟩ := by unfold relax1; rw [e]
    let last' : List Nat → Nat := fun x => if x = a.v then R else last x
    have l1 : last' a.v = R := by simp [last']
    have l2 : ∀ x, x ≠ a.v → last' x = last x := fun x h => by simp [last', h]
    have l3 : ∀ x, last x ≤ last' x := fun x => by
      by_cases h : x = a.v
      · rw [h, l1]; exact b.lr _
      · rw [l2 x h]; exact Nat.le_refl _
    -- distances only fall
    have dn : ∀ x d, s.dist x = some d → ∃ d', setF s.dist a.v n x = some d' ∧ d' ≤ d := fun x d q => by
      by_cases h : x = a.v
      · subst h
        exact ⟨n, setF_same _ _ _, by have := lt d q; omega⟩
      · exact ⟨d, by rw [setF_ne _ _ h]; exact q, Int.le_refl _⟩
    have hlast : ¬ (last a.u + 2 ≤ R) := fun h => by
      obtain ⟨dv, e1, e2⟩ := b.sat a ha du0 eu (.inl h)
      have := lt dv e1
      omega
    refine ⟨last', ?_⟩
    rw [es]
    refine ⟨?_, ?_, ?_, ?_, ?_, ?_, ?_, ?_, ?_, ?_⟩
    · intro v d q
      by_cases h : v = a.v
      · subst h
        have q : setF s.dist a.v n a.v = some d := q
        rw [setF_same] at q; cases q
        obtain ⟨x, hx, w⟩ := b.wk _ _ eu
        exact ⟨x, hx, by rw [en]; exact .snoc w (List.mem_map.mpr ⟨a, ha, rfl⟩)⟩
      · have q : setF s.dist a.v n v = some d := q
        rw [setF_ne _ _ h] at q
        exact b.wk v d q
    · intro x hx
      obtain ⟨d, q, l⟩ := b.st x hx
      obtain ⟨d', q', l'⟩ := dn x d q
      exact ⟨d', q', by omega⟩
    · intro v c q
      have q : setF s.into a.v a v = some c := q
      by_cases h : v = a.v
      · subst h
        rw [setF_same] at q; cases q
        refine ⟨ha, rfl, by rw [l1, l2 _ hu]; omega, du0, n, ?_, setF_same _ _ _, by omega⟩
        show setF s.dist a.v n a.u = _
        rw [setF_ne _ _ hu]; exact eu
      · rw [setF_ne _ _ h] at q
        obtain ⟨q1, q2, q3, du, dv, q4, q5, q6⟩ := b.ina v c q
        obtain ⟨d', q', l'⟩ := dn c.u du q4
        exact ⟨q1, q2, by have := l3 c.u; rw [l2 v h]; omega, d', dv, q', by show setF s.dist a.v n v = _; rw [setF_ne _ _ h]; exact q5, by omega⟩
    · intro v
      by_cases h : v = a.v
      · subst h
        rw [l1]
        show setF s.into a.v a a.v = none ↔ _
        rw [setF_same]
        exact ⟨fun q => (nomatch q), fun q => by omega⟩
      · rw [l2 v h]
        show setF s.into a.v a v = none ↔ _
        rw [setF_ne _ _ h]; exact b.la v
    · intro v
      by_cases h : v = a.v
      · rw [h, l1]; exact Nat.le_refl _
      · rw [l2 v h]; exact b.lr v
    · intro v r hr bk
      have hi' : ∀ v c, setF s.into a.v a v = some c → c.v = v := fun v c q => by
        by_cases h : v = a.v
        · subst h; rw [setF_same] at q; cases q; rfl
        · rw [setF_ne _ _ h] at q; exact (b.ina v c q).2.1
      have bk : Bk (setF s.into a.v a) v r v := bk
      by_cases h : ∃ c ∈ r, c.u = a.v
      · obtain ⟨c, hc, ec⟩ := h
        obtain ⟨x, hx⟩ := bk.mem c hc
        have hxv : x ≠ a.v := fun q => by
          subst q
          rw [setF_same] at hx; cases hx
          exact hu ec
        have hx2 := hx
        rw [setF_ne _ _ hxv] at hx2
        obtain ⟨q1, q2, q3, du, dv, q4, q5, q6⟩ := b.ina x c hx2
        refine ⟨c, hc, n, dv, ?_, ?_, ?_⟩
        · rw [ec]; exact setF_same _ _ _
        · show setF s.dist a.v n c.v = _
          rw [q2, setF_ne _ _ hxv]; exact q5
        · rw [ec] at q4
          have := lt du q4
          omega
      · have hv : ∀ c ∈ r, c.v ≠ a.v := fun c hc q => by
          obtain ⟨d, hd, e⟩ := bk.ring hi' hr c hc
          exact h ⟨d, hd, e.trans q⟩
        have bk2 : Bk s.into v r v := bk.into_eq fun x c hc q => by
          have hx : x ≠ a.v := fun z => hv c hc ((hi' x c q).trans z)
          rw [setF_ne _ _ hx] at q; exact q
        obtain ⟨c, hc, du, dv, q1, q2, q3⟩ := b.cyc v r hr bk2
        refine ⟨c, hc, du, dv, ?_, ?_, q3⟩
        · show setF s.dist a.v n c.u = _
          rw [setF_ne _ _ fun z => h ⟨c, hc, z⟩]; exact q1
        · show setF s.dist a.v n c.v = _
          rw [setF_ne _ _ (hv c hc)]; exact q2
    · intro c hc du hd hh
      have hd2 : setF s.dist a.v n c.u = some du := hd
      clear hd
      have hcu : c.u ≠ a.v := fun q => by
        rw [q, l1] at hh; omega
      rw [setF_ne _ _ hcu] at hd2
      rw [l2 _ hcu] at hh
      have fin : (∃ dv, s.dist c.v = some dv ∧ dv ≤ du + c.l) → ∃ dv, setF s.dist a.v n c.v = some dv ∧ dv ≤ du + c.l := fun ⟨dv, q1, q2⟩ => by
        obtain ⟨d', q', l'⟩ := dn c.v dv q1
        exact ⟨d', q', by omega⟩
      rcases hh with h | ⟨h1, h2⟩
      · exact fin (b.sat c hc du hd2 (.inl h))
      · rcases List.mem_append.mp h1 with m | m
        · exact fin (b.sat c hc du hd2 (.inr ⟨m, h2⟩))
        · have := List.mem_singleton.mp m
          subst this
          rw [eu] at hd2; cases hd2
          exact ⟨n, setF_same _ _ _, by omega⟩
    · intro v q
      have q : some a.v = some v := q
      cases q
      exact l1
    · intro q
      exact nomatch (show some a.v = none from q)
    · intro v d q
      have q : setF s.dist a.v n v = some d := q
      by_cases h : v = a.v
      · rw [h]; exact (hns a ha).2
      · rw [setF_ne _ _ h] at q; exact b.inn v d q
/-- behind round R -/
structure BR (A : List (AR τ)) (starts ns : List (List Nat)) (R : Nat) (s : DS τ) : Prop where
  ex : ∃ last, BI A starts ns R A s last
  bg : ∀ v d, s.dist v = some d → s.into v = none → v ∈ starts
def start0 (starts : List (List Nat)) : DS τ := ⟨fun x => if x ∈ starts then some 0 else none, fun _ => none, none⟩
theorem BR.start (A : List (AR τ)) (starts ns : List (List Nat)) (h : ∀ x ∈ starts, x ∈ ns) : BR A starts ns 0 (start0 starts : DS τ) := by
  refine ⟨⟨fun _ => 0, ?_, ?_, ?_, ?_, ?_, ?_, ?_, ?_, ?_, ?_⟩, fun v d e _ => ?_⟩
  rotate_right
  · have e : (if v ∈ starts then some 0 else none) = some d := e
    split at e
    · assumption
    · cases e
  · intro v d e
    have e : (if v ∈ starts then some 0 else none) = some d := e
    split at e
    · cases e; exact ⟨v, ‹_›, .nil v⟩
    · cases e
  · intro x hx
    exact ⟨0, if_pos hx, Int.le_refl _⟩
  · intro v a e; exact nomatch e
  · intro v; exact ⟨fun _ => rfl, fun _ => rfl⟩
  · intro v; exact Nat.le_refl _
  · intro v r hr b
    cases b with
    | nil => exact absurd rfl hr
    | cons e _ => exact nomatch e
  · intro a _ du _ h
    omega
  · intro v e; exact nomatch e
  · intro _ h; omega
  · intro v d e
    have e : (if v ∈ starts then some 0 else none) = some d := e
    split at e
    · exact h v ‹_›
    · cases e
/-- so many steps back -/
def back (into : List Nat → Option (AR τ)) : Nat → List Nat → Option (List Nat)
  | 0, v => some v
  | n + 1, v => (into v).bind fun a => back into n a.u
/-- more places than names: one stands twice -/
theorem pigeon {α : Type} [DecidableEq α] : ∀ (ns xs : List α), (∀ x ∈ xs, x ∈ ns) → ns.length < xs.length → ∃ i j, i < j ∧ j < xs.length ∧ xs[i]? = xs[j]?
  | _, [], _, h => by simp at h
  | ns, x :: xs, hm, hl => by
    by_cases c : x ∈ xs
    · obtain ⟨j, hj, e⟩ := List.mem_iff_getElem.mp c
      exact ⟨0, j + 1, by omega, by simp; omega, by simp [List.getElem?_eq_getElem hj, e]⟩
    · have hx : x ∈ ns := hm x List.mem_cons_self
      have hm' : ∀ y ∈ xs, y ∈ ns.erase x := fun y hy => by
        have : y ≠ x := fun e => c (e ▸ hy)
        exact (List.mem_erase_of_ne this).mpr (hm y (List.mem_cons_of_mem _ hy))
      have hl' : (ns.erase x).length < xs.length := by
        rw [List.length_erase_of_mem hx]
        have := List.length_pos_of_mem hx
        simp at hl; omega
      obtain ⟨i, j, a, b, e⟩ := pigeon (ns.erase x) xs hm' hl'
      exact ⟨i + 1, j + 1, by omega, by simp; omega, by simpa using e⟩
open PySem PySem.Spec PyProof.Rows L2
structure Stp where
  name : Nm
  most : Bool
  x : Nm
  y : Nm
  len : Int
def sideOf (m : Bool) : Nm := if m then cs "most" else cs "least"
def stepLo (s : Spn) : List Stp := match s.lo with
  | none => []
  | some l => [⟨s.name, false, s.b, s.a, 0 - l⟩]
def stepHi (s : Spn) : List Stp := match s.hi with
  | none => []
  | some u => [⟨s.name, true, s.a, s.b, u⟩]
def stepS (s : Spn) : List Stp := stepLo s ++ stepHi s
def stepsOf (rows : List Spn) : List Stp := rows.flatMap stepS
theorem stepsOf_len (rows : List Spn) : (stepsOf rows).length ≤ 2 * rows.length := by
  induction rows with
  | nil => exact Nat.le_refl _
  | cons s rows ih =>
    have : stepsOf (s :: rows) = stepS s ++ stepsOf rows := rfl
    rw [this, List.length_append, List.length_cons]
    have : (stepS s).length ≤ 2 := by
      unfold stepS stepLo stepHi
      cases s.lo <;> cases s.hi <;> simp
    omega
theorem map_get {α : Type} {f : α → D} {xs : List α} {i : Nat} {x : D} (h : (xs.map f)[i]? = some x) : ∃ a, xs[i]? = some a ∧ x = f a := by
  rw [List.getElem?_map] at h
  obtain ⟨a, e, q⟩ := Option.map_eq_some_iff.mp h
  exact ⟨a, e, q.symm⟩
mutual
theorem kEq_eq : ∀ (d e : D), kEq d e = true → d = e
  | .int i, e, h => by cases e <;> simp [kEq] at h; rw [h]
  | .str i, e, h => by cases e <;> simp [kEq] at h; rw [h]
  | .tup xs, e, h => by
    cases e <;> simp [kEq] at h
    rw [kEqs_eq _ _ h]
  | .non, e, h => by simp [kEq] at h
  | .bl _, e, h => by simp [kEq] at h
  | .ls _, e, h => by simp [kEq] at h
  | .ref _, e, h => by simp [kEq] at h
theorem kEqs_eq : ∀ (d e : List D), kEqs d e = true → d = e
  | [], e, h => by cases e <;> simp [kEqs] at h; rfl
  | d :: ds, e, h => by
    cases e with
    | nil => simp [kEqs] at h
    | cons e es =>
      simp only [kEqs, Bool.and_eq_true] at h
      rw [kEq_eq d e h.1, kEqs_eq ds es h.2]
end
theorem dfind_put_same (kvs : List (D × D)) (k v : D) (hk : kEq k k = true) : dfind (dput kvs k v) k = some v := by
  unfold dput dfind
  by_cases c : (kvs.any fun p => kEq p.1 k) = true
  · rw [if_pos c]
    induction kvs with
    | nil => simp at c
    | cons p kvs ih =>
      rw [List.map_cons]
      by_cases q : kEq p.1 k = true
      · rw [if_pos q, List.find?_cons_of_pos (by exact q)]; rfl
      · rw [if_neg q, List.find?_cons_of_neg (by exact q)]
        refine ih ?_
        rw [List.any_cons] at c
        simpa [q] using c
  · rw [if_neg c, List.find?_append]
    have : kvs.find? (fun p => kEq p.1 k) = none := by
      rw [List.find?_eq_none]
      intro p hp q
      exact c (List.any_eq_true.mpr ⟨p, hp, q⟩)
    rw [this]
    simp [hk]
theorem dfind_put_ne (kvs : List (D × D)) (k v k' : D) (h : k ≠ k') : dfind (dput kvs k v) k' = dfind kvs k' := by
  unfold dput dfind
  by_cases c : (kvs.any fun p => kEq p.1 k) = true
  · rw [if_pos c]
    clear c
    congr 1
    induction kvs with
    | nil => rfl
    | cons p kvs ih =>
      rw [List.map_cons]
      by_cases q : kEq p.1 k' = true
      · have : ¬ kEq p.1 k = true := fun z => h ((kEq_eq _ _ z).symm.trans (kEq_eq _ _ q))
        rw [if_neg this, List.find?_cons_of_pos (by exact q), List.find?_cons_of_pos (by exact q)]
      · have : ¬ kEq (if kEq p.1 k = true then (p.1, v) else p).1 k' = true := by split <;> exact q
        rw [List.find?_cons_of_neg (by exact this), List.find?_cons_of_neg (by exact q)]
        exact ih
  · rw [if_neg c, List.find?_append]
    have : ¬ kEq k k' = true := fun z => h (kEq_eq _ _ z)
    simp [this]
theorem dput_len (kvs : List (D × D)) (k v : D) : (dput kvs k v).length ≤ kvs.length + 1 := by
  unfold dput
  split
  · simp
  · simp
theorem dput_len2 {kvs : List (D × D)} {k : D} {w : D} (v : D) (h : dfind kvs k = some w) : (dput kvs k v).length = kvs.length := by
  unfold dput
  have : (kvs.any fun p => kEq p.1 k) = true := by
    unfold dfind at h
    obtain ⟨p, e, _⟩ := Option.map_eq_some_iff.mp h
    exact List.any_eq_true.mpr ⟨p, List.mem_of_find?_eq_some e, List.find?_some (p := fun p : D × D => kEq p.1 k) e⟩
  rw [if_pos this, List.length_map]
abbrev ky (x y : Nm) : D := .tup [.str x, .str y]
theorem ky_ok (x y : Nm) : kEq (ky x y) (ky x y) = true := by simp [ky, kEq, kEqs]
theorem ky_inj {x y a b : Nm} (h : ky x y = ky a b) : a = x ∧ b = y := by
  have h := D.tup.inj h
  simp only [List.cons.injEq, D.str.injEq, and_true] at h
  exact ⟨h.1.symm, h.2.symm⟩
/-- the dict tells the table at some pairs -/
theorem kEq_ky (a b x y : Nm) : kEq (ky a b) (ky x y) = decide (a = x ∧ b = y) := by
  cases e : kEq (ky a b) (ky x y) with
  | true =>
    obtain ⟨h1, h2⟩ := ky_inj (kEq_eq _ _ e)
    subst h1 h2
    simp
  | false =>
    refine (decide_eq_false ?_).symm
    rintro ⟨rfl, rfl⟩
    rw [ky_ok] at e; cases e
/-- the pairs of a table -/
def TabL (kvs : List (D × D)) (T : Tbl) (P : Nm → Nm → Prop) : Prop := ∃ L : List (Nm × Nm), kvs = L.map (fun q => (ky q.1 q.2, enO (T q.1 q.2))) ∧ L.Nodup ∧ ∀ q ∈ L, P q.1 q.2
theorem TabL.any {kvs : List (D × D)} {T : Tbl} {L : List (Nm × Nm)} (e : kvs = L.map (fun q => (ky q.1 q.2, enO (T q.1 q.2)))) (x y : Nm) : (kvs.any fun p => kEq p.1 (ky x y)) = decide ((x, y) ∈ L) := by
  subst e
  induction L with
  | nil => rfl
  | cons q L ih =>
    rw [List.map_cons, List.any_cons, ih]
    show (kEq (ky q.1 q.2) (ky x y) || _) = _
    rw [kEq_ky]
    by_cases c : q.1 = x ∧ q.2 = y
    · obtain ⟨a, b⟩ := q
      obtain ⟨rfl, rfl⟩ := c
      simp
    · have : ¬ (x, y) = q := fun z => c ⟨by rw [← z], by rw [← z]⟩
      simp [c, this]
theorem TabL.dput_in {kvs : List (D × D)} {T : Tbl} {L : List (Nm × Nm)} (e : kvs = L.map (fun q => (ky q.1 q.2, enO (T q.1 q.2)))) {x y : Nm} (h : (x, y) ∈ L) (v : Option Int) : dput kvs (ky x y) (enO v) = L.map (fun q => (ky q.1 q.2, enO (upd2 T x y v q.1 q.2))) := by
  unfold dput
  rw [TabL.any e, decide_eq_true h, if_pos rfl]
  subst e
  rw [List.map_map]
  refine List.map_congr_left fun q _ => ?_
  show (if kEq (ky q.1 q.2) (ky x y) = true then (ky q.1 q.2, enO v) else (ky q.1 q.2, enO (T q.1 q.2))) = _
  rw [kEq_ky]
  by_cases c : q.1 = x ∧ q.2 = y
  · rw [decide_eq_true c, if_pos rfl, c.1, c.2, upd2_same]
  · rw [decide_eq_false c, if_neg (by decide), upd2_ne _ _ c]
theorem TabL.put {kvs : List (D × D)} {T : Tbl} {P P' : Nm → Nm → Prop} (t : TabL kvs T P) (x y : Nm) (h : ∀ a b, (P a b ∨ (a = x ∧ b = y)) → P' a b) : TabL (dput kvs (ky x y) (enO (T x y))) T P' := by
  obtain ⟨L, e, nd, hp⟩ := t
  by_cases c : (x, y) ∈ L
  · refine ⟨L, ?_, nd, fun q m => h _ _ (.inl (hp q m))⟩
    rw [TabL.dput_in e c]
    refine List.map_congr_left fun q _ => ?_
    by_cases d : q.1 = x ∧ q.2 = y
    · rw [d.1, d.2, upd2_same]
    · rw [upd2_ne _ _ d]
  · refine ⟨L ++ [(x, y)], ?_, ?_, fun q m => ?_⟩
    · unfold dput
      rw [TabL.any e, decide_eq_false c, if_neg (by decide), e, List.map_append]
      rfl
    · rw [List.nodup_append]
      exact ⟨nd, by simp, fun a ha b hb z => c (by rw [List.mem_singleton.mp hb] at z; rw [← z]; exact ha)⟩
    · rcases List.mem_append.mp m with m | m
      · exact h _ _ (.inl (hp q m))
      · rw [List.mem_singleton.mp m]; exact h _ _ (.inr ⟨rfl, rfl⟩)
theorem TabL.mono {kvs : List (D × D)} {T : Tbl} {P P' : Nm → Nm → Prop} (t : TabL kvs T P) (h : ∀ a b, P a b → P' a b) : TabL kvs T P' := by
  obtain ⟨L, e, nd, hp⟩ := t
  exact ⟨L, e, nd, fun q m => h _ _ (hp q m)⟩
structure TabA (kvs : List (D × D)) (T : Tbl) (P : Nm → Nm → Prop) (N : Nat) : Prop where
  f : ∀ x y, P x y → dfind kvs (ky x y) = some (enO (T x y))
  l : kvs.length ≤ N
  k : TabL kvs T P
theorem TabA.put {kvs : List (D × D)} {T : Tbl} {P P' : Nm → Nm → Prop} {N : Nat} (t : TabA kvs T P N) (x y : Nm) (h : ∀ a b, P' a b → P a b ∨ (a = x ∧ b = y)) (h2 : ∀ a b, (P a b ∨ (a = x ∧ b = y)) → P' a b) : TabA (dput kvs (ky x y) (enO (T x y))) T P' (N + 1) := by
  refine ⟨fun a b p => ?_, by have := dput_len kvs (ky x y) (enO (T x y)); have := t.2; omega, t.k.put x y h2⟩
  by_cases c : a = x ∧ b = y
  · rw [c.1, c.2]; exact dfind_put_same _ _ _ (ky_ok x y)
  · rw [dfind_put_ne _ _ _ _ fun q => c (ky_inj q)]
    rcases h a b p with q | q
    · exact t.1 a b q
    · exact absurd q c
theorem TabA.upd {kvs : List (D × D)} {T : Tbl} {P : Nm → Nm → Prop} {N : Nat} (t : TabA kvs T P N) {x y : Nm} (hp : P x y) (v : Option Int) : TabA (dput kvs (ky x y) (enO v)) (upd2 T x y v) P N := by
  refine ⟨fun a b p => ?_, by rw [dput_len2 _ (t.1 x y hp)]; exact t.2, ?_⟩
  · by_cases c : a = x ∧ b = y
    · rw [c.1, c.2, upd2_same]; exact dfind_put_same _ _ _ (ky_ok x y)
    · rw [dfind_put_ne _ _ _ _ fun q => c (ky_inj q), upd2_ne _ _ c]; exact t.1 a b p
  · obtain ⟨L, e, nd, q⟩ := t.k
    have fd := t.f x y hp
    have any : (kvs.any fun p => kEq p.1 (ky x y)) = true := by
      unfold dfind at fd
      obtain ⟨z, hz, _⟩ := Option.map_eq_some_iff.mp fd
      exact List.any_eq_true.mpr ⟨z, List.mem_of_find?_eq_some hz, by simpa using List.find?_some hz⟩
    rw [TabL.any e, decide_eq_true_eq] at any
    exact ⟨L, TabL.dput_in e any v, nd, q⟩
def stArc (t : Stp) : Arc := (t.x, t.y, t.len)
def arcsP (rows : List Spn) : List Arc := (stepsOf rows).map stArc
theorem fold_take {α β : Type} (f : β → α → β) (b : β) {xs : List α} {i : Nat} {x : α} (h : xs[i]? = some x) : (xs.take (i + 1)).foldl f b = f ((xs.take i).foldl f b) x := by
  rw [List.take_add_one, h, List.foldl_append]
  rfl
open PySem PySem.Spec PyProof.Rows L2
/-- a plan as the graph's part wants it -/
structure WP (p : Pln) : Prop where
  nd : (zro :: p.marks).Nodup
  fm : p.marks.length ≤ 40
  fr : p.rows.length ≤ 140
  ok : ∀ s ∈ p.rows, s.a ∈ zro :: p.marks ∧ s.b ∈ zro :: p.marks ∧ s.a ≠ s.b
theorem GP.wp {p : Pln} (g : GP p) : WP p := by
  obtain ⟨n, hn, e⟩ := g.n
  refine ⟨by rw [e]; exact abc_take n, by rw [e, List.length_take]; omega, by have := g.few; omega, g.rows.ok⟩
theorem step_mem {rows : List Spn} {t : Stp} (h : t ∈ stepsOf rows) : ∃ s ∈ rows, t.name = s.name ∧ ((t.most = false ∧ t.x = s.b ∧ t.y = s.a ∧ s.lo = some (0 - t.len)) ∨ (t.most = true ∧ t.x = s.a ∧ t.y = s.b ∧ s.hi = some t.len)) := by
  obtain ⟨s, hs, m⟩ := List.mem_flatMap.mp h
  refine ⟨s, hs, ?_⟩
  rcases List.mem_append.mp m with m | m
  · unfold stepLo at m
    cases e : s.lo with
    | none => rw [e] at m; exact nomatch m
    | some l =>
      rw [e] at m
      rw [List.mem_singleton.mp m]
      exact ⟨rfl, .inl ⟨rfl, rfl, rfl, by simp⟩⟩
  · unfold stepHi at m
    cases e : s.hi with
    | none => rw [e] at m; exact nomatch m
    | some l =>
      rw [e] at m
      rw [List.mem_singleton.mp m]
      exact ⟨rfl, .inr ⟨rfl, rfl, rfl, rfl⟩⟩
theorem WP.step {p : Pln} (w : WP p) {t : Stp} (h : t ∈ stepsOf p.rows) : t.x ∈ zro :: p.marks ∧ t.y ∈ zro :: p.marks ∧ t.x ≠ t.y := by
  obtain ⟨s, hs, _, ⟨_, e1, e2, _⟩ | ⟨_, e1, e2, _⟩⟩ := step_mem h
  · rw [e1, e2]; exact ⟨(w.ok s hs).2.1, (w.ok s hs).1, (w.ok s hs).2.2.symm⟩
  · rw [e1, e2]; exact w.ok s hs
theorem GR.sub {ms : List Nm} {rows rows' : List Spn} (g : GR ms rows) (s : rows'.Sublist rows) : GR ms rows' where
  ok := fun r m => g.ok r (s.subset m)
  bd := fun r m => g.bd r (s.subset m)
  ls := fun r m => g.ls r (s.subset m)
  nd := List.Nodup.sublist (s.map _) g.nd
  le := List.Nodup.sublist ((s.filter _).map _) g.le
  nl := fun r m => g.nl r (s.subset m)
  nu := fun r m => g.nu r (s.subset m)
  na := fun r m => g.na r (s.subset m)
variable {τ : Type}
/-- at rest -/
structure Fin0 (A : List (AR τ)) (starts ns : List (List Nat)) (s : DS τ) : Prop where
  wk : ∀ v d, s.dist v = some d → ∃ x ∈ starts, Wk (arcsL A) x v d
  st : ∀ x ∈ starts, ∃ d, s.dist x = some d ∧ d ≤ 0
  sat : ∀ a ∈ A, ∀ du, s.dist a.u = some du → ∃ dv, s.dist a.v = some dv ∧ dv ≤ du + a.l
  ina : ∀ v a, s.into v = some a → a ∈ A ∧ a.v = v ∧ ∃ du, s.dist a.u = some du ∧ s.dist v = some (du + a.l)
  inn : ∀ v d, s.dist v = some d → v ∈ ns
  bg : ∀ v d, s.dist v = some d → s.into v = none → v ∈ starts
  cyc : ∀ v r, r ≠ [] → ¬ Bk s.into v r v
theorem Fin0.le {A : List (AR τ)} {starts ns : List (List Nat)} {s : DS τ} (f : Fin0 A starts ns s) {x y : List Nat} {L : Int} (w : Wk (arcsL A) x y L) : ∀ d, s.dist x = some d → ∃ d', s.dist y = some d' ∧ d' ≤ d + L := by
  induction w with
  | nil => exact fun d e => ⟨d, e, by omega⟩
  | snoc _ m ih =>
    intro d e
    obtain ⟨d1, e1, l1⟩ := ih d e
    obtain ⟨a, ha, ea⟩ := List.mem_map.mp m
    unfold AR.arc at ea
    cases ea
    obtain ⟨d2, e2, l2⟩ := f.sat a ha d1 e1
    exact ⟨d2, e2, by omega⟩
variable {τ : Type}
def Bd (A : List (AR τ)) (s : DS τ) (K : Nat) : Prop := ∀ M : Nat, (∀ a ∈ A, a.l.natAbs ≤ M) → ∀ v d, s.dist v = some d → d.natAbs ≤ K * (A.length * M)
theorem Bd.start (A : List (AR τ)) (ss : List (List Nat)) : Bd A (start0 ss : DS τ) 0 := fun M _ v d e => by
  have e : (if v ∈ ss then some 0 else none) = some d := e
  split at e
  · cases e; simp
  · cases e
theorem Bd.mono {A : List (AR τ)} {s : DS τ} {K L : Nat} (b : Bd A s K) (h : K ≤ L) : Bd A s L := fun M hM v d e => Nat.le_trans (b M hM v d e) (Nat.mul_le_mul_right _ h)
open PySem PySem.Spec PyProof.Rows L2
/-- a dict by names tells a function -/
def DF {α : Type} (enc : α → D) (kvs : List (D × D)) (f : Nm → Option α) (N : Nat) : Prop := (∀ x, dfind kvs (.str x) = (f x).map enc) ∧ kvs.length ≤ N
theorem k_str (x : Nm) : kEq (.str x) (.str x) = true := by simp [kEq]
theorem DF.put {α : Type} {enc : α → D} {kvs : List (D × D)} {f : Nm → Option α} {N : Nat} (t : DF enc kvs f N) (x : Nm) (v : α) : DF enc (dput kvs (.str x) (enc v)) (setF f x v) (N + 1) := by
  refine ⟨fun y => ?_, by have := dput_len kvs (.str x) (enc v); have := t.2; omega⟩
  by_cases c : y = x
  · rw [c, setF_same]; exact dfind_put_same _ _ _ (k_str x)
  · rw [dfind_put_ne _ _ _ _ fun q => c (D.str.inj q).symm, setF_ne _ _ c]; exact t.1 y
theorem DF.some {α : Type} {enc : α → D} {kvs : List (D × D)} {f : Nm → Option α} {N : Nat} (t : DF enc kvs f N) {x : Nm} {v : α} (e : f x = some v) : dfind kvs (.str x) = some (enc v) := by rw [t.1 x, e]; rfl
theorem DF.none {α : Type} {enc : α → D} {kvs : List (D × D)} {f : Nm → Option α} {N : Nat} (t : DF enc kvs f N) {x : Nm} (e : f x = none) : dfind kvs (.str x) = none := by rw [t.1 x, e]; rfl
theorem DF.mono {α : Type} {enc : α → D} {kvs : List (D × D)} {f : Nm → Option α} {N M : Nat} (t : DF enc kvs f N) (h : N ≤ M) : DF enc kvs f M := ⟨t.1, Nat.le_trans t.2 h⟩
theorem Fr.new {S T : List Nat} {h h1 h' : Hs} (a : Fr S h h1) (b : Fr T h1 h') (hT : ∀ n ∈ T, h.length ≤ n) : Fr S h h' :=
  ⟨Nat.le_trans a.1 b.1, fun n c m e => b.2 n c (fun q => by have := hT n q; have := get_lt e; omega) (a.2 n c m e)⟩
open PySem PySem.Spec PyProof.Rows L2
def armA (t : Stp) : AR D := ⟨t.x, t.y, t.len, .tup [.str t.name, .str (sideOf t.most)]⟩
def armsP (rows : List Spn) : List (AR D) := (stepsOf rows).map armA
open PySem PySem.Spec PyProof.Rows L2
/-- so deep at most -/
def lkOk : Nat → D → Prop
  | d + 1, .tup xs => xs.length ≤ 10000 ∧ ∀ x ∈ xs, lkOk d x
  | _ + 1, .non => True
  | _ + 1, .bl _ => True
  | _ + 1, .int _ => True
  | _ + 1, .str s => s.length ≤ 10000
  | _, _ => False
theorem like_rec (d : Nat) : ∀ (x : D) (h : Hs) (Q : D → Hs → Prop) (E : Ex → Hs → Prop), lkOk d x → (∀ h', Fr [] h h' → Q (.bl true) h') → ((recn 2 3 PH.s__law_like d).go [x, x] h).wp Q E := by
  induction d with
  | zero => intro x h Q E k hq; cases x <;> exact k.elim
  | succ d ih =>
    intro x h Q E k hq
    show ((defn 2 3 (PH.s__law_like (recn 2 3 PH.s__law_like d))).go [x, x] h).wp Q E
    have hn : (recn 2 3 PH.s__law_like d).n = 2 := recn_n _ _ _ _
    generalize recn 2 3 PH.s__law_like d = self at *
    rw [w_defn]
    unfold PH.s__law_like
    cases x with
    | non => wp_walk using hn; exact hq _ Fr.refl
    | bl b =>
      cases b
      · wp_walk using hn, show (true == false) = false from rfl, show (false == true) = false from rfl, show (false == false) = true from rfl; exact hq _ Fr.refl
      · wp_walk using hn, show (true == true) = true from rfl; exact hq _ Fr.refl
    | int i => wp_walk using hn; exact hq _ Fr.refl
    | str s =>
      have k : s.length ≤ 10000 := k
      have g : (h ++ [Cell.lst [D.str s]])[h.length]? = some (.lst [.str s]) := get_new1
      wp_walk using hn
      rw [g, sqC_l]
      have e1 : (some [D.str s]).bind strsD = some [s] := rfl
      have e2 : cs "" = [] := by decide +kernel
      rw [e1, jnC_s, e2, if_pos (by simp only [List.map_cons, List.map_nil, List.sum_cons, List.sum_nil, List.length_nil, List.length_cons, lim]; omega)]
      have e3 : TL.joinL [] [s] = s := by simp [TL.joinL]
      rw [e3]
      wp_walk
      exact hq _ .app
    | tup xs =>
      obtain ⟨kl, kx⟩ := k
      wp_walk using hn, ne_eq, not_true_eq_false
      generalize hZ : (fun x h1 =>
      (lstE aNil [some (D.tup xs), some (D.tup xs), none] h1).wp
        (fun y h2 => (cmpR CmpOp.Eq h2 x y).wp (fun d h1 => Q d h1) fun e h1 => E e h1) fun e h1 => E e h1) = Z
      generalize hC : (notE (fE (aCons (bE (vE 0) (vE 2) ixOp) (aCons (bE (vE 1) (vE 2) ixOp) aNil)) self)) = C
      generalize hS : (rS (aCons (cE (aCons (vE 1) aNil) (on1 len1)) aNil) rng1Of) = S
      have W := @w_lc (fun e h1 => E e h1) 
      have W1 := @W [some (D.tup xs), some (D.tup xs), none] 
      have W1 := @W1 h
      have W2 := @W1 Z S (.nm 2) (some C) (kE (D.int 1)) [2]
      have W3 := W2 ((List.range xs.length).map fun i : Nat => D.int (i : Int))
      have W4 := W3 (fun _ => True)
      have W5 := W4 (fun i (acc : List D) h2 => acc = [] ∧ Fr [] h h2)
      refine W5 ?_ ?_ ?_ ?_ ?_
      · rw [← hS]
        have sm : small (xs.length : Int) = true := by unfold small; simp; omega
        wp_walk using sm
        exact ⟨t_rng0 _ _, Fr.refl⟩
      · exact fun _ _ _ _ => trivial
      · rintro i acc h' ⟨rfl, _⟩
        show _ < 16777217
        simp
      · rintro i x acc h' hx ⟨rfl, F⟩
        obtain ⟨j, hj, rfl⟩ := map_get hx
        have hi : i < xs.length := by
          have := (List.getElem?_eq_some_iff.mp hj).1
          simpa using this
        rw [List.getElem?_range hi] at hj
        cases hj
        have gi : xs[i]? = some xs[i] := List.getElem?_eq_getElem hi
        rw [← hC]
        wp_walk using hn, atN, gi
        refine ih _ _ _ _ (kx _ (List.getElem_mem hi)) fun h2 F2 => ?_
        wp_walk
        exact F.trans F2
      · rintro acc h' ⟨rfl, F⟩
        rw [← hZ]
        have l1 : ∀ (H : Hs) (a c : Cell), (H ++ [a] ++ [c])[H.length]? = some a := fun H a c => get_old get_new1
        have l2 : ∀ (H : Hs) (a c : Cell), (H ++ [a] ++ [c])[(H ++ [a]).length]? = some c := fun H a c => get_new1
        wp_walk
        rw [eq_refs (l1 _ _ _) (l2 _ _ _) (by rfl) (by rfl)]
        wp_walk using show deqs [] [] = true from rfl
        exact hq _ (F.trans (Fr.app.push))
    | ls xs => exact k.elim
    | ref n => exact k.elim
structure Lk (x : D) : Prop where
  k : lkOk 12 x
theorem like_ok {x : D} {h : Hs} {Q : D → Hs → Prop} {E : Ex → Hs → Prop} (k : Lk x) (hq : ∀ h', Fr [] h h' → Q (.bl true) h') : (PH.fn__law_like.go [x, x] h).wp Q E := like_rec 12 x h Q E k.k hq
open PySem PySem.Spec PyProof.Rows L2
theorem take_filter {α : Type} {p : α → Bool} {xs : List α} {i : Nat} {x : α} (h : xs[i]? = some x) : (xs.take (i + 1)).filter p = (xs.take i).filter p ++ if p x then [x] else [] := by
  rw [List.take_add_one, h, List.filter_append]
  congr 1
  cases hp : p x <;> simp [hp]
theorem lt_of_get {α : Type} {xs : List α} {i : Nat} {x : α} (h : xs[i]? = some x) : i < xs.length := (List.getElem?_eq_some_iff.mp h).1
open PySem PySem.Spec PyProof.Rows L2
open PySem PySem.Spec PyProof.Rows L2
def Imp (A B : List Arc) : Prop := ∀ u v l, (u, v, l) ∈ A → ∃ L, L ≤ l ∧ Wk B u v L
theorem Imp.wk {A B : List Arc} (i : Imp A B) {x y : Nm} {L : Int} (w : Wk A x y L) : ∃ L', L' ≤ L ∧ Wk B x y L' := by
  induction w with
  | nil => exact ⟨0, Int.le_refl _, .nil _⟩
  | snoc _ m ih =>
    obtain ⟨L1, l1, w1⟩ := ih
    obtain ⟨L2, l2, w2⟩ := i _ _ _ m
    exact ⟨L1 + L2, by omega, w1.trans w2⟩
theorem Imp.refl (A : List Arc) : Imp A A := fun _ _ l m => ⟨l, Int.le_refl _, Wk.one m⟩
theorem Imp.trans {A B C : List Arc} (i : Imp A B) (j : Imp B C) : Imp A C := fun u v l m => by
  obtain ⟨L, h, w⟩ := i u v l m
  obtain ⟨L', h', w'⟩ := j.wk w
  exact ⟨L', by omega, w'⟩
theorem Imp.sub {A B : List Arc} (h : ∀ q ∈ A, q ∈ B) : Imp A B := fun _ _ l m => ⟨l, Int.le_refl _, Wk.one (h _ m)⟩
theorem NoNeg.sub {A B : List Arc} (n : NoNeg B) (h : ∀ q ∈ A, q ∈ B) : NoNeg A := fun x L w => n x L (w.mono h)
theorem WP.sub {ms : List Nm} {r r' : List Spn} (w : WP ⟨ms, r⟩) (h : r'.Sublist r) : WP ⟨ms, r'⟩ :=
  ⟨w.nd, w.fm, Nat.le_trans h.length_le w.fr, fun s m => w.ok s (h.subset m)⟩
open PySem PySem.Spec PyProof.Rows L2
/-- bounds are small -/
def SmB (rows : List Spn) : Prop := ∀ s ∈ rows, (∀ l, s.lo = some l → l.natAbs ≤ 9) ∧ (∀ u, s.hi = some u → u.natAbs ≤ 9)
theorem SmB.arms {rows : List Spn} (b : SmB rows) : ∀ a ∈ armsP rows, a.l.natAbs ≤ 9 := fun a m => by
  obtain ⟨t, ht, rfl⟩ := List.mem_map.mp m
  obtain ⟨s, hs, _, ⟨_, _, _, e⟩ | ⟨_, _, _, e⟩⟩ := step_mem ht
  · have := (b s hs).1 _ e
    show t.len.natAbs ≤ 9
    omega
  · exact (b s hs).2 _ e
theorem WP.arms {p : Pln} (w : WP p) : ∀ a ∈ armsP p.rows, (a.u ∈ zro :: p.marks ∧ a.v ∈ zro :: p.marks) ∧ a.u ≠ a.v := fun a m => by
  obtain ⟨t, ht, rfl⟩ := List.mem_map.mp m
  have := w.step ht
  exact ⟨⟨this.1, this.2.1⟩, this.2.2⟩
end M
namespace M
open PySem PySem.Spec PyProof.Rows L2
local macro_rules | `(tactic| wp_walk using $ts,*) => do let xs := Lean.Syntax.TSepArray.getElems ts; `(tactic| simp only [w_ok, w_exc, w_bind, w_of, w_cond, w_kE, w_vE, w_bE, w_uE, w_js0, w_js1, jsK_s, w_tst, w_andE, w_orE, w_notE, w_ifE, w_chE, w_ch3E, w_cmpR, w_aNil, w_aCons, w_aStar, w_tupE, w_lstE, w_cE, w_isiE, w_lsE, w_fE, w_mE, w_slE, w_ptN, w_ptS, w_newD, w_nextF, w_bkF, w_ctF, w_seqF, w_fl, w_dropF, w_retF, w_retNF, w_ifF, w_asgF, w_nm, w_tp, w_ts0, w_ts1, w_gS, w_augF, w_augS, w_parF, w_vS, w_rS, w_eS, w_zS, w_revS, w_iteS, w_lcN, w_lcS, wif_t, wif_f, wo_some, wo_map,
  defn_n, recn_n, List.getElem?_cons_zero, List.getElem?_cons_succ, Option.join_some, List.set_cons_zero, List.set_cons_succ, List.length_cons, List.length_nil, List.length_map, List.map_cons, List.map_nil, List.cons_append, List.nil_append, Nat.reduceAdd, Nat.reduceSub, Nat.zero_add, Option.map_some, Option.isSome_some, wipeE, parSet, Bool.not_true, Bool.not_false, decide_true, decide_false, Nat.reduceLeDiff, lim, Bool.true_eq_false, Bool.false_eq_true, if_true, if_false, true_and, and_true, eq_self, and_self, List.all_cons, List.all_nil, Bool.and_self, Bool.and_true, Bool.true_and, Int.reduceLT, Int.reduceLE, Nat.reduceLT, Int.reduceNeg, Int.reduceAdd, Int.reduceSub, Int.reduceMul, bo_add, bo_sub, bo_mul, bo_fd, bo_mod, bo_pow, ia_add, ia_sub, inD_i, add_i, iadd_i, add_s, iadd_s, add_t, add_r, adC_s, sub_i, isub_i, add_bi, sub_bi, sub_iB, str_b, fm_i, fm_s, mul_i, fd_i, mod_i, pow_i, neg_i, co_eq, co_ne, co_in, co_ni, co_is, co_isn, oi_Lt, os_Lt, oi_LtE, os_LtE, oi_Gt, os_Gt, oi_GtE, os_GtE, is_non_non, is_non_bl, is_non_int, is_non_str, is_non_tup, is_non_ls, is_non_ref, is_bl_non, is_bl_bl, is_bl_int, is_bl_str, is_bl_tup, is_bl_ls, is_bl_ref, trC_l, sqC_l, sqC_d, dcC_l, dcC_d, daC_l, daC_d, srC_l, laC_l, tyC_l, tyC_d, rvC_l, tr_non, tr_bl, tr_int, tr_str, tr_tup, tr_ref, tr_ls, sq_tup, sq_ls, sq_ref, dr_ref, da_ref, sr_tup, sr_ls, sr_str, sr_ref, sl_ls, sl_ref, se_ls, se_tup, se_ref, rv_tup, rv_ref, la_ref, it_non, it_bl, it_int, it_str, it_tup, it_ls, it_ref, ix_tup, ix_ls, ix_str, ix_ref, ixC_l, ixC_d, atN, at0, at1, at2, at3, at4, at5, at6, at7, at8, at9, at10, at11, at12, at13, at14, atm1, atm2, on1_, on2_, len_str, len_tup, len_ls, len_ref, lnC_l, lnC_d, int_i, int_b, int_s, str_i, str_s, bool_i, bool_b, abs_i, max_i, min_i, ofL_s, lst1, tpl1, all_r, any_r, sum_r, sl_str, sl_tup, slo_ref, slo_ls, ty_l, ty_s, ty_d, ty_appM, ty_popM, ty_revM, ty_extM, ty_joinM, ty_splitM, ty_getM, ty_insM, go_app, apC_s, go_ext, exC_s, go_rev, rvM_s, go_get1, go_get2, gtC_s, go_join, jnC_s, go_split, go_ins, inC_s, go_pop, so_ref, stC_d, stC_l, go_dic, goC_d, goC_l, in_str1, in_tup, in_ls, in_ref, ioC_l, ioC_d, kOk_s, kOk_i, kOk_t, k1_s, k1_i, r1, r2, eq_ss, eq_ii, eq_nbl, eq_bln, eq_nint, eq_intn, eq_nstr, eq_strn, eq_nn, eq_is, eq_si, go_some, kit_NoneType_str, kit_NoneType_int, kit_NoneType_bool, kit_NoneType_tuple, kit_NoneType_list, kit_NoneType_dict, kit_bool_str, kit_bool_int, kit_bool_bool, kit_bool_tuple, kit_bool_list, kit_bool_dict, kit_int_str, kit_int_int, kit_int_bool, kit_int_tuple, kit_int_list, kit_int_dict, kit_str_str, kit_str_int, kit_str_bool, kit_str_tuple, kit_str_list, kit_str_dict, kit_tuple_str, kit_tuple_int, kit_tuple_bool, kit_tuple_tuple, kit_tuple_list, kit_tuple_dict, kit_list_str, kit_list_int, kit_list_bool, kit_list_tuple, kit_list_list, kit_list_dict, kit_dict_str, kit_dict_int, kit_dict_bool, kit_dict_tuple, kit_dict_list, kit_dict_dict, rp0, rp1, rp2, rp3, rp4, rp5, rp6, rp7, rp8, rp9, rp10, rp11, rp12, rp13, rp14, rp15, rp16, rp17, rp18, rp19, rp20, rp21, rp22, rp23, rp24, rp25, rp26, rp27, rp28, rp29, rp30, $[$xs:term],*])
local macro_rules | `(tactic| wp_walk) => `(tactic| simp only [w_ok, w_exc, w_bind, w_of, w_cond, w_kE, w_vE, w_bE, w_uE, w_js0, w_js1, jsK_s, w_tst, w_andE, w_orE, w_notE, w_ifE, w_chE, w_ch3E, w_cmpR, w_aNil, w_aCons, w_aStar, w_tupE, w_lstE, w_cE, w_isiE, w_lsE, w_fE, w_mE, w_slE, w_ptN, w_ptS, w_newD, w_nextF, w_bkF, w_ctF, w_fl, w_dropF, w_retF, w_retNF, w_ifF, w_asgF, w_nm, w_tp, w_ts0, w_ts1, w_gS, w_augF, w_augS, w_parF, w_vS, w_rS, w_eS, w_zS, w_revS, w_iteS, w_lcN, w_lcS, wif_t, wif_f, wo_some, wo_map,
  defn_n, recn_n, List.getElem?_cons_zero, List.getElem?_cons_succ, Option.join_some, List.set_cons_zero, List.set_cons_succ, List.length_cons, List.length_nil, List.length_map, List.map_cons, List.map_nil, List.cons_append, List.nil_append, Nat.reduceAdd, Nat.reduceSub, Nat.zero_add, Option.map_some, Option.isSome_some, wipeE, parSet, Bool.not_true, Bool.not_false, decide_true, decide_false, Nat.reduceLeDiff, lim, Bool.true_eq_false, Bool.false_eq_true, if_true, if_false, true_and, and_true, eq_self, and_self, List.all_cons, List.all_nil, Bool.and_self, Bool.and_true, Bool.true_and, Int.reduceLT, Int.reduceLE, Nat.reduceLT, Int.reduceNeg, Int.reduceAdd, Int.reduceSub, Int.reduceMul, bo_add, bo_sub, bo_mul, bo_fd, bo_mod, bo_pow, ia_add, ia_sub, inD_i, add_i, iadd_i, add_s, iadd_s, add_t, add_r, adC_s, sub_i, isub_i, add_bi, sub_bi, sub_iB, str_b, fm_i, fm_s, mul_i, fd_i, mod_i, pow_i, neg_i, co_eq, co_ne, co_in, co_ni, co_is, co_isn, oi_Lt, os_Lt, oi_LtE, os_LtE, oi_Gt, os_Gt, oi_GtE, os_GtE, is_non_non, is_non_bl, is_non_int, is_non_str, is_non_tup, is_non_ls, is_non_ref, is_bl_non, is_bl_bl, is_bl_int, is_bl_str, is_bl_tup, is_bl_ls, is_bl_ref, trC_l, sqC_l, sqC_d, dcC_l, dcC_d, daC_l, daC_d, srC_l, laC_l, tyC_l, tyC_d, rvC_l, tr_non, tr_bl, tr_int, tr_str, tr_tup, tr_ref, tr_ls, sq_tup, sq_ls, sq_ref, dr_ref, da_ref, sr_tup, sr_ls, sr_str, sr_ref, sl_ls, sl_ref, se_ls, se_tup, se_ref, rv_tup, rv_ref, la_ref, it_non, it_bl, it_int, it_str, it_tup, it_ls, it_ref, ix_tup, ix_ls, ix_str, ix_ref, ixC_l, ixC_d, atN, at0, at1, at2, at3, at4, at5, at6, at7, at8, at9, at10, at11, at12, at13, at14, atm1, atm2, on1_, on2_, len_str, len_tup, len_ls, len_ref, lnC_l, lnC_d, int_i, int_b, int_s, str_i, str_s, bool_i, bool_b, abs_i, max_i, min_i, ofL_s, lst1, tpl1, all_r, any_r, sum_r, sl_str, sl_tup, slo_ref, slo_ls, ty_l, ty_s, ty_d, ty_appM, ty_popM, ty_revM, ty_extM, ty_joinM, ty_splitM, ty_getM, ty_insM, go_app, apC_s, go_ext, exC_s, go_rev, rvM_s, go_get1, go_get2, gtC_s, go_join, jnC_s, go_split, go_ins, inC_s, go_pop, so_ref, stC_d, stC_l, go_dic, goC_d, goC_l, in_str1, in_tup, in_ls, in_ref, ioC_l, ioC_d, kOk_s, kOk_i, kOk_t, k1_s, k1_i, r1, r2, eq_ss, eq_ii, eq_nbl, eq_bln, eq_nint, eq_intn, eq_nstr, eq_strn, eq_nn, eq_is, eq_si, go_some, kit_NoneType_str, kit_NoneType_int, kit_NoneType_bool, kit_NoneType_tuple, kit_NoneType_list, kit_NoneType_dict, kit_bool_str, kit_bool_int, kit_bool_bool, kit_bool_tuple, kit_bool_list, kit_bool_dict, kit_int_str, kit_int_int, kit_int_bool, kit_int_tuple, kit_int_list, kit_int_dict, kit_str_str, kit_str_int, kit_str_bool, kit_str_tuple, kit_str_list, kit_str_dict, kit_tuple_str, kit_tuple_int, kit_tuple_bool, kit_tuple_tuple, kit_tuple_list, kit_tuple_dict, kit_list_str, kit_list_int, kit_list_bool, kit_list_tuple, kit_list_list, kit_list_dict, kit_dict_str, kit_dict_int, kit_dict_bool, kit_dict_tuple, kit_dict_list, kit_dict_dict, rp0, rp1, rp2, rp3, rp4, rp5, rp6, rp7, rp8, rp9, rp10, rp11, rp12, rp13, rp14, rp15, rp16, rp17, rp18, rp19, rp20, rp21, rp22, rp23, rp24, rp25, rp26, rp27, rp28, rp29, rp30])
theorem enO_s (i : Int) : enO (some i) = .int i := rfl
theorem enO_n : enO none = .non := rfl
open PySem PySem.Spec PyProof.Rows L2
theorem cutS (a b c d e f : D) : cutD [a, b, c, d, e, f] none (some 4) = [a, b, c, d] := rfl
open PySem PySem.Spec PyProof.Rows L2
theorem lkO (o : Option Int) (d : Nat) : lkOk (d + 1) (enO o) := by cases o <;> exact trivial
theorem lkStrs (d : Nat) (xs : List Nm) (hl : xs.length ≤ 10000) (h : ∀ x ∈ xs, x.length ≤ 10000) : lkOk (d + 2) (.tup (xs.map .str)) := by
  refine ⟨by rw [List.length_map]; exact hl, fun x m => ?_⟩
  obtain ⟨y, hy, rfl⟩ := List.mem_map.mp m
  exact h y hy
theorem nm_small {n : Nat} : ∀ x ∈ zro :: abc.take n, x.length ≤ 10000 := fun x m => by
  have h : ∀ x ∈ zro :: abc, x.length ≤ 10000 := by decide +kernel
  rcases List.mem_cons.mp m with rfl | m
  · exact h _ List.mem_cons_self
  · exact h _ (List.mem_cons_of_mem _ (List.mem_of_mem_take m))
theorem lkS {d : Nat} {s : Spn} (h1 : s.name.length ≤ 10000) (h2 : s.a.length ≤ 10000) (h3 : s.b.length ≤ 10000) : lkOk (d + 2) (enS s) := by
  refine ⟨by simp, fun x m => ?_⟩
  simp only [List.mem_cons, List.not_mem_nil, or_false] at m
  rcases m with rfl | rfl | rfl | rfl | rfl | rfl
  · show (kindOf s.loose).length ≤ 10000
    cases s.loose <;> decide +kernel
  · exact h1
  · exact h2
  · exact h3
  · exact lkO _ _
  · exact lkO _ _
theorem lkP {p : Pln} (g : GP p) : lkOk 12 (enP p) := by
  obtain ⟨n, hn, e⟩ := g.n
  have sm : ∀ x ∈ zro :: p.marks, x.length ≤ 10000 := by rw [e]; exact nm_small
  refine ⟨by simp, fun x m => ?_⟩
  simp only [List.mem_cons, List.not_mem_nil, or_false] at m
  rcases m with rfl | rfl | rfl
  · show (cs "plan").length ≤ 10000
    decide +kernel
  · exact lkStrs 9 _ (by rw [e, List.length_take]; omega) fun x m => sm x (List.mem_cons_of_mem _ m)
  · refine ⟨by rw [List.length_map]; have := g.few; omega, fun x m => ?_⟩
    obtain ⟨s, hs, rfl⟩ := List.mem_map.mp m
    have ok := g.rows.ok s hs
    exact lkS (Nat.le_trans (g.rows.nl s hs) (by decide)) (sm _ ok.1) (sm _ ok.2.1)
theorem GP.sub {p : Pln} {rows : List Spn} (g : GP p) (s : rows.Sublist p.rows) : GP ⟨p.marks, rows⟩ := ⟨g.n, g.rows.sub s, Nat.le_trans s.length_le g.few⟩
open PySem PySem.Spec PyProof.Rows L2
open PySem PySem.Spec PyProof.Rows L2
theorem Bk.next {τ : Type} {into : List Nat → Option (AR τ)} {v w : List Nat} {r : List (AR τ)} (b : Bk into v r w) : ∀ i a c, r[i]? = some a → r[i + 1]? = some c → into a.u = some c := by
  induction b with
  | nil => exact fun _ _ _ h => by simp at h
  | cons h q ih =>
    rename_i v w a r
    intro i x y e1 e2
    cases i with
    | zero =>
      have e1 : a = x := by simpa using e1
      have e2 : r[0]? = some y := by simpa using e2
      subst e1
      cases q with
      | nil => simp at e2
      | cons h2 q2 =>
        have e2 := Option.some.inj e2
        rw [← e2]; exact h2
    | succ i => exact ih i x y (by simpa using e1) (by simpa using e2)
/-- the paper in general -/
def BdF (p : Pln) (f : Nm → Int) : Prop := ∀ M : Nat, (∀ a ∈ armsP p.rows, a.l.natAbs ≤ M) → ∀ m, (f m).natAbs ≤ 2 * ((p.marks.length + 1) * ((armsP p.rows).length * M))
open PySem PySem.Spec PyProof.Rows L2
/-- small plans -/
structure Sml (p : Pln) : Prop where
  w : WP p
  b : SmB p.rows
  m : p.marks.length ≤ 7
  r : p.rows.length ≤ 30
theorem BdF.good {p : Pln} {f : Nm → Int} (b : BdF p f) (s : Sml p) : ∀ m ∈ p.marks, (f m).natAbs ≤ 9999999 := fun m _ => by
  have := b 9 s.b.arms m
  have l1 : (armsP p.rows).length ≤ 60 := by unfold armsP; rw [List.length_map]; have := stepsOf_len p.rows; have := s.r; omega
  have : (p.marks.length + 1) * ((armsP p.rows).length * 9) ≤ 8 * (60 * 9) := Nat.mul_le_mul (by have := s.m; omega) (Nat.mul_le_mul_right _ l1)
  omega
end M
namespace M
open PySem PySem.Spec PyProof.Rows L2
local macro_rules | `(tactic| wp_walk using $ts,*) => do let xs := Lean.Syntax.TSepArray.getElems ts; `(tactic| simp only [w_ok, w_exc, w_bind, w_of, w_cond, w_kE, w_vE, w_bE, w_uE, w_js0, w_js1, jsK_s, w_tst, w_andE, w_orE, w_notE, w_ifE, w_chE, w_ch3E, w_cmpR, w_aNil, w_aCons, w_aStar, w_tupE, w_lstE, w_cE, w_isiE, w_lsE, w_fE, w_mE, w_slE, w_ptN, w_ptS, w_newD, w_nextF, w_bkF, w_ctF, w_seqF, w_fl, w_dropF, w_retF, w_retNF, w_ifF, w_asgF, w_nm, w_tp, w_ts0, w_ts1, w_gS, w_augF, w_augS, w_parF, w_vS, w_rS, w_eS, w_zS, w_revS, w_iteS, w_lcN, w_lcS, wif_t, wif_f, wo_some, wo_map,
  defn_n, recn_n, List.getElem?_cons_zero, List.getElem?_cons_succ, Option.join_some, List.set_cons_zero, List.set_cons_succ, List.length_cons, List.length_nil, List.length_map, List.map_cons, List.map_nil, List.cons_append, List.nil_append, Nat.reduceAdd, Nat.reduceSub, Nat.zero_add, Option.map_some, Option.isSome_some, wipeE, parSet, Bool.not_true, Bool.not_false, decide_true, decide_false, Nat.reduceLeDiff, lim, Bool.true_eq_false, Bool.false_eq_true, if_true, if_false, true_and, and_true, eq_self, and_self, List.all_cons, List.all_nil, Bool.and_self, Bool.and_true, Bool.true_and, Int.reduceLT, Int.reduceLE, Nat.reduceLT, Int.reduceNeg, Int.reduceAdd, Int.reduceSub, Int.reduceMul, bo_add, bo_sub, bo_mul, bo_fd, bo_mod, bo_pow, ia_add, ia_sub, inD_i, add_i, iadd_i, add_s, iadd_s, add_t, add_r, adC_s, sub_i, isub_i, add_bi, sub_bi, sub_iB, str_b, fm_i, fm_s, mul_i, fd_i, mod_i, pow_i, neg_i, co_eq, co_ne, co_in, co_ni, co_is, co_isn, oi_Lt, os_Lt, oi_LtE, os_LtE, oi_Gt, os_Gt, oi_GtE, os_GtE, is_non_non, is_non_bl, is_non_int, is_non_str, is_non_tup, is_non_ls, is_non_ref, is_bl_non, is_bl_bl, is_bl_int, is_bl_str, is_bl_tup, is_bl_ls, is_bl_ref, trC_l, sqC_l, sqC_d, dcC_l, dcC_d, daC_l, daC_d, srC_l, laC_l, tyC_l, tyC_d, rvC_l, tr_non, tr_bl, tr_int, tr_str, tr_tup, tr_ref, tr_ls, sq_tup, sq_ls, sq_ref, dr_ref, da_ref, sr_tup, sr_ls, sr_str, sr_ref, sl_ls, sl_ref, se_ls, se_tup, se_ref, rv_tup, rv_ref, la_ref, it_non, it_bl, it_int, it_str, it_tup, it_ls, it_ref, ix_tup, ix_ls, ix_str, ix_ref, ixC_l, ixC_d, atN, at0, at1, at2, at3, at4, at5, at6, at7, at8, at9, at10, at11, at12, at13, at14, atm1, atm2, on1_, on2_, len_str, len_tup, len_ls, len_ref, lnC_l, lnC_d, int_i, int_b, int_s, str_i, str_s, bool_i, bool_b, abs_i, max_i, min_i, ofL_s, lst1, tpl1, all_r, any_r, sum_r, sl_str, sl_tup, slo_ref, slo_ls, ty_l, ty_s, ty_d, ty_appM, ty_popM, ty_revM, ty_extM, ty_joinM, ty_splitM, ty_getM, ty_insM, go_app, apC_s, go_ext, exC_s, go_rev, rvM_s, go_get1, go_get2, gtC_s, go_join, jnC_s, go_split, go_ins, inC_s, go_pop, so_ref, stC_d, stC_l, go_dic, goC_d, goC_l, in_str1, in_tup, in_ls, in_ref, ioC_l, ioC_d, kOk_s, kOk_i, kOk_t, k1_s, k1_i, r1, r2, eq_ss, eq_ii, eq_nbl, eq_bln, eq_nint, eq_intn, eq_nstr, eq_strn, eq_nn, eq_is, eq_si, go_some, kit_NoneType_str, kit_NoneType_int, kit_NoneType_bool, kit_NoneType_tuple, kit_NoneType_list, kit_NoneType_dict, kit_bool_str, kit_bool_int, kit_bool_bool, kit_bool_tuple, kit_bool_list, kit_bool_dict, kit_int_str, kit_int_int, kit_int_bool, kit_int_tuple, kit_int_list, kit_int_dict, kit_str_str, kit_str_int, kit_str_bool, kit_str_tuple, kit_str_list, kit_str_dict, kit_tuple_str, kit_tuple_int, kit_tuple_bool, kit_tuple_tuple, kit_tuple_list, kit_tuple_dict, kit_list_str, kit_list_int, kit_list_bool, kit_list_tuple, kit_list_list, kit_list_dict, kit_dict_str, kit_dict_int, kit_dict_bool, kit_dict_tuple, kit_dict_list, kit_dict_dict, rp0, rp1, rp2, rp3, rp4, rp5, rp6, rp7, rp8, rp9, rp10, rp11, rp12, rp13, rp14, rp15, rp16, rp17, rp18, rp19, rp20, rp21, rp22, rp23, rp24, rp25, rp26, rp27, rp28, rp29, rp30, $[$xs:term],*])
local macro_rules | `(tactic| wp_walk) => `(tactic| simp only [w_ok, w_exc, w_bind, w_of, w_cond, w_kE, w_vE, w_bE, w_uE, w_js0, w_js1, jsK_s, w_tst, w_andE, w_orE, w_notE, w_ifE, w_chE, w_ch3E, w_cmpR, w_aNil, w_aCons, w_aStar, w_tupE, w_lstE, w_cE, w_isiE, w_lsE, w_fE, w_mE, w_slE, w_ptN, w_ptS, w_newD, w_nextF, w_bkF, w_ctF, w_fl, w_dropF, w_retF, w_retNF, w_ifF, w_asgF, w_nm, w_tp, w_ts0, w_ts1, w_gS, w_augF, w_augS, w_parF, w_vS, w_rS, w_eS, w_zS, w_revS, w_iteS, w_lcN, w_lcS, wif_t, wif_f, wo_some, wo_map,
  defn_n, recn_n, List.getElem?_cons_zero, List.getElem?_cons_succ, Option.join_some, List.set_cons_zero, List.set_cons_succ, List.length_cons, List.length_nil, List.length_map, List.map_cons, List.map_nil, List.cons_append, List.nil_append, Nat.reduceAdd, Nat.reduceSub, Nat.zero_add, Option.map_some, Option.isSome_some, wipeE, parSet, Bool.not_true, Bool.not_false, decide_true, decide_false, Nat.reduceLeDiff, lim, Bool.true_eq_false, Bool.false_eq_true, if_true, if_false, true_and, and_true, eq_self, and_self, List.all_cons, List.all_nil, Bool.and_self, Bool.and_true, Bool.true_and, Int.reduceLT, Int.reduceLE, Nat.reduceLT, Int.reduceNeg, Int.reduceAdd, Int.reduceSub, Int.reduceMul, bo_add, bo_sub, bo_mul, bo_fd, bo_mod, bo_pow, ia_add, ia_sub, inD_i, add_i, iadd_i, add_s, iadd_s, add_t, add_r, adC_s, sub_i, isub_i, add_bi, sub_bi, sub_iB, str_b, fm_i, fm_s, mul_i, fd_i, mod_i, pow_i, neg_i, co_eq, co_ne, co_in, co_ni, co_is, co_isn, oi_Lt, os_Lt, oi_LtE, os_LtE, oi_Gt, os_Gt, oi_GtE, os_GtE, is_non_non, is_non_bl, is_non_int, is_non_str, is_non_tup, is_non_ls, is_non_ref, is_bl_non, is_bl_bl, is_bl_int, is_bl_str, is_bl_tup, is_bl_ls, is_bl_ref, trC_l, sqC_l, sqC_d, dcC_l, dcC_d, daC_l, daC_d, srC_l, laC_l, tyC_l, tyC_d, rvC_l, tr_non, tr_bl, tr_int, tr_str, tr_tup, tr_ref, tr_ls, sq_tup, sq_ls, sq_ref, dr_ref, da_ref, sr_tup, sr_ls, sr_str, sr_ref, sl_ls, sl_ref, se_ls, se_tup, se_ref, rv_tup, rv_ref, la_ref, it_non, it_bl, it_int, it_str, it_tup, it_ls, it_ref, ix_tup, ix_ls, ix_str, ix_ref, ixC_l, ixC_d, atN, at0, at1, at2, at3, at4, at5, at6, at7, at8, at9, at10, at11, at12, at13, at14, atm1, atm2, on1_, on2_, len_str, len_tup, len_ls, len_ref, lnC_l, lnC_d, int_i, int_b, int_s, str_i, str_s, bool_i, bool_b, abs_i, max_i, min_i, ofL_s, lst1, tpl1, all_r, any_r, sum_r, sl_str, sl_tup, slo_ref, slo_ls, ty_l, ty_s, ty_d, ty_appM, ty_popM, ty_revM, ty_extM, ty_joinM, ty_splitM, ty_getM, ty_insM, go_app, apC_s, go_ext, exC_s, go_rev, rvM_s, go_get1, go_get2, gtC_s, go_join, jnC_s, go_split, go_ins, inC_s, go_pop, so_ref, stC_d, stC_l, go_dic, goC_d, goC_l, in_str1, in_tup, in_ls, in_ref, ioC_l, ioC_d, kOk_s, kOk_i, kOk_t, k1_s, k1_i, r1, r2, eq_ss, eq_ii, eq_nbl, eq_bln, eq_nint, eq_intn, eq_nstr, eq_strn, eq_nn, eq_is, eq_si, go_some, kit_NoneType_str, kit_NoneType_int, kit_NoneType_bool, kit_NoneType_tuple, kit_NoneType_list, kit_NoneType_dict, kit_bool_str, kit_bool_int, kit_bool_bool, kit_bool_tuple, kit_bool_list, kit_bool_dict, kit_int_str, kit_int_int, kit_int_bool, kit_int_tuple, kit_int_list, kit_int_dict, kit_str_str, kit_str_int, kit_str_bool, kit_str_tuple, kit_str_list, kit_str_dict, kit_tuple_str, kit_tuple_int, kit_tuple_bool, kit_tuple_tuple, kit_tuple_list, kit_tuple_dict, kit_list_str, kit_list_int, kit_list_bool, kit_list_tuple, kit_list_list, kit_list_dict, kit_dict_str, kit_dict_int, kit_dict_bool, kit_dict_tuple, kit_dict_list, kit_dict_dict, rp0, rp1, rp2, rp3, rp4, rp5, rp6, rp7, rp8, rp9, rp10, rp11, rp12, rp13, rp14, rp15, rp16, rp17, rp18, rp19, rp20, rp21, rp22, rp23, rp24, rp25, rp26, rp27, rp28, rp29, rp30])
theorem nc2 : ((2 : Nat) : Int) = 2 := rfl
def enK (t : Stp) : D := .tup [.str t.name, .str (sideOf t.most)]
theorem side_inj : ∀ {a b : Bool}, sideOf a = sideOf b → a = b
  | true, true, _ => rfl
  | false, false, _ => rfl
  | true, false, h => absurd h (by decide +kernel)
  | false, true, h => absurd h (by decide +kernel)
theorem enK_inj {t u : Stp} (h : enK t = enK u) : t.name = u.name ∧ t.most = u.most := by
  have h := D.tup.inj h
  simp only [List.cons.injEq, D.str.injEq, and_true] at h
  exact ⟨h.1, side_inj h.2⟩
/-- steps that lead on from x to y -/
inductive Led : Nm → List Stp → Nm → Prop
  | nil (x : Nm) : Led x [] x
  | cons {x : Nm} {t : Stp} {ts : List Stp} {y : Nm} : x = t.x → Led t.y ts y → Led x (t :: ts) y
open PySem PySem.Spec PyProof.Rows L2
theorem Led.at {x y : Nm} {t : Stp} {ts : List Stp} (l : Led x (t :: ts) y) : x = t.x ∧ Led t.y ts y := by cases l with | cons e h => exact ⟨e, h⟩
theorem Led.snoc {x : Nm} : ∀ {ts : List Stp} {y : Nm} {t : Stp}, Led x ts y → t.x = y → Led x (ts ++ [t]) t.y := by
  intro ts y t l
  induction l with
  | nil => intro e; exact .cons e.symm (.nil _)
  | cons q _ ih => intro e; exact .cons q (ih e)
open PySem PySem.Spec PyProof.Rows L2
/-- likeness of texts -/
theorem like_str {a b : Nm} {h : Hs} {Q : D → Hs → Prop} {E : Ex → Hs → Prop} (ha : a.length ≤ 10000) (hq : ∀ h', Fr [] h h' → Q (.bl (decide (a = b))) h') : (PH.fn__law_like.go [.str a, .str b] h).wp Q E := by
  show ((defn 2 3 (PH.s__law_like (recn 2 3 PH.s__law_like 11))).go [.str a, .str b] h).wp Q E
  generalize recn 2 3 PH.s__law_like 11 = self
  rw [w_defn]
  unfold PH.s__law_like
  have g : (h ++ [Cell.lst [D.str a]])[h.length]? = some (.lst [.str a]) := get_new1
  wp_walk
  rw [w_seqF]
  wp_walk
  rw [w_seqF]
  wp_walk
  rw [w_seqF]
  wp_walk
  rw [w_seqF]
  wp_walk
  rw [w_seqF]
  wp_walk using g
  have e1 : strsD [D.str a] = some [a] := rfl
  have e2 : cs "" = [] := by decide +kernel
  rw [e1, jnC_s, e2, if_pos (by simp only [List.map_cons, List.map_nil, List.sum_cons, List.sum_nil, List.length_nil, List.length_cons, lim]; omega)]
  have e3 : TL.joinL [] [a] = a := by simp [TL.joinL]
  rw [e3]
  wp_walk
  exact hq _ .app
open PySem PySem.Spec PyProof.Rows L2
open PySem PySem.Spec PyProof.Rows L2
def rvA (a : Arc) : Arc := (a.2.1, a.1, a.2.2)
theorem Wk.rev {A : List Arc} {x y : Nm} {L : Int} (w : Wk A x y L) : Wk (A.map rvA) y x L := by
  induction w with
  | nil => exact .nil _
  | snoc _ m ih =>
    have := (Wk.one (List.mem_map.mpr ⟨_, m, rfl⟩ : _ ∈ A.map rvA)).trans ih
    rw [Int.add_comm] at this
    exact this
theorem rv_rv (A : List Arc) : (A.map rvA).map rvA = A := by
  rw [List.map_map]
  have : rvA ∘ rvA = id := by funext a; rfl
  rw [this, List.map_id]
theorem Wk.unrev {A : List Arc} {x y : Nm} {L : Int} (w : Wk (A.map rvA) y x L) : Wk A x y L := by
  have := w.rev
  rwa [rv_rv] at this
theorem NoNeg.rev {A : List Arc} (n : NoNeg A) : NoNeg (A.map rvA) := fun x L w => n x L w.unrev
end M
namespace M
open PySem PySem.Spec PyProof.Rows L2
noncomputable def okR (R : List Spn) : Bool := @decide (NoNeg (arcsP R)) (Classical.propDecidable _)
noncomputable def stG (G : List Spn × List Bool) (s : Spn) : List Spn × List Bool := if okR (G.1 ++ [s]) = true then (G.1 ++ [s], G.2 ++ [true]) else (G.1, G.2 ++ [false])
noncomputable def grS (R ss : List Spn) : List Spn × List Bool := ss.foldl stG (R, [])
theorem grS_sub : ∀ (ss : List Spn) (G : List Spn × List Bool), (ss.foldl stG G).1.Sublist (G.1 ++ ss)
  | [], G => by simp
  | s :: ss, G => by
    rw [List.foldl_cons]
    refine (grS_sub ss _).trans ?_
    unfold stG
    split
    · simp
    · show (G.1 ++ ss).Sublist (G.1 ++ s :: ss)
      exact List.Sublist.append_left (List.sublist_cons_self s ss) _
theorem grS_sub0 (R ss : List Spn) : (grS R ss).1.Sublist (R ++ ss) := grS_sub ss (R, [])
open PySem PySem.Spec PyProof.Rows L2
local macro_rules | `(tactic| wp_walk using $ts,*) => do let xs := Lean.Syntax.TSepArray.getElems ts; `(tactic| simp only [w_ok, w_exc, w_bind, w_of, w_cond, w_kE, w_vE, w_bE, w_uE, w_js0, w_js1, jsK_s, w_tst, w_andE, w_orE, w_notE, w_ifE, w_chE, w_ch3E, w_cmpR, w_aNil, w_aCons, w_aStar, w_tupE, w_lstE, w_cE, w_isiE, w_lsE, w_fE, w_mE, w_slE, w_ptN, w_ptS, w_newD, w_nextF, w_bkF, w_ctF, w_seqF, w_fl, w_dropF, w_retF, w_retNF, w_ifF, w_asgF, w_nm, w_tp, w_ts0, w_ts1, w_gS, w_augF, w_augS, w_parF, w_vS, w_rS, w_eS, w_zS, w_revS, w_iteS, w_lcN, w_lcS, wif_t, wif_f, wo_some, wo_map,
  defn_n, recn_n, List.getElem?_cons_zero, List.getElem?_cons_succ, Option.join_some, List.set_cons_zero, List.set_cons_succ, List.length_cons, List.length_nil, List.length_map, List.map_cons, List.map_nil, List.cons_append, List.nil_append, Nat.reduceAdd, Nat.reduceSub, Nat.zero_add, Option.map_some, Option.isSome_some, wipeE, parSet, Bool.not_true, Bool.not_false, decide_true, decide_false, Nat.reduceLeDiff, lim, Bool.true_eq_false, Bool.false_eq_true, if_true, if_false, true_and, and_true, eq_self, and_self, List.all_cons, List.all_nil, Bool.and_self, Bool.and_true, Bool.true_and, Int.reduceLT, Int.reduceLE, Nat.reduceLT, Int.reduceNeg, Int.reduceAdd, Int.reduceSub, Int.reduceMul, bo_add, bo_sub, bo_mul, bo_fd, bo_mod, bo_pow, ia_add, ia_sub, inD_i, add_i, iadd_i, add_s, iadd_s, add_t, add_r, adC_s, sub_i, isub_i, add_bi, sub_bi, sub_iB, str_b, fm_i, fm_s, mul_i, fd_i, mod_i, pow_i, neg_i, co_eq, co_ne, co_in, co_ni, co_is, co_isn, oi_Lt, os_Lt, oi_LtE, os_LtE, oi_Gt, os_Gt, oi_GtE, os_GtE, is_non_non, is_non_bl, is_non_int, is_non_str, is_non_tup, is_non_ls, is_non_ref, is_bl_non, is_bl_bl, is_bl_int, is_bl_str, is_bl_tup, is_bl_ls, is_bl_ref, trC_l, sqC_l, sqC_d, dcC_l, dcC_d, daC_l, daC_d, srC_l, laC_l, tyC_l, tyC_d, rvC_l, tr_non, tr_bl, tr_int, tr_str, tr_tup, tr_ref, tr_ls, sq_tup, sq_ls, sq_ref, dr_ref, da_ref, sr_tup, sr_ls, sr_str, sr_ref, sl_ls, sl_ref, se_ls, se_tup, se_ref, rv_tup, rv_ref, la_ref, it_non, it_bl, it_int, it_str, it_tup, it_ls, it_ref, ix_tup, ix_ls, ix_str, ix_ref, ixC_l, ixC_d, atN, at0, at1, at2, at3, at4, at5, at6, at7, at8, at9, at10, at11, at12, at13, at14, atm1, atm2, on1_, on2_, len_str, len_tup, len_ls, len_ref, lnC_l, lnC_d, int_i, int_b, int_s, str_i, str_s, bool_i, bool_b, abs_i, max_i, min_i, ofL_s, lst1, tpl1, all_r, any_r, sum_r, sl_str, sl_tup, slo_ref, slo_ls, ty_l, ty_s, ty_d, ty_appM, ty_popM, ty_revM, ty_extM, ty_joinM, ty_splitM, ty_getM, ty_insM, go_app, apC_s, go_ext, exC_s, go_rev, rvM_s, go_get1, go_get2, gtC_s, go_join, jnC_s, go_split, go_ins, inC_s, go_pop, so_ref, stC_d, stC_l, go_dic, goC_d, goC_l, in_str1, in_tup, in_ls, in_ref, ioC_l, ioC_d, kOk_s, kOk_i, kOk_t, k1_s, k1_i, r1, r2, eq_ss, eq_ii, eq_nbl, eq_bln, eq_nint, eq_intn, eq_nstr, eq_strn, eq_nn, eq_is, eq_si, go_some, kit_NoneType_str, kit_NoneType_int, kit_NoneType_bool, kit_NoneType_tuple, kit_NoneType_list, kit_NoneType_dict, kit_bool_str, kit_bool_int, kit_bool_bool, kit_bool_tuple, kit_bool_list, kit_bool_dict, kit_int_str, kit_int_int, kit_int_bool, kit_int_tuple, kit_int_list, kit_int_dict, kit_str_str, kit_str_int, kit_str_bool, kit_str_tuple, kit_str_list, kit_str_dict, kit_tuple_str, kit_tuple_int, kit_tuple_bool, kit_tuple_tuple, kit_tuple_list, kit_tuple_dict, kit_list_str, kit_list_int, kit_list_bool, kit_list_tuple, kit_list_list, kit_list_dict, kit_dict_str, kit_dict_int, kit_dict_bool, kit_dict_tuple, kit_dict_list, kit_dict_dict, rp0, rp1, rp2, rp3, rp4, rp5, rp6, rp7, rp8, rp9, rp10, rp11, rp12, rp13, rp14, rp15, rp16, rp17, rp18, rp19, rp20, rp21, rp22, rp23, rp24, rp25, rp26, rp27, rp28, rp29, rp30, $[$xs:term],*])
local macro_rules | `(tactic| wp_walk) => `(tactic| simp only [w_ok, w_exc, w_bind, w_of, w_cond, w_kE, w_vE, w_bE, w_uE, w_js0, w_js1, jsK_s, w_tst, w_andE, w_orE, w_notE, w_ifE, w_chE, w_ch3E, w_cmpR, w_aNil, w_aCons, w_aStar, w_tupE, w_lstE, w_cE, w_isiE, w_lsE, w_fE, w_mE, w_slE, w_ptN, w_ptS, w_newD, w_nextF, w_bkF, w_ctF, w_fl, w_dropF, w_retF, w_retNF, w_ifF, w_asgF, w_nm, w_tp, w_ts0, w_ts1, w_gS, w_augF, w_augS, w_parF, w_vS, w_rS, w_eS, w_zS, w_revS, w_iteS, w_lcN, w_lcS, wif_t, wif_f, wo_some, wo_map,
  defn_n, recn_n, List.getElem?_cons_zero, List.getElem?_cons_succ, Option.join_some, List.set_cons_zero, List.set_cons_succ, List.length_cons, List.length_nil, List.length_map, List.map_cons, List.map_nil, List.cons_append, List.nil_append, Nat.reduceAdd, Nat.reduceSub, Nat.zero_add, Option.map_some, Option.isSome_some, wipeE, parSet, Bool.not_true, Bool.not_false, decide_true, decide_false, Nat.reduceLeDiff, lim, Bool.true_eq_false, Bool.false_eq_true, if_true, if_false, true_and, and_true, eq_self, and_self, List.all_cons, List.all_nil, Bool.and_self, Bool.and_true, Bool.true_and, Int.reduceLT, Int.reduceLE, Nat.reduceLT, Int.reduceNeg, Int.reduceAdd, Int.reduceSub, Int.reduceMul, bo_add, bo_sub, bo_mul, bo_fd, bo_mod, bo_pow, ia_add, ia_sub, inD_i, add_i, iadd_i, add_s, iadd_s, add_t, add_r, adC_s, sub_i, isub_i, add_bi, sub_bi, sub_iB, str_b, fm_i, fm_s, mul_i, fd_i, mod_i, pow_i, neg_i, co_eq, co_ne, co_in, co_ni, co_is, co_isn, oi_Lt, os_Lt, oi_LtE, os_LtE, oi_Gt, os_Gt, oi_GtE, os_GtE, is_non_non, is_non_bl, is_non_int, is_non_str, is_non_tup, is_non_ls, is_non_ref, is_bl_non, is_bl_bl, is_bl_int, is_bl_str, is_bl_tup, is_bl_ls, is_bl_ref, trC_l, sqC_l, sqC_d, dcC_l, dcC_d, daC_l, daC_d, srC_l, laC_l, tyC_l, tyC_d, rvC_l, tr_non, tr_bl, tr_int, tr_str, tr_tup, tr_ref, tr_ls, sq_tup, sq_ls, sq_ref, dr_ref, da_ref, sr_tup, sr_ls, sr_str, sr_ref, sl_ls, sl_ref, se_ls, se_tup, se_ref, rv_tup, rv_ref, la_ref, it_non, it_bl, it_int, it_str, it_tup, it_ls, it_ref, ix_tup, ix_ls, ix_str, ix_ref, ixC_l, ixC_d, atN, at0, at1, at2, at3, at4, at5, at6, at7, at8, at9, at10, at11, at12, at13, at14, atm1, atm2, on1_, on2_, len_str, len_tup, len_ls, len_ref, lnC_l, lnC_d, int_i, int_b, int_s, str_i, str_s, bool_i, bool_b, abs_i, max_i, min_i, ofL_s, lst1, tpl1, all_r, any_r, sum_r, sl_str, sl_tup, slo_ref, slo_ls, ty_l, ty_s, ty_d, ty_appM, ty_popM, ty_revM, ty_extM, ty_joinM, ty_splitM, ty_getM, ty_insM, go_app, apC_s, go_ext, exC_s, go_rev, rvM_s, go_get1, go_get2, gtC_s, go_join, jnC_s, go_split, go_ins, inC_s, go_pop, so_ref, stC_d, stC_l, go_dic, goC_d, goC_l, in_str1, in_tup, in_ls, in_ref, ioC_l, ioC_d, kOk_s, kOk_i, kOk_t, k1_s, k1_i, r1, r2, eq_ss, eq_ii, eq_nbl, eq_bln, eq_nint, eq_intn, eq_nstr, eq_strn, eq_nn, eq_is, eq_si, go_some, kit_NoneType_str, kit_NoneType_int, kit_NoneType_bool, kit_NoneType_tuple, kit_NoneType_list, kit_NoneType_dict, kit_bool_str, kit_bool_int, kit_bool_bool, kit_bool_tuple, kit_bool_list, kit_bool_dict, kit_int_str, kit_int_int, kit_int_bool, kit_int_tuple, kit_int_list, kit_int_dict, kit_str_str, kit_str_int, kit_str_bool, kit_str_tuple, kit_str_list, kit_str_dict, kit_tuple_str, kit_tuple_int, kit_tuple_bool, kit_tuple_tuple, kit_tuple_list, kit_tuple_dict, kit_list_str, kit_list_int, kit_list_bool, kit_list_tuple, kit_list_list, kit_list_dict, kit_dict_str, kit_dict_int, kit_dict_bool, kit_dict_tuple, kit_dict_list, kit_dict_dict, rp0, rp1, rp2, rp3, rp4, rp5, rp6, rp7, rp8, rp9, rp10, rp11, rp12, rp13, rp14, rp15, rp16, rp17, rp18, rp19, rp20, rp21, rp22, rp23, rp24, rp25, rp26, rp27, rp28, rp29, rp30])
open PySem PySem.Spec PyProof.Rows L2
theorem cs_u : cs "u" = [117] := by decide +kernel
/-- a wished span -/
structure SpU (ms : List Nm) (k : Nat) (s : Spn) : Prop where
  ls : s.loose = false
  nm : s.name = sNm "u" k
  ok : s.a ∈ zro :: ms ∧ s.b ∈ zro :: ms ∧ s.a ≠ s.b
  bd : OkB s.lo s.hi
/-- a turn's plan and wishes -/
structure T14 (p : Pln) (ss : List Spn) : Prop where
  gp : GP p
  nn : NoNeg (arcsP p.rows)
  fw : ss.length ≤ 7
  u : ∀ k s, ss[k]? = some s → SpU p.marks k s
theorem T14.wp {p : Pln} {ss R : List Spn} (t : T14 p ss) (h : R.Sublist (p.rows ++ ss)) : WP ⟨p.marks, R⟩ := by
  have w := t.gp.wp
  refine ⟨w.nd, w.fm, ?_, fun s m => ?_⟩
  · have h1 := h.length_le
    have h2 := t.gp.few
    have h3 := t.fw
    rw [List.length_append] at h1
    show R.length ≤ 140
    omega
  · rcases List.mem_append.mp (h.subset m) with m | m
    · exact w.ok s m
    · obtain ⟨k, hk⟩ := List.mem_iff_getElem?.mp m
      exact (t.u k s hk).ok
theorem T14.nd {p : Pln} {ss R : List Spn} (t : T14 p ss) (h : R.Sublist (p.rows ++ ss)) : (R.map Spn.name).Nodup := by
  refine (List.Sublist.map Spn.name h).nodup ?_
  rw [List.map_append, List.nodup_append]
  refine ⟨t.gp.rows.nd, ?_, fun x hx y hy e => ?_⟩
  · refine List.pairwise_iff_getElem.mpr fun i j hi hj hij e => ?_
    have e : (ss.map Spn.name)[i]? = (ss.map Spn.name)[j]? := by rw [List.getElem?_eq_getElem hi, List.getElem?_eq_getElem hj, e]
    rw [List.length_map] at hi hj
    obtain ⟨a, ha⟩ : ∃ z, ss[i]? = some z := ⟨_, List.getElem?_eq_getElem hi⟩
    obtain ⟨c, hc⟩ : ∃ z, ss[j]? = some z := ⟨_, List.getElem?_eq_getElem hj⟩
    rw [List.getElem?_map, List.getElem?_map, ha, hc] at e
    have e : a.name = c.name := Option.some.inj e
    rw [(t.u i a ha).nm, (t.u j c hc).nm] at e
    have fw := t.fw
    have := num_inj i (by omega) j (by omega) (List.append_cancel_left e)
    omega
  · obtain ⟨a, ha, rfl⟩ := List.mem_map.mp hx
    obtain ⟨c, hc, rfl⟩ := List.mem_map.mp hy
    obtain ⟨k, hk⟩ := List.mem_iff_getElem?.mp hc
    have h1 := t.gp.rows.nu a ha
    rw [e, (t.u k c hk).nm] at h1
    unfold sNm at h1
    rw [cs_u] at h1
    simp at h1
theorem T14.sub {p : Pln} {ss : List Spn} {i : Nat} {s : Spn} (h : ss[i]? = some s) : ((grS p.rows (ss.take i)).1 ++ [s]).Sublist (p.rows ++ ss) := by
  have h1 := (grS_sub0 p.rows (ss.take i)).append (List.Sublist.refl [s])
  rw [List.append_assoc] at h1
  have e : ss.take i ++ [s] = ss.take (i + 1) := by rw [List.take_add_one, h]; rfl
  rw [e] at h1
  exact h1.trans ((List.Sublist.refl _).append (List.take_sublist _ _))
end M
namespace M
open PySem PySem.Spec PyProof.Rows L2
local macro_rules | `(tactic| wp_walk using $ts,*) => do let xs := Lean.Syntax.TSepArray.getElems ts; `(tactic| simp only [w_ok, w_exc, w_bind, w_of, w_cond, w_kE, w_vE, w_bE, w_uE, w_js0, w_js1, jsK_s, w_tst, w_andE, w_orE, w_notE, w_ifE, w_chE, w_ch3E, w_cmpR, w_aNil, w_aCons, w_aStar, w_tupE, w_lstE, w_cE, w_isiE, w_lsE, w_fE, w_mE, w_slE, w_ptN, w_ptS, w_newD, w_nextF, w_bkF, w_ctF, w_seqF, w_fl, w_dropF, w_retF, w_retNF, w_ifF, w_asgF, w_nm, w_tp, w_ts0, w_ts1, w_gS, w_augF, w_augS, w_parF, w_vS, w_rS, w_eS, w_zS, w_revS, w_iteS, w_lcN, w_lcS, wif_t, wif_f, wo_some, wo_map,
  defn_n, recn_n, List.getElem?_cons_zero, List.getElem?_cons_succ, Option.join_some, List.set_cons_zero, List.set_cons_succ, List.length_cons, List.length_nil, List.length_map, List.map_cons, List.map_nil, List.cons_append, List.nil_append, Nat.reduceAdd, Nat.reduceSub, Nat.zero_add, Option.map_some, Option.isSome_some, wipeE, parSet, Bool.not_true, Bool.not_false, decide_true, decide_false, Nat.reduceLeDiff, lim, Bool.true_eq_false, Bool.false_eq_true, if_true, if_false, true_and, and_true, eq_self, and_self, List.all_cons, List.all_nil, Bool.and_self, Bool.and_true, Bool.true_and, Int.reduceLT, Int.reduceLE, Nat.reduceLT, Int.reduceNeg, Int.reduceAdd, Int.reduceSub, Int.reduceMul, bo_add, bo_sub, bo_mul, bo_fd, bo_mod, bo_pow, ia_add, ia_sub, inD_i, add_i, iadd_i, add_s, iadd_s, add_t, add_r, adC_s, sub_i, isub_i, add_bi, sub_bi, sub_iB, str_b, fm_i, fm_s, mul_i, fd_i, mod_i, pow_i, neg_i, co_eq, co_ne, co_in, co_ni, co_is, co_isn, oi_Lt, os_Lt, oi_LtE, os_LtE, oi_Gt, os_Gt, oi_GtE, os_GtE, is_non_non, is_non_bl, is_non_int, is_non_str, is_non_tup, is_non_ls, is_non_ref, is_bl_non, is_bl_bl, is_bl_int, is_bl_str, is_bl_tup, is_bl_ls, is_bl_ref, trC_l, sqC_l, sqC_d, dcC_l, dcC_d, daC_l, daC_d, srC_l, laC_l, tyC_l, tyC_d, rvC_l, tr_non, tr_bl, tr_int, tr_str, tr_tup, tr_ref, tr_ls, sq_tup, sq_ls, sq_ref, dr_ref, da_ref, sr_tup, sr_ls, sr_str, sr_ref, sl_ls, sl_ref, se_ls, se_tup, se_ref, rv_tup, rv_ref, la_ref, it_non, it_bl, it_int, it_str, it_tup, it_ls, it_ref, ix_tup, ix_ls, ix_str, ix_ref, ixC_l, ixC_d, atN, at0, at1, at2, at3, at4, at5, at6, at7, at8, at9, at10, at11, at12, at13, at14, atm1, atm2, on1_, on2_, len_str, len_tup, len_ls, len_ref, lnC_l, lnC_d, int_i, int_b, int_s, str_i, str_s, bool_i, bool_b, abs_i, max_i, min_i, ofL_s, lst1, tpl1, all_r, any_r, sum_r, sl_str, sl_tup, slo_ref, slo_ls, ty_l, ty_s, ty_d, ty_appM, ty_popM, ty_revM, ty_extM, ty_joinM, ty_splitM, ty_getM, ty_insM, go_app, apC_s, go_ext, exC_s, go_rev, rvM_s, go_get1, go_get2, gtC_s, go_join, jnC_s, go_split, go_ins, inC_s, go_pop, so_ref, stC_d, stC_l, go_dic, goC_d, goC_l, in_str1, in_tup, in_ls, in_ref, ioC_l, ioC_d, kOk_s, kOk_i, kOk_t, k1_s, k1_i, r1, r2, eq_ss, eq_ii, eq_nbl, eq_bln, eq_nint, eq_intn, eq_nstr, eq_strn, eq_nn, eq_is, eq_si, go_some, kit_NoneType_str, kit_NoneType_int, kit_NoneType_bool, kit_NoneType_tuple, kit_NoneType_list, kit_NoneType_dict, kit_bool_str, kit_bool_int, kit_bool_bool, kit_bool_tuple, kit_bool_list, kit_bool_dict, kit_int_str, kit_int_int, kit_int_bool, kit_int_tuple, kit_int_list, kit_int_dict, kit_str_str, kit_str_int, kit_str_bool, kit_str_tuple, kit_str_list, kit_str_dict, kit_tuple_str, kit_tuple_int, kit_tuple_bool, kit_tuple_tuple, kit_tuple_list, kit_tuple_dict, kit_list_str, kit_list_int, kit_list_bool, kit_list_tuple, kit_list_list, kit_list_dict, kit_dict_str, kit_dict_int, kit_dict_bool, kit_dict_tuple, kit_dict_list, kit_dict_dict, rp0, rp1, rp2, rp3, rp4, rp5, rp6, rp7, rp8, rp9, rp10, rp11, rp12, rp13, rp14, rp15, rp16, rp17, rp18, rp19, rp20, rp21, rp22, rp23, rp24, rp25, rp26, rp27, rp28, rp29, rp30, $[$xs:term],*])
local macro_rules | `(tactic| wp_walk) => `(tactic| simp only [w_ok, w_exc, w_bind, w_of, w_cond, w_kE, w_vE, w_bE, w_uE, w_js0, w_js1, jsK_s, w_tst, w_andE, w_orE, w_notE, w_ifE, w_chE, w_ch3E, w_cmpR, w_aNil, w_aCons, w_aStar, w_tupE, w_lstE, w_cE, w_isiE, w_lsE, w_fE, w_mE, w_slE, w_ptN, w_ptS, w_newD, w_nextF, w_bkF, w_ctF, w_fl, w_dropF, w_retF, w_retNF, w_ifF, w_asgF, w_nm, w_tp, w_ts0, w_ts1, w_gS, w_augF, w_augS, w_parF, w_vS, w_rS, w_eS, w_zS, w_revS, w_iteS, w_lcN, w_lcS, wif_t, wif_f, wo_some, wo_map,
  defn_n, recn_n, List.getElem?_cons_zero, List.getElem?_cons_succ, Option.join_some, List.set_cons_zero, List.set_cons_succ, List.length_cons, List.length_nil, List.length_map, List.map_cons, List.map_nil, List.cons_append, List.nil_append, Nat.reduceAdd, Nat.reduceSub, Nat.zero_add, Option.map_some, Option.isSome_some, wipeE, parSet, Bool.not_true, Bool.not_false, decide_true, decide_false, Nat.reduceLeDiff, lim, Bool.true_eq_false, Bool.false_eq_true, if_true, if_false, true_and, and_true, eq_self, and_self, List.all_cons, List.all_nil, Bool.and_self, Bool.and_true, Bool.true_and, Int.reduceLT, Int.reduceLE, Nat.reduceLT, Int.reduceNeg, Int.reduceAdd, Int.reduceSub, Int.reduceMul, bo_add, bo_sub, bo_mul, bo_fd, bo_mod, bo_pow, ia_add, ia_sub, inD_i, add_i, iadd_i, add_s, iadd_s, add_t, add_r, adC_s, sub_i, isub_i, add_bi, sub_bi, sub_iB, str_b, fm_i, fm_s, mul_i, fd_i, mod_i, pow_i, neg_i, co_eq, co_ne, co_in, co_ni, co_is, co_isn, oi_Lt, os_Lt, oi_LtE, os_LtE, oi_Gt, os_Gt, oi_GtE, os_GtE, is_non_non, is_non_bl, is_non_int, is_non_str, is_non_tup, is_non_ls, is_non_ref, is_bl_non, is_bl_bl, is_bl_int, is_bl_str, is_bl_tup, is_bl_ls, is_bl_ref, trC_l, sqC_l, sqC_d, dcC_l, dcC_d, daC_l, daC_d, srC_l, laC_l, tyC_l, tyC_d, rvC_l, tr_non, tr_bl, tr_int, tr_str, tr_tup, tr_ref, tr_ls, sq_tup, sq_ls, sq_ref, dr_ref, da_ref, sr_tup, sr_ls, sr_str, sr_ref, sl_ls, sl_ref, se_ls, se_tup, se_ref, rv_tup, rv_ref, la_ref, it_non, it_bl, it_int, it_str, it_tup, it_ls, it_ref, ix_tup, ix_ls, ix_str, ix_ref, ixC_l, ixC_d, atN, at0, at1, at2, at3, at4, at5, at6, at7, at8, at9, at10, at11, at12, at13, at14, atm1, atm2, on1_, on2_, len_str, len_tup, len_ls, len_ref, lnC_l, lnC_d, int_i, int_b, int_s, str_i, str_s, bool_i, bool_b, abs_i, max_i, min_i, ofL_s, lst1, tpl1, all_r, any_r, sum_r, sl_str, sl_tup, slo_ref, slo_ls, ty_l, ty_s, ty_d, ty_appM, ty_popM, ty_revM, ty_extM, ty_joinM, ty_splitM, ty_getM, ty_insM, go_app, apC_s, go_ext, exC_s, go_rev, rvM_s, go_get1, go_get2, gtC_s, go_join, jnC_s, go_split, go_ins, inC_s, go_pop, so_ref, stC_d, stC_l, go_dic, goC_d, goC_l, in_str1, in_tup, in_ls, in_ref, ioC_l, ioC_d, kOk_s, kOk_i, kOk_t, k1_s, k1_i, r1, r2, eq_ss, eq_ii, eq_nbl, eq_bln, eq_nint, eq_intn, eq_nstr, eq_strn, eq_nn, eq_is, eq_si, go_some, kit_NoneType_str, kit_NoneType_int, kit_NoneType_bool, kit_NoneType_tuple, kit_NoneType_list, kit_NoneType_dict, kit_bool_str, kit_bool_int, kit_bool_bool, kit_bool_tuple, kit_bool_list, kit_bool_dict, kit_int_str, kit_int_int, kit_int_bool, kit_int_tuple, kit_int_list, kit_int_dict, kit_str_str, kit_str_int, kit_str_bool, kit_str_tuple, kit_str_list, kit_str_dict, kit_tuple_str, kit_tuple_int, kit_tuple_bool, kit_tuple_tuple, kit_tuple_list, kit_tuple_dict, kit_list_str, kit_list_int, kit_list_bool, kit_list_tuple, kit_list_list, kit_list_dict, kit_dict_str, kit_dict_int, kit_dict_bool, kit_dict_tuple, kit_dict_list, kit_dict_dict, rp0, rp1, rp2, rp3, rp4, rp5, rp6, rp7, rp8, rp9, rp10, rp11, rp12, rp13, rp14, rp15, rp16, rp17, rp18, rp19, rp20, rp21, rp22, rp23, rp24, rp25, rp26, rp27, rp28, rp29, rp30])
theorem TabA.mem {kvs : List (D × D)} {T : Tbl} {P : Nm → Nm → Prop} {N : Nat} (t : TabA kvs T P N) {L : List (Nm × Nm)} (e : kvs = L.map (fun q => (ky q.1 q.2, enO (T q.1 q.2)))) {x y : Nm} (hp : P x y) : (x, y) ∈ L := by
  have fd := t.f x y hp
  have any : (kvs.any fun p => kEq p.1 (ky x y)) = true := by
    unfold dfind at fd
    obtain ⟨z, hz, _⟩ := Option.map_eq_some_iff.mp fd
    exact List.any_eq_true.mpr ⟨z, List.mem_of_find?_eq_some hz, by simpa using List.find?_some hz⟩
  rwa [TabL.any e, decide_eq_true_eq] at any
open PySem PySem.Spec PyProof.Rows L2
structure NR (ms : List Nm) (R : List Spn) : Prop where
  ok : ∀ s ∈ R, s.a ∈ zro :: ms ∧ s.b ∈ zro :: ms ∧ s.a ≠ s.b
  bd : SmB R
theorem NR.sub {ms : List Nm} {R R' : List Spn} (n : NR ms R) (h : ∀ s ∈ R', s ∈ R) : NR ms R' := ⟨fun s m => n.ok s (h s m), fun s m => n.bd s (h s m)⟩
theorem NR.more {ms : List Nm} {R R' : List Spn} {z : Spn} (n : NR ms R) (h : ∀ s ∈ R', s ∈ R ∨ s = z) (ok : z.a ∈ zro :: ms ∧ z.b ∈ zro :: ms ∧ z.a ≠ z.b) (b : (∀ l, z.lo = some l → l.natAbs ≤ 9) ∧ (∀ u, z.hi = some u → u.natAbs ≤ 9)) : NR ms R' :=
  ⟨fun s m => (h s m).elim (n.ok s) fun e => by rw [e]; exact ok, fun s m => (h s m).elim (n.bd s) fun e => by rw [e]; exact b⟩
open PySem PySem.Spec PyProof.Rows L2
end M
namespace P07
open PySem PySem.Spec PyProof.Rows L2 M
/-- is_whole(thing): slots ['thing'] -/
noncomputable def s_is_whole : Sf :=
  retF (andE (isiE (vE 0) "int") (notE (isiE (vE 0) "bool")))
noncomputable def fn_is_whole : Fn := defn 1 1 s_is_whole
end P07
namespace M
open PySem PySem.Spec PyProof.Rows L2
local macro_rules | `(tactic| wp_walk using $ts,*) => do let xs := Lean.Syntax.TSepArray.getElems ts; `(tactic| simp only [w_ok, w_exc, w_bind, w_of, w_cond, w_kE, w_vE, w_bE, w_uE, w_js0, w_js1, jsK_s, w_tst, w_andE, w_orE, w_notE, w_ifE, w_chE, w_ch3E, w_cmpR, w_aNil, w_aCons, w_aStar, w_tupE, w_lstE, w_cE, w_isiE, w_lsE, w_fE, w_mE, w_slE, w_ptN, w_ptS, w_newD, w_nextF, w_bkF, w_ctF, w_seqF, w_fl, w_dropF, w_retF, w_retNF, w_ifF, w_asgF, w_nm, w_tp, w_ts0, w_ts1, w_gS, w_augF, w_augS, w_parF, w_vS, w_rS, w_eS, w_zS, w_revS, w_iteS, w_lcN, w_lcS, wif_t, wif_f, wo_some, wo_map,
  defn_n, recn_n, List.getElem?_cons_zero, List.getElem?_cons_succ, Option.join_some, List.set_cons_zero, List.set_cons_succ, List.length_cons, List.length_nil, List.length_map, List.map_cons, List.map_nil, List.cons_append, List.nil_append, Nat.reduceAdd, Nat.reduceSub, Nat.zero_add, Option.map_some, Option.isSome_some, wipeE, parSet, Bool.not_true, Bool.not_false, decide_true, decide_false, Nat.reduceLeDiff, lim, Bool.true_eq_false, Bool.false_eq_true, if_true, if_false, true_and, and_true, eq_self, and_self, List.all_cons, List.all_nil, Bool.and_self, Bool.and_true, Bool.true_and, Int.reduceLT, Int.reduceLE, Nat.reduceLT, Int.reduceNeg, Int.reduceAdd, Int.reduceSub, Int.reduceMul, bo_add, bo_sub, bo_mul, bo_fd, bo_mod, bo_pow, ia_add, ia_sub, inD_i, add_i, iadd_i, add_s, iadd_s, add_t, add_r, adC_s, sub_i, isub_i, add_bi, sub_bi, sub_iB, str_b, fm_i, fm_s, mul_i, fd_i, mod_i, pow_i, neg_i, co_eq, co_ne, co_in, co_ni, co_is, co_isn, oi_Lt, os_Lt, oi_LtE, os_LtE, oi_Gt, os_Gt, oi_GtE, os_GtE, is_non_non, is_non_bl, is_non_int, is_non_str, is_non_tup, is_non_ls, is_non_ref, is_bl_non, is_bl_bl, is_bl_int, is_bl_str, is_bl_tup, is_bl_ls, is_bl_ref, trC_l, sqC_l, sqC_d, dcC_l, dcC_d, daC_l, daC_d, srC_l, laC_l, tyC_l, tyC_d, rvC_l, tr_non, tr_bl, tr_int, tr_str, tr_tup, tr_ref, tr_ls, sq_tup, sq_ls, sq_ref, dr_ref, da_ref, sr_tup, sr_ls, sr_str, sr_ref, sl_ls, sl_ref, se_ls, se_tup, se_ref, rv_tup, rv_ref, la_ref, it_non, it_bl, it_int, it_str, it_tup, it_ls, it_ref, ix_tup, ix_ls, ix_str, ix_ref, ixC_l, ixC_d, atN, at0, at1, at2, at3, at4, at5, at6, at7, at8, at9, at10, at11, at12, at13, at14, atm1, atm2, on1_, on2_, len_str, len_tup, len_ls, len_ref, lnC_l, lnC_d, int_i, int_b, int_s, str_i, str_s, bool_i, bool_b, abs_i, max_i, min_i, ofL_s, lst1, tpl1, all_r, any_r, sum_r, sl_str, sl_tup, slo_ref, slo_ls, ty_l, ty_s, ty_d, ty_appM, ty_popM, ty_revM, ty_extM, ty_joinM, ty_splitM, ty_getM, ty_insM, go_app, apC_s, go_ext, exC_s, go_rev, rvM_s, go_get1, go_get2, gtC_s, go_join, jnC_s, go_split, go_ins, inC_s, go_pop, so_ref, stC_d, stC_l, go_dic, goC_d, goC_l, in_str1, in_tup, in_ls, in_ref, ioC_l, ioC_d, kOk_s, kOk_i, kOk_t, k1_s, k1_i, r1, r2, eq_ss, eq_ii, eq_nbl, eq_bln, eq_nint, eq_intn, eq_nstr, eq_strn, eq_nn, eq_is, eq_si, go_some, kit_NoneType_str, kit_NoneType_int, kit_NoneType_bool, kit_NoneType_tuple, kit_NoneType_list, kit_NoneType_dict, kit_bool_str, kit_bool_int, kit_bool_bool, kit_bool_tuple, kit_bool_list, kit_bool_dict, kit_int_str, kit_int_int, kit_int_bool, kit_int_tuple, kit_int_list, kit_int_dict, kit_str_str, kit_str_int, kit_str_bool, kit_str_tuple, kit_str_list, kit_str_dict, kit_tuple_str, kit_tuple_int, kit_tuple_bool, kit_tuple_tuple, kit_tuple_list, kit_tuple_dict, kit_list_str, kit_list_int, kit_list_bool, kit_list_tuple, kit_list_list, kit_list_dict, kit_dict_str, kit_dict_int, kit_dict_bool, kit_dict_tuple, kit_dict_list, kit_dict_dict, rp0, rp1, rp2, rp3, rp4, rp5, rp6, rp7, rp8, rp9, rp10, rp11, rp12, rp13, rp14, rp15, rp16, rp17, rp18, rp19, rp20, rp21, rp22, rp23, rp24, rp25, rp26, rp27, rp28, rp29, rp30, $[$xs:term],*])
local macro_rules | `(tactic| wp_walk) => `(tactic| simp only [w_ok, w_exc, w_bind, w_of, w_cond, w_kE, w_vE, w_bE, w_uE, w_js0, w_js1, jsK_s, w_tst, w_andE, w_orE, w_notE, w_ifE, w_chE, w_ch3E, w_cmpR, w_aNil, w_aCons, w_aStar, w_tupE, w_lstE, w_cE, w_isiE, w_lsE, w_fE, w_mE, w_slE, w_ptN, w_ptS, w_newD, w_nextF, w_bkF, w_ctF, w_fl, w_dropF, w_retF, w_retNF, w_ifF, w_asgF, w_nm, w_tp, w_ts0, w_ts1, w_gS, w_augF, w_augS, w_parF, w_vS, w_rS, w_eS, w_zS, w_revS, w_iteS, w_lcN, w_lcS, wif_t, wif_f, wo_some, wo_map,
  defn_n, recn_n, List.getElem?_cons_zero, List.getElem?_cons_succ, Option.join_some, List.set_cons_zero, List.set_cons_succ, List.length_cons, List.length_nil, List.length_map, List.map_cons, List.map_nil, List.cons_append, List.nil_append, Nat.reduceAdd, Nat.reduceSub, Nat.zero_add, Option.map_some, Option.isSome_some, wipeE, parSet, Bool.not_true, Bool.not_false, decide_true, decide_false, Nat.reduceLeDiff, lim, Bool.true_eq_false, Bool.false_eq_true, if_true, if_false, true_and, and_true, eq_self, and_self, List.all_cons, List.all_nil, Bool.and_self, Bool.and_true, Bool.true_and, Int.reduceLT, Int.reduceLE, Nat.reduceLT, Int.reduceNeg, Int.reduceAdd, Int.reduceSub, Int.reduceMul, bo_add, bo_sub, bo_mul, bo_fd, bo_mod, bo_pow, ia_add, ia_sub, inD_i, add_i, iadd_i, add_s, iadd_s, add_t, add_r, adC_s, sub_i, isub_i, add_bi, sub_bi, sub_iB, str_b, fm_i, fm_s, mul_i, fd_i, mod_i, pow_i, neg_i, co_eq, co_ne, co_in, co_ni, co_is, co_isn, oi_Lt, os_Lt, oi_LtE, os_LtE, oi_Gt, os_Gt, oi_GtE, os_GtE, is_non_non, is_non_bl, is_non_int, is_non_str, is_non_tup, is_non_ls, is_non_ref, is_bl_non, is_bl_bl, is_bl_int, is_bl_str, is_bl_tup, is_bl_ls, is_bl_ref, trC_l, sqC_l, sqC_d, dcC_l, dcC_d, daC_l, daC_d, srC_l, laC_l, tyC_l, tyC_d, rvC_l, tr_non, tr_bl, tr_int, tr_str, tr_tup, tr_ref, tr_ls, sq_tup, sq_ls, sq_ref, dr_ref, da_ref, sr_tup, sr_ls, sr_str, sr_ref, sl_ls, sl_ref, se_ls, se_tup, se_ref, rv_tup, rv_ref, la_ref, it_non, it_bl, it_int, it_str, it_tup, it_ls, it_ref, ix_tup, ix_ls, ix_str, ix_ref, ixC_l, ixC_d, atN, at0, at1, at2, at3, at4, at5, at6, at7, at8, at9, at10, at11, at12, at13, at14, atm1, atm2, on1_, on2_, len_str, len_tup, len_ls, len_ref, lnC_l, lnC_d, int_i, int_b, int_s, str_i, str_s, bool_i, bool_b, abs_i, max_i, min_i, ofL_s, lst1, tpl1, all_r, any_r, sum_r, sl_str, sl_tup, slo_ref, slo_ls, ty_l, ty_s, ty_d, ty_appM, ty_popM, ty_revM, ty_extM, ty_joinM, ty_splitM, ty_getM, ty_insM, go_app, apC_s, go_ext, exC_s, go_rev, rvM_s, go_get1, go_get2, gtC_s, go_join, jnC_s, go_split, go_ins, inC_s, go_pop, so_ref, stC_d, stC_l, go_dic, goC_d, goC_l, in_str1, in_tup, in_ls, in_ref, ioC_l, ioC_d, kOk_s, kOk_i, kOk_t, k1_s, k1_i, r1, r2, eq_ss, eq_ii, eq_nbl, eq_bln, eq_nint, eq_intn, eq_nstr, eq_strn, eq_nn, eq_is, eq_si, go_some, kit_NoneType_str, kit_NoneType_int, kit_NoneType_bool, kit_NoneType_tuple, kit_NoneType_list, kit_NoneType_dict, kit_bool_str, kit_bool_int, kit_bool_bool, kit_bool_tuple, kit_bool_list, kit_bool_dict, kit_int_str, kit_int_int, kit_int_bool, kit_int_tuple, kit_int_list, kit_int_dict, kit_str_str, kit_str_int, kit_str_bool, kit_str_tuple, kit_str_list, kit_str_dict, kit_tuple_str, kit_tuple_int, kit_tuple_bool, kit_tuple_tuple, kit_tuple_list, kit_tuple_dict, kit_list_str, kit_list_int, kit_list_bool, kit_list_tuple, kit_list_list, kit_list_dict, kit_dict_str, kit_dict_int, kit_dict_bool, kit_dict_tuple, kit_dict_list, kit_dict_dict, rp0, rp1, rp2, rp3, rp4, rp5, rp6, rp7, rp8, rp9, rp10, rp11, rp12, rp13, rp14, rp15, rp16, rp17, rp18, rp19, rp20, rp21, rp22, rp23, rp24, rp25, rp26, rp27, rp28, rp29, rp30])
/-- scalars -/
inductive Sc : D → Prop
  | non : Sc .non
  | bl (b : Bool) : Sc (.bl b)
  | int (i : Int) : Sc (.int i)
  | str (x : Nm) : x.length ≤ 10000 → Sc (.str x)
inductive ShR (b : Nat) (h : Hs) : D → Prop
  | sc {d : D} : Sc d → ShR b h d
  | ref (n : Nat) (xs : List D) : n ≠ b → h[n]? = some (.lst xs) → ShR b h (.ref n)
  | tup (ss : List D) : ss.length ≤ 200 → (∀ s ∈ ss, Sc s) → ShR b h (.tup ss)
inductive ShX (b : Nat) (h : Hs) : D → Prop
  | sc {d : D} : Sc d → ShX b h d
  | ref (n : Nat) (xs : List D) : n ≠ b → h[n]? = some (.lst xs) → ShX b h (.ref n)
  | tup (rs : List D) : rs.length ≤ 200 → (∀ R ∈ rs, ShR b h R) → ShX b h (.tup rs)
inductive ShT (b : Nat) (h : Hs) : D → Prop
  | sc {d : D} : Sc d → ShT b h d
  | ref (n : Nat) (xs : List D) : n ≠ b → h[n]? = some (.lst xs) → ShT b h (.ref n)
  | two (K X : D) : (Sc K ∨ ∃ rs, K = .tup rs ∧ flt 20 K = true) → ShX b h X → ShT b h (.tup [K, X])
  | tup (ds : List D) : ds.length ≠ 2 → ds.length ≤ 200 → ShT b h (.tup ds)
theorem ShR.fr {b : Nat} {S : List Nat} {h h' : Hs} {d : D} (x : ShR b h d) (f : Fr S h h') (hS : ∀ n ∈ S, n = b) : ShR b h' d := by
  cases x with
  | sc s => exact .sc s
  | ref n xs ne e => exact .ref n xs ne (f.get e fun m => ne (hS n m))
  | tup ss l a => exact .tup ss l a
theorem ShX.fr {b : Nat} {S : List Nat} {h h' : Hs} {d : D} (x : ShX b h d) (f : Fr S h h') (hS : ∀ n ∈ S, n = b) : ShX b h' d := by
  cases x with
  | sc s => exact .sc s
  | ref n xs ne e => exact .ref n xs ne (f.get e fun m => ne (hS n m))
  | tup rs l a => exact .tup rs l fun R m => (a R m).fr f hS
theorem ShT.fr {b : Nat} {S : List Nat} {h h' : Hs} {d : D} (x : ShT b h d) (f : Fr S h h') (hS : ∀ n ∈ S, n = b) : ShT b h' d := by
  cases x with
  | sc s => exact .sc s
  | ref n xs ne e => exact .ref n xs ne (f.get e fun m => ne (hS n m))
  | two K X k x => exact .two K X k (x.fr f hS)
  | tup ds a l => exact .tup ds a l
theorem cut1 {α : Type} (xs : List α) : cutD xs (some 1) none = xs.drop 1 := by
  unfold cutD
  have e : HT.sIx xs.length 0 (some (1 : Int)) = min 1 xs.length := HT.sIx_nat xs.length 0 1
  rw [e, HT.sIx_none]
  cases xs with
  | nil => rfl
  | cons x xs =>
    have : min 1 (x :: xs).length = 1 := by simp
    rw [this]
    exact List.take_of_length_le (by simp)
open PySem PySem.Spec PyProof.Rows L2
theorem blsD_fn {α : Type} (g : α → Bool) : ∀ xs : List α, blsD (xs.map fun x => .bl (g x)) = some (xs.map g)
  | [] => rfl
  | x :: xs => by
    rw [List.map_cons, List.map_cons]
    unfold blsD
    rw [blsD_fn g xs]
    rfl
open PySem PySem.Spec PyProof.Rows L2
open PySem PySem.Spec PyProof.Rows L2
open PySem PySem.Spec PyProof.Rows L2
end M
namespace P05
open PySem PySem.Spec PyProof.Rows L2 M
/-- is_name(thing): slots ['thing', 'sign'] -/
noncomputable def s_is_name : Sf :=
  seqF (ifF (orE (notE (isiE (vE 0) "str")) (orE (notE (chE (kE (.int 1)) (cE (aCons (vE 0) aNil) (on1 len1)) (kE (.int 12)) .LtE .LtE)) (bE (bE (vE 0) (kE (.int 0)) ixOp) (kE (.str (cs "abcdefghijklmnopqrstuvwxyz"))) (cmpR .NotIn)))) (retF (kE (.bl false))) (nextF)) (
  retF (cE (aCons (lcE (vS (vE 0)) (.nm 1) none (orE (bE (vE 1) (kE (.str (cs "abcdefghijklmnopqrstuvwxyz"))) (cmpR .In)) (bE (vE 1) (kE (.str (cs "0123456789"))) (cmpR .In))) [1]) aNil) (on1 all1)))
noncomputable def fn_is_name : Fn := defn 1 2 s_is_name
/-- is_own_name(thing): slots ['thing'] -/
noncomputable def s_is_own_name : Sf :=
  retF (andE (fE (aCons (vE 0) aNil) P05.fn_is_name) (bE (vE 0) (kE (.str (cs "zero"))) (cmpR .NotEq)))
noncomputable def fn_is_own_name : Fn := defn 1 1 s_is_own_name
/-- is_bound(thing): slots ['thing'] -/
noncomputable def s_is_bound : Sf :=
  retF (andE (fE (aCons (vE 0) aNil) P07.fn_is_whole) (chE (bE (kE (.int 0)) (kE (.int 99999)) (binOp .Sub)) (vE 0) (kE (.int 99999)) .LtE .LtE))
noncomputable def fn_is_bound : Fn := defn 1 1 s_is_bound
/-- are_bounds(least, most): slots ['least', 'most'] -/
noncomputable def s_are_bounds : Sf :=
  seqF (ifF (andE (bE (vE 0) (kE .non) (cmpR .Is)) (bE (vE 1) (kE .non) (cmpR .Is))) (retF (kE (.bl false))) (nextF)) (
  seqF (ifF (andE (bE (vE 0) (kE .non) (cmpR .IsNot)) (notE (fE (aCons (vE 0) aNil) P05.fn_is_bound))) (retF (kE (.bl false))) (nextF)) (
  seqF (ifF (andE (bE (vE 1) (kE .non) (cmpR .IsNot)) (notE (fE (aCons (vE 1) aNil) P05.fn_is_bound))) (retF (kE (.bl false))) (nextF)) (
  retF (orE (bE (vE 0) (kE .non) (cmpR .Is)) (orE (bE (vE 1) (kE .non) (cmpR .Is)) (bE (vE 0) (vE 1) (cmpR .LtE)))))))
noncomputable def fn_are_bounds : Fn := defn 2 2 s_are_bounds
/-- are_durations(least, most): slots ['least', 'most'] -/
noncomputable def s_are_durations : Sf :=
  retF (andE (fE (aCons (vE 0) aNil) P07.fn_is_whole) (andE (fE (aCons (vE 1) aNil) P07.fn_is_whole) (ch3E (kE (.int 1)) (vE 0) (vE 1) (kE (.int 99999)) .LtE .LtE .LtE)))
noncomputable def fn_are_durations : Fn := defn 2 2 s_are_durations
/-- is_span(thing): slots ['thing', 'kind', 'name', 'a', 'b', 'least', 'most'] -/
noncomputable def s_is_span : Sf :=
  seqF (ifF (orE (notE (isiE (vE 0) "tuple")) (bE (cE (aCons (vE 0) aNil) (on1 len1)) (kE (.int 6)) (cmpR .NotEq))) (retF (kE (.bl false))) (nextF)) (
  seqF (asgF (vE 0) (asgT (.tp [.nm 1, .nm 2, .nm 3, .nm 4, .nm 5, .nm 6]))) (
  seqF (ifF (orE (notE (fE (aCons (vE 2) aNil) P05.fn_is_own_name)) (orE (notE (fE (aCons (vE 3) aNil) P05.fn_is_name)) (orE (notE (fE (aCons (vE 4) aNil) P05.fn_is_name)) (bE (vE 3) (vE 4) (cmpR .Eq))))) (retF (kE (.bl false))) (nextF)) (
  seqF (ifF (bE (vE 1) (kE (.str (cs "loose"))) (cmpR .Eq)) (retF (andE (bE (vE 4) (kE (.str (cs "zero"))) (cmpR .NotEq)) (fE (aCons (vE 5) (aCons (vE 6) aNil)) P05.fn_are_durations))) (nextF)) (
  retF (andE (bE (vE 1) (kE (.str (cs "span"))) (cmpR .Eq)) (fE (aCons (vE 5) (aCons (vE 6) aNil)) P05.fn_are_bounds))))))
noncomputable def fn_is_span : Fn := defn 1 7 s_is_span
/-- ends_well(before, span): slots ['before', 'span', 'begins', 'at', 'row'] -/
noncomputable def s_ends_well : Sf :=
  seqF (asgF (dcE (vS (vE 0)) (.nm 4) none (bE (vE 4) (kE (.int 3)) ixOp) (bE (vE 4) (kE (.int 2)) ixOp) [4]) (asgT (.nm 2))) (
  seqF (ifF (bE (bE (vE 1) (kE (.int 3)) ixOp) (vE 2) (cmpR .In)) (retF (kE (.bl false))) (nextF)) (
  seqF (asgF (bE (vE 1) (kE (.int 2)) ixOp) (asgT (.nm 3))) (
  seqF (whF (andE (bE (vE 3) (vE 2) (cmpR .In)) (bE (vE 3) (bE (vE 1) (kE (.int 3)) ixOp) (cmpR .NotEq))) (
    asgF (bE (vE 2) (vE 3) ixOp) (asgT (.nm 3))) (nextF)) (
  retF (bE (vE 3) (bE (vE 1) (kE (.int 3)) ixOp) (cmpR .NotEq))))))
noncomputable def fn_ends_well : Fn := defn 2 5 s_ends_well
end P05
namespace M
open PySem PySem.Spec PyProof.Rows L2
local macro_rules | `(tactic| wp_walk using $ts,*) => do let xs := Lean.Syntax.TSepArray.getElems ts; `(tactic| simp only [w_ok, w_exc, w_bind, w_of, w_cond, w_kE, w_vE, w_bE, w_uE, w_js0, w_js1, jsK_s, w_tst, w_andE, w_orE, w_notE, w_ifE, w_chE, w_ch3E, w_cmpR, w_aNil, w_aCons, w_aStar, w_tupE, w_lstE, w_cE, w_isiE, w_lsE, w_fE, w_mE, w_slE, w_ptN, w_ptS, w_newD, w_nextF, w_bkF, w_ctF, w_seqF, w_fl, w_dropF, w_retF, w_retNF, w_ifF, w_asgF, w_nm, w_tp, w_ts0, w_ts1, w_gS, w_augF, w_augS, w_parF, w_vS, w_rS, w_eS, w_zS, w_revS, w_iteS, w_lcN, w_lcS, wif_t, wif_f, wo_some, wo_map,
  defn_n, recn_n, List.getElem?_cons_zero, List.getElem?_cons_succ, Option.join_some, List.set_cons_zero, List.set_cons_succ, List.length_cons, List.length_nil, List.length_map, List.map_cons, List.map_nil, List.cons_append, List.nil_append, Nat.reduceAdd, Nat.reduceSub, Nat.zero_add, Option.map_some, Option.isSome_some, wipeE, parSet, Bool.not_true, Bool.not_false, decide_true, decide_false, Nat.reduceLeDiff, lim, Bool.true_eq_false, Bool.false_eq_true, if_true, if_false, true_and, and_true, eq_self, and_self, List.all_cons, List.all_nil, Bool.and_self, Bool.and_true, Bool.true_and, Int.reduceLT, Int.reduceLE, Nat.reduceLT, Int.reduceNeg, Int.reduceAdd, Int.reduceSub, Int.reduceMul, bo_add, bo_sub, bo_mul, bo_fd, bo_mod, bo_pow, ia_add, ia_sub, inD_i, add_i, iadd_i, add_s, iadd_s, add_t, add_r, adC_s, sub_i, isub_i, add_bi, sub_bi, sub_iB, str_b, fm_i, fm_s, mul_i, fd_i, mod_i, pow_i, neg_i, co_eq, co_ne, co_in, co_ni, co_is, co_isn, oi_Lt, os_Lt, oi_LtE, os_LtE, oi_Gt, os_Gt, oi_GtE, os_GtE, is_non_non, is_non_bl, is_non_int, is_non_str, is_non_tup, is_non_ls, is_non_ref, is_bl_non, is_bl_bl, is_bl_int, is_bl_str, is_bl_tup, is_bl_ls, is_bl_ref, trC_l, sqC_l, sqC_d, dcC_l, dcC_d, daC_l, daC_d, srC_l, laC_l, tyC_l, tyC_d, rvC_l, tr_non, tr_bl, tr_int, tr_str, tr_tup, tr_ref, tr_ls, sq_tup, sq_ls, sq_ref, dr_ref, da_ref, sr_tup, sr_ls, sr_str, sr_ref, sl_ls, sl_ref, se_ls, se_tup, se_ref, rv_tup, rv_ref, la_ref, it_non, it_bl, it_int, it_str, it_tup, it_ls, it_ref, ix_tup, ix_ls, ix_str, ix_ref, ixC_l, ixC_d, atN, at0, at1, at2, at3, at4, at5, at6, at7, at8, at9, at10, at11, at12, at13, at14, atm1, atm2, on1_, on2_, len_str, len_tup, len_ls, len_ref, lnC_l, lnC_d, int_i, int_b, int_s, str_i, str_s, bool_i, bool_b, abs_i, max_i, min_i, ofL_s, lst1, tpl1, all_r, any_r, sum_r, sl_str, sl_tup, slo_ref, slo_ls, ty_l, ty_s, ty_d, ty_appM, ty_popM, ty_revM, ty_extM, ty_joinM, ty_splitM, ty_getM, ty_insM, go_app, apC_s, go_ext, exC_s, go_rev, rvM_s, go_get1, go_get2, gtC_s, go_join, jnC_s, go_split, go_ins, inC_s, go_pop, so_ref, stC_d, stC_l, go_dic, goC_d, goC_l, in_str1, in_tup, in_ls, in_ref, ioC_l, ioC_d, kOk_s, kOk_i, kOk_t, k1_s, k1_i, r1, r2, eq_ss, eq_ii, eq_nbl, eq_bln, eq_nint, eq_intn, eq_nstr, eq_strn, eq_nn, eq_is, eq_si, go_some, kit_NoneType_str, kit_NoneType_int, kit_NoneType_bool, kit_NoneType_tuple, kit_NoneType_list, kit_NoneType_dict, kit_bool_str, kit_bool_int, kit_bool_bool, kit_bool_tuple, kit_bool_list, kit_bool_dict, kit_int_str, kit_int_int, kit_int_bool, kit_int_tuple, kit_int_list, kit_int_dict, kit_str_str, kit_str_int, kit_str_bool, kit_str_tuple, kit_str_list, kit_str_dict, kit_tuple_str, kit_tuple_int, kit_tuple_bool, kit_tuple_tuple, kit_tuple_list, kit_tuple_dict, kit_list_str, kit_list_int, kit_list_bool, kit_list_tuple, kit_list_list, kit_list_dict, kit_dict_str, kit_dict_int, kit_dict_bool, kit_dict_tuple, kit_dict_list, kit_dict_dict, rp0, rp1, rp2, rp3, rp4, rp5, rp6, rp7, rp8, rp9, rp10, rp11, rp12, rp13, rp14, rp15, rp16, rp17, rp18, rp19, rp20, rp21, rp22, rp23, rp24, rp25, rp26, rp27, rp28, rp29, rp30, $[$xs:term],*])
local macro_rules | `(tactic| wp_walk) => `(tactic| simp only [w_ok, w_exc, w_bind, w_of, w_cond, w_kE, w_vE, w_bE, w_uE, w_js0, w_js1, jsK_s, w_tst, w_andE, w_orE, w_notE, w_ifE, w_chE, w_ch3E, w_cmpR, w_aNil, w_aCons, w_aStar, w_tupE, w_lstE, w_cE, w_isiE, w_lsE, w_fE, w_mE, w_slE, w_ptN, w_ptS, w_newD, w_nextF, w_bkF, w_ctF, w_fl, w_dropF, w_retF, w_retNF, w_ifF, w_asgF, w_nm, w_tp, w_ts0, w_ts1, w_gS, w_augF, w_augS, w_parF, w_vS, w_rS, w_eS, w_zS, w_revS, w_iteS, w_lcN, w_lcS, wif_t, wif_f, wo_some, wo_map,
  defn_n, recn_n, List.getElem?_cons_zero, List.getElem?_cons_succ, Option.join_some, List.set_cons_zero, List.set_cons_succ, List.length_cons, List.length_nil, List.length_map, List.map_cons, List.map_nil, List.cons_append, List.nil_append, Nat.reduceAdd, Nat.reduceSub, Nat.zero_add, Option.map_some, Option.isSome_some, wipeE, parSet, Bool.not_true, Bool.not_false, decide_true, decide_false, Nat.reduceLeDiff, lim, Bool.true_eq_false, Bool.false_eq_true, if_true, if_false, true_and, and_true, eq_self, and_self, List.all_cons, List.all_nil, Bool.and_self, Bool.and_true, Bool.true_and, Int.reduceLT, Int.reduceLE, Nat.reduceLT, Int.reduceNeg, Int.reduceAdd, Int.reduceSub, Int.reduceMul, bo_add, bo_sub, bo_mul, bo_fd, bo_mod, bo_pow, ia_add, ia_sub, inD_i, add_i, iadd_i, add_s, iadd_s, add_t, add_r, adC_s, sub_i, isub_i, add_bi, sub_bi, sub_iB, str_b, fm_i, fm_s, mul_i, fd_i, mod_i, pow_i, neg_i, co_eq, co_ne, co_in, co_ni, co_is, co_isn, oi_Lt, os_Lt, oi_LtE, os_LtE, oi_Gt, os_Gt, oi_GtE, os_GtE, is_non_non, is_non_bl, is_non_int, is_non_str, is_non_tup, is_non_ls, is_non_ref, is_bl_non, is_bl_bl, is_bl_int, is_bl_str, is_bl_tup, is_bl_ls, is_bl_ref, trC_l, sqC_l, sqC_d, dcC_l, dcC_d, daC_l, daC_d, srC_l, laC_l, tyC_l, tyC_d, rvC_l, tr_non, tr_bl, tr_int, tr_str, tr_tup, tr_ref, tr_ls, sq_tup, sq_ls, sq_ref, dr_ref, da_ref, sr_tup, sr_ls, sr_str, sr_ref, sl_ls, sl_ref, se_ls, se_tup, se_ref, rv_tup, rv_ref, la_ref, it_non, it_bl, it_int, it_str, it_tup, it_ls, it_ref, ix_tup, ix_ls, ix_str, ix_ref, ixC_l, ixC_d, atN, at0, at1, at2, at3, at4, at5, at6, at7, at8, at9, at10, at11, at12, at13, at14, atm1, atm2, on1_, on2_, len_str, len_tup, len_ls, len_ref, lnC_l, lnC_d, int_i, int_b, int_s, str_i, str_s, bool_i, bool_b, abs_i, max_i, min_i, ofL_s, lst1, tpl1, all_r, any_r, sum_r, sl_str, sl_tup, slo_ref, slo_ls, ty_l, ty_s, ty_d, ty_appM, ty_popM, ty_revM, ty_extM, ty_joinM, ty_splitM, ty_getM, ty_insM, go_app, apC_s, go_ext, exC_s, go_rev, rvM_s, go_get1, go_get2, gtC_s, go_join, jnC_s, go_split, go_ins, inC_s, go_pop, so_ref, stC_d, stC_l, go_dic, goC_d, goC_l, in_str1, in_tup, in_ls, in_ref, ioC_l, ioC_d, kOk_s, kOk_i, kOk_t, k1_s, k1_i, r1, r2, eq_ss, eq_ii, eq_nbl, eq_bln, eq_nint, eq_intn, eq_nstr, eq_strn, eq_nn, eq_is, eq_si, go_some, kit_NoneType_str, kit_NoneType_int, kit_NoneType_bool, kit_NoneType_tuple, kit_NoneType_list, kit_NoneType_dict, kit_bool_str, kit_bool_int, kit_bool_bool, kit_bool_tuple, kit_bool_list, kit_bool_dict, kit_int_str, kit_int_int, kit_int_bool, kit_int_tuple, kit_int_list, kit_int_dict, kit_str_str, kit_str_int, kit_str_bool, kit_str_tuple, kit_str_list, kit_str_dict, kit_tuple_str, kit_tuple_int, kit_tuple_bool, kit_tuple_tuple, kit_tuple_list, kit_tuple_dict, kit_list_str, kit_list_int, kit_list_bool, kit_list_tuple, kit_list_list, kit_list_dict, kit_dict_str, kit_dict_int, kit_dict_bool, kit_dict_tuple, kit_dict_list, kit_dict_dict, rp0, rp1, rp2, rp3, rp4, rp5, rp6, rp7, rp8, rp9, rp10, rp11, rp12, rp13, rp14, rp15, rp16, rp17, rp18, rp19, rp20, rp21, rp22, rp23, rp24, rp25, rp26, rp27, rp28, rp29, rp30])
/-- [e for a in xs if c], the answers known -/
theorem w_lcG {α : Type} {QD : D → Hs → Prop} {E : Ex → Hs → Prop} {env : Env} {h : Hs} {s : Sv} {t : Tg} {c : Option Ev} {e : Ev} {vs : List Nat} (xs : List α) (enc : α → D) (keep : α → Bool) (val : α → D) (J P : Hs → Prop)
    (hs : (s env h).wp (fun src h1 => Tells src (xs.map enc) J ∧ P h1) E) (hJ : ∀ h, P h → J h) (hl : xs.length ≤ 16777216)
    (hb : ∀ (i : Nat) a h', xs[i]? = some a → P h' → (asgT t (enc a) (wipeE env vs) h').wp (fun env1 h1 => (lcC c env1 h1).wp (fun b h2 => wif b ((e env1 h2).wp (fun y h3 => keep a = true ∧ y = val a ∧ P h3) (fun _ _ => False)) (keep a = false ∧ P h2)) (fun _ _ => False)) (fun _ _ => False))
    (he : ∀ h', P h' → QD (.ref h'.length) (h' ++ [.lst ((xs.filter keep).map val)])) : (lcE s t c e vs env h).wp QD E := by
  refine w_lc (xs.map enc) J (fun i acc h' => acc = ((xs.take i).filter keep).map val ∧ P h') ?_ (fun _ _ _ q => hJ _ q.2) ?_ ?_ ?_
  · exact Res.wp_q hs fun src h1 q => ⟨q.1, rfl, q.2⟩
  · rintro i acc h' ⟨rfl, _⟩
    have := List.length_filter_le keep (xs.take i)
    rw [List.length_take] at this
    rw [List.length_map]
    show _ < 16777217
    omega
  · rintro i x acc h' hx ⟨rfl, p⟩
    obtain ⟨a, ha, rfl⟩ := map_get hx
    have li := lt_of_get ha
    have := List.length_filter_le keep (xs.take i)
    rw [List.length_take] at this
    refine Res.wp_mono (hb i a h' ha p) (fun env1 h1 q => ?_) (fun _ _ q => q)
    refine Res.wp_mono q (fun b h2 q => ?_) (fun _ _ q => q)
    rw [take_filter ha]
    cases b with
    | true =>
      rw [wif_t] at q ⊢
      refine Res.wp_mono q (fun y h3 q => ?_) (fun _ _ q => q)
      obtain ⟨q1, rfl, q3⟩ := q
      refine ⟨?_, ?_, q3⟩
      · rw [List.length_map]; show _ < 16777216; omega
      · rw [q1]; simp
    | false =>
      rw [wif_f] at q ⊢
      refine ⟨?_, q.2⟩
      rw [q.1]; simp
  · rintro acc h' ⟨rfl, p⟩
    rw [List.length_map, List.take_length]
    exact he h' p
theorem filter_tt {α : Type} (xs : List α) : (xs.filter fun _ => true) = xs := by
  induction xs with
  | nil => rfl
  | cons x xs ih => rw [List.filter_cons_of_pos rfl, ih]
/-- .. all of them -/
theorem w_lcM {α : Type} {QD : D → Hs → Prop} {E : Ex → Hs → Prop} {env : Env} {h : Hs} {s : Sv} {t : Tg} {e : Ev} {vs : List Nat} (xs : List α) (enc : α → D) (val : α → D) (J P : Hs → Prop)
    (hs : (s env h).wp (fun src h1 => Tells src (xs.map enc) J ∧ P h1) E) (hJ : ∀ h, P h → J h) (hl : xs.length ≤ 16777216)
    (hb : ∀ (i : Nat) a h', xs[i]? = some a → P h' → (asgT t (enc a) (wipeE env vs) h').wp (fun env1 h1 => (e env1 h1).wp (fun y h3 => y = val a ∧ P h3) (fun _ _ => False)) (fun _ _ => False))
    (he : ∀ h', P h' → QD (.ref h'.length) (h' ++ [.lst (xs.map val)])) : (lcE s t none e vs env h).wp QD E := by
  refine w_lcG xs enc (fun _ => true) val J P hs hJ hl ?_ ?_
  · intro i a h' ha p
    refine Res.wp_mono (hb i a h' ha p) (fun env1 h1 q => ?_) (fun _ _ q => q)
    rw [w_lcN, wif_t]
    exact Res.wp_mono q (fun y h3 q => ⟨rfl, q⟩) (fun _ _ q => q)
  · intro h' p
    rw [filter_tt]
    exact he h' p
/-- {k: v for a in xs} -/
theorem w_dcG {α : Type} {QD : D → Hs → Prop} {E : Ex → Hs → Prop} {env : Env} {h : Hs} {s : Sv} {t : Tg} {ek ev : Ev} {vs : List Nat} (xs : List α) (enc : α → D) (kx vx : α → D) (J P : Hs → Prop)
    (hs : (s env h).wp (fun src h1 => Tells src (xs.map enc) J ∧ P h1) E) (hJ : ∀ h, P h → J h) (hl : xs.length ≤ 16777216) (hk : ∀ a ∈ xs, k1 (kx a) = true)
    (hb : ∀ (i : Nat) a h', xs[i]? = some a → P h' → (asgT t (enc a) (wipeE env vs) h').wp (fun env1 h1 => (ek env1 h1).wp (fun y h3 => (ev env1 h3).wp (fun z h4 => (y = kx a ∧ z = vx a) ∧ P h4) (fun _ _ => False)) (fun _ _ => False)) (fun _ _ => False))
    (he : ∀ h', P h' → QD (.ref h'.length) (h' ++ [.dic false false (xs.foldl (fun acc a => dput acc (kx a) (vx a)) [])])) : (dcE s t none ek ev vs env h).wp QD E := by
  have len : ∀ (l : List α) (acc : List (D × D)), (l.foldl (fun acc a => dput acc (kx a) (vx a)) acc).length ≤ acc.length + l.length := fun l => by
    induction l with
    | nil => exact fun _ => Nat.le_refl _
    | cons a l ih =>
      intro acc
      rw [List.foldl_cons, List.length_cons]
      have := ih (dput acc (kx a) (vx a))
      have := dput_len acc (kx a) (vx a)
      omega
  refine w_dc (xs.map enc) J (fun i acc h' => acc = (xs.take i).foldl (fun acc a => dput acc (kx a) (vx a)) [] ∧ P h') ?_ (fun _ _ _ q => hJ _ q.2) ?_ ?_
  · exact Res.wp_q hs fun src h1 q => ⟨q.1, rfl, q.2⟩
  · rintro i x acc h' hx ⟨rfl, p⟩
    obtain ⟨a, ha, rfl⟩ := map_get hx
    have li := lt_of_get ha
    have := len (xs.take i) []
    rw [List.length_take, List.length_nil] at this
    refine Res.wp_mono (hb i a h' ha p) (fun env1 h1 q => ?_) (fun _ _ q => q)
    rw [w_lcN, wif_t, fold_take _ _ ha]
    refine Res.wp_mono q (fun y h3 q => ?_) (fun _ _ q => q)
    refine Res.wp_mono q (fun z h4 q => ?_) (fun _ _ q => q)
    obtain ⟨⟨rfl, rfl⟩, p⟩ := q
    exact ⟨⟨hk a (List.mem_of_getElem? ha), by show _ < 16777216; omega⟩, rfl, p⟩
  · rintro acc h' ⟨rfl, p⟩
    rw [List.length_map, List.take_length]
    exact he h' p
theorem all_f {α : Type} (g : α → Bool) (xs : List α) : (xs.map g).all id = xs.all g := by rw [List.all_map]; rfl
theorem all_1 {α : Type} {g : α → Bool} {xs : List α} (h : ∀ x ∈ xs, g x = true) : xs.all g = true := List.all_eq_true.mpr h
open PySem PySem.Spec PyProof.Rows L2
/-- a name -/
structure OkN (x : Nm) : Prop where
  l : x.length ≤ 12
  c : ∃ c r, x = c :: r ∧ 97 ≤ c ∧ c ≤ 122
  a : ∀ c ∈ x, (97 ≤ c ∧ c ≤ 122) ∨ (48 ≤ c ∧ c ≤ 57)
def ltrs : List Nat := (List.range 26).map (97 + ·)
def dgts : List Nat := (List.range 10).map (48 + ·)
theorem cs_ltrs : cs "abcdefghijklmnopqrstuvwxyz" = ltrs := by decide +kernel
theorem cs_dgts : cs "0123456789" = dgts := by decide +kernel
theorem in_ltrs {c : Nat} (h1 : 97 ≤ c) (h2 : c ≤ 122) : decide (c ∈ ltrs) = true := decide_eq_true (List.mem_map.mpr ⟨c - 97, List.mem_range.mpr (by omega), by omega⟩)
theorem in_dgts {c : Nat} (h1 : 48 ≤ c) (h2 : c ≤ 57) : decide (c ∈ dgts) = true := decide_eq_true (List.mem_map.mpr ⟨c - 48, List.mem_range.mpr (by omega), by omega⟩)
theorem blsD_rep (b : Bool) : ∀ n : Nat, blsD (List.replicate n (D.bl b)) = some (List.replicate n b)
  | 0 => rfl
  | n + 1 => by rw [List.replicate_succ]; unfold blsD; rw [blsD_rep b n]; rfl
theorem all_rep (n : Nat) : (List.replicate n true).all id = true := by
  rw [List.all_eq_true]
  exact fun x m => by rw [List.eq_of_mem_replicate m]; rfl
theorem isName_ok {x : Nm} {h : Hs} {Q : D → Hs → Prop} {E : Ex → Hs → Prop} (o : OkN x) (hq : ∀ h', Fr [] h h' → Q (.bl true) h') : (P05.fn_is_name.go [.str x] h).wp Q E := by
  obtain ⟨c, r, ex, c1, c2⟩ := o.c
  have ol := o.l
  have lx : 1 ≤ x.length := by rw [ex, List.length_cons]; omega
  have x0 : x[0]? = some c := by rw [ex]; rfl
  unfold P05.fn_is_name
  rw [w_defn]
  unfold P05.s_is_name
  rw [w_seqF, cs_ltrs, cs_dgts]
  have d1 : decide ((1 : Int) ≤ (x.length : Int)) = true := decide_eq_true (by omega)
  have d2 : decide ((x.length : Int) ≤ 12) = true := decide_eq_true (by omega)
  wp_walk using x0, in_ltrs c1 c2, d1, d2
  refine w_lc (x.map fun c => .str [c]) (fun _ => True) (fun i acc h' => acc = (List.replicate i (.bl true)) ∧ i ≤ 12 ∧ h' = h) ?_ (fun _ _ _ _ => trivial) ?_ ?_ ?_
  · wp_walk
    exact ⟨t_seq _ _, rfl⟩
  · rintro i acc h' ⟨rfl, _, _⟩
    rw [List.length_replicate]
    show _ < 16777217
    omega
  · rintro i z acc h' hz ⟨rfl, _, rfl⟩
    obtain ⟨c, hc, rfl⟩ := map_get hz
    have li := lt_of_get hc
    have er : List.replicate i (D.bl true) ++ [D.bl true] = List.replicate (i + 1) (D.bl true) := by rw [List.replicate_succ']
    have lr : (List.replicate i (D.bl true)).length < 16777216 := by rw [List.length_replicate]; omega
    rcases o.a c (List.mem_of_getElem? hc) with ⟨a1, a2⟩ | ⟨a1, a2⟩
    · wp_walk using in_ltrs a1 a2
      exact ⟨lr, er, by omega⟩
    · have nl : decide (c ∈ ltrs) = false := decide_eq_false fun m => by
        obtain ⟨k, _, e⟩ := List.mem_map.mp m
        omega
      wp_walk using in_dgts a1 a2, nl
      exact ⟨lr, er, by omega⟩
  · rintro acc h' ⟨rfl, _, rfl⟩
    have g : (h' ++ [Cell.lst (List.replicate (List.length x) (D.bl true))])[h'.length]? = some (.lst (List.replicate (List.length x) (D.bl true))) := get_new1
    rw [List.length_map]
    wp_walk using g, blsD_rep, all_rep
    exact hq _ .app
theorem ownName_ok {x : Nm} {h : Hs} {Q : D → Hs → Prop} {E : Ex → Hs → Prop} (o : OkN x) (nz : x ≠ zro) (hq : ∀ h', Fr [] h h' → Q (.bl true) h') : (P05.fn_is_own_name.go [.str x] h).wp Q E := by
  unfold P05.fn_is_own_name
  rw [w_defn]
  unfold P05.s_is_own_name
  wp_walk
  refine ⟨rfl, isName_ok o fun h1 F1 => ?_⟩
  wp_walk
  rw [show decide (x = cs "zero") = false from decide_eq_false nz]
  exact hq _ F1
theorem isBound_ok {i : Int} {h : Hs} {Q : D → Hs → Prop} {E : Ex → Hs → Prop} (b1 : -99999 ≤ i) (b2 : i ≤ 99999) (hq : ∀ h', Fr [] h h' → Q (.bl true) h') : (P05.fn_is_bound.go [.int i] h).wp Q E := by
  have d1 : decide ((-99999 : Int) ≤ i) = true := decide_eq_true (by omega)
  have d2 : decide (i ≤ 99999) = true := decide_eq_true (by omega)
  unfold P05.fn_is_bound
  rw [w_defn]
  unfold P05.s_is_bound
  wp_walk
  unfold P07.fn_is_whole
  rw [w_defn]
  unfold P07.s_is_whole
  wp_walk using d1, d2
  exact hq _ .refl
theorem areDurations_ok {i j : Int} {h : Hs} {Q : D → Hs → Prop} {E : Ex → Hs → Prop} (h1 : 1 ≤ i) (h2 : i ≤ j) (h3 : j ≤ 99999) (hq : ∀ h', Fr [] h h' → Q (.bl true) h') : (P05.fn_are_durations.go [.int i, .int j] h).wp Q E := by
  have d1 := decide_eq_true h1
  have d2 := decide_eq_true h2
  have d3 := decide_eq_true h3
  unfold P05.fn_are_durations
  rw [w_defn]
  unfold P05.s_are_durations P07.fn_is_whole
  wp_walk
  rw [w_defn]
  unfold P07.s_is_whole
  wp_walk
  rw [w_defn]
  wp_walk using d1, d2, d3
  exact hq _ .refl
open PySem PySem.Spec PyProof.Rows L2
theorem asc_get {ms : List Nm} (h : ms.Pairwise (· < ·)) {i : Nat} {x y : Nm} (hx : ms[i]? = some x) (hy : ms[i + 1]? = some y) : x < y := by
  obtain ⟨h1, rfl⟩ := List.getElem?_eq_some_iff.mp hx
  obtain ⟨h2, rfl⟩ := List.getElem?_eq_some_iff.mp hy
  exact List.pairwise_iff_getElem.mp h i (i + 1) h1 h2 (by omega)
def rk (x : Nm) : Nat := if x = zro then 0 else x.headD 0
theorem s5_2 (h : Hs) (s : Spn) : ixOp h (enS s) (.int 2) = .ok (.str s.a) h := rfl
theorem s5_3 (h : Hs) (s : Spn) : ixOp h (enS s) (.int 3) = .ok (.str s.b) h := rfl
theorem s5_1 (h : Hs) (s : Spn) : ixOp h (enS s) (.int 1) = .ok (.str s.name) h := rfl
theorem s5_0 (h : Hs) (s : Spn) : ixOp h (enS s) (.int 0) = .ok (.str (kindOf s.loose)) h := rfl
theorem k5_l (l : Bool) : decide (kindOf l = cs "loose") = l := by cases l <;> decide +kernel
/-- a table of begins by ends -/
def DB (kvs : List (D × D)) (bef : List Spn) : Prop := (∀ x, (dfind kvs (.str x)).isSome = decide (x ∈ bef.map Spn.b)) ∧ ∀ x d, dfind kvs (.str x) = some d → ∃ r ∈ bef, r.b = x ∧ d = .str r.a
theorem DB.put {kvs : List (D × D)} {bef : List Spn} (t : DB kvs bef) (s : Spn) : DB (dput kvs (.str s.b) (.str s.a)) (bef ++ [s]) := by
  constructor
  · intro x
    by_cases c : x = s.b
    · subst c
      rw [dfind_put_same _ _ _ (k_str _)]
      simp
    · rw [dfind_put_ne _ _ _ _ (fun z => c (D.str.inj z).symm), t.1 x]
      simp [c]
  · intro x d e
    by_cases c : x = s.b
    · subst c
      rw [dfind_put_same _ _ _ (k_str _)] at e
      exact ⟨s, by simp, rfl, (Option.some.inj e).symm⟩
    · rw [dfind_put_ne _ _ _ _ (fun z => c (D.str.inj z).symm)] at e
      obtain ⟨r, hr, q⟩ := t.2 x d e
      exact ⟨r, List.mem_append_left _ hr, q⟩
theorem DB.nil : DB [] [] := ⟨fun x => rfl, fun x d e => by cases e⟩
theorem DB.fold : ∀ (l pre : List Spn) (kvs : List (D × D)), DB kvs pre → DB (l.foldl (fun acc s => dput acc (.str s.b) (.str s.a)) kvs) (pre ++ l)
  | [], pre, kvs, t => by rw [List.append_nil]; exact t
  | s :: l, pre, kvs, t => by
    have := DB.fold l (pre ++ [s]) _ (t.put s)
    rw [List.append_assoc] at this
    exact this
end M
namespace P03
open PySem PySem.Spec PyProof.Rows L2 M
/-- whole_of(text): slots ['text', 'digits', 'sign'] -/
noncomputable def s_whole_of : Sf :=
  seqF (asgF (ifE (bE (slE (vE 0) none (some (kE (.int 1)))) (kE (.str (cs "-"))) (cmpR .Eq)) (slE (vE 0) (some (kE (.int 1))) none) (vE 0)) (asgT (.nm 1))) (
  seqF (ifF (orE (notE (chE (kE (.int 1)) (cE (aCons (vE 1) aNil) (on1 len1)) (kE (.int 12)) .LtE .LtE)) (notE (cE (aCons (lcE (vS (vE 1)) (.nm 2) none (bE (vE 2) (kE (.str (cs "0123456789"))) (cmpR .In)) [2]) aNil) (on1 all1)))) (retF (kE .non)) (nextF)) (
  seqF (ifF (andE (bE (bE (vE 1) (kE (.int 0)) ixOp) (kE (.str (cs "0"))) (cmpR .Eq)) (bE (vE 0) (kE (.str (cs "0"))) (cmpR .NotEq))) (retF (kE .non)) (nextF)) (
  retF (cE (aCons (vE 0) aNil) (on1 int1)))))
noncomputable def fn_whole_of : Fn := defn 1 3 s_whole_of
/-- lines_of(text): slots ['text', 'lines'] -/
noncomputable def s_lines_of : Sf :=
  seqF (asgF (mE (vE 0) (aCons (kE (.str (cs "\n"))) aNil) splitM) (asgT (.nm 1))) (
  seqF (ifF (bE (bE (vE 1) (uE (kE (.int 1)) negD) ixOp) (kE (.str (cs ""))) (cmpR .Eq)) (retF (tupE (aCons (slE (vE 1) none (some (uE (kE (.int 1)) negD))) (aCons (kE (.bl true)) aNil)))) (nextF)) (
  retF (tupE (aCons (vE 1) (aCons (kE (.bl false)) aNil)))))
noncomputable def fn_lines_of : Fn := defn 1 2 s_lines_of
/-- loose_of(plan): slots ['plan', 'span'] -/
noncomputable def s_loose_of : Sf :=
  retF (cE (aCons (cE (aCons (lcE (vS (bE (vE 0) (kE (.int 2)) ixOp)) (.nm 1) (some (bE (bE (vE 1) (kE (.int 0)) ixOp) (kE (.str (cs "loose"))) (cmpR .Eq))) (bE (vE 1) (kE (.int 1)) ixOp) [1]) aNil) (on1 sorted1)) aNil) (on1 tuple1))
noncomputable def fn_loose_of : Fn := defn 1 2 s_loose_of
/-- bound_text(bound): slots ['bound'] -/
noncomputable def s_bound_text : Sf :=
  retF (ifE (bE (vE 0) (kE .non) (cmpR .Is)) (kE (.str (cs "-"))) (cE (aCons (vE 0) aNil) (on1 str1)))
noncomputable def fn_bound_text : Fn := defn 1 1 s_bound_text
/-- span_line(span): slots ['span', 'kind', 'name', 'a', 'b', 'least', 'most'] -/
noncomputable def s_span_line : Sf :=
  seqF (asgF (vE 0) (asgT (.tp [.nm 1, .nm 2, .nm 3, .nm 4, .nm 5, .nm 6]))) (
  retF (jsE [uE (vE 1) fm1, kE (.str (cs " ")), uE (vE 2) fm1, kE (.str (cs " from ")), uE (vE 3) fm1, kE (.str (cs " to ")), uE (vE 4) fm1, kE (.str (cs ": ")), uE (fE (aCons (vE 5) aNil) P03.fn_bound_text) fm1, kE (.str (cs " to ")), uE (fE (aCons (vE 6) aNil) P03.fn_bound_text) fm1] []))
noncomputable def fn_span_line : Fn := defn 1 7 s_span_line
/-- write_plan(plan): slots ['plan', 'lines', 'mark', 'span'] -/
noncomputable def s_write_plan : Sf :=
  seqF (asgF (lcE (vS (bE (vE 0) (kE (.int 1)) ixOp)) (.nm 2) none (jsE [kE (.str (cs "mark ")), uE (vE 2) fm1, kE (.str (cs "\n"))] []) [2]) (asgT (.nm 1))) (
  retF (mE (kE (.str (cs ""))) (aCons (lstE (aStar (vE 1) (aStar (lcE (vS (bE (vE 0) (kE (.int 2)) ixOp)) (.nm 3) none (jsE [uE (fE (aCons (vE 3) aNil) P03.fn_span_line) fm1, kE (.str (cs "\n"))] []) [3]) aNil))) aNil) joinM))
noncomputable def fn_write_plan : Fn := defn 1 4 s_write_plan
/-- read_line(line): slots ['line', 'words', 'span'] -/
noncomputable def s_read_line : Sf :=
  seqF (asgF (mE (vE 0) (aCons (kE (.str (cs " "))) aNil) splitM) (asgT (.nm 1))) (
  seqF (ifF (andE (bE (cE (aCons (vE 1) aNil) (on1 len1)) (kE (.int 2)) (cmpR .Eq)) (bE (bE (vE 1) (kE (.int 0)) ixOp) (kE (.str (cs "mark"))) (cmpR .Eq))) (retF (ifE (fE (aCons (bE (vE 1) (kE (.int 1)) ixOp) aNil) P05.fn_is_own_name) (tupE (aCons (kE (.str (cs "mark"))) (aCons (bE (vE 1) (kE (.int 1)) ixOp) aNil))) (kE .non))) (nextF)) (
  seqF (ifF (bE (cE (aCons (vE 1) aNil) (on1 len1)) (kE (.int 9)) (cmpR .NotEq)) (retF (kE .non)) (nextF)) (
  seqF (asgF (tupE (aCons (bE (vE 1) (kE (.int 0)) ixOp) (aCons (bE (vE 1) (kE (.int 1)) ixOp) (aCons (bE (vE 1) (kE (.int 3)) ixOp) (aCons (slE (bE (vE 1) (kE (.int 5)) ixOp) none (some (uE (kE (.int 1)) negD))) (aCons (fE (aCons (bE (vE 1) (kE (.int 6)) ixOp) aNil) P03.fn_whole_of) (aCons (fE (aCons (bE (vE 1) (kE (.int 8)) ixOp) aNil) P03.fn_whole_of) aNil))))))) (asgT (.nm 2))) (
  retF (ifE (andE (fE (aCons (vE 2) aNil) P05.fn_is_span) (bE (fE (aCons (vE 2) aNil) P03.fn_span_line) (vE 0) (cmpR .Eq))) (vE 2) (kE .non))))))
noncomputable def fn_read_line : Fn := defn 1 3 s_read_line
/-- span_fault(marks, spans, span): slots ['marks', 'spans', 'span', 'loose', 'known', 'row'] -/
noncomputable def s_span_fault : Sf :=
  seqF (asgF (lcE (vS (vE 1)) (.nm 5) (some (bE (bE (vE 5) (kE (.int 0)) ixOp) (kE (.str (cs "loose"))) (cmpR .Eq))) (vE 5) [5]) (asgT (.nm 3))) (
  seqF (ifF (orE (bE (cE (aCons (vE 1) aNil) (on1 len1)) (kE (.int 140)) (cmpR .Eq)) (andE (bE (bE (vE 2) (kE (.int 0)) ixOp) (kE (.str (cs "loose"))) (cmpR .Eq)) (bE (cE (aCons (vE 3) aNil) (on1 len1)) (kE (.int 8)) (cmpR .Eq)))) (retF (kE (.str (cs "many")))) (nextF)) (
  seqF (ifF (bE (bE (vE 2) (kE (.int 1)) ixOp) (lcE (vS (vE 1)) (.nm 5) none (bE (vE 5) (kE (.int 1)) ixOp) [5]) (cmpR .In)) (retF (kE (.str (cs "twice")))) (nextF)) (
  seqF (asgF (tupE (aCons (kE (.str (cs "zero"))) (aStar (vE 0) aNil))) (asgT (.nm 4))) (
  seqF (ifF (orE (bE (bE (vE 2) (kE (.int 2)) ixOp) (vE 4) (cmpR .NotIn)) (bE (bE (vE 2) (kE (.int 3)) ixOp) (vE 4) (cmpR .NotIn))) (retF (kE (.str (cs "unknown")))) (nextF)) (
  seqF (ifF (andE (bE (bE (vE 2) (kE (.int 0)) ixOp) (kE (.str (cs "loose"))) (cmpR .Eq)) (notE (fE (aCons (vE 3) (aCons (vE 2) aNil)) P05.fn_ends_well))) (retF (kE (.str (cs "ends")))) (nextF)) (
  retF (kE .non)))))))
noncomputable def fn_span_fault : Fn := defn 3 6 s_span_fault
/-- line_fault(marks, spans, row): slots ['marks', 'spans', 'row'] -/
noncomputable def s_line_fault : Sf :=
  seqF (ifF (orE (bE (vE 2) (kE .non) (cmpR .Is)) (andE (bE (bE (vE 2) (kE (.int 0)) ixOp) (kE (.str (cs "mark"))) (cmpR .Eq)) (vE 1))) (retF (kE (.str (cs "bad line")))) (nextF)) (
  seqF (ifF (bE (bE (vE 2) (kE (.int 0)) ixOp) (kE (.str (cs "mark"))) (cmpR .NotEq)) (retF (fE (aCons (vE 0) (aCons (vE 1) (aCons (vE 2) aNil))) P03.fn_span_fault)) (nextF)) (
  seqF (ifF (andE (vE 0) (bE (bE (vE 2) (kE (.int 1)) ixOp) (bE (vE 0) (uE (kE (.int 1)) negD) ixOp) (cmpR .LtE))) (retF (kE (.str (cs "order")))) (nextF)) (
  retF (ifE (bE (cE (aCons (vE 0) aNil) (on1 len1)) (kE (.int 40)) (cmpR .Eq)) (kE (.str (cs "many"))) (kE .non)))))
noncomputable def fn_line_fault : Fn := defn 3 3 s_line_fault
/-- read_plan(text): slots ['text', 'marks', 'spans', 'lines', 'ended', 'at', 'line', 'row', 'reason'] -/
noncomputable def s_read_plan : Sf :=
  seqF (asgF (fE (aCons (vE 0) aNil) P03.fn_lines_of) (asgT (.tp [.nm 3, .nm 4]))) (
  seqF (asgF (lstE aNil) (asgT (.nm 1))) (
  seqF (asgF (lstE aNil) (asgT (.nm 2))) (
  seqF (forF (eS (vE 3)) (.tp [.nm 5, .nm 6]) (
    seqF (asgF (fE (aCons (vE 6) aNil) P03.fn_read_line) (asgT (.nm 7))) (
    seqF (asgF (fE (aCons (vE 1) (aCons (vE 2) (aCons (vE 7) aNil))) P03.fn_line_fault) (asgT (.nm 8))) (
    seqF (ifF (andE (bE (vE 8) (kE .non) (cmpR .Is)) (andE (notE (vE 4)) (bE (vE 5) (bE (cE (aCons (vE 3) aNil) (on1 len1)) (kE (.int 1)) (binOp .Sub)) (cmpR .Eq)))) (asgF (kE (.str (cs "no end"))) (asgT (.nm 8))) (nextF)) (
    seqF (ifF (bE (vE 8) (kE .non) (cmpR .IsNot)) (badS) (nextF)) (
    ifF (bE (bE (vE 7) (kE (.int 0)) ixOp) (kE (.str (cs "mark"))) (cmpR .Eq)) (dropF (mE (vE 1) (aCons (bE (vE 7) (kE (.int 1)) ixOp) aNil) appM)) (dropF (mE (vE 2) (aCons (vE 7) aNil) appM))))))) (nextF)) (
  retF (tupE (aCons (kE (.str (cs "plan"))) (aCons (cE (aCons (vE 1) aNil) (on1 tuple1)) (aCons (cE (aCons (vE 2) aNil) (on1 tuple1)) aNil))))))))
noncomputable def fn_read_plan : Fn := defn 1 9 s_read_plan
/-- _law_bound_text(bound): slots ['bound'] -/
noncomputable def s__law_bound_text : Sf :=
  retF (ifE (bE (vE 0) (kE .non) (cmpR .Is)) (kE (.str (cs "-"))) (cE (aCons (vE 0) aNil) (on1 str1)))
noncomputable def fn__law_bound_text : Fn := defn 1 1 s__law_bound_text
/-- _law_span_text(row): slots ['row'] -/
noncomputable def s__law_span_text : Sf :=
  retF (bE (bE (bE (bE (bE (bE (bE (bE (bE (bE (bE (vE 0) (kE (.int 0)) ixOp) (kE (.str (cs " "))) (binOp .Add)) (bE (vE 0) (kE (.int 1)) ixOp) (binOp .Add)) (kE (.str (cs " from "))) (binOp .Add)) (bE (vE 0) (kE (.int 2)) ixOp) (binOp .Add)) (kE (.str (cs " to "))) (binOp .Add)) (bE (vE 0) (kE (.int 3)) ixOp) (binOp .Add)) (kE (.str (cs ": "))) (binOp .Add)) (fE (aCons (bE (vE 0) (kE (.int 4)) ixOp) aNil) P03.fn__law_bound_text) (binOp .Add)) (kE (.str (cs " to "))) (binOp .Add)) (fE (aCons (bE (vE 0) (kE (.int 5)) ixOp) aNil) P03.fn__law_bound_text) (binOp .Add))
noncomputable def fn__law_span_text : Fn := defn 1 1 s__law_span_text
/-- _law_plan_text(plan): slots ['plan', 'lines', 'mark', 'row', 'line'] -/
noncomputable def s__law_plan_text : Sf :=
  seqF (asgF (bE (lcE (vS (bE (vE 0) (kE (.int 1)) ixOp)) (.nm 2) none (bE (kE (.str (cs "mark "))) (vE 2) (binOp .Add)) [2]) (lcE (vS (bE (vE 0) (kE (.int 2)) ixOp)) (.nm 3) none (fE (aCons (vE 3) aNil) P03.fn__law_span_text) [3]) (binOp .Add)) (asgT (.nm 1))) (
  retF (mE (kE (.str (cs ""))) (aCons (lcE (vS (vE 1)) (.nm 4) none (bE (vE 4) (kE (.str (cs "\n"))) (binOp .Add)) [4]) aNil) joinM))
noncomputable def fn__law_plan_text : Fn := defn 1 5 s__law_plan_text
/-- _law_any_name(box): slots ['box', 'first', 'body'] -/
noncomputable def s__law_any_name : Sf :=
  seqF (asgF (bE (kE (.str (cs "abcz"))) (fE (aCons (vE 0) (aCons (kE (.int 4)) aNil)) PH.fn__law_draw) ixOp) (asgT (.nm 1))) (
  seqF (asgF (slE (kE (.str (cs "abcdefghi0"))) none (some (fE (aCons (vE 0) (aCons (kE (.int 11)) aNil)) PH.fn__law_draw))) (asgT (.nm 2))) (
  retF (bE (bE (vE 1) (vE 2) (binOp .Add)) (bE (lstE (aCons (kE (.str (cs ""))) (aCons (kE (.str (cs "x"))) aNil))) (fE (aCons (vE 0) (aCons (kE (.int 2)) aNil)) PH.fn__law_draw) ixOp) (binOp .Add))))
noncomputable def fn__law_any_name : Fn := defn 1 3 s__law_any_name
/-- _law_wide_plan(box): slots ['box', 'marks', 'k', 'rows', 'ends', 'row', 'at', 'least', 'begin'] -/
noncomputable def s__law_wide_plan : Sf :=
  seqF (asgF (ssE (lcE (rS (aCons (fE (aCons (vE 0) (aCons (kE (.int 6)) aNil)) PH.fn__law_draw) aNil) rng1Of) (.nm 2) none (fE (aCons (vE 0) aNil) P03.fn__law_any_name) [2])) (asgT (.nm 1))) (
  seqF (parF [3, 4] (aCons (lstE aNil) (aCons (lstE aNil) aNil))) (
  seqF (forF (rS (aCons (ifE (bE (vE 1) (lstE aNil) (cmpR .NotEq)) (fE (aCons (vE 0) (aCons (kE (.int 6)) aNil)) PH.fn__law_draw) (kE (.int 0))) aNil) rng1Of) (.nm 2) (
    seqF (asgF (fE (aCons (vE 0) (aCons (bE (kE (.str (cs "s"))) (cE (aCons (vE 2) aNil) (on1 str1)) (binOp .Add)) (aCons (vE 1) (aCons (kE (.bl true)) aNil)))) PH.fn__law_span) (asgT (.nm 5))) (
    seqF (asgF (bE (fE (aCons (vE 0) (aCons (kE (.int 900)) aNil)) PH.fn__law_draw) (cE (aCons (vE 1) aNil) (on1 len1)) (binOp .Mod)) (asgT (.nm 6))) (
    seqF (ifF (andE (bE (fE (aCons (vE 0) (aCons (kE (.int 3)) aNil)) PH.fn__law_draw) (kE (.int 0)) (cmpR .Eq)) (bE (bE (vE 1) (vE 6) ixOp) (vE 4) (cmpR .NotIn))) (seqF (dropF (mE (vE 4) (aCons (bE (vE 1) (vE 6) ixOp) aNil) appM)) (
      seqF (asgF (bE (lstE (aCons (kE (.int 1)) (aCons (kE (.int 99999)) (aCons (bE (kE (.int 1)) (fE (aCons (vE 0) (aCons (kE (.int 99999)) aNil)) PH.fn__law_wide) (binOp .Add)) aNil)))) (fE (aCons (vE 0) (aCons (kE (.int 3)) aNil)) PH.fn__law_draw) ixOp) (asgT (.nm 7))) (
      seqF (asgF (bE (bE (lstE (aCons (kE (.str (cs "zero"))) aNil)) (slE (vE 1) none (some (vE 6))) (binOp .Add)) (bE (fE (aCons (vE 0) (aCons (kE (.int 900)) aNil)) PH.fn__law_draw) (bE (vE 6) (kE (.int 1)) (binOp .Add)) (binOp .Mod)) ixOp) (asgT (.nm 8))) (
      asgF (tupE (aCons (kE (.str (cs "loose"))) (aCons (bE (kE (.str (cs "s"))) (cE (aCons (vE 2) aNil) (on1 str1)) (binOp .Add)) (aCons (vE 8) (aCons (bE (vE 1) (vE 6) ixOp) (aCons (vE 7) (aCons (cE (aCons (kE (.int 99999)) (aCons (bE (vE 7) (bE (lstE (aCons (kE (.int 0)) (aCons (kE (.int 5)) (aCons (kE (.int 99999)) aNil)))) (fE (aCons (vE 0) (aCons (kE (.int 3)) aNil)) PH.fn__law_draw) ixOp) (binOp .Add)) aNil)) (on2 min2)) aNil))))))) (asgT (.nm 5)))))) (nextF)) (
    dropF (mE (vE 3) (aCons (vE 5) aNil) appM))))) (nextF)) (
  retF (tupE (aCons (kE (.str (cs "plan"))) (aCons (cE (aCons (vE 1) aNil) (on1 tuple1)) (aCons (cE (aCons (vE 3) aNil) (on1 tuple1)) aNil)))))))
noncomputable def fn__law_wide_plan : Fn := defn 1 9 s__law_wide_plan
/-- law(script): slots ['script', 'box', 'turn', 'plan', 'text', 'row'] -/
noncomputable def s_law : Sf :=
  seqF (asgF (lstE (aCons (fE (aCons (vE 0) (aCons (kE (.int 0)) (aCons (kE (.int 63)) aNil))) PH.fn__law_digits) (aCons (kE (.int 0)) aNil))) (asgT (.nm 1))) (
  seqF (forF (rS (aCons (kE (.int 5)) aNil) rng1Of) (.nm 2) (
    seqF (asgF (fE (aCons (vE 1) aNil) P03.fn__law_wide_plan) (asgT (.nm 3))) (
    seqF (ifF (bE (fE (aCons (vE 1) (aCons (kE (.int 2)) aNil)) PH.fn__law_draw) (kE (.int 0)) (cmpR .Eq)) (asgF (fE (aCons (vE 1) (aCons (fE (aCons (vE 1) (aCons (kE (.int 7)) aNil)) PH.fn__law_draw) (aCons (fE (aCons (vE 1) (aCons (kE (.int 9)) aNil)) PH.fn__law_draw) (aCons (fE (aCons (vE 1) (aCons (kE (.int 4)) aNil)) PH.fn__law_draw) aNil)))) PH.fn__law_plan) (asgT (.nm 3))) (nextF)) (
    seqF (asgF (fE (aCons (vE 3) aNil) P03.fn__law_plan_text) (asgT (.nm 4))) (
    seqF (ifF (orE (notE (fE (aCons (fE (aCons (vE 3) aNil) P03.fn_write_plan) (aCons (vE 4) aNil)) PH.fn__law_like)) (notE (fE (aCons (fE (aCons (vE 4) aNil) P03.fn_read_plan) (aCons (vE 3) aNil)) PH.fn__law_like))) (retF (kE (.bl false))) (nextF)) (
    ifF (notE (fE (aCons (fE (aCons (vE 3) aNil) P03.fn_loose_of) (aCons (cE (aCons (cE (aCons (lcE (vS (bE (vE 3) (kE (.int 2)) ixOp)) (.nm 5) (some (bE (bE (vE 5) (kE (.int 0)) ixOp) (kE (.str (cs "loose"))) (cmpR .Eq))) (bE (vE 5) (kE (.int 1)) ixOp) [5]) aNil) (on1 sorted1)) aNil) (on1 tuple1)) aNil)) PH.fn__law_like)) (retF (kE (.bl false))) (nextF)))))) (nextF)) (
  retF (kE (.bl true))))
noncomputable def fn_law : Fn := defn 1 6 s_law
end P03
namespace M
open PySem PySem.Spec PyProof.Rows L2
local macro_rules | `(tactic| wp_walk using $ts,*) => do let xs := Lean.Syntax.TSepArray.getElems ts; `(tactic| simp only [w_ok, w_exc, w_bind, w_of, w_cond, w_kE, w_vE, w_bE, w_uE, w_js0, w_js1, jsK_s, w_tst, w_andE, w_orE, w_notE, w_ifE, w_chE, w_ch3E, w_cmpR, w_aNil, w_aCons, w_aStar, w_tupE, w_lstE, w_cE, w_isiE, w_lsE, w_fE, w_mE, w_slE, w_ptN, w_ptS, w_newD, w_nextF, w_bkF, w_ctF, w_seqF, w_fl, w_dropF, w_retF, w_retNF, w_ifF, w_asgF, w_nm, w_tp, w_ts0, w_ts1, w_gS, w_augF, w_augS, w_parF, w_vS, w_rS, w_eS, w_zS, w_revS, w_iteS, w_lcN, w_lcS, wif_t, wif_f, wo_some, wo_map,
  defn_n, recn_n, List.getElem?_cons_zero, List.getElem?_cons_succ, Option.join_some, List.set_cons_zero, List.set_cons_succ, List.length_cons, List.length_nil, List.length_map, List.map_cons, List.map_nil, List.cons_append, List.nil_append, Nat.reduceAdd, Nat.reduceSub, Nat.zero_add, Option.map_some, Option.isSome_some, wipeE, parSet, Bool.not_true, Bool.not_false, decide_true, decide_false, Nat.reduceLeDiff, lim, Bool.true_eq_false, Bool.false_eq_true, if_true, if_false, true_and, and_true, eq_self, and_self, List.all_cons, List.all_nil, Bool.and_self, Bool.and_true, Bool.true_and, Int.reduceLT, Int.reduceLE, Nat.reduceLT, Int.reduceNeg, Int.reduceAdd, Int.reduceSub, Int.reduceMul, bo_add, bo_sub, bo_mul, bo_fd, bo_mod, bo_pow, ia_add, ia_sub, inD_i, add_i, iadd_i, add_s, iadd_s, add_t, add_r, adC_s, sub_i, isub_i, add_bi, sub_bi, sub_iB, str_b, fm_i, fm_s, mul_i, fd_i, mod_i, pow_i, neg_i, co_eq, co_ne, co_in, co_ni, co_is, co_isn, oi_Lt, os_Lt, oi_LtE, os_LtE, oi_Gt, os_Gt, oi_GtE, os_GtE, is_non_non, is_non_bl, is_non_int, is_non_str, is_non_tup, is_non_ls, is_non_ref, is_bl_non, is_bl_bl, is_bl_int, is_bl_str, is_bl_tup, is_bl_ls, is_bl_ref, trC_l, sqC_l, sqC_d, dcC_l, dcC_d, daC_l, daC_d, srC_l, laC_l, tyC_l, tyC_d, rvC_l, tr_non, tr_bl, tr_int, tr_str, tr_tup, tr_ref, tr_ls, sq_tup, sq_ls, sq_ref, dr_ref, da_ref, sr_tup, sr_ls, sr_str, sr_ref, sl_ls, sl_ref, se_ls, se_tup, se_ref, rv_tup, rv_ref, la_ref, it_non, it_bl, it_int, it_str, it_tup, it_ls, it_ref, ix_tup, ix_ls, ix_str, ix_ref, ixC_l, ixC_d, atN, at0, at1, at2, at3, at4, at5, at6, at7, at8, at9, at10, at11, at12, at13, at14, atm1, atm2, on1_, on2_, len_str, len_tup, len_ls, len_ref, lnC_l, lnC_d, int_i, int_b, int_s, str_i, str_s, bool_i, bool_b, abs_i, max_i, min_i, ofL_s, lst1, tpl1, all_r, any_r, sum_r, sl_str, sl_tup, slo_ref, slo_ls, ty_l, ty_s, ty_d, ty_appM, ty_popM, ty_revM, ty_extM, ty_joinM, ty_splitM, ty_getM, ty_insM, go_app, apC_s, go_ext, exC_s, go_rev, rvM_s, go_get1, go_get2, gtC_s, go_join, jnC_s, go_split, go_ins, inC_s, go_pop, so_ref, stC_d, stC_l, go_dic, goC_d, goC_l, in_str1, in_tup, in_ls, in_ref, ioC_l, ioC_d, kOk_s, kOk_i, kOk_t, k1_s, k1_i, r1, r2, eq_ss, eq_ii, eq_nbl, eq_bln, eq_nint, eq_intn, eq_nstr, eq_strn, eq_nn, eq_is, eq_si, go_some, kit_NoneType_str, kit_NoneType_int, kit_NoneType_bool, kit_NoneType_tuple, kit_NoneType_list, kit_NoneType_dict, kit_bool_str, kit_bool_int, kit_bool_bool, kit_bool_tuple, kit_bool_list, kit_bool_dict, kit_int_str, kit_int_int, kit_int_bool, kit_int_tuple, kit_int_list, kit_int_dict, kit_str_str, kit_str_int, kit_str_bool, kit_str_tuple, kit_str_list, kit_str_dict, kit_tuple_str, kit_tuple_int, kit_tuple_bool, kit_tuple_tuple, kit_tuple_list, kit_tuple_dict, kit_list_str, kit_list_int, kit_list_bool, kit_list_tuple, kit_list_list, kit_list_dict, kit_dict_str, kit_dict_int, kit_dict_bool, kit_dict_tuple, kit_dict_list, kit_dict_dict, rp0, rp1, rp2, rp3, rp4, rp5, rp6, rp7, rp8, rp9, rp10, rp11, rp12, rp13, rp14, rp15, rp16, rp17, rp18, rp19, rp20, rp21, rp22, rp23, rp24, rp25, rp26, rp27, rp28, rp29, rp30, $[$xs:term],*])
local macro_rules | `(tactic| wp_walk) => `(tactic| simp only [w_ok, w_exc, w_bind, w_of, w_cond, w_kE, w_vE, w_bE, w_uE, w_js0, w_js1, jsK_s, w_tst, w_andE, w_orE, w_notE, w_ifE, w_chE, w_ch3E, w_cmpR, w_aNil, w_aCons, w_aStar, w_tupE, w_lstE, w_cE, w_isiE, w_lsE, w_fE, w_mE, w_slE, w_ptN, w_ptS, w_newD, w_nextF, w_bkF, w_ctF, w_fl, w_dropF, w_retF, w_retNF, w_ifF, w_asgF, w_nm, w_tp, w_ts0, w_ts1, w_gS, w_augF, w_augS, w_parF, w_vS, w_rS, w_eS, w_zS, w_revS, w_iteS, w_lcN, w_lcS, wif_t, wif_f, wo_some, wo_map,
  defn_n, recn_n, List.getElem?_cons_zero, List.getElem?_cons_succ, Option.join_some, List.set_cons_zero, List.set_cons_succ, List.length_cons, List.length_nil, List.length_map, List.map_cons, List.map_nil, List.cons_append, List.nil_append, Nat.reduceAdd, Nat.reduceSub, Nat.zero_add, Option.map_some, Option.isSome_some, wipeE, parSet, Bool.not_true, Bool.not_false, decide_true, decide_false, Nat.reduceLeDiff, lim, Bool.true_eq_false, Bool.false_eq_true, if_true, if_false, true_and, and_true, eq_self, and_self, List.all_cons, List.all_nil, Bool.and_self, Bool.and_true, Bool.true_and, Int.reduceLT, Int.reduceLE, Nat.reduceLT, Int.reduceNeg, Int.reduceAdd, Int.reduceSub, Int.reduceMul, bo_add, bo_sub, bo_mul, bo_fd, bo_mod, bo_pow, ia_add, ia_sub, inD_i, add_i, iadd_i, add_s, iadd_s, add_t, add_r, adC_s, sub_i, isub_i, add_bi, sub_bi, sub_iB, str_b, fm_i, fm_s, mul_i, fd_i, mod_i, pow_i, neg_i, co_eq, co_ne, co_in, co_ni, co_is, co_isn, oi_Lt, os_Lt, oi_LtE, os_LtE, oi_Gt, os_Gt, oi_GtE, os_GtE, is_non_non, is_non_bl, is_non_int, is_non_str, is_non_tup, is_non_ls, is_non_ref, is_bl_non, is_bl_bl, is_bl_int, is_bl_str, is_bl_tup, is_bl_ls, is_bl_ref, trC_l, sqC_l, sqC_d, dcC_l, dcC_d, daC_l, daC_d, srC_l, laC_l, tyC_l, tyC_d, rvC_l, tr_non, tr_bl, tr_int, tr_str, tr_tup, tr_ref, tr_ls, sq_tup, sq_ls, sq_ref, dr_ref, da_ref, sr_tup, sr_ls, sr_str, sr_ref, sl_ls, sl_ref, se_ls, se_tup, se_ref, rv_tup, rv_ref, la_ref, it_non, it_bl, it_int, it_str, it_tup, it_ls, it_ref, ix_tup, ix_ls, ix_str, ix_ref, ixC_l, ixC_d, atN, at0, at1, at2, at3, at4, at5, at6, at7, at8, at9, at10, at11, at12, at13, at14, atm1, atm2, on1_, on2_, len_str, len_tup, len_ls, len_ref, lnC_l, lnC_d, int_i, int_b, int_s, str_i, str_s, bool_i, bool_b, abs_i, max_i, min_i, ofL_s, lst1, tpl1, all_r, any_r, sum_r, sl_str, sl_tup, slo_ref, slo_ls, ty_l, ty_s, ty_d, ty_appM, ty_popM, ty_revM, ty_extM, ty_joinM, ty_splitM, ty_getM, ty_insM, go_app, apC_s, go_ext, exC_s, go_rev, rvM_s, go_get1, go_get2, gtC_s, go_join, jnC_s, go_split, go_ins, inC_s, go_pop, so_ref, stC_d, stC_l, go_dic, goC_d, goC_l, in_str1, in_tup, in_ls, in_ref, ioC_l, ioC_d, kOk_s, kOk_i, kOk_t, k1_s, k1_i, r1, r2, eq_ss, eq_ii, eq_nbl, eq_bln, eq_nint, eq_intn, eq_nstr, eq_strn, eq_nn, eq_is, eq_si, go_some, kit_NoneType_str, kit_NoneType_int, kit_NoneType_bool, kit_NoneType_tuple, kit_NoneType_list, kit_NoneType_dict, kit_bool_str, kit_bool_int, kit_bool_bool, kit_bool_tuple, kit_bool_list, kit_bool_dict, kit_int_str, kit_int_int, kit_int_bool, kit_int_tuple, kit_int_list, kit_int_dict, kit_str_str, kit_str_int, kit_str_bool, kit_str_tuple, kit_str_list, kit_str_dict, kit_tuple_str, kit_tuple_int, kit_tuple_bool, kit_tuple_tuple, kit_tuple_list, kit_tuple_dict, kit_list_str, kit_list_int, kit_list_bool, kit_list_tuple, kit_list_list, kit_list_dict, kit_dict_str, kit_dict_int, kit_dict_bool, kit_dict_tuple, kit_dict_list, kit_dict_dict, rp0, rp1, rp2, rp3, rp4, rp5, rp6, rp7, rp8, rp9, rp10, rp11, rp12, rp13, rp14, rp15, rp16, rp17, rp18, rp19, rp20, rp21, rp22, rp23, rp24, rp25, rp26, rp27, rp28, rp29, rp30])
theorem cs_app (s t : String) : cs (s ++ t) = cs s ++ cs t := by
  unfold cs
  rw [PySem.Str.ofString_eq_toList, PySem.Str.ofString_eq_toList, PySem.Str.ofString_eq_toList]
  simp
/-- an integer's signs -/
def inT (i : Int) : Nm := cs (toString i)
theorem inT_nat (n : Nat) : inT (n : Int) = TL.numL n := TL.tl_num n
theorem inT_neg (m : Nat) : inT (Int.negSucc m) = 45 :: TL.numL (m + 1) := by
  show cs ("-" ++ toString (m + 1)) = _
  rw [cs_app, show cs "-" = [45] by decide +kernel]
  show 45 :: cs (toString (m + 1)) = _
  congr 1
  exact TL.tl_num (m + 1)
theorem inT_split (i : Int) : (∃ n : Nat, i = n ∧ inT i = TL.numL n) ∨ ∃ m : Nat, i = -((m + 1 : Nat) : Int) ∧ inT i = 45 :: TL.numL (m + 1) := by
  cases i with
  | ofNat n => exact .inl ⟨n, rfl, inT_nat n⟩
  | negSucc m => exact .inr ⟨m, by omega, inT_neg m⟩
theorem numL_six {n : Nat} (h : n ≤ 999999) : (TL.numL n).length ≤ 6 := TL.numL_len (by decide) (by omega)
theorem inT_len {i : Int} (h : i.natAbs ≤ 999999) : (inT i).length ≤ 7 := by
  rcases inT_split i with ⟨n, rfl, e⟩ | ⟨m, rfl, e⟩
  · rw [e]
    have := numL_six (n := n) (by omega)
    omega
  · rw [e, List.length_cons]
    have := numL_six (n := m + 1) (by omega)
    omega
theorem inT_sign {i : Int} {c : Nat} (h : c ∈ inT i) : c = 45 ∨ (48 ≤ c ∧ c ≤ 57) := by
  rcases inT_split i with ⟨n, rfl, e⟩ | ⟨m, rfl, e⟩
  · rw [e] at h
    exact .inr (TL.numL_digits n c h)
  · rw [e] at h
    rcases List.mem_cons.mp h with h | h
    · exact .inl h
    · exact .inr (TL.numL_digits _ c h)
theorem int_inT {i : Int} (hl : i.natAbs ≤ 999999) : PySem.intText? ⟨(inT i).toArray⟩ = some i := by
  rcases inT_split i with ⟨n, rfl, e⟩ | ⟨m, rfl, e⟩
  · have l := numL_six (n := n) (by omega)
    rw [e]
    have := PySem.intText_digits (x := ⟨(TL.numL n).toArray⟩) (by simpa using TL.numL_digits n) (by simpa using TL.numL_ne n) (by show (TL.numL n).toArray.size ≤ 4300; simp; omega)
    rw [this]
    simp [TL.numL_val]
  · have l := numL_six (n := m + 1) (by omega)
    rw [e]
    have := PySem.intText_neg (x := ⟨(45 :: TL.numL (m + 1)).toArray⟩) (cs := TL.numL (m + 1)) (by simp) (TL.numL_digits _) (TL.numL_ne _) (by show (45 :: TL.numL (m + 1)).toArray.size ≤ 4300; simp; omega)
    rw [this, TL.numL_val]
theorem lg_small {i : Int} (h : i.natAbs ≤ 999999) : i.natAbs.log2 < 1920 := log_small' (by omega)
where
  log_small' {i : Int} (h : i.natAbs ≤ 2000000000000) : i.natAbs.log2 < 1920 := by
    by_cases z : i.natAbs = 0
    · rw [z]; decide
    · have := (Nat.log2_lt z (k := 41)).mpr (by omega)
      omega
/-- the first sign of a number's digits is 0 only if it is all -/
theorem numL_zero {n : Nat} : ∀ {c : Nat} {r : Nm}, TL.numL n = c :: r → c = 48 → n = 0 := by
  induction n using Nat.strongRecOn with
  | _ n ih =>
    intro c r e h
    by_cases q : n < 10
    · rw [TL.numL_lt q] at e
      obtain ⟨e1, _⟩ := List.cons.inj e
      omega
    · rw [TL.numL_step (by omega)] at e
      cases e2 : TL.numL (n / 10) with
      | nil => exact absurd e2 (TL.numL_ne _)
      | cons d s =>
        rw [e2] at e
        obtain ⟨e1, _⟩ := List.cons.inj e
        have := ih (n / 10) (by omega) e2 (by omega)
        omega
def boT : Option Int → Nm
  | none => [45]
  | some i => inT i
def spT (s : Spn) : Nm := kindOf s.loose ++ cs " " ++ s.name ++ cs " from " ++ s.a ++ cs " to " ++ s.b ++ cs ": " ++ boT s.lo ++ cs " to " ++ boT s.hi
def mkT (m : Nm) : Nm := cs "mark " ++ m
def lnT (p : Pln) : List Nm := p.marks.map mkT ++ p.rows.map spT
def plT (p : Pln) : Nm := ((lnT p).map (· ++ [10])).flatten
/-- bounds over the whole range -/
structure OkW (lo hi : Option Int) : Prop where
  one : lo ≠ none ∨ hi ≠ none
  l : ∀ i, lo = some i → -99999 ≤ i ∧ i ≤ 99999
  u : ∀ j, hi = some j → -99999 ≤ j ∧ j ≤ 99999
  le : ∀ i j, lo = some i → hi = some j → i ≤ j
def BoL (o : Option Int) : Prop := ∀ i, o = some i → i.natAbs ≤ 999999
theorem boT_len {o : Option Int} (h : BoL o) : (boT o).length ≤ 7 := by
  cases o with
  | none => decide
  | some i => exact inT_len (h i rfl)
theorem boundText_ok {o : Option Int} {h : Hs} {Q : D → Hs → Prop} {E : Ex → Hs → Prop} (ho : BoL o) (hq : Q (.str (boT o)) h) : (P03.fn_bound_text.go [enO o] h).wp Q E := by
  unfold P03.fn_bound_text
  rw [w_defn]
  unfold P03.s_bound_text
  cases o with
  | none => rw [enO_n]; wp_walk; exact hq
  | some i => rw [enO_s]; wp_walk using lg_small (ho i rfl); exact hq
theorem lawBoundText_ok {o : Option Int} {h : Hs} {Q : D → Hs → Prop} {E : Ex → Hs → Prop} (ho : BoL o) (hq : Q (.str (boT o)) h) : (P03.fn__law_bound_text.go [enO o] h).wp Q E := by
  unfold P03.fn__law_bound_text
  rw [w_defn]
  unfold P03.s__law_bound_text
  cases o with
  | none => rw [enO_n]; wp_walk; exact hq
  | some i => rw [enO_s]; wp_walk using lg_small (ho i rfl); exact hq
/-- a row that can be written -/
structure RwL (s : Spn) : Prop where
  n : s.name.length ≤ 12
  a : s.a.length ≤ 12
  b : s.b.length ≤ 12
  lo : BoL s.lo
  hi : BoL s.hi
theorem kind_len (l : Bool) : (kindOf l).length ≤ 5 := by cases l <;> decide +kernel
theorem spT_len {s : Spn} (r : RwL s) : (spT s).length ≤ 100 := by
  have h1 := r.n
  have h2 := r.a
  have h3 := r.b
  have h4 := boT_len r.lo
  have h5 := boT_len r.hi
  have h6 := kind_len s.loose
  have e1 : (cs " ").length = 1 := by decide +kernel
  have e2 : (cs " from ").length = 6 := by decide +kernel
  have e3 : (cs " to ").length = 4 := by decide +kernel
  have e4 : (cs ": ").length = 2 := by decide +kernel
  unfold spT
  simp only [List.length_append]
  omega
theorem s3_4 (h : Hs) (s : Spn) : ixOp h (enS s) (.int 4) = .ok (enO s.lo) h := rfl
theorem s3_5 (h : Hs) (s : Spn) : ixOp h (enS s) (.int 5) = .ok (enO s.hi) h := rfl
theorem spanLine_ok {s : Spn} {h : Hs} {Q : D → Hs → Prop} {E : Ex → Hs → Prop} (r : RwL s) (hq : Q (.str (spT s)) h) : (P03.fn_span_line.go [enS s] h).wp Q E := by
  have h1 := r.n
  have h2 := r.a
  have h3 := r.b
  have h4 := boT_len r.lo
  have h5 := boT_len r.hi
  have h6 := kind_len s.loose
  have e1 : (cs " ").length = 1 := by decide +kernel
  have e2 : (cs " from ").length = 6 := by decide +kernel
  have e3 : (cs " to ").length = 4 := by decide +kernel
  have e4 : (cs ": ").length = 2 := by decide +kernel
  unfold P03.fn_span_line
  rw [w_defn]
  unfold P03.s_span_line
  have bt := @boundText_ok
  have n1 : 1 = P03.fn_bound_text.n := rfl
  generalize P03.fn_bound_text = BT at *
  unfold spT at hq
  unfold enS
  wp_walk
  rw [w_seqF]
  wp_walk
  simp only [List.length_append, List.length_nil, Nat.zero_add]
  refine ⟨by omega, by omega, by omega, by omega, by omega, by omega, by omega, by omega, n1, bt r.lo ?_⟩
  wp_walk
  simp only [List.length_append, List.length_nil, Nat.zero_add]
  refine ⟨by omega, by omega, n1, bt r.hi ?_⟩
  wp_walk
  simp only [List.length_append, List.length_nil, Nat.zero_add]
  refine ⟨by omega, ?_⟩
  simpa only [List.nil_append] using hq
theorem lawSpanText_ok {s : Spn} {h : Hs} {Q : D → Hs → Prop} {E : Ex → Hs → Prop} (r : RwL s) (hq : Q (.str (spT s)) h) : (P03.fn__law_span_text.go [enS s] h).wp Q E := by
  have h1 := r.n
  have h2 := r.a
  have h3 := r.b
  have h4 := boT_len r.lo
  have h5 := boT_len r.hi
  have h6 := kind_len s.loose
  have e1 : (cs " ").length = 1 := by decide +kernel
  have e2 : (cs " from ").length = 6 := by decide +kernel
  have e3 : (cs " to ").length = 4 := by decide +kernel
  have e4 : (cs ": ").length = 2 := by decide +kernel
  unfold P03.fn__law_span_text
  rw [w_defn]
  unfold P03.s__law_span_text
  have bt := @lawBoundText_ok
  have n1 : 1 = P03.fn__law_bound_text.n := rfl
  generalize P03.fn__law_bound_text = BT at *
  unfold spT at hq
  wp_walk using s5_0, s5_1, s5_2, s5_3
  simp only [List.length_append]
  refine ⟨by omega, by omega, by omega, by omega, by omega, by omega, by omega, ?_⟩
  wp_walk using s3_4
  refine ⟨n1, bt r.lo ?_⟩
  wp_walk
  simp only [List.length_append]
  refine ⟨by omega, by omega, ?_⟩
  wp_walk using s3_5
  refine ⟨n1, bt r.hi ?_⟩
  wp_walk
  simp only [List.length_append]
  refine ⟨by omega, ?_⟩
  exact hq
open PySem PySem.Spec PyProof.Rows L2
theorem cs_nl : cs "\n" = [10] := by decide +kernel
theorem cs_e : cs "" = [] := by decide +kernel
theorem sum_len {ys : List Nm} {K : Nat} (h : ∀ y ∈ ys, y.length ≤ K) : (ys.map (·.length)).sum ≤ ys.length * K := by
  induction ys with
  | nil => simp
  | cons y ys ih =>
    rw [List.map_cons, List.sum_cons, List.length_cons, Nat.succ_mul]
    have := h y List.mem_cons_self
    have := ih fun z m => h z (List.mem_cons_of_mem _ m)
    omega
theorem join0 : ∀ ys : List Nm, TL.joinL [] ys = ys.flatten
  | [] => rfl
  | [x] => by simp [TL.joinL]
  | x :: y :: r => by
    show x ++ ([] ++ TL.joinL [] (y :: r)) = _
    rw [join0 (y :: r)]; rfl
theorem gBc3 (h' : Hs) (xs : List D) : (h' ++ [Cell.lst xs])[h'.length]? = some (.lst xs) := get_new1
/-- a plan that can be written -/
structure PlL (p : Pln) : Prop where
  mf : p.marks.length ≤ 30
  rf : p.rows.length ≤ 60
  nm : ∀ m ∈ p.marks, m.length ≤ 12
  rw : ∀ s ∈ p.rows, RwL s
theorem mkT_len {m : Nm} (h : m.length ≤ 12) : (mkT m).length ≤ 20 := by
  unfold mkT
  have : (cs "mark ").length = 5 := by decide +kernel
  rw [List.length_append]; omega
theorem ln_len {p : Pln} (P : PlL p) : ∀ l ∈ lnT p, l.length ≤ 100 := fun l hl => by
  rcases List.mem_append.mp hl with m | m
  · obtain ⟨x, hx, rfl⟩ := List.mem_map.mp m
    have := mkT_len (P.nm x hx)
    omega
  · obtain ⟨s, hs, rfl⟩ := List.mem_map.mp m
    exact spT_len (P.rw s hs)
theorem ln_many {p : Pln} (P : PlL p) : (lnT p).length ≤ 90 := by
  unfold lnT
  rw [List.length_append, List.length_map, List.length_map]
  have := P.mf
  have := P.rf
  omega
theorem pl_len {p : Pln} (P : PlL p) : (((lnT p).map (· ++ [10])).map (·.length)).sum ≤ 9090 := by
  have h := sum_len (ys := (lnT p).map (· ++ [10])) (K := 101) fun y hy => by
    obtain ⟨l, hl, rfl⟩ := List.mem_map.mp hy
    have := ln_len P l hl
    rw [List.length_append, List.length_singleton]; omega
  rw [List.length_map] at h
  have := ln_many P
  refine Nat.le_trans h ?_
  omega
theorem flat_len : ∀ ys : List Nm, ys.flatten.length = (ys.map (·.length)).sum
  | [] => rfl
  | y :: ys => by rw [List.flatten_cons, List.length_append, flat_len ys, List.map_cons, List.sum_cons]
theorem plT_len {p : Pln} (P : PlL p) : (plT p).length ≤ 9090 := by
  unfold plT
  rw [flat_len]
  exact pl_len P
theorem ixM1' (h : Hs) (p : Pln) : ixOp h (enP p) (.int 1) = .ok (.tup (p.marks.map .str)) h := rfl
theorem ixM2' (h : Hs) (p : Pln) : ixOp h (enP p) (.int 2) = .ok (.tup (p.rows.map enS)) h := rfl
theorem writePlan_ok {p : Pln} {h : Hs} {Q : D → Hs → Prop} {E : Ex → Hs → Prop} (P : PlL p) (hq : ∀ h', Fr [] h h' → Q (.str (plT p)) h') : (P03.fn_write_plan.go [enP p] h).wp Q E := by
  have mf := P.mf
  have rf := P.rf
  unfold P03.fn_write_plan
  rw [w_defn]
  unfold P03.s_write_plan
  rw [cs_nl]
  try rw [w_seqF]
  wp_walk
  refine w_lcM p.marks .str (fun m => .str (mkT m ++ [10])) (fun _ => True) (fun h' => h' = h) ?_ (fun _ _ => trivial) (by omega) ?_ ?_
  · wp_walk using ixM1'
    exact t_seq _ _
  · rintro i m h' hm rfl
    have := mkT_len (P.nm m (List.mem_of_getElem? hm))
    have e : (cs "mark ").length = 5 := by decide +kernel
    have := P.nm m (List.mem_of_getElem? hm)
    wp_walk
    simp only [List.length_append, List.length_nil, Nat.zero_add, List.nil_append]
    exact ⟨by omega, by omega, by omega, rfl⟩
  rintro h1 rfl
  have g1 := gBc3 h1 (p.marks.map fun m => D.str (mkT m ++ [10]))
  have F1 : Fr [] h1 (h1 ++ [Cell.lst (p.marks.map fun m => D.str (mkT m ++ [10]))]) := .app
  generalize h1 ++ [Cell.lst (p.marks.map fun m => D.str (mkT m ++ [10]))] = h2 at *
  generalize h1.length = ln at *
  wp_walk using g1
  have sok := @spanLine_ok
  have n1 : 1 = P03.fn_span_line.n := rfl
  generalize P03.fn_span_line = SL at *
  refine w_lcM p.rows enS (fun s => .str (spT s ++ [10])) (fun _ => True) (fun h' => h' = h2) ?_ (fun _ _ => trivial) (by omega) ?_ ?_
  · wp_walk using ixM2'
    exact t_seq _ _
  · rintro i s h' hs rfl
    have r := P.rw s (List.mem_of_getElem? hs)
    have := spT_len r
    wp_walk
    refine ⟨n1, sok r ?_⟩
    wp_walk
    exact ⟨by omega, by omega⟩
  rintro h3 rfl
  have g3 := gBc3 h3 (p.rows.map fun s => D.str (spT s ++ [10]))
  have g1 := get_old (g := [Cell.lst (p.rows.map fun s => D.str (spT s ++ [10]))]) g1
  have F3 : Fr [] h1 (h3 ++ [Cell.lst (p.rows.map fun s => D.str (spT s ++ [10]))]) := F1.push
  generalize h3 ++ [Cell.lst (p.rows.map fun s => D.str (spT s ++ [10]))] = h4 at *
  wp_walk using g3
  have eL : (p.marks.map fun m => D.str (mkT m ++ [10])) ++ ((p.rows.map fun s => D.str (spT s ++ [10])) ++ []) = ((lnT p).map (· ++ [10])).map D.str := by
    unfold lnT
    rw [List.append_nil, List.map_append, List.map_append, List.map_map, List.map_map, List.map_map, List.map_map]
    rfl
  rw [eL]
  have lk := ln_many P
  have ps := pl_len P
  have g5 := gBc3 h4 (((lnT p).map (· ++ [10])).map D.str)
  refine ⟨by rw [List.length_map, List.length_map]; omega, ?_⟩
  wp_walk using go_join, g5, strsD_map, jnC_s, cs_e
  refine ⟨by rw [Nat.mul_zero, Nat.add_zero]; exact Nat.le_trans ps (by decide), ?_⟩
  rw [join0]
  exact hq _ F3.push
theorem lawPlanText_ok {p : Pln} {h : Hs} {Q : D → Hs → Prop} {E : Ex → Hs → Prop} (P : PlL p) (hq : ∀ h', Fr [] h h' → Q (.str (plT p)) h') : (P03.fn__law_plan_text.go [enP p] h).wp Q E := by
  have mf := P.mf
  have rf := P.rf
  unfold P03.fn__law_plan_text
  rw [w_defn]
  unfold P03.s__law_plan_text
  rw [cs_nl]
  try rw [w_seqF]
  wp_walk
  refine w_lcM p.marks .str (fun m => .str (mkT m)) (fun _ => True) (fun h' => h' = h) ?_ (fun _ _ => trivial) (by omega) ?_ ?_
  · wp_walk using ixM1'
    exact t_seq _ _
  · rintro i m h' hm rfl
    have := mkT_len (P.nm m (List.mem_of_getElem? hm))
    have e : (cs "mark ").length = 5 := by decide +kernel
    have := P.nm m (List.mem_of_getElem? hm)
    wp_walk
    exact ⟨by omega, rfl⟩
  rintro h1 rfl
  have g1 := gBc3 h1 (p.marks.map fun m => D.str (mkT m))
  have F1 : Fr [] h1 (h1 ++ [Cell.lst (p.marks.map fun m => D.str (mkT m))]) := .app
  generalize h1 ++ [Cell.lst (p.marks.map fun m => D.str (mkT m))] = h2 at *
  generalize h1.length = ln at *
  wp_walk
  have sok := @lawSpanText_ok
  have n1 : 1 = P03.fn__law_span_text.n := rfl
  generalize P03.fn__law_span_text = SL at *
  refine w_lcM p.rows enS (fun s => .str (spT s)) (fun _ => True) (fun h' => h' = h2) ?_ (fun _ _ => trivial) (by omega) ?_ ?_
  · wp_walk using ixM2'
    exact t_seq _ _
  · rintro i s h' hs rfl
    wp_walk
    exact ⟨n1, sok (P.rw s (List.mem_of_getElem? hs)) ⟨rfl, rfl⟩⟩
  rintro h3 rfl
  have g3 := gBc3 h3 (p.rows.map fun s => D.str (spT s))
  have g1 := get_old (g := [Cell.lst (p.rows.map fun s => D.str (spT s))]) g1
  have F3 : Fr [] h1 (h3 ++ [Cell.lst (p.rows.map fun s => D.str (spT s))]) := F1.push
  generalize h3 ++ [Cell.lst (p.rows.map fun s => D.str (spT s))] = h4 at *
  generalize h3.length = sn at *
  wp_walk using g1, g3
  have eL : (p.marks.map fun m => D.str (mkT m)) ++ (p.rows.map fun s => D.str (spT s)) = (lnT p).map D.str := by
    unfold lnT
    rw [List.map_append, List.map_map, List.map_map]
    rfl
  rw [eL]
  have lk := ln_many P
  have ps := pl_len P
  refine ⟨by omega, ?_⟩
  have g5 := gBc3 h4 ((lnT p).map D.str)
  have F5 : Fr [] h1 (h4 ++ [Cell.lst ((lnT p).map D.str)]) := F3.push
  generalize h4 ++ [Cell.lst ((lnT p).map D.str)] = h5 at *
  generalize h4.length = l5 at *
  try rw [w_seqF]
  wp_walk
  refine w_lcM (lnT p) .str (fun l => .str (l ++ [10])) (fun h' => h' = h5) (fun h' => h' = h5) ?_ (fun _ q => q) (by omega) ?_ ?_
  · wp_walk using g5
    exact fun i h' e => by rw [e]; exact t_cel _ _ i h5 g5
  · rintro i l h' hl rfl
    have := ln_len P l (List.mem_of_getElem? hl)
    wp_walk
    omega
  rintro h6 rfl
  have g7 : (h6 ++ [Cell.lst ((lnT p).map fun l => D.str (l ++ [10]))])[h6.length]? = some (.lst (((lnT p).map (· ++ [10])).map D.str)) := by rw [List.map_map]; exact gBc3 _ _
  have F7 : Fr [] h1 (h6 ++ [Cell.lst ((lnT p).map fun l => D.str (l ++ [10]))]) := F5.push
  generalize h6 ++ [Cell.lst ((lnT p).map fun l => D.str (l ++ [10]))] = h7 at *
  wp_walk using go_join, g7, strsD_map, jnC_s, cs_e
  refine ⟨by rw [Nat.mul_zero, Nat.add_zero]; exact Nat.le_trans ps (by decide), ?_⟩
  rw [join0]
  exact hq _ F7
open PySem PySem.Spec PyProof.Rows L2
theorem cut_last {α : Type} (xs : List α) (y : α) : cutD (xs ++ [y]) none (some (-1)) = xs := by
  unfold cutD
  rw [HT.sIx_none]
  have e : HT.sIx (xs ++ [y]).length (xs ++ [y]).length (some (-1)) = xs.length := by
    show (if (-1 : Int) < 0 then ((-1 : Int) + ((xs ++ [y]).length : Int)).toNat else min (-1 : Int).toNat (xs ++ [y]).length) = _
    rw [if_pos (by decide), List.length_append, List.length_singleton]
    omega
  rw [e, List.drop_zero, Nat.sub_zero, List.take_left]
theorem nl_join : ∀ ls : List Nm, (ls.map (· ++ [10])).flatten = TL.joinL [10] (ls ++ [[]])
  | [] => rfl
  | [l] => by simp [TL.joinL]
  | l :: k :: r => by
    rw [List.map_cons, List.flatten_cons, nl_join (k :: r)]
    show l ++ [10] ++ _ = l ++ ([10] ++ _)
    rw [List.append_assoc]
    rfl
/-- a text that is read: no line feed in a line, no blank in a word -/
structure P3 (p : Pln) : Prop where
  mo : ∀ m ∈ p.marks, OkN m ∧ m ≠ zro
  asc : p.marks.Pairwise (· < ·)
  mf : p.marks.length ≤ 30
  sn : ∀ s ∈ p.rows, OkN s.name ∧ s.name ≠ zro
  ab : ∀ s ∈ p.rows, s.a ∈ zro :: p.marks ∧ s.b ∈ zro :: p.marks ∧ s.a ≠ s.b
  bd : ∀ s ∈ p.rows, OkW s.lo s.hi
  ls : ∀ s ∈ p.rows, s.loose = true → s.b ≠ zro ∧ ∃ i j, s.lo = some i ∧ s.hi = some j ∧ 1 ≤ i ∧ i ≤ j ∧ j ≤ 99999
  nd : (p.rows.map Spn.name).Nodup
  le : ((p.rows.filter Spn.loose).map Spn.b).Nodup
  rf : p.rows.length ≤ 60
  lf : (p.rows.filter Spn.loose).length ≤ 8
  rk : ∃ r : Nm → Nat, ∀ s ∈ p.rows, s.loose = true → r s.a < r s.b
theorem zro_ok : OkN zro := ⟨by decide +kernel, ⟨122, [101, 114, 111], by decide +kernel, by decide, by decide⟩, by decide +kernel⟩
theorem P3.end_ok {p : Pln} (P : P3 p) {x : Nm} (h : x ∈ zro :: p.marks) : OkN x := by
  rcases List.mem_cons.mp h with rfl | h
  · exact zro_ok
  · exact (P.mo x h).1
theorem OkW.bo {lo hi : Option Int} (o : OkW lo hi) : BoL lo ∧ BoL hi := ⟨fun i e => by have := o.l i e; omega, fun i e => by have := o.u i e; omega⟩
theorem P3.row {p : Pln} (P : P3 p) {s : Spn} (h : s ∈ p.rows) : RwL s := ⟨(P.sn s h).1.l, (P.end_ok (P.ab s h).1).l, (P.end_ok (P.ab s h).2.1).l, (P.bd s h).bo.1, (P.bd s h).bo.2⟩
theorem P3.pl {p : Pln} (P : P3 p) : PlL p := ⟨P.mf, P.rf, fun m hm => (P.mo m hm).1.l, fun s hs => P.row hs⟩
theorem OkN.free {x : Nm} (o : OkN x) {c : Nat} (h : c < 48) : c ∉ x := fun m => by
  rcases o.a c m with ⟨a, b⟩ | ⟨a, b⟩ <;> omega
theorem boT_free {o : Option Int} {c : Nat} (h : c < 45) : c ∉ boT o := fun m => by
  cases o with
  | none =>
    have : c = 45 := by simpa [boT] using m
    omega
  | some i => rcases inT_sign m with e | ⟨a, b⟩ <;> omega
theorem mk_eq : cs "mark " = cs "mark" ++ [32] := by decide +kernel
theorem mk_words (m : Nm) : mkT m = TL.joinL [32] [cs "mark", m] := by
  unfold mkT
  rw [mk_eq]
  simp [TL.joinL]
def w9 (s : Spn) : List Nm := [kindOf s.loose, s.name, cs "from", s.a, cs "to", s.b ++ [58], boT s.lo, cs "to", boT s.hi]
theorem sp_words (s : Spn) : spT s = TL.joinL [32] (w9 s) := by
  unfold spT w9
  rw [show cs " " = [32] by decide +kernel, show cs " from " = [32] ++ cs "from" ++ [32] by decide +kernel, show cs " to " = [32] ++ cs "to" ++ [32] by decide +kernel, show cs ": " = [58, 32] by decide +kernel]
  simp [TL.joinL]
theorem kind_free (l : Bool) {c : Nat} (h : c < 97) : c ∉ kindOf l := by
  have : ∀ l : Bool, ∀ d ∈ kindOf l, 97 ≤ d := by decide +kernel
  exact fun m => by have := this l c m; omega
theorem from_free {c : Nat} (h : c < 97) : c ∉ cs "from" := fun m => by
  have : ∀ d ∈ cs "from", 97 ≤ d := by decide +kernel
  have := this c m; omega
theorem to_free {c : Nat} (h : c < 97) : c ∉ cs "to" := fun m => by
  have : ∀ d ∈ cs "to", 97 ≤ d := by decide +kernel
  have := this c m; omega
theorem mark_free {c : Nat} (h : c < 97) : c ∉ cs "mark" := fun m => by
  have : ∀ d ∈ cs "mark", 97 ≤ d := by decide +kernel
  have := this c m; omega
theorem w9_free {p : Pln} (P : P3 p) {s : Spn} (hs : s ∈ p.rows) {c : Nat} (h : c < 45) : ∀ w ∈ w9 s, c ∉ w := fun w hw => by
  unfold w9 at hw
  simp only [List.mem_cons, List.not_mem_nil, or_false] at hw
  rcases hw with rfl | rfl | rfl | rfl | rfl | rfl | rfl | rfl | rfl
  · exact kind_free _ (by omega)
  · exact (P.sn s hs).1.free (by omega)
  · exact from_free (by omega)
  · exact (P.end_ok (P.ab s hs).1).free (by omega)
  · exact to_free (by omega)
  · intro m
    rcases List.mem_append.mp m with m | m
    · exact (P.end_ok (P.ab s hs).2.1).free (by omega) m
    · rw [List.mem_singleton.mp m] at h; omega
  · exact boT_free h
  · exact to_free (by omega)
  · exact boT_free h
theorem join_free {c d : Nat} (h : c ≠ d) : ∀ {ws : List Nm}, (∀ w ∈ ws, c ∉ w) → c ∉ TL.joinL [d] ws
  | [], _ => fun m => nomatch m
  | [w], hw => hw w List.mem_cons_self
  | w :: v :: r, hw => fun m => by
    have m : c ∈ w ++ ([d] ++ TL.joinL [d] (v :: r)) := m
    rcases List.mem_append.mp m with m | m
    · exact hw w List.mem_cons_self m
    · rcases List.mem_append.mp m with m | m
      · exact h (List.mem_singleton.mp m)
      · exact join_free h (fun z hz => hw z (List.mem_cons_of_mem _ hz)) m
theorem ln_free {p : Pln} (P : P3 p) : ∀ l ∈ lnT p, 10 ∉ l := fun l hl => by
  rcases List.mem_append.mp hl with m | m
  · obtain ⟨x, hx, rfl⟩ := List.mem_map.mp m
    rw [mk_words]
    refine join_free (by decide) fun w hw => ?_
    simp only [List.mem_cons, List.not_mem_nil, or_false] at hw
    rcases hw with rfl | rfl
    · exact mark_free (by omega)
    · exact (P.mo _ hx).1.free (by omega)
  · obtain ⟨s, hs, rfl⟩ := List.mem_map.mp m
    rw [sp_words]
    exact join_free (by decide) (w9_free P hs (by omega))
theorem pl_split {p : Pln} (P : P3 p) : TL.spl [10] 0 [] (plT p) = lnT p ++ [[]] := by
  unfold plT
  rw [nl_join]
  refine TL.spl_join (by simp) fun l hl => ?_
  rcases List.mem_append.mp hl with m | m
  · exact ln_free P l m
  · rw [List.mem_singleton.mp m]; exact fun z => nomatch z
theorem linesOf_ok {p : Pln} {T : Nm} {h : Hs} {Q : D → Hs → Prop} {E : Ex → Hs → Prop} (P : P3 p) (hT : plT p = T) (hq : ∀ n h', h'[n]? = some (.lst ((lnT p).map .str)) → Fr [] h h' → Q (.tup [.ref n, .bl true]) h') : (P03.fn_lines_of.go [.str T] h).wp Q E := by
  have lT := plT_len P.pl
  have sT := pl_split P
  rw [hT] at lT sT
  unfold P03.fn_lines_of
  rw [w_defn]
  unfold P03.s_lines_of
  rw [cs_nl, cs_e]
  try rw [w_seqF]
  wp_walk using sT
  refine ⟨⟨by omega, by decide⟩, ?_⟩
  have g1 := gBc3 h ((lnT p ++ [[]]).map D.str)
  have F1 : Fr [] h (h ++ [Cell.lst ((lnT p ++ [[]]).map D.str)]) := .app
  generalize h ++ [Cell.lst ((lnT p ++ [[]]).map D.str)] = h1 at *
  generalize h.length = n1 at *
  have a1 : atI ((lnT p ++ [[]]).map D.str) (-1) = some (.str []) := by
    rw [atm1, if_neg (by simp), List.getElem?_map, List.length_map, List.length_append, List.length_singleton]
    show ((lnT p ++ [[]])[(lnT p).length + 1 - 1]?).map D.str = _
    rw [Nat.add_sub_cancel, List.getElem?_append_right (Nat.le_refl _)]
    simp
  try rw [w_seqF]
  wp_walk using g1, a1
  have ec : cutD ((lnT p ++ [[]]).map D.str) none (some (-1)) = (lnT p).map D.str := by
    rw [List.map_append]
    exact cut_last _ _
  have ns : D.str [] = D.str ([] : List Nat) := rfl
  wp_walk using g1, ofL_s, ec
  exact hq _ _ (gBc3 _ _) F1.push
theorem cut_1 (x : Nm) : cutD x none (some 1) = x.take 1 := cut_to x 1
theorem wholeOf_ok {o : Option Int} {h : Hs} {Q : D → Hs → Prop} {E : Ex → Hs → Prop} (ho : BoL o) (hq : ∀ h', Fr [] h h' → Q (enO o) h') : (P03.fn_whole_of.go [.str (boT o)] h).wp Q E := by
  unfold P03.fn_whole_of
  rw [w_defn]
  unfold P03.s_whole_of
  rw [cs_dgts, show cs "-" = [45] by decide +kernel, show cs "0" = [48] by decide +kernel]
  cases o with
  | none =>
    try rw [w_seqF]
    have c1 : cutD ([45] : Nm) none (some 1) = [45] := by decide
    have c2 : cutD ([45] : Nm) (some 1) none = [] := by decide
    have hq := hq h .refl
    unfold boT
    wp_walk using c1, c2
    try rw [w_seqF]
    have d1 : decide ((1 : Int) ≤ (([] : Nm).length : Int)) = false := by decide
    wp_walk using d1
    exact hq
  | some i =>
    have hl := ho i rfl
    have hb : boT (some i) = inT i := rfl
    rw [hb]
    -- the digits
    obtain ⟨ds, hd, e1, e2, e3⟩ : ∃ ds : Nm, NumText.AllDigits ds ∧ (ds ≠ [] ∧ ds.length ≤ 6) ∧ ((inT i = ds ∧ ∃ c r, ds = c :: r) ∨ inT i = 45 :: ds) ∧ (∀ c r, ds = c :: r → c = 48 → inT i = [48]) := by
      rcases inT_split i with ⟨n, rfl, e⟩ | ⟨m, rfl, e⟩
      · refine ⟨TL.numL n, TL.numL_digits n, ⟨TL.numL_ne n, numL_six (by omega)⟩, .inl ⟨e, ?_⟩, fun c r z q => ?_⟩
        · cases z : TL.numL n with
          | nil => exact absurd z (TL.numL_ne n)
          | cons c r => exact ⟨c, r, rfl⟩
        · have := numL_zero z q
          subst this
          rw [e]
          decide +kernel
      · refine ⟨TL.numL (m + 1), TL.numL_digits _, ⟨TL.numL_ne _, numL_six (by omega)⟩, .inr e, fun c r z q => ?_⟩
        have := numL_zero z q
        omega
    have iT := int_inT hl
    have tl := inT_len hl
    have go : ∀ (h : Hs), Fr [] h h → (∀ h', Fr [] h h' → Q (.int i) h') → ((seqF (ifF (orE (notE (chE (kE (.int 1)) (cE (aCons (vE 1) aNil) (on1 len1)) (kE (.int 12)) .LtE .LtE)) (notE (cE (aCons (lcE (vS (vE 1)) (.nm 2) none (bE (vE 2) (kE (.str dgts)) (cmpR .In)) [2]) aNil) (on1 all1)))) (retF (kE .non)) (nextF)) (
        seqF (ifF (andE (bE (bE (vE 1) (kE (.int 0)) ixOp) (kE (.str [48])) (cmpR .Eq)) (bE (vE 0) (kE (.str [48])) (cmpR .NotEq))) (retF (kE .non)) (nextF)) (
        retF (cE (aCons (vE 0) aNil) (on1 int1))))) [some (.str (inT i)), some (.str ds), none] h).wp ⟨fun _ h => Q .non h, fun _ _ => False, fun _ _ => False, Q, fun e _ h => E e h⟩ := fun h _ hq => by
      have d1 : decide ((1 : Int) ≤ (ds.length : Int)) = true := decide_eq_true (by have := List.length_pos_iff.mpr e1.1; omega)
      have d2 : decide ((ds.length : Int) ≤ 12) = true := decide_eq_true (by omega)
      try rw [w_seqF]
      wp_walk using d1, d2
      refine w_lcM ds (fun c => .str [c]) (fun _ => .bl true) (fun _ => True) (fun h' => h' = h) ?_ (fun _ _ => trivial) (by omega) ?_ ?_
      · wp_walk
        exact t_seq _ _
      · rintro j c h' hc rfl
        have := hd c (List.mem_of_getElem? hc)
        wp_walk using in_dgts this.1 this.2
      rintro h1 rfl
      wp_walk using gBc3, blsD_fn, all_f, all_1 (g := fun _ : Nat => true) (fun _ _ => rfl)
      have F1 : Fr [] h1 (h1 ++ [Cell.lst (ds.map fun _ => D.bl true)]) := .app
      generalize h1 ++ [Cell.lst (ds.map fun _ => D.bl true)] = h2 at *
      try rw [w_seqF]
      obtain ⟨c, r, ed⟩ : ∃ c r, ds = c :: r := by cases ds with | nil => exact absurd rfl e1.1 | cons c r => exact ⟨c, r, rfl⟩
      have x0 : ds[0]? = some c := by rw [ed]; rfl
      have fin : ∀ h, Fr [] h1 h → ((retF (cE (aCons (vE 0) aNil) (on1 int1))) [some (.str (inT i)), some (.str ds), none] h).wp ⟨fun _ h => Q .non h, fun _ _ => False, fun _ _ => False, Q, fun e _ h => E e h⟩ := fun h F => by
        wp_walk using iT
        exact ⟨by omega, hq h F⟩
      wp_walk using x0
      by_cases q : c = 48
      · have e0 := e3 c r ed q
        have dq : decide ([c] = [48]) = true := decide_eq_true (by rw [q])
        have d0 : decide (inT i = [48]) = true := decide_eq_true e0
        wp_walk using dq, d0
        exact ⟨by omega, by rw [iT]; exact hq h2 F1⟩
      · have dq : decide ([c] = [48]) = false := decide_eq_false fun z => q (List.cons.inj z).1
        wp_walk using dq
        exact ⟨by omega, by rw [iT]; exact hq h2 F1⟩
    rcases e2 with ⟨e, c, r, er⟩ | e
    · have c1 : cutD (inT i) none (some 1) = [c] := by rw [cut_1, e, er]; rfl
      have dc : decide ([c] = [45]) = false := decide_eq_false fun z => by
        have := hd c (by rw [er]; exact List.mem_cons_self)
        have := (List.cons.inj z).1
        omega
      have g := go h .refl hq
      refine w_cut (fun env h' => env = [some (.str (inT i)), some (.str ds), none] ∧ h' = h) ?_ ?_
      · wp_walk using c1, dc
        rw [e]
      · rintro _ _ ⟨rfl, rfl⟩
        exact g
    · have c1 : cutD (inT i) none (some 1) = [45] := by rw [cut_1, e]; rfl
      have c2 : cutD (inT i) (some 1) none = ds := by rw [cut1, e]; rfl
      have dc : decide (([45] : Nm) = [45]) = true := by decide
      have g := go h .refl hq
      refine w_cut (fun env h' => env = [some (.str (inT i)), some (.str ds), none] ∧ h' = h) ?_ ?_
      · wp_walk using c1, c2, dc
      · rintro _ _ ⟨rfl, rfl⟩
        exact g
open PySem PySem.Spec PyProof.Rows L2
theorem areBoundsW {lo hi : Option Int} {h : Hs} {Q : D → Hs → Prop} {E : Ex → Hs → Prop} (o : OkW lo hi) (hq : ∀ h', Fr [] h h' → Q (.bl true) h') : (P05.fn_are_bounds.go [enO lo, enO hi] h).wp Q E := by
  unfold P05.fn_are_bounds
  rw [w_defn]
  unfold P05.s_are_bounds
  cases lo with
  | none =>
    cases hi with
    | none => rcases o.one with z | z <;> exact absurd rfl z
    | some j =>
      have := o.u j rfl
      rw [enO_n, enO_s]
      wp_walk
      rw [w_seqF]
      wp_walk
      rw [w_seqF]
      wp_walk
      rw [w_seqF]
      wp_walk
      refine ⟨rfl, isBound_ok (by omega) (by omega) fun h1 F1 => ?_⟩
      wp_walk
      exact hq _ F1
  | some i =>
    have := o.l i rfl
    cases hi with
    | none =>
      rw [enO_n, enO_s]
      wp_walk
      rw [w_seqF]
      wp_walk
      rw [w_seqF]
      wp_walk
      refine ⟨rfl, isBound_ok (by omega) (by omega) fun h1 F1 => ?_⟩
      wp_walk
      rw [w_seqF]
      wp_walk
      exact hq _ F1
    | some j =>
      have := o.u j rfl
      have d := decide_eq_true (o.le i j rfl rfl)
      rw [enO_s, enO_s]
      wp_walk
      rw [w_seqF]
      wp_walk
      rw [w_seqF]
      wp_walk
      refine ⟨rfl, isBound_ok (by omega) (by omega) fun h1 F1 => ?_⟩
      wp_walk
      rw [w_seqF]
      wp_walk
      refine ⟨rfl, isBound_ok (by omega) (by omega) fun h2 F2 => ?_⟩
      wp_walk using d
      exact hq _ (F1.trans F2)
theorem isSpanW {p : Pln} {s : Spn} {h : Hs} {Q : D → Hs → Prop} {E : Ex → Hs → Prop} (P : P3 p) (hs : s ∈ p.rows) (hq : ∀ h', Fr [] h h' → Q (.bl true) h') : (P05.fn_is_span.go [enS s] h).wp Q E := by
  have ab := P.ab s hs
  unfold P05.fn_is_span
  rw [w_defn]
  unfold P05.s_is_span enS
  wp_walk
  rw [w_seqF]
  wp_walk using show decide (((6 : Nat) : Int) = 6) = true from rfl
  refine ⟨rfl, ownName_ok (P.sn s hs).1 (P.sn s hs).2 fun h1 F1 => ?_⟩
  wp_walk
  refine ⟨rfl, isName_ok (P.end_ok ab.1) fun h2 F2 => ?_⟩
  wp_walk
  refine ⟨rfl, isName_ok (P.end_ok ab.2.1) fun h3 F3 => ?_⟩
  have ne : decide (s.a = s.b) = false := decide_eq_false ab.2.2
  wp_walk using ne
  cases el : s.loose with
  | true =>
    obtain ⟨bz, i, j, e1, e2, q1, q2, q3⟩ := P.ls s hs el
    have nb : decide (s.b = cs "zero") = false := decide_eq_false bz
    rw [e1, e2, enO_s, enO_s, show decide (kindOf true = cs "loose") = true by decide +kernel]
    wp_walk using nb
    refine ⟨rfl, areDurations_ok q1 q2 q3 fun h4 F4 => ?_⟩
    exact hq _ (((F1.trans F2).trans F3).trans F4)
  | false =>
    rw [show decide (kindOf false = cs "loose") = false by decide +kernel]
    wp_walk using show decide (kindOf false = cs "span") = true by decide +kernel
    refine ⟨rfl, areBoundsW (P.bd s hs) fun h4 F4 => ?_⟩
    exact hq _ (((F1.trans F2).trans F3).trans F4)
theorem cs_sp : cs " " = [32] := by decide +kernel
theorem n92 : decide (((9 : Nat) : Int) = 2) = false := rfl
theorem n99 : decide (((9 : Nat) : Int) = 9) = true := rfl
theorem readMark_ok {p : Pln} {m L : Nm} {h : Hs} {Q : D → Hs → Prop} {E : Ex → Hs → Prop} (P : P3 p) (hm : m ∈ p.marks) (hL : mkT m = L) (hq : ∀ h', Fr [] h h' → Q (.tup [.str (cs "mark"), .str m]) h') : (P03.fn_read_line.go [.str L] h).wp Q E := by
  have om := P.mo m hm
  have ll := mkT_len om.1.l
  have sw : TL.spl [32] 0 [] (mkT m) = [cs "mark", m] := by
    rw [mk_words]
    refine TL.spl_join (by simp) fun w hw => ?_
    simp only [List.mem_cons, List.not_mem_nil, or_false] at hw
    rcases hw with rfl | rfl
    · exact mark_free (by omega)
    · exact om.1.free (by omega)
  rw [hL] at ll sw
  unfold P03.fn_read_line
  rw [w_defn]
  unfold P03.s_read_line
  rw [cs_sp]
  refine w_cut (fun env h' => ∃ n, env = [some (.str L), some (.ref n), none] ∧ h'[n]? = some (.lst [.str (cs "mark"), .str m]) ∧ Fr [] h h') ?_ ?_
  · wp_walk using sw
    exact ⟨⟨by omega, by decide⟩, _, rfl, gBc3 _ _, .app⟩
  rintro _ h1 ⟨n, rfl, g, F⟩
  try rw [w_seqF]
  have dm : decide (cs "mark" = cs "mark") = true := decide_eq_true rfl
  wp_walk using g, nc2, dm
  refine ⟨rfl, ownName_ok om.1 om.2 fun h2 F2 => ?_⟩
  have g2 := F2.get g (by simp)
  wp_walk using g2
  exact hq _ (F.trans F2)
theorem readSpan_ok {p : Pln} {s : Spn} {L : Nm} {h : Hs} {Q : D → Hs → Prop} {E : Ex → Hs → Prop} (P : P3 p) (hs : s ∈ p.rows) (hL : spT s = L) (hq : ∀ h', Fr [] h h' → Q (enS s) h') : (P03.fn_read_line.go [.str L] h).wp Q E := by
  have rl := P.row hs
  have ll := spT_len rl
  have bo := (P.bd s hs).bo
  have sw : TL.spl [32] 0 [] (spT s) = w9 s := by
    rw [sp_words]
    exact TL.spl_join (by unfold w9; simp) (w9_free P hs (by omega))
  rw [hL] at ll sw
  unfold P03.fn_read_line
  rw [w_defn]
  unfold P03.s_read_line
  rw [cs_sp]
  have wo := @wholeOf_ok
  have n1 : 1 = P03.fn_whole_of.n := rfl
  generalize P03.fn_whole_of = WO at *
  have so := @spanLine_ok
  have n2 : 1 = P03.fn_span_line.n := rfl
  generalize P03.fn_span_line = SL at *
  refine w_cut (fun env h' => ∃ n, env = [some (.str L), some (.ref n), none] ∧ h'[n]? = some (.lst ((w9 s).map .str)) ∧ Fr [] h h') ?_ ?_
  · wp_walk using sw
    exact ⟨⟨by omega, by decide⟩, _, rfl, gBc3 _ _, .app⟩
  rintro _ h1 ⟨n, rfl, g, F⟩
  have g : h1[n]? = some (.lst [.str (kindOf s.loose), .str s.name, .str (cs "from"), .str s.a, .str (cs "to"), .str (s.b ++ [58]), .str (boT s.lo), .str (cs "to"), .str (boT s.hi)]) := g
  have cl : cutD (s.b ++ [58]) none (some (-1)) = s.b := cut_last _ _
  try rw [w_seqF]
  wp_walk using g, n92
  try rw [w_seqF]
  wp_walk using g, n99
  rw [cl]
  refine ⟨n1, wo bo.1 fun h2 F2 => ?_⟩
  have g2 := F2.get g (by simp)
  wp_walk using g2
  refine ⟨n1, wo bo.2 fun h3 F3 => ?_⟩
  have F2 := F.trans (F2.trans F3)
  have eS : D.tup [.str (kindOf s.loose), .str s.name, .str s.a, .str s.b, enO s.lo, enO s.hi] = enS s := rfl
  wp_walk
  rw [eS]
  refine ⟨rfl, isSpanW P hs fun h3 F3 => ?_⟩
  wp_walk
  refine ⟨n2, so rl ?_⟩
  have dl : decide (spT s = L) = true := decide_eq_true hL
  wp_walk using dl
  exact hq _ (F2.trans F3)
theorem endsWellR {bef : List Spn} {s : Spn} {n : Nat} {h : Hs} {Q : D → Hs → Prop} {E : Ex → Hs → Prop} (rk : Nm → Nat) (e : h[n]? = some (.lst (bef.map enS))) (rb : ∀ r ∈ bef, rk r.a < rk r.b) (rs : rk s.a < rk s.b) (hl : bef.length ≤ 1000) (hq : ∀ h', Fr [] h h' → Q (.bl (decide (s.b ∉ bef.map Spn.b))) h') : (P05.fn_ends_well.go [.ref n, enS s] h).wp Q E := by
  unfold P05.fn_ends_well
  rw [w_defn]
  unfold P05.s_ends_well
  rw [w_seqF]
  wp_walk
  refine w_dcG bef enS (fun s => .str s.b) (fun s => .str s.a) (fun h => h[n]? = some (.lst (bef.map enS))) (fun h' => h' = h) ?_ (fun _ q => by rw [q]; exact e) (by omega) (fun _ _ => rfl) ?_ ?_
  · wp_walk using e
    exact t_cel _ _
  · rintro i a h' ha rfl
    wp_walk using s5_2, s5_3
  · rintro h' rfl
    have db := DB.fold bef [] [] DB.nil
    rw [List.nil_append] at db
    generalize bef.foldl (fun acc s => dput acc (.str s.b) (.str s.a)) [] = kvs at *
    have g : (h' ++ [Cell.dic false false kvs])[h'.length]? = some (.dic false false kvs) := get_new1
    have F : Fr [] h' (h' ++ [Cell.dic false false kvs]) := .app
    generalize h'.length = dn at *
    generalize h' ++ [Cell.dic false false kvs] = h1 at *
    wp_walk
    rw [w_seqF]
    wp_walk using s5_2, s5_3, g, db.1
    refine wif_d (fun c => ?_) (fun c => ?_)
    · wp_walk
      have := hq _ F
      rwa [decide_eq_false (fun z => z c)] at this
    have hq := hq _ F
    rw [decide_eq_true c] at hq
    wp_walk
    rw [w_seqF]
    wp_walk using s5_2
    refine w_while (fun m env h => ∃ x : Nm, env = [some (.ref n), some (enS s), some (.ref dn), some (.str x), none] ∧ m = rk x ∧ rk x < rk s.b ∧ h = h1) (rk s.a) ⟨s.a, rfl, rfl, rs, rfl⟩ ?_
    rintro m env h ⟨x, rfl, rfl, lt, rfl⟩
    have ne : decide (x = s.b) = false := decide_eq_false fun z => by rw [z] at lt; omega
    wp_walk using g, db.1
    refine wif_d (fun ci => ?_) (fun ci => ?_)
    · wp_walk using s5_3, ne
      have si := db.1 x
      rw [decide_eq_true ci] at si
      obtain ⟨d, ed⟩ := Option.isSome_iff_exists.mp si
      obtain ⟨r, hr, q1, q2⟩ := db.2 x d ed
      subst q2
      wp_walk using g, ed
      have := rb r hr
      rw [q1] at this
      exact ⟨_, this, _, rfl, rfl, by omega⟩
    · wp_walk using s5_3, ne
      rw [decide_eq_false ci]
      wp_walk using s5_3, ne
      exact hq
theorem get_nd {α β : Type} {f : α → β} {xs : List α} (nd : (xs.map f).Nodup) {i : Nat} {x : α} (h : xs[i]? = some x) : f x ∉ (xs.take i).map f := fun m => by
  obtain ⟨r, hr, e⟩ := List.mem_map.mp m
  obtain ⟨j, hj⟩ := List.getElem?_of_mem hr
  have lj : j < i := by have := lt_of_get hj; rw [List.length_take] at this; omega
  rw [List.getElem?_take_of_lt lj] at hj
  obtain ⟨l1, e1⟩ := List.getElem?_eq_some_iff.mp hj
  obtain ⟨l2, e2⟩ := List.getElem?_eq_some_iff.mp h
  have := List.pairwise_iff_getElem.mp nd j i (by simpa using l1) (by simpa using l2) lj
  rw [List.getElem_map, List.getElem_map, e1, e2] at this
  exact this e
theorem filter_take_lt {α : Type} {f : α → Bool} {xs : List α} {i : Nat} {x : α} (h : xs[i]? = some x) (hx : f x = true) : ((xs.take i).filter f).length < (xs.filter f).length := by
  have e : xs = xs.take i ++ x :: xs.drop (i + 1) := by
    obtain ⟨l, e⟩ := List.getElem?_eq_some_iff.mp h
    have := List.take_append_drop i xs
    rw [List.drop_eq_getElem_cons l, e] at this
    exact this.symm
  conv => rhs; rw [e]
  rw [List.filter_append, List.length_append, List.filter_cons_of_pos hx, List.length_cons]
  omega
theorem nd_loose {p : Pln} (P : P3 p) {i : Nat} {s : Spn} (h : p.rows[i]? = some s) (hl : s.loose = true) : s.b ∉ ((p.rows.take i).filter Spn.loose).map Spn.b := fun m => by
  have e : p.rows = p.rows.take i ++ s :: p.rows.drop (i + 1) := by
    obtain ⟨l, e⟩ := List.getElem?_eq_some_iff.mp h
    have := List.take_append_drop i p.rows
    rw [List.drop_eq_getElem_cons l, e] at this
    exact this.symm
  have nd := P.le
  rw [e, List.filter_append, List.map_append, List.filter_cons_of_pos hl, List.map_cons] at nd
  exact (List.nodup_append.mp nd).2.2 _ m _ List.mem_cons_self rfl
theorem in_strsK (h : Hs) (x z : Nm) (ms : List Nm) : inSeq h (.str x) (D.str z :: ms.map .str) = some (decide (x ∈ z :: ms)) := in_strs h x (z :: ms)
theorem spanFault_ok {p : Pln} {i mn sn : Nat} {s : Spn} {h : Hs} {Q : D → Hs → Prop} {E : Ex → Hs → Prop} (P : P3 p) (hi : p.rows[i]? = some s) (gm : h[mn]? = some (.lst (p.marks.map .str))) (gs : h[sn]? = some (.lst ((p.rows.take i).map enS))) (hq : ∀ h', Fr [] h h' → Q .non h') : (P03.fn_span_fault.go [.ref mn, .ref sn, enS s] h).wp Q E := by
  have hs := List.mem_of_getElem? hi
  have li := lt_of_get hi
  have rf := P.rf
  have mf := P.mf
  have lt : (p.rows.take i).length ≤ i := by rw [List.length_take]; omega
  have ab := P.ab s hs
  obtain ⟨rk, hrk⟩ := P.rk
  unfold P03.fn_span_fault
  rw [w_defn]
  unfold P03.s_span_fault
  try rw [w_seqF]
  wp_walk
  refine w_lcG (p.rows.take i) enS Spn.loose enS (fun h' => h' = h) (fun h' => h' = h) ?_ (fun _ q => q) (by omega) ?_ ?_
  · wp_walk using gs
    exact fun i h' e => by rw [e]; exact t_cel _ _ i h gs
  · rintro j r h' hr rfl
    wp_walk using s5_0, k5_l
    refine wif_i (fun c => ?_) (fun c => ?_)
    · exact ⟨c, rfl, rfl⟩
    · exact ⟨c, rfl⟩
  rintro h1 rfl
  have gl := gBc3 h1 (((p.rows.take i).filter Spn.loose).map enS)
  have F1 : Fr [] h1 (h1 ++ [Cell.lst (((p.rows.take i).filter Spn.loose).map enS)]) := .app
  have gm := get_old (g := [Cell.lst (((p.rows.take i).filter Spn.loose).map enS)]) gm
  have gs := get_old (g := [Cell.lst (((p.rows.take i).filter Spn.loose).map enS)]) gs
  generalize h1 ++ [Cell.lst (((p.rows.take i).filter Spn.loose).map enS)] = h2 at *
  generalize h1.length = ln at *
  have d1 : decide (((p.rows.take i).length : Int) = 140) = false := decide_eq_false (by omega)
  have fl := List.length_filter_le Spn.loose (p.rows.take i)
  have d2 : s.loose = true → decide ((((p.rows.take i).filter Spn.loose).length : Int) = 8) = false := fun hl => decide_eq_false (by
    have := filter_take_lt hi hl
    have := P.lf
    omega)
  have nn := get_nd P.nd hi
  wp_walk
  refine w_cut (fun env h' => env = [some (.ref mn), some (.ref sn), some (enS s), some (.ref ln), none, none] ∧ h' = h2) ?_ ?_
  · wp_walk using gs, d1, s5_0, k5_l
    cases el : s.loose with
    | true =>
      have := d2 el
      wp_walk using gl, this
    | false =>
      wp_walk
  rintro _ h9 ⟨rfl, rfl⟩
  refine w_cut (fun env h' => (∃ o5, env = [some (.ref mn), some (.ref sn), some (enS s), some (.ref ln), none, o5]) ∧ h'[mn]? = some (.lst (p.marks.map .str)) ∧ h'[ln]? = some (.lst (((p.rows.take i).filter Spn.loose).map enS)) ∧ Fr [] h1 h') ?_ ?_
  · wp_walk using s5_1
    refine w_lcM (p.rows.take i) enS (fun s => .str s.name) (fun h' => h' = h9) (fun h' => h' = h9) ?_ (fun _ q => q) (by omega) ?_ ?_
    · wp_walk using gs
      exact fun i h' e => by rw [e]; exact t_cel _ _ i h9 gs
    · rintro j r h' hr rfl
      wp_walk using s5_1
    rintro h3 rfl
    have g9 : (h3 ++ [Cell.lst ((p.rows.take i).map fun s => D.str s.name)])[h3.length]? = some (.lst (((p.rows.take i).map Spn.name).map .str)) := by rw [List.map_map]; exact gBc3 _ _
    have dn : decide (s.name ∈ (p.rows.take i).map Spn.name) = false := decide_eq_false nn
    wp_walk using g9, in_strs, dn
    exact ⟨⟨_, rfl⟩, get_old gm, get_old gl, F1.push⟩
  clear gm gs gl F1
  rintro _ h3 ⟨⟨o5, rfl⟩, gm, gl, F3⟩
  try rw [w_seqF]
  wp_walk using gm
  rw [List.append_nil]
  refine ⟨by rw [List.length_map]; omega, ?_⟩
  have kd : D.str (cs "zero") :: p.marks.map .str = D.str zro :: p.marks.map .str := rfl
  rw [kd]
  try rw [w_seqF]
  wp_walk using s5_2, s5_3, in_strsK, decide_eq_true ab.1, decide_eq_true ab.2.1
  try rw [w_seqF]
  cases el : s.loose with
  | false =>
    have k0 : decide (kindOf s.loose = cs "loose") = false := by rw [k5_l, el]
    wp_walk using s5_0, k0
    exact hq _ F3
  | true =>
    have k0 : decide (kindOf s.loose = cs "loose") = true := by rw [k5_l, el]
    wp_walk using s5_0, k0
    refine ⟨rfl, endsWellR rk gl (fun r hr => hrk r (List.mem_of_mem_take (List.mem_filter.mp hr).1) (List.mem_filter.mp hr).2) (hrk s hs el) (by omega) fun h4 F4 => ?_⟩
    rw [decide_eq_true (nd_loose P hi el)]
    wp_walk
    exact hq _ (F3.trans F4)
end M
namespace M
def sL {α : Type} (xs : List α) (f : α → Int) : Int := (xs.map f).sum
structure LA where
  u : List Nat
  v : List Nat
  l : Int
  c : Option Int
def la (A : List LA) (i : Nat) : LA := (A[i]?).getD ⟨[], [], 0, none⟩
def ind (b : Bool) : Int := if b then 1 else 0
def canF (A : List LA) (φ : Nat → Int) (i : Nat) : Bool := match (la A i).c with
  | none => true
  | some c => decide (φ i < c)
/-- differences that no arc with room exceeds -/
structure Pot (A : List LA) (φ : Nat → Int) (π : List Nat → Int) : Prop where
  f : ∀ i, i < A.length → canF A φ i = true → π (la A i).v ≤ π (la A i).u + (la A i).l
  b : ∀ i, i < A.length → 0 < φ i → π (la A i).u ≤ π (la A i).v - (la A i).l
section
variable {τ : Type}
def resAt (lab : Nat → Int → τ) (A : List LA) (φ : Nat → Int) (i : Nat) : List (AR τ) :=
  (if canF A φ i = true then [⟨(la A i).u, (la A i).v, (la A i).l, lab i 1⟩] else []) ++ (if 0 < φ i then [⟨(la A i).v, (la A i).u, 0 - (la A i).l, lab i (-1)⟩] else [])
def resL (lab : Nat → Int → τ) (A : List LA) (φ : Nat → Int) : List (AR τ) := (List.range A.length).flatMap (resAt lab A φ)
theorem mem_res {lab : Nat → Int → τ} {A : List LA} {φ : Nat → Int} {a : AR τ} : a ∈ resL lab A φ ↔ ∃ i, i < A.length ∧ ((canF A φ i = true ∧ a = ⟨(la A i).u, (la A i).v, (la A i).l, lab i 1⟩) ∨ (0 < φ i ∧ a = ⟨(la A i).v, (la A i).u, 0 - (la A i).l, lab i (-1)⟩)) := by
  unfold resL resAt
  rw [List.mem_flatMap]
  constructor
  · rintro ⟨i, hi, m⟩
    refine ⟨i, List.mem_range.mp hi, ?_⟩
    rcases List.mem_append.mp m with m | m
    · by_cases c : canF A φ i = true
      · rw [if_pos c] at m; exact .inl ⟨c, List.mem_singleton.mp m⟩
      · rw [if_neg c] at m; cases m
    · by_cases c : 0 < φ i
      · rw [if_pos c] at m; exact .inr ⟨c, List.mem_singleton.mp m⟩
      · rw [if_neg c] at m; cases m
  · rintro ⟨i, hi, h⟩
    refine ⟨i, List.mem_range.mpr hi, ?_⟩
    rcases h with ⟨c, rfl⟩ | ⟨c, rfl⟩
    · rw [if_pos c]; exact List.mem_append_left _ (List.mem_singleton.mpr rfl)
    · rw [if_pos c]; exact List.mem_append_right _ (List.mem_singleton.mpr rfl)
theorem Pot.of {lab : Nat → Int → τ} {A : List LA} {φ : Nat → Int} {π : List Nat → Int} (p : Meets (arcsL (resL lab A φ)) π) : Pot A φ π where
  f := fun i hi c => by
    have := p (la A i).u (la A i).v (la A i).l (List.mem_map.mpr ⟨_, mem_res.mpr ⟨i, hi, .inl ⟨c, rfl⟩⟩, rfl⟩)
    omega
  b := fun i hi c => by
    have := p (la A i).v (la A i).u (0 - (la A i).l) (List.mem_map.mpr ⟨_, mem_res.mpr ⟨i, hi, .inr ⟨c, rfl⟩⟩, rfl⟩)
    omega
variable {lab : Nat → Int → τ} {ix : τ → Nat} {sg : τ → Int}
theorem Bk.get {into : List Nat → Option (AR τ)} (hi : ∀ v a, into v = some a → a.v = v) : ∀ {r : List (AR τ)} {v w : List Nat}, Bk into v r w → ∀ (i : Nat) (a : AR τ), r[i]? = some a → ∃ r1 r2, r = r1 ++ a :: r2 ∧ r1.length = i ∧ Bk into v r1 a.v ∧ into a.v = some a ∧ Bk into a.u r2 w := by
  intro r v w b
  induction b with
  | nil v => intro i a h; cases h
  | cons e b ih =>
    rename_i v w c r
    intro i a h
    cases i with
    | zero =>
      cases h
      have := hi _ _ e
      subst this
      exact ⟨[], r, rfl, rfl, .nil _, e, b⟩
    | succ i =>
      obtain ⟨r1, r2, q1, q2, q3, q4, q5⟩ := ih i a h
      exact ⟨c :: r1, r2, by rw [q1]; rfl, by rw [List.length_cons, q2], .cons e q3, q4, q5⟩
/-- room on an arc with room -/
def capR (A : List LA) (φ : Nat → Int) (ix : τ → Nat) (sg : τ → Int) (a : AR τ) : Option Int := if 0 < sg a.t then (match (la A (ix a.t)).c with
  | none => none
  | some c => some (c - φ (ix a.t))) else some (φ (ix a.t))
end
def ov (A : List LA) (d : List Nat → Int) (i : Nat) : Int := d (la A i).v - d (la A i).u - (la A i).l
open PySem PySem.Spec PyProof.Rows L2
local macro_rules | `(tactic| wp_walk using $ts,*) => do let xs := Lean.Syntax.TSepArray.getElems ts; `(tactic| simp only [w_ok, w_exc, w_bind, w_of, w_cond, w_kE, w_vE, w_bE, w_uE, w_js0, w_js1, jsK_s, w_tst, w_andE, w_orE, w_notE, w_ifE, w_chE, w_ch3E, w_cmpR, w_aNil, w_aCons, w_aStar, w_tupE, w_lstE, w_cE, w_isiE, w_lsE, w_fE, w_mE, w_slE, w_ptN, w_ptS, w_newD, w_nextF, w_bkF, w_ctF, w_seqF, w_fl, w_dropF, w_retF, w_retNF, w_ifF, w_asgF, w_nm, w_tp, w_ts0, w_ts1, w_gS, w_augF, w_augS, w_parF, w_vS, w_rS, w_eS, w_zS, w_revS, w_iteS, w_lcN, w_lcS, wif_t, wif_f, wo_some, wo_map,
  defn_n, recn_n, List.getElem?_cons_zero, List.getElem?_cons_succ, Option.join_some, List.set_cons_zero, List.set_cons_succ, List.length_cons, List.length_nil, List.length_map, List.map_cons, List.map_nil, List.cons_append, List.nil_append, Nat.reduceAdd, Nat.reduceSub, Nat.zero_add, Option.map_some, Option.isSome_some, wipeE, parSet, Bool.not_true, Bool.not_false, decide_true, decide_false, Nat.reduceLeDiff, lim, Bool.true_eq_false, Bool.false_eq_true, if_true, if_false, true_and, and_true, eq_self, and_self, List.all_cons, List.all_nil, Bool.and_self, Bool.and_true, Bool.true_and, Int.reduceLT, Int.reduceLE, Nat.reduceLT, Int.reduceNeg, Int.reduceAdd, Int.reduceSub, Int.reduceMul, bo_add, bo_sub, bo_mul, bo_fd, bo_mod, bo_pow, ia_add, ia_sub, inD_i, add_i, iadd_i, add_s, iadd_s, add_t, add_r, adC_s, sub_i, isub_i, add_bi, sub_bi, sub_iB, str_b, fm_i, fm_s, mul_i, fd_i, mod_i, pow_i, neg_i, co_eq, co_ne, co_in, co_ni, co_is, co_isn, oi_Lt, os_Lt, oi_LtE, os_LtE, oi_Gt, os_Gt, oi_GtE, os_GtE, is_non_non, is_non_bl, is_non_int, is_non_str, is_non_tup, is_non_ls, is_non_ref, is_bl_non, is_bl_bl, is_bl_int, is_bl_str, is_bl_tup, is_bl_ls, is_bl_ref, trC_l, sqC_l, sqC_d, dcC_l, dcC_d, daC_l, daC_d, srC_l, laC_l, tyC_l, tyC_d, rvC_l, tr_non, tr_bl, tr_int, tr_str, tr_tup, tr_ref, tr_ls, sq_tup, sq_ls, sq_ref, dr_ref, da_ref, sr_tup, sr_ls, sr_str, sr_ref, sl_ls, sl_ref, se_ls, se_tup, se_ref, rv_tup, rv_ref, la_ref, it_non, it_bl, it_int, it_str, it_tup, it_ls, it_ref, ix_tup, ix_ls, ix_str, ix_ref, ixC_l, ixC_d, atN, at0, at1, at2, at3, at4, at5, at6, at7, at8, at9, at10, at11, at12, at13, at14, atm1, atm2, on1_, on2_, len_str, len_tup, len_ls, len_ref, lnC_l, lnC_d, int_i, int_b, int_s, str_i, str_s, bool_i, bool_b, abs_i, max_i, min_i, ofL_s, lst1, tpl1, all_r, any_r, sum_r, sl_str, sl_tup, slo_ref, slo_ls, ty_l, ty_s, ty_d, ty_appM, ty_popM, ty_revM, ty_extM, ty_joinM, ty_splitM, ty_getM, ty_insM, go_app, apC_s, go_ext, exC_s, go_rev, rvM_s, go_get1, go_get2, gtC_s, go_join, jnC_s, go_split, go_ins, inC_s, go_pop, so_ref, stC_d, stC_l, go_dic, goC_d, goC_l, in_str1, in_tup, in_ls, in_ref, ioC_l, ioC_d, kOk_s, kOk_i, kOk_t, k1_s, k1_i, r1, r2, eq_ss, eq_ii, eq_nbl, eq_bln, eq_nint, eq_intn, eq_nstr, eq_strn, eq_nn, eq_is, eq_si, go_some, kit_NoneType_str, kit_NoneType_int, kit_NoneType_bool, kit_NoneType_tuple, kit_NoneType_list, kit_NoneType_dict, kit_bool_str, kit_bool_int, kit_bool_bool, kit_bool_tuple, kit_bool_list, kit_bool_dict, kit_int_str, kit_int_int, kit_int_bool, kit_int_tuple, kit_int_list, kit_int_dict, kit_str_str, kit_str_int, kit_str_bool, kit_str_tuple, kit_str_list, kit_str_dict, kit_tuple_str, kit_tuple_int, kit_tuple_bool, kit_tuple_tuple, kit_tuple_list, kit_tuple_dict, kit_list_str, kit_list_int, kit_list_bool, kit_list_tuple, kit_list_list, kit_list_dict, kit_dict_str, kit_dict_int, kit_dict_bool, kit_dict_tuple, kit_dict_list, kit_dict_dict, rp0, rp1, rp2, rp3, rp4, rp5, rp6, rp7, rp8, rp9, rp10, rp11, rp12, rp13, rp14, rp15, rp16, rp17, rp18, rp19, rp20, rp21, rp22, rp23, rp24, rp25, rp26, rp27, rp28, rp29, rp30, $[$xs:term],*])
local macro_rules | `(tactic| wp_walk) => `(tactic| simp only [w_ok, w_exc, w_bind, w_of, w_cond, w_kE, w_vE, w_bE, w_uE, w_js0, w_js1, jsK_s, w_tst, w_andE, w_orE, w_notE, w_ifE, w_chE, w_ch3E, w_cmpR, w_aNil, w_aCons, w_aStar, w_tupE, w_lstE, w_cE, w_isiE, w_lsE, w_fE, w_mE, w_slE, w_ptN, w_ptS, w_newD, w_nextF, w_bkF, w_ctF, w_fl, w_dropF, w_retF, w_retNF, w_ifF, w_asgF, w_nm, w_tp, w_ts0, w_ts1, w_gS, w_augF, w_augS, w_parF, w_vS, w_rS, w_eS, w_zS, w_revS, w_iteS, w_lcN, w_lcS, wif_t, wif_f, wo_some, wo_map,
  defn_n, recn_n, List.getElem?_cons_zero, List.getElem?_cons_succ, Option.join_some, List.set_cons_zero, List.set_cons_succ, List.length_cons, List.length_nil, List.length_map, List.map_cons, List.map_nil, List.cons_append, List.nil_append, Nat.reduceAdd, Nat.reduceSub, Nat.zero_add, Option.map_some, Option.isSome_some, wipeE, parSet, Bool.not_true, Bool.not_false, decide_true, decide_false, Nat.reduceLeDiff, lim, Bool.true_eq_false, Bool.false_eq_true, if_true, if_false, true_and, and_true, eq_self, and_self, List.all_cons, List.all_nil, Bool.and_self, Bool.and_true, Bool.true_and, Int.reduceLT, Int.reduceLE, Nat.reduceLT, Int.reduceNeg, Int.reduceAdd, Int.reduceSub, Int.reduceMul, bo_add, bo_sub, bo_mul, bo_fd, bo_mod, bo_pow, ia_add, ia_sub, inD_i, add_i, iadd_i, add_s, iadd_s, add_t, add_r, adC_s, sub_i, isub_i, add_bi, sub_bi, sub_iB, str_b, fm_i, fm_s, mul_i, fd_i, mod_i, pow_i, neg_i, co_eq, co_ne, co_in, co_ni, co_is, co_isn, oi_Lt, os_Lt, oi_LtE, os_LtE, oi_Gt, os_Gt, oi_GtE, os_GtE, is_non_non, is_non_bl, is_non_int, is_non_str, is_non_tup, is_non_ls, is_non_ref, is_bl_non, is_bl_bl, is_bl_int, is_bl_str, is_bl_tup, is_bl_ls, is_bl_ref, trC_l, sqC_l, sqC_d, dcC_l, dcC_d, daC_l, daC_d, srC_l, laC_l, tyC_l, tyC_d, rvC_l, tr_non, tr_bl, tr_int, tr_str, tr_tup, tr_ref, tr_ls, sq_tup, sq_ls, sq_ref, dr_ref, da_ref, sr_tup, sr_ls, sr_str, sr_ref, sl_ls, sl_ref, se_ls, se_tup, se_ref, rv_tup, rv_ref, la_ref, it_non, it_bl, it_int, it_str, it_tup, it_ls, it_ref, ix_tup, ix_ls, ix_str, ix_ref, ixC_l, ixC_d, atN, at0, at1, at2, at3, at4, at5, at6, at7, at8, at9, at10, at11, at12, at13, at14, atm1, atm2, on1_, on2_, len_str, len_tup, len_ls, len_ref, lnC_l, lnC_d, int_i, int_b, int_s, str_i, str_s, bool_i, bool_b, abs_i, max_i, min_i, ofL_s, lst1, tpl1, all_r, any_r, sum_r, sl_str, sl_tup, slo_ref, slo_ls, ty_l, ty_s, ty_d, ty_appM, ty_popM, ty_revM, ty_extM, ty_joinM, ty_splitM, ty_getM, ty_insM, go_app, apC_s, go_ext, exC_s, go_rev, rvM_s, go_get1, go_get2, gtC_s, go_join, jnC_s, go_split, go_ins, inC_s, go_pop, so_ref, stC_d, stC_l, go_dic, goC_d, goC_l, in_str1, in_tup, in_ls, in_ref, ioC_l, ioC_d, kOk_s, kOk_i, kOk_t, k1_s, k1_i, r1, r2, eq_ss, eq_ii, eq_nbl, eq_bln, eq_nint, eq_intn, eq_nstr, eq_strn, eq_nn, eq_is, eq_si, go_some, kit_NoneType_str, kit_NoneType_int, kit_NoneType_bool, kit_NoneType_tuple, kit_NoneType_list, kit_NoneType_dict, kit_bool_str, kit_bool_int, kit_bool_bool, kit_bool_tuple, kit_bool_list, kit_bool_dict, kit_int_str, kit_int_int, kit_int_bool, kit_int_tuple, kit_int_list, kit_int_dict, kit_str_str, kit_str_int, kit_str_bool, kit_str_tuple, kit_str_list, kit_str_dict, kit_tuple_str, kit_tuple_int, kit_tuple_bool, kit_tuple_tuple, kit_tuple_list, kit_tuple_dict, kit_list_str, kit_list_int, kit_list_bool, kit_list_tuple, kit_list_list, kit_list_dict, kit_dict_str, kit_dict_int, kit_dict_bool, kit_dict_tuple, kit_dict_list, kit_dict_dict, rp0, rp1, rp2, rp3, rp4, rp5, rp6, rp7, rp8, rp9, rp10, rp11, rp12, rp13, rp14, rp15, rp16, rp17, rp18, rp19, rp20, rp21, rp22, rp23, rp24, rp25, rp26, rp27, rp28, rp29, rp30])
def ixD : D → Nat
  | .tup [.int i, .int _] => i.toNat
  | _ => 0
def sgD : D → Int
  | .tup [.int _, .int s] => s
  | _ => 0
open PySem PySem.Spec PyProof.Rows L2
def RoomI (A : List LA) (φ : Nat → Int) (r : List (AR D)) (m : Option Int) : Prop := (∀ a ∈ r, ∀ c, capR A φ ixD sgD a = some c → ∃ k, m = some k ∧ k ≤ c) ∧ ∀ k, m = some k → ∃ a ∈ r, capR A φ ixD sgD a = some k
theorem RoomI.nil (A : List LA) (φ : Nat → Int) : RoomI A φ [] none := ⟨fun _ m => (nomatch m), fun _ e => (nomatch e)⟩
theorem RoomI.take {A : List LA} {φ : Nat → Int} {r : List (AR D)} {m : Option Int} (h : RoomI A φ r m) {a : AR D} {c : Int} (e : capR A φ ixD sgD a = some c) (l : ∀ k, m = some k → c < k) : RoomI A φ (r ++ [a]) (some c) :=
  ⟨fun b hb d q => by
    rcases List.mem_append.mp hb with hb | hb
    · obtain ⟨k, hk, le⟩ := h.1 b hb d q
      have := l k hk
      exact ⟨c, rfl, by omega⟩
    · rw [List.mem_singleton.mp hb, e] at q
      cases q
      exact ⟨c, rfl, Int.le_refl _⟩, fun k q => by
    cases q
    exact ⟨a, List.mem_append_right _ (List.mem_singleton.mpr rfl), e⟩⟩
open PySem PySem.Spec PyProof.Rows L2
def SupT (ns : List Nm) (kvs : List (D × D)) (f : Nm → Int) : Prop := (∀ x ∈ ns, dfind kvs (.str x) = some (.int (f x))) ∧ kvs.length ≤ 1000
theorem SupT.put {ns : List Nm} {kvs : List (D × D)} {f g : Nm → Int} {x : Nm} {v : Int} (t : SupT ns kvs f) (hx : x ∈ ns) (h1 : g x = v) (h2 : ∀ y, y ≠ x → g y = f y) : SupT ns (dput kvs (.str x) (.int v)) g := by
  refine ⟨fun y hy => ?_, ?_⟩
  · by_cases c : y = x
    · subst c; rw [dfind_put_same _ _ _ (k_str _), h1]
    · rw [dfind_put_ne _ _ _ _ (fun z => c (D.str.inj z).symm), t.1 y hy, h2 y c]
  · rw [dput_len2 _ (t.1 x hx)]; exact t.2
open PySem PySem.Spec PyProof.Rows L2
open PySem PySem.Spec PyProof.Rows L2
theorem Fin0.some {A : List (AR D)} {ns : List Nm} {s : DS D} (f : Fin0 A ns ns s) {x : Nm} (h : x ∈ ns) : s.dist x ≠ none := by
  obtain ⟨d, e, _⟩ := f.st x h
  rw [e]; exact nofun
open PySem PySem.Spec PyProof.Rows L2
structure Cst where
  ws : List (Nm × Int)
  ps : List (Nm × Option Int × Option Int)
def prL (ps : List (Nm × Option Int × Option Int)) (n : Nm) (m : Bool) : Option Int := match ps.find? (fun q => decide (q.1 = n)) with
  | none => none
  | some q => if m then q.2.2 else q.2.1
def prc (c : Cst) (n : Nm) (m : Bool) : Option Int := prL c.ps n m
def wtL (ws : List (Nm × Int)) (x : Nm) : Int := match ws.find? (fun q => decide (q.1 = x)) with
  | none => 0
  | some q => q.2
/-- costs of a plan -/
structure CO (p : Pln) (c : Cst) : Prop where
  wn : (c.ws.map (·.1)).Nodup
  wm : ∀ q ∈ c.ws, q.1 ∈ p.marks
  pn : (c.ps.map (·.1)).Nodup
  pp : ∀ q ∈ c.ps, ∀ i, (q.2.1 = some i ∨ q.2.2 = some i) → 0 ≤ i ∧ i ≤ 1000
  lw : c.ws.length ≤ 100
  lp : c.ps.length ≤ 300
  wb : ∀ q ∈ c.ws, q.2.natAbs ≤ 1000
theorem prL_mem {ps : List (Nm × Option Int × Option Int)} {n : Nm} {m : Bool} {i : Int} (h : prL ps n m = some i) : ∃ q ∈ ps, q.1 = n ∧ (q.2.1 = some i ∨ q.2.2 = some i) := by
  unfold prL at h
  cases e : ps.find? (fun q => decide (q.1 = n)) with
  | none => rw [e] at h; cases h
  | some q =>
    rw [e] at h
    refine ⟨q, List.mem_of_find?_eq_some e, of_decide_eq_true (List.find?_some (p := fun q : Nm × Option Int × Option Int => decide (q.1 = n)) e), ?_⟩
    cases m with
    | true => exact .inr h
    | false => exact .inl h
theorem CO.prc {p : Pln} {c : Cst} (o : CO p c) {n : Nm} {m : Bool} {i : Int} (h : prc c n m = some i) : 0 ≤ i ∧ i ≤ 1000 := by
  obtain ⟨q, hq, _, z⟩ := prL_mem h
  exact o.pp q hq i z
def LAs (st : List Stp) (c : Cst) : List LA := st.map fun t => ⟨t.x, t.y, t.len, prc c t.name t.most⟩
open PySem PySem.Spec PyProof.Rows L2
def k2 (a b c d : Nm) : Bool := if a = c then decide (b < d) else decide (a < c)
/-- a row of a flow -/
abbrev FRw := Stp × Int
open PySem PySem.Spec PyProof.Rows L2
open PySem PySem.Spec PyProof.Rows L2
structure BP (p : Pln) (c : Cst) : Prop where
  w : WP p
  nn : (p.rows.map Spn.name).Nodup
  co : CO p c
  m : p.marks.length ≤ 10
  r : p.rows.length ≤ 60
  b : ∀ t ∈ stepsOf p.rows, t.len.natAbs ≤ 1800
  le : ∀ s ∈ p.rows, ∀ i j, s.lo = some i → s.hi = some j → i ≤ j
  asc : p.marks.Pairwise (· < ·)
structure FlowN (N : Int) (p : Pln) (c : Cst) (R : List FRw) : Prop where
  st : ∀ q ∈ R, q.1 ∈ stepsOf p.rows
  lo : ∀ q ∈ R, 1 ≤ q.2 ∧ q.2 ≤ N
  hi : ∀ q ∈ R, ∀ k, prc c q.1.name q.1.most = some k → q.2 ≤ k
  asc : R.Pairwise fun a b => k2 a.1.name (sideOf a.1.most) b.1.name (sideOf b.1.most) = true
  bal : ∀ m ∈ p.marks, sL R (fun q => q.2 * (ind (decide (q.1.x = m)) - ind (decide (q.1.y = m)))) = wtL c.ws m
open PySem PySem.Spec PyProof.Rows L2
section
variable {p : Pln} {c : Cst}
abbrev AP (p : Pln) (c : Cst) : List LA := LAs (stepsOf p.rows) c
theorem BP.A (B : BP p c) : ∀ a ∈ AP p c, (a.u ∈ zro :: p.marks ∧ a.v ∈ zro :: p.marks) ∧ a.u ≠ a.v ∧ a.l.natAbs ≤ 1800 ∧ ∀ k, a.c = some k → 0 ≤ k ∧ k ≤ 1000 := fun a ha => by
  obtain ⟨t, ht, rfl⟩ := List.mem_map.mp ha
  have h1 := B.w.step ht
  exact ⟨⟨h1.1, h1.2.1⟩, h1.2.2, B.b t ht, fun k e => B.co.prc e⟩
end
open PySem PySem.Spec PyProof.Rows L2
open PySem PySem.Spec PyProof.Rows L2
open PySem PySem.Spec PyProof.Rows L2
theorem FlowN.len {N : Int} {p : Pln} {c : Cst} {R : List FRw} (B : BP p c) (r : FlowN N p c R) : R.length ≤ 120 := by
  have n1 : (R.map fun q => enK q.1).Nodup := by
    rw [List.nodup_iff_pairwise_ne, List.pairwise_map]
    refine r.asc.imp fun {a b} h e => ?_
    have e := enK_inj e
    unfold k2 at h
    rw [if_pos e.1, e.2, decide_eq_false (Std.lt_irrefl)] at h
    cases h
  have n2 : (R.map (·.1)).Nodup := by
    rw [List.nodup_iff_pairwise_ne, List.pairwise_map] at n1 ⊢
    exact n1.imp fun {a b} h e => h (by rw [e])
  have sl := stepsOf_len p.rows
  have lr := B.r
  have : (R.map fun q => enK q.1).length ≤ ((stepsOf p.rows).map enK).length := by
    rcases Nat.lt_or_ge ((stepsOf p.rows).map enK).length (R.map fun q => enK q.1).length with q | q
    · exfalso
      have key : ∀ (ns xs : List D), xs.Nodup → (∀ x ∈ xs, x ∈ ns) → xs.length ≤ ns.length := fun ns => by
        induction ns with
        | nil => intro xs _ h; cases xs with
          | nil => exact Nat.le_refl _
          | cons x xs => have := h x List.mem_cons_self; cases this
        | cons n ns ih =>
          intro xs nd h
          by_cases c : n ∈ xs
          · obtain ⟨a, b, rfl⟩ := List.append_of_mem c
            have nd' := nd
            rw [List.nodup_append] at nd
            obtain ⟨n1, n2, n3⟩ := nd
            rw [List.nodup_cons] at n2
            have := ih (a ++ b) (List.nodup_append.mpr ⟨n1, n2.2, fun x hx y hy => n3 x hx y (List.mem_cons_of_mem _ hy)⟩) fun x hx => by
              rcases List.mem_append.mp hx with hx | hx
              · rcases List.mem_cons.mp (h x (List.mem_append_left _ hx)) with rfl | q
                · exact absurd rfl (n3 x hx x List.mem_cons_self)
                · exact q
              · rcases List.mem_cons.mp (h x (List.mem_append_right _ (List.mem_cons_of_mem _ hx))) with rfl | q
                · exact absurd hx n2.1
                · exact q
            simp only [List.length_append, List.length_cons] at this ⊢
            omega
          · have := ih xs nd fun x hx => by
              rcases List.mem_cons.mp (h x hx) with rfl | q
              · exact absurd hx c
              · exact q
            rw [List.length_cons]; omega
      have := key _ _ n1 fun x hx => by
        obtain ⟨q, hq, rfl⟩ := List.mem_map.mp hx
        exact List.mem_map.mpr ⟨q.1, r.st q hq, rfl⟩
      omega
    · exact q
  rw [List.length_map, List.length_map] at this
  omega
open PySem PySem.Spec PyProof.Rows L2
def KpT (ms : List Nm) (kvs : List (D × D)) (T : Nm → Int) : Prop := (∀ x, (dfind kvs (.str x)).getD (.int 0) = .int (T x)) ∧ ∀ m ∈ ms, dfind kvs (.str m) = some (.int (T m))
theorem KpT.put {ms : List Nm} {kvs : List (D × D)} {T T' : Nm → Int} (k : KpT ms kvs T) (x : Nm) (v : Int) (h1 : T' x = v) (h2 : ∀ y, y ≠ x → T' y = T y) : KpT ms (dput kvs (.str x) (.int v)) T' := by
  have key : ∀ y, y ≠ x → dfind (dput kvs (.str x) (.int v)) (.str y) = dfind kvs (.str y) := fun y h => dfind_put_ne _ _ _ _ fun z => h (D.str.inj z).symm
  constructor
  · intro y
    by_cases c : y = x
    · subst c; rw [dfind_put_same _ _ _ (k_str _), h1]; rfl
    · rw [key y c, h2 y c]; exact k.1 y
  · intro y hy
    by_cases c : y = x
    · subst c; rw [dfind_put_same _ _ _ (k_str _), h1]
    · rw [key y c, h2 y c]; exact k.2 y hy
open PySem PySem.Spec PyProof.Rows L2
open PySem PySem.Spec PyProof.Rows L2
theorem leD_txt (x y : Nm) : leD (.str x) (.str y) = decide (x ≤ y) := by
  have e : ∀ z : Nm, pyN (.str z) = PyData.str (toS z) := fun z => by unfold pyN py; rfl
  show PySem.W.dataLe false pyN (.str x) (.str y) = _
  have h : PySem.W.dataLe false pyN (.str x) (.str y) = PySem.W.dataLe false (fun b : Nm => PyData.str (toS b)) x y := by
    unfold PySem.W.dataLe PySem.W.sortLe
    simp only [e]
  rw [h, PySem.W.dataLe_str]
def srtM (ys : List Nm) : List Nm := ys.mergeSort fun a b => decide (a ≤ b)
theorem srtM_perm (ys : List Nm) : (srtM ys).Perm ys := List.mergeSort_perm _ _
theorem sorted_txt {h : Hs} {n : Nat} {ys : List Nm} (e : h[n]? = some (.lst (ys.map .str))) (hl : ys.length ≤ 1000) : sorted1 h (.ref n) = .ok (.ref h.length) (h ++ [.lst ((srtM ys).map .str)]) := by
  have e1 : sorted1.lstOf h (.ref n) = some (ys.map .str) := by
    show seqH h (.ref n) = _
    rw [sq_ref, e]; rfl
  unfold sorted1
  rw [e1]
  have c1 : alkD (ys.map .str) = true := by
    unfold alkD
    rw [List.all_eq_true]
    intro x hx
    obtain ⟨z, _, rfl⟩ := List.mem_map.mp hx
    rw [Bool.and_eq_true]
    refine ⟨by rfl, List.all_eq_true.mpr fun y hy => ?_⟩
    obtain ⟨w, _, rfl⟩ := List.mem_map.mp hy
    rfl
  have c2 : (ys.map D.str).all isOth = true := by
    rw [List.all_eq_true]
    intro x hx
    obtain ⟨z, _, rfl⟩ := List.mem_map.mp hx
    rfl
  have c3 : sortD (ys.map .str) = (srtM ys).map .str := by
    unfold sortD srtM
    symm
    exact List.map_mergeSort fun a _ b _ => (leD_txt a b).symm
  dsimp only
  rw [if_pos ⟨c1, .inr c2, by rw [List.length_map]; show _ ≤ 16777216; omega⟩, c3]
open PySem PySem.Spec PyProof.Rows L2
theorem kind_mark (l : Bool) : decide (kindOf l = cs "mark") = false := by cases l <;> decide +kernel
theorem lineMark_ok {p : Pln} {i mn sn : Nat} {m : Nm} {h : Hs} {Q : D → Hs → Prop} {E : Ex → Hs → Prop} (P : P3 p) (hi : p.marks[i]? = some m) (gm : h[mn]? = some (.lst ((p.marks.take i).map .str))) (gs : h[sn]? = some (.lst [])) (hq : ∀ h', Fr [] h h' → Q .non h') : (P03.fn_line_fault.go [.ref mn, .ref sn, .tup [.str (cs "mark"), .str m]] h).wp Q E := by
  have li := lt_of_get hi
  have mf := P.mf
  have lt : (p.marks.take i).length = i := by rw [List.length_take]; omega
  have d0 : decide (cs "mark" = cs "mark") = true := decide_eq_true rfl
  have d1 : decide ((i : Int) = 40) = false := decide_eq_false (by omega)
  unfold P03.fn_line_fault
  rw [w_defn]
  unfold P03.s_line_fault
  try rw [w_seqF]
  wp_walk using d0, gs
  try rw [w_seqF]
  wp_walk using d0, gs, List.isEmpty_nil
  try rw [w_seqF]
  cases i with
  | zero =>
    have gm : h[mn]? = some (.lst []) := gm
    wp_walk using gm, List.isEmpty_nil
    have : decide ((([] : List D).length : Int) = 40) = false := by decide
    wp_walk using this, gm
    exact hq h .refl
  | succ j =>
    obtain ⟨x, hx⟩ : ∃ x, p.marks[j]? = some x := ⟨_, List.getElem?_eq_getElem (by omega)⟩
    have lx : x < m := asc_get P.asc hx hi
    have ne : ((p.marks.take (j + 1)).map D.str).isEmpty = false := by
      cases e : (p.marks.take (j + 1)).map D.str with
      | nil =>
        have := congrArg List.length e
        rw [List.length_map, lt] at this
        cases this
      | cons => rfl
    have la : atI ((p.marks.take (j + 1)).map D.str) (-1) = some (.str x) := by
      rw [atm1, List.length_map, lt, if_neg (by omega), List.getElem?_map, Nat.add_sub_cancel, List.getElem?_take_of_lt (by omega), hx]; rfl
    wp_walk using gm, ne, la, decide_eq_true lx
    rw [lt]
    wp_walk using d1
    exact hq h .refl
theorem lineSpan_ok {p : Pln} {i mn sn : Nat} {s : Spn} {h : Hs} {Q : D → Hs → Prop} {E : Ex → Hs → Prop} (P : P3 p) (hi : p.rows[i]? = some s) (gm : h[mn]? = some (.lst (p.marks.map .str))) (gs : h[sn]? = some (.lst ((p.rows.take i).map enS))) (hq : ∀ h', Fr [] h h' → Q .non h') : (P03.fn_line_fault.go [.ref mn, .ref sn, enS s] h).wp Q E := by
  have iS : isOp (enS s) .non = some false := rfl
  have km := kind_mark s.loose
  unfold P03.fn_line_fault
  rw [w_defn]
  unfold P03.s_line_fault
  have sf := @spanFault_ok
  have n3 : 3 = P03.fn_span_fault.n := rfl
  generalize P03.fn_span_fault = SF at *
  try rw [w_seqF]
  wp_walk using iS, s5_0, km
  try rw [w_seqF]
  wp_walk using iS, s5_0, km
  exact ⟨n3, sf P hi gm gs hq⟩
/-- between two lines -/
def RdE (T : Nm) (mn sn ln : Nat) (env : Env) : Prop := ∃ o5 o6 o7 o8, env = [some (.str T), some (.ref mn), some (.ref sn), some (.ref ln), some (.bl true), o5, o6, o7, o8]
theorem readPlan_ok {p : Pln} {T : Nm} {h : Hs} {Q : D → Hs → Prop} {E : Ex → Hs → Prop} (P : P3 p) (hT : plT p = T) (hq : ∀ h', Fr [] h h' → Q (enP p) h') : (P03.fn_read_plan.go [.str T] h).wp Q E := by
  have mf := P.mf
  have rf := P.rf
  have lk := ln_many P.pl
  unfold P03.fn_read_plan
  rw [w_defn]
  unfold P03.s_read_plan
  try rw [w_seqF]
  wp_walk
  refine ⟨rfl, linesOf_ok P hT fun ln h1 gl F1 => ?_⟩
  wp_walk
  try rw [w_seqF]
  wp_walk
  have ll := get_lt gl
  have gm := gBc3 h1 []
  have gl := get_old (g := [Cell.lst []]) gl
  have F2 : Fr [] h (h1 ++ [Cell.lst []]) := F1.push
  have l1 : h.length ≤ h1.length := F1.1
  have lm : h1.length < (h1 ++ [Cell.lst []]).length := by simp
  generalize h1 ++ [Cell.lst []] = h2 at *
  generalize h1.length = mn at *
  try rw [w_seqF]
  wp_walk
  have gs := gBc3 h2 []
  have gm := get_old (g := [Cell.lst []]) gm
  have gl := get_old (g := [Cell.lst []]) gl
  have F3 : Fr [] h (h2 ++ [Cell.lst []]) := F2.push
  generalize h2 ++ [Cell.lst []] = h3 at *
  generalize h2.length = sn at *
  try rw [w_seqF]
  have rlm := @readMark_ok
  have rls := @readSpan_ok
  have n1 : 1 = P03.fn_read_line.n := rfl
  generalize P03.fn_read_line = RL at *
  have lfm := @lineMark_ok
  have lfs := @lineSpan_ok
  have n3 : 3 = P03.fn_line_fault.n := rfl
  generalize P03.fn_line_fault = LF at *
  refine w_for (((lnT p).map D.str).mapIdx fun i d => D.tup [.int (i : Nat), d]) (fun h' => h'[ln]? = some (.lst ((lnT p).map .str))) (fun i env h' => RdE T mn sn ln env ∧ h'[mn]? = some (.lst ((p.marks.take i).map .str)) ∧ h'[sn]? = some (.lst ((p.rows.take (i - p.marks.length)).map enS)) ∧ h'[ln]? = some (.lst ((lnT p).map .str)) ∧ Fr [] h h') ?_ (fun _ _ _ q => q.2.2.2.1) ?_ ?_
  · wp_walk using gl
    refine ⟨t_enu (t_cel _ _), ⟨_, _, _, _, rfl⟩, gm, ?_, F3⟩
    rw [Nat.zero_sub]; exact gs
  · rintro i x env h' hx ⟨⟨o5, o6, o7, o8, rfl⟩, gm, gs, gl, F⟩
    rw [List.getElem?_mapIdx] at hx
    obtain ⟨d, hd, rfl⟩ := Option.map_eq_some_iff.mp hx
    obtain ⟨l, hl, rfl⟩ := map_get hd
    have li := lt_of_get hl
    by_cases c : i < p.marks.length
    · obtain ⟨m, hm⟩ : ∃ m, p.marks[i]? = some m := ⟨_, List.getElem?_eq_getElem c⟩
      have el : mkT m = l := by
        unfold lnT at hl
        rw [List.getElem?_append_left (by rw [List.length_map]; exact c), List.getElem?_map, hm] at hl
        exact Option.some.inj hl
      have e0 : i - p.marks.length = 0 := by omega
      have e1 : i + 1 - p.marks.length = 0 := by omega
      rw [e0] at gs
      have gs : h'[sn]? = some (.lst []) := gs
      have et : p.marks.take (i + 1) = p.marks.take i ++ [m] := by rw [List.take_add_one, hm]; rfl
      have lt : (p.marks.take i).length ≤ 30 := by rw [List.length_take]; omega
      wp_walk
      try rw [w_seqF]
      wp_walk
      refine ⟨n1, rlm P (List.mem_of_getElem? hm) el fun h4 F4 => ?_⟩
      have gm := F4.get gm (by simp)
      have gs := F4.get gs (by simp)
      have gl := F4.get gl (by simp)
      wp_walk
      try rw [w_seqF]
      wp_walk
      refine ⟨n3, lfm P hm gm gs fun h5 F5 => ?_⟩
      have gm := F5.get gm (by simp)
      have gs := F5.get gs (by simp)
      have gl := F5.get gl (by simp)
      have FF := F.trans (F4.trans F5)
      have dm : decide (cs "mark" = cs "mark") = true := decide_eq_true rfl
      wp_walk
      try rw [w_seqF]
      wp_walk
      try rw [w_seqF]
      wp_walk using dm, gm
      rw [e1, et, List.map_append]
      exact ⟨by omega, ⟨_, _, _, _, rfl⟩, get_set gm, get_setne gs (by omega), get_setne gl (by omega), FF.setNew (by omega)⟩
    · obtain ⟨s, hs⟩ : ∃ s, p.rows[i - p.marks.length]? = some s := ⟨_, List.getElem?_eq_getElem (by unfold lnT at li; rw [List.length_append, List.length_map, List.length_map] at li; omega)⟩
      have el : spT s = l := by
        unfold lnT at hl
        rw [List.getElem?_append_right (by rw [List.length_map]; omega), List.length_map, List.getElem?_map, hs] at hl
        exact Option.some.inj hl
      have e1 : i + 1 - p.marks.length = (i - p.marks.length) + 1 := by omega
      have em : p.marks.take i = p.marks := List.take_of_length_le (by omega)
      have em1 : p.marks.take (i + 1) = p.marks := List.take_of_length_le (by omega)
      rw [em] at gm
      have et : p.rows.take (i - p.marks.length + 1) = p.rows.take (i - p.marks.length) ++ [s] := by rw [List.take_add_one, hs]; rfl
      have lt : (p.rows.take (i - p.marks.length)).length ≤ 60 := by rw [List.length_take]; omega
      wp_walk
      try rw [w_seqF]
      wp_walk
      refine ⟨n1, rls P (List.mem_of_getElem? hs) el fun h4 F4 => ?_⟩
      have gm := F4.get gm (by simp)
      have gs := F4.get gs (by simp)
      have gl := F4.get gl (by simp)
      wp_walk
      try rw [w_seqF]
      wp_walk
      refine ⟨n3, lfs P hs gm gs fun h5 F5 => ?_⟩
      have gm := F5.get gm (by simp)
      have gs := F5.get gs (by simp)
      have gl := F5.get gl (by simp)
      have FF := F.trans (F4.trans F5)
      have km := kind_mark s.loose
      wp_walk
      try rw [w_seqF]
      wp_walk
      try rw [w_seqF]
      wp_walk using s5_0, km, gs
      rw [e1, et, em1, List.map_append]
      exact ⟨by omega, ⟨_, _, _, _, rfl⟩, get_setne gm (by omega), get_set gs, get_setne gl (by omega), FF.setNew (by omega)⟩
  · rintro env h' ⟨⟨o5, o6, o7, o8, rfl⟩, gm, gs, gl, F⟩
    rw [List.length_mapIdx, List.length_map] at gm gs
    have lk2 : (lnT p).length = p.marks.length + p.rows.length := by unfold lnT; rw [List.length_append, List.length_map, List.length_map]
    rw [List.take_of_length_le (by omega)] at gm
    rw [List.take_of_length_le (by omega)] at gs
    wp_walk using gm, gs
    exact hq _ F
theorem looseOf_ok {p : Pln} {h : Hs} {Q : D → Hs → Prop} {E : Ex → Hs → Prop} (rf : p.rows.length ≤ 60) (hq : ∀ h', Fr [] h h' → Q (.tup ((srtM ((p.rows.filter Spn.loose).map Spn.name)).map .str)) h') : (P03.fn_loose_of.go [enP p] h).wp Q E := by
  unfold P03.fn_loose_of
  rw [w_defn]
  unfold P03.s_loose_of
  have fl := List.length_filter_le Spn.loose p.rows
  wp_walk
  refine w_lcG p.rows enS Spn.loose (fun s => .str s.name) (fun _ => True) (fun h' => h' = h) ?_ (fun _ _ => trivial) (by omega) ?_ ?_
  · wp_walk using ixM2'
    exact t_seq _ _
  · rintro i s h' hs rfl
    wp_walk using s5_0, k5_l
    refine wif_i (fun c => ?_) (fun c => ?_)
    · wp_walk using s5_1
      exact c
    · exact ⟨c, rfl⟩
  · rintro h1 rfl
    have e1 : (h1 ++ [Cell.lst ((p.rows.filter Spn.loose).map fun s => D.str s.name)])[h1.length]? = some (.lst (((p.rows.filter Spn.loose).map Spn.name).map .str)) := by rw [List.map_map]; exact gBc3 _ _
    have F1 : Fr [] h1 (h1 ++ [Cell.lst ((p.rows.filter Spn.loose).map fun s => D.str s.name)]) := .app
    generalize h1 ++ [Cell.lst ((p.rows.filter Spn.loose).map fun s => D.str s.name)] = h2 at *
    wp_walk
    rw [sorted_txt e1 (by rw [List.length_map]; omega)]
    wp_walk using gBc3
    exact hq _ F1.push
open PySem PySem.Spec PyProof.Rows L2
open PySem PySem.Spec PyProof.Rows L2
theorem dd_mem : ∀ (xs σ : List Nm) (x : Nm), x ∈ xs.foldl dsN σ ↔ x ∈ σ ∨ x ∈ xs
  | [], σ, x => by simp
  | y :: xs, σ, x => by
    rw [List.foldl_cons, dd_mem xs]
    unfold dsN
    by_cases c : y ∈ σ
    · rw [if_pos c]
      constructor
      · rintro (z | z)
        · exact .inl z
        · exact .inr (List.mem_cons_of_mem _ z)
      · rintro (z | z)
        · exact .inl z
        · rcases List.mem_cons.mp z with rfl | z
          · exact .inl c
          · exact .inr z
    · rw [if_neg c]
      simp [or_assoc]
theorem dd_nd : ∀ (xs σ : List Nm), σ.Nodup → (xs.foldl dsN σ).Nodup
  | [], σ, n => n
  | y :: xs, σ, n => by
    rw [List.foldl_cons]
    refine dd_nd xs _ ?_
    unfold dsN
    by_cases c : y ∈ σ
    · rw [if_pos c]; exact n
    · rw [if_neg c]
      refine List.nodup_append.mpr ⟨n, by simp, ?_⟩
      intro a ha b hb e
      rw [List.mem_singleton.mp hb] at e
      exact c (e ▸ ha)
theorem srt_mem {ys : List Nm} {x : Nm} : x ∈ srtN ys ↔ x ∈ ys := by
  unfold srtN ddN
  rw [(List.mergeSort_perm _ _).mem_iff, dd_mem]
  simp
theorem srt_len (ys : List Nm) : (srtN ys).length ≤ ys.length := by
  unfold srtN
  rw [(List.mergeSort_perm _ _).length_eq]
  exact ddN_le ys
theorem le_tr : ∀ a b c : Nm, decide (a ≤ b) = true → decide (b ≤ c) = true → decide (a ≤ c) = true := fun a b c h1 h2 => decide_eq_true (List.le_trans (of_decide_eq_true h1) (of_decide_eq_true h2))
theorem le_tt : ∀ a b : Nm, (decide (a ≤ b) || decide (b ≤ a)) = true := fun a b => by
  rcases List.le_total a b with h | h
  · rw [decide_eq_true h]; rfl
  · rw [decide_eq_true h, Bool.or_true]
theorem srt_asc (ys : List Nm) : (srtN ys).Pairwise (· < ·) := by
  have s : (srtN ys).Pairwise (fun a b => decide (a ≤ b) = true) := List.pairwise_mergeSort le_tr le_tt _
  have n : (srtN ys).Nodup := (List.mergeSort_perm _ _).nodup_iff.mpr (dd_nd ys [] List.nodup_nil)
  refine List.Pairwise.imp ?_ (List.pairwise_and_iff.mpr ⟨s, n⟩)
  rintro a b ⟨h1, h2⟩
  exact Std.lt_of_le_of_ne (of_decide_eq_true h1) h2
theorem refS_at {h : Hs} {n : Nat} {xs : List Nm} (e : h[n]? = some (.lst (xs.map .str))) : refS h (.ref n) = some xs := by
  show (seqH _ _).bind strsD = _
  rw [sq_ref, e, sqC_l]
  exact strsD_map _
theorem ssR_at (h : Hs) {ys : List Nm} (hl : ys.length ≤ 4000) : ssR h (some ys) = .ok (.ref h.length) (h ++ [.lst ((srtN ys).map .str)]) := if_pos hl
open PySem PySem.Spec PyProof.Rows L2
/-- one of a list's items, drawn -/
theorem pickB {b dg : Nat} {xs : List D} {m : Int} {h : Hs} {Q : D → Hs → Prop} {E : Ex → Hs → Prop} (hb : Bx b dg h) (hm : m = xs.length) (h0 : 0 < m) (hq : ∀ x h', x ∈ xs → Bx b dg h' → Fr [b] h h' → Q x h') :
    (PH.fn__law_draw.go [.ref b, .int m] (h ++ [Cell.lst xs])).wp (fun y h2 => (ixOp h2 (.ref h.length) y).wp Q E) E := by
  have lb := hb.lt
  refine draw_ok (hb.fr .app) h0 fun v h3 p q B3 F3 => ?_
  have g3 : (h ++ [Cell.lst xs])[h.length]? = some (.lst xs) := get_new1
  have g5 := F3.get g3 (by simp; omega)
  obtain ⟨n, rfl⟩ := Int.eq_ofNat_of_zero_le p
  have hn : n < xs.length := by omega
  rw [ix_ref, g5, ixC_l, atN, List.getElem?_eq_getElem hn]
  exact hq _ _ (List.getElem_mem hn) B3 (Fr.app.trans F3)
theorem cs_abcz : cs "abcz" = [97, 98, 99, 122] := by decide +kernel
theorem body_ch : ∀ d ∈ cs "abcdefghi0", (97 ≤ d ∧ d ≤ 122) ∨ (48 ≤ d ∧ d ≤ 57) := by decide +kernel
theorem body_len : (cs "abcdefghi0").length = 10 := by decide +kernel
theorem cs_x1 : cs "x" = [120] := by decide +kernel
theorem any_ne : ∀ c ∈ [97, 98, 99, 122], ∀ n ∈ List.range 11, ∀ t ∈ [([] : Nm), [120]], c :: ((cs "abcdefghi0").take n ++ t) ≠ zro := by decide +kernel
theorem anyName_ok {b dg : Nat} {h : Hs} {Q : D → Hs → Prop} {E : Ex → Hs → Prop} (hb : Bx b dg h) (hq : ∀ x h', OkN x → x ≠ zro → Bx b dg h' → Fr [b] h h' → Q (.str x) h') : (P03.fn__law_any_name.go [.ref b] h).wp Q E := by
  unfold P03.fn__law_any_name
  rw [w_defn]
  unfold P03.s__law_any_name
  rw [cs_abcz, cs_e, cs_x1]
  try rw [w_seqF]
  wp_walk
  refine ⟨rfl, draw_ok hb (by decide) fun v h1 p q B1 F1 => ?_⟩
  obtain ⟨n, rfl⟩ := Int.eq_ofNat_of_zero_le p
  have hn : n < [97, 98, 99, 122].length := by show n < 4; omega
  obtain ⟨c, hc⟩ : ∃ c, [97, 98, 99, 122][n]? = some c := ⟨_, List.getElem?_eq_getElem hn⟩
  have mc := List.mem_of_getElem? hc
  wp_walk using atN, hc
  refine ⟨rfl, draw_ok B1 (by decide) fun v2 h2 p2 q2 B2 F2 => ?_⟩
  obtain ⟨k, rfl⟩ := Int.eq_ofNat_of_zero_le p2
  have lt := List.length_take_le k (cs "abcdefghi0")
  have bl := body_len
  have lt2 : ((cs "abcdefghi0").take k).length ≤ 10 := by rw [List.length_take]; omega
  wp_walk using cut_to
  refine ⟨by omega, ?_⟩
  refine ⟨rfl, pickB B2 rfl (by decide) fun t h3 mt B3 F3 => ?_⟩
  obtain ⟨z, rfl, mz⟩ : ∃ z : Nm, t = .str z ∧ z ∈ [([] : Nm), [120]] := by
    simp only [List.mem_cons, List.not_mem_nil, or_false] at mt
    rcases mt with rfl | rfl
    · exact ⟨_, rfl, by simp⟩
    · exact ⟨_, rfl, by simp⟩
  clear mt
  have mz2 : z = [] ∨ z = [120] := by simpa using mz
  have lt3 : z.length ≤ 1 := by
    rcases mz2 with rfl | rfl <;> decide
  wp_walk
  refine ⟨by first | omega | (simp only [List.length_append, List.length_cons]; omega) | (simp; omega), ?_⟩
  have hc3 : 97 ≤ c ∧ c ≤ 122 := by
    have : c = 97 ∨ c = 98 ∨ c = 99 ∨ c = 122 := by simpa using mc
    omega
  refine hq _ _ ⟨?_, ⟨c, _, rfl, hc3.1, hc3.2⟩, fun d hd => ?_⟩ ?_ B3 (F1.trans (F2.trans F3))
  · rw [List.length_cons, List.length_append]; omega
  · rcases List.mem_cons.mp hd with rfl | hd
    · exact .inl hc3
    · rcases List.mem_append.mp hd with hd | hd
      · exact body_ch d (List.mem_of_mem_take hd)
      · rcases mz2 with rfl | rfl
        · cases hd
        · rw [List.mem_singleton.mp hd]; exact .inl ⟨by decide, by decide⟩
  · exact any_ne c mc k (List.mem_range.mpr (by omega)) z mz
theorem boundsW_ok {b dg : Nat} {h : Hs} {Q : D → Hs → Prop} {E : Ex → Hs → Prop} (hb : Bx b dg h) (hq : ∀ lo hi h', OkW lo hi → Bx b dg h' → Fr [b] h h' → Q (.tup [enO lo, enO hi]) h') : (PH.fn__law_bounds.go [.ref b, .bl true] h).wp Q E := by
  unfold PH.fn__law_bounds
  rw [w_defn]
  unfold PH.s__law_bounds
  try rw [w_seqF]
  wp_walk
  refine ⟨rfl, draw_ok hb (by decide) fun v1 h1 _ _ B1 F1 => ?_⟩
  wp_walk
  try rw [w_seqF]
  wp_walk
  refine ⟨rfl, draw_ok B1 (by decide) fun v2 h2 _ _ B2 F2 => ?_⟩
  wp_walk
  try rw [w_seqF]
  wp_walk
  try rw [w_seqF]
  wp_walk
  refine ⟨rfl, wide_ok B2 (by decide) fun v3 h3 p3 q3 B3 F3 => ?_⟩
  wp_walk
  refine ⟨rfl, pickB B3 rfl (by decide) fun x h4 mx B4 F4 => ?_⟩
  obtain ⟨l, rfl, l1, l2⟩ : ∃ l : Int, x = .int l ∧ -99999 ≤ l ∧ l ≤ 99999 := by
    simp only [List.mem_cons, List.not_mem_nil, or_false] at mx
    rcases mx with rfl | rfl | rfl | rfl
    · exact ⟨_, rfl, by decide, by decide⟩
    · exact ⟨_, rfl, by decide, by decide⟩
    · exact ⟨_, rfl, by decide, by decide⟩
    · exact ⟨_, rfl, by omega, by omega⟩
  wp_walk
  refine ⟨rfl, pickB B4 rfl (by decide) fun x h5 mx B5 F5 => ?_⟩
  obtain ⟨e, rfl, e1, e2⟩ : ∃ l : Int, x = .int l ∧ 0 ≤ l ∧ l ≤ 99999 := by
    simp only [List.mem_cons, List.not_mem_nil, or_false] at mx
    rcases mx with rfl | rfl | rfl
    · exact ⟨_, rfl, by decide, by decide⟩
    · exact ⟨_, rfl, by decide, by decide⟩
    · exact ⟨_, rfl, by decide, by decide⟩
  wp_walk
  obtain ⟨u, hu, u1, u2⟩ : ∃ u : Int, (if l + e < 99999 then l + e else 99999) = u ∧ l ≤ u ∧ u ≤ 99999 := by
    by_cases c : l + e < 99999
    · exact ⟨_, if_pos c, by omega, by omega⟩
    · exact ⟨_, if_neg c, by omega, by omega⟩
  rw [hu]
  refine ⟨rfl, pickB B5 rfl (by decide) fun x h6 mx B6 F6 => ?_⟩
  have F := F1.trans (F2.trans (F3.trans (F4.trans (F5.trans F6))))
  simp only [List.mem_cons, List.not_mem_nil, or_false] at mx
  rcases mx with rfl | rfl | rfl | rfl
  · exact hq (some l) (some u) _ ⟨.inl (by simp), fun i e => by cases e; omega, fun i e => by cases e; omega, fun i j e e' => by cases e; cases e'; omega⟩ B6 F
  · exact hq (some l) none _ ⟨.inl (by simp), fun i e => by cases e; omega, fun i e => by (cases e), fun i j e e' => by cases e'⟩ B6 F
  · exact hq none (some u) _ ⟨.inr (by simp), fun i e => by (cases e), fun i e => by cases e; omega, fun i j e e' => by cases e⟩ B6 F
  · exact hq (some l) (some u) _ ⟨.inl (by simp), fun i e => by cases e; omega, fun i e => by cases e; omega, fun i j e e' => by cases e; cases e'; omega⟩ B6 F
theorem spanW_ok {b dg mn : Nat} {nm : Nm} {ms : List Nm} {h : Hs} {Q : D → Hs → Prop} {E : Ex → Hs → Prop} (hb : Bx b dg h) (gm : h[mn]? = some (.lst (ms.map .str))) (hn : (zro :: ms).Nodup) (h0 : ms ≠ []) (hl : ms.length < 1000) (hq : ∀ x y lo hi h', x ∈ zro :: ms → y ∈ zro :: ms → x ≠ y → OkW lo hi → Bx b dg h' → Fr [b] h h' → Q (enS ⟨false, nm, x, y, lo, hi⟩) h') : (PH.fn__law_span.go [.ref b, .str nm, .ref mn, .bl true] h).wp Q E := by
  unfold PH.fn__law_span
  rw [w_defn]
  unfold PH.s__law_span
  have bok := @boundsW_ok
  have nb : 2 = PH.fn__law_bounds.n := rfl
  generalize PH.fn__law_bounds = BO at *
  have g0 : (h ++ [Cell.lst [D.str (cs "zero")]])[mn]? = some (.lst (ms.map .str)) := get_old gm
  wp_walk using g0
  have g1 : (h ++ [Cell.lst [D.str (cs "zero")]] ++ [Cell.lst (ms.map .str)])[h.length]? = some (.lst [.str (cs "zero")]) := get_old get_new1
  have g2 : (h ++ [Cell.lst [D.str (cs "zero")]] ++ [Cell.lst (ms.map .str)])[(h ++ [Cell.lst [D.str (cs "zero")]]).length]? = some (.lst (ms.map .str)) := get_new1
  wp_walk using g1, g2
  have F1 : Fr [] h (h ++ [Cell.lst [D.str (cs "zero")]] ++ [Cell.lst (ms.map .str)] ++ [Cell.lst (D.str (cs "zero") :: ms.map .str)]) := (Fr.app.push).push
  have g3 : (h ++ [Cell.lst [D.str (cs "zero")]] ++ [Cell.lst (ms.map .str)] ++ [Cell.lst (D.str (cs "zero") :: ms.map .str)])[(h ++ [Cell.lst [D.str (cs "zero")]] ++ [Cell.lst (ms.map .str)]).length]? = some (.lst ((zro :: ms).map .str)) := get_new1
  have l3 : b < (h ++ [Cell.lst [D.str (cs "zero")]] ++ [Cell.lst (ms.map .str)]).length := by have := hb.lt; simp; omega
  generalize h ++ [Cell.lst [D.str (cs "zero")]] ++ [Cell.lst (ms.map .str)] ++ [Cell.lst (D.str (cs "zero") :: ms.map .str)] = H at *
  generalize (h ++ [Cell.lst [D.str (cs "zero")]] ++ [Cell.lst (ms.map .str)]).length = e at *
  have lp : 0 < ms.length := List.length_pos_iff.mpr h0
  refine ⟨by omega, rfl, draw_ok (hb.fr F1) (by decide) fun v1 h1 p1 _ b1 f1 => ?_⟩
  have ne : e ∉ [b] := by simp; omega
  have g4 := f1.get g3 ne
  wp_walk using g4
  refine ⟨by omega, rfl, draw_ok b1 (by decide) fun v2 h2 p2 _ b2 f2 => ?_⟩
  have g5 := f2.get g4 ne
  wp_walk using g5
  refine ⟨by omega, by omega, ?_⟩
  have x1 := Int.emod_nonneg v1 (show ((ms.length + 1 : Nat) : Int) ≠ 0 by omega)
  have x2 := Int.emod_lt_of_pos v1 (show 0 < ((ms.length + 1 : Nat) : Int) by omega)
  have y1 := Int.emod_nonneg v2 (show ((ms.length + 1 : Nat) : Int) - 1 ≠ 0 by omega)
  have y2 := Int.emod_lt_of_pos v2 (show 0 < ((ms.length + 1 : Nat) : Int) - 1 by omega)
  generalize v1 % ((ms.length + 1 : Nat) : Int) = x at *
  generalize v2 % (((ms.length + 1 : Nat) : Int) - 1) = y at *
  have z1 := Int.emod_nonneg (x + 1 + y) (show ((ms.length + 1 : Nat) : Int) ≠ 0 by omega)
  have z2 := Int.emod_lt_of_pos (x + 1 + y) (show 0 < ((ms.length + 1 : Nat) : Int) by omega)
  have xz : x ≠ (x + 1 + y) % ((ms.length + 1 : Nat) : Int) := fun q => by
    have d := Int.emod_add_mul_ediv (x + 1 + y) ((ms.length + 1 : Nat) : Int)
    rw [← q] at d
    have d2 : ((ms.length + 1 : Nat) : Int) * ((x + 1 + y) / ((ms.length + 1 : Nat) : Int)) = 1 + y := by omega
    have : (x + 1 + y) / ((ms.length + 1 : Nat) : Int) = 0 ∨ 1 ≤ (x + 1 + y) / ((ms.length + 1 : Nat) : Int) ∨ (x + 1 + y) / ((ms.length + 1 : Nat) : Int) ≤ -1 := by omega
    rcases this with k | k | k
    · rw [k] at d2; omega
    · have := Int.mul_le_mul_of_nonneg_left k (show 0 ≤ ((ms.length + 1 : Nat) : Int) by omega)
      omega
    · have := Int.mul_le_mul_of_nonneg_left k (show 0 ≤ ((ms.length + 1 : Nat) : Int) by omega)
      omega
  generalize (x + 1 + y) % ((ms.length + 1 : Nat) : Int) = z at *
  obtain ⟨i, rfl⟩ := Int.eq_ofNat_of_zero_le x1
  obtain ⟨j, rfl⟩ := Int.eq_ofNat_of_zero_le z1
  have hi : i < (zro :: ms).length := by simp; omega
  have hj : j < (zro :: ms).length := by simp; omega
  have gi : (D.str zro :: ms.map .str)[i]? = some (.str (zro :: ms)[i]) := by rw [← List.map_cons, List.getElem?_map, List.getElem?_eq_getElem hi]; rfl
  have gj : (D.str zro :: ms.map .str)[j]? = some (.str (zro :: ms)[j]) := by rw [← List.map_cons, List.getElem?_map, List.getElem?_eq_getElem hj]; rfl
  wp_walk using g5, atN, gi, gj
  refine ⟨nb, bok b2 fun lo hi' h3 ok b3 f3 => ?_⟩
  wp_walk
  exact hq _ _ lo hi' _ (List.getElem_mem hi) (List.getElem_mem hj) (fun q => xz (by have := (List.getElem_inj hn).mp q; omega)) ok b3 (F1.up.trans (f1.trans (f2.trans f3)))
open PySem PySem.Spec PyProof.Rows L2
def LsW (ms : List Nm) (s : Spn) : Prop := (∃ (l u : Int), s.lo = some l ∧ s.hi = some u ∧ 1 ≤ l ∧ l ≤ u ∧ u ≤ 99999) ∧ ∃ j : Nat, ms[j]? = some s.b ∧ (s.a = zro ∨ ∃ i : Nat, i < j ∧ ms[i]? = some s.a)
structure GW (ms : List Nm) (k : Nat) (rows : List Spn) (es : List Nm) : Prop where
  ok : ∀ s ∈ rows, s.a ∈ zro :: ms ∧ s.b ∈ zro :: ms ∧ s.a ≠ s.b
  bd : ∀ s ∈ rows, OkW s.lo s.hi
  ls : ∀ s ∈ rows, s.loose = true → LsW ms s ∧ s.b ∈ es
  nm : ∀ s ∈ rows, ∃ j, j < k ∧ s.name = sNm "s" j
  nd : (rows.map Spn.name).Nodup
  le : ((rows.filter Spn.loose).map Spn.b).Nodup
  ln : rows.length ≤ k
theorem GW.nil (ms : List Nm) : GW ms 0 [] [] := ⟨fun _ q => (nomatch q), fun _ q => (nomatch q), fun _ q => (nomatch q), fun _ q => (nomatch q), List.nodup_nil, List.nodup_nil, Nat.le_refl _⟩
theorem GW.more {ms : List Nm} {k : Nat} {rows : List Spn} {es es' : List Nm} {s : Spn} (g : GW ms k rows es) (hk : k < 30) (h1 : s.a ∈ zro :: ms ∧ s.b ∈ zro :: ms ∧ s.a ≠ s.b) (h2 : OkW s.lo s.hi) (h3 : s.loose = true → LsW ms s ∧ s.b ∉ es ∧ s.b ∈ es') (he : ∀ x ∈ es, x ∈ es') (hn : s.name = sNm "s" k) : GW ms (k + 1) (rows ++ [s]) es' where
  ok := fun r m => by
    rcases List.mem_append.mp m with m | m
    · exact g.ok r m
    · rw [List.mem_singleton.mp m]; exact h1
  bd := fun r m => by
    rcases List.mem_append.mp m with m | m
    · exact g.bd r m
    · rw [List.mem_singleton.mp m]; exact h2
  ls := fun r m l => by
    rcases List.mem_append.mp m with m | m
    · exact ⟨(g.ls r m l).1, he _ (g.ls r m l).2⟩
    · rw [List.mem_singleton.mp m] at l ⊢; exact ⟨(h3 l).1, (h3 l).2.2⟩
  nm := fun r m => by
    rcases List.mem_append.mp m with m | m
    · obtain ⟨j, a, b⟩ := g.nm r m
      exact ⟨j, by omega, b⟩
    · rw [List.mem_singleton.mp m]; exact ⟨k, by omega, hn⟩
  nd := by
    rw [List.map_append, List.nodup_append]
    refine ⟨g.nd, by simp, fun a ha b hb => ?_⟩
    obtain ⟨r, hr, rfl⟩ := List.mem_map.mp ha
    rw [List.map_singleton, List.mem_singleton] at hb
    rw [hb, hn]
    obtain ⟨j, hj, e⟩ := g.nm r hr
    rw [e]
    intro q
    have := num_inj j (by omega) k (by omega) (List.append_cancel_left q)
    omega
  le := by
    rw [List.filter_append, List.map_append]
    cases c : s.loose with
    | false =>
      have : [s].filter Spn.loose = [] := by simp [c]
      rw [this, List.map_nil, List.append_nil]; exact g.le
    | true =>
      have : [s].filter Spn.loose = [s] := by simp [c]
      rw [this, List.nodup_append]
      refine ⟨g.le, by simp, fun a ha b hb => ?_⟩
      obtain ⟨r, hr, rfl⟩ := List.mem_map.mp ha
      obtain ⟨hr, lr⟩ := List.mem_filter.mp hr
      rw [List.map_singleton, List.mem_singleton] at hb
      rw [hb]
      intro q
      exact (h3 c).2.1 (q ▸ (g.ls r hr lr).2)
  ln := by
    rw [List.length_append, List.length_singleton]
    have := g.ln
    omega
theorem sNm_ok {k : Nat} (h : k < 60) : OkN (sNm "s" k) ∧ sNm "s" k ≠ zro := by
  have l := num_len k h
  have e : sNm "s" k = 115 :: cs (toString ((k : Nat) : Int)) := by unfold sNm; rw [cs_s]; rfl
  refine ⟨⟨by rw [e, List.length_cons]; omega, ⟨115, _, e, by decide, by decide⟩, sNm_ch h (.inl rfl)⟩, fun z => ?_⟩
  have z1 := congrArg List.head? z
  rw [e] at z1
  have z2 : zro.head? = some 122 := by decide +kernel
  rw [z2] at z1
  cases z1
theorem idx_rank {ms : List Nm} (nd : ms.Nodup) {i : Nat} {x : Nm} (h : ms[i]? = some x) : ms.idxOf x = i := by
  obtain ⟨l, rfl⟩ := List.getElem?_eq_some_iff.mp h
  exact nd.idxOf_getElem i l
/-- ranks for loose spans that lead from a mark to a later one -/
theorem rank_of {ms : List Nm} (nd : (zro :: ms).Nodup) {rows : List Spn} (h : ∀ s ∈ rows, s.loose = true → ∃ j : Nat, ms[j]? = some s.b ∧ (s.a = zro ∨ ∃ i : Nat, i < j ∧ ms[i]? = some s.a)) : ∃ r : Nm → Nat, ∀ s ∈ rows, s.loose = true → r s.a < r s.b := by
  rw [List.nodup_cons] at nd
  refine ⟨fun x => if x = zro then 0 else ms.idxOf x + 1, fun s hs l => ?_⟩
  obtain ⟨j, hj, q⟩ := h s hs l
  have nz : ∀ {i : Nat} {x : Nm}, ms[i]? = some x → x ≠ zro := fun hx z => nd.1 (z ▸ List.mem_of_getElem? hx)
  dsimp only
  rw [if_neg (nz hj), idx_rank nd.2 hj]
  rcases q with q | ⟨i, hi, q⟩
  · rw [q, if_pos rfl]; omega
  · rw [if_neg (nz q), idx_rank nd.2 q]; omega
theorem GW.p3 {ms : List Nm} {k : Nat} {rows : List Spn} {es : List Nm} (g : GW ms k rows es) (hk : k ≤ 8) (mo : ∀ m ∈ ms, OkN m ∧ m ≠ zro) (asc : ms.Pairwise (· < ·)) (ml : ms.length ≤ 30) : P3 ⟨ms, rows⟩ where
  mo := mo
  asc := asc
  mf := ml
  sn := fun s hs => by
    obtain ⟨j, hj, e⟩ := g.nm s hs
    rw [e]; exact sNm_ok (by omega)
  ab := g.ok
  bd := g.bd
  ls := fun s hs l => by
    obtain ⟨⟨⟨lo, u, e1, e2, a, b, c⟩, j, hj, _⟩, _⟩ := g.ls s hs l
    exact ⟨(mo _ (List.mem_of_getElem? hj)).2, lo, u, e1, e2, a, b, c⟩
  nd := g.nd
  le := g.le
  rf := by have := g.ln; show rows.length ≤ 60; omega
  lf := by
    have := g.ln
    have := List.length_filter_le Spn.loose rows
    show (rows.filter Spn.loose).length ≤ 8
    omega
  rk := rank_of (ms := ms) (List.nodup_cons.mpr ⟨fun m => (mo _ m).2 rfl, asc.imp fun h e => by subst e; exact List.lt_irrefl _ h⟩) fun s hs l => (g.ls s hs l).1.2
theorem GP.p3 {p : Pln} (g : GP p) (hl : (p.rows.filter Spn.loose).length ≤ 8) : P3 p := by
  obtain ⟨n, hn, e⟩ := g.n
  have wp := g.wp
  have abcOk : ∀ m ∈ abc, (m.length = 1 ∧ (∀ c ∈ m, 97 ≤ c ∧ c ≤ 103)) ∧ m ≠ zro := by decide +kernel
  have abcA : abc.Pairwise (· < ·) := by decide +kernel
  refine ⟨fun m hm => ?_, by rw [e]; exact abcA.sublist (List.take_sublist _ _), by rw [e, List.length_take]; omega, fun s hs => ?_, g.rows.ok, fun s hs => ?_, fun s hs l => ?_, g.rows.nd, g.rows.le, by have := g.few; omega, hl, ?_⟩
  · rw [e] at hm
    obtain ⟨⟨a, b⟩, c⟩ := abcOk m (List.mem_of_mem_take hm)
    refine ⟨⟨by omega, ?_, fun c hc => .inl (by have := b c hc; omega)⟩, c⟩
    cases m with
    | nil => cases a
    | cons d r => exact ⟨d, r, rfl, by have := b d List.mem_cons_self; omega⟩
  · have n1 := g.rows.nl s hs
    have n2 := g.rows.nu s hs
    have n3 := g.rows.na s hs
    refine ⟨⟨by omega, ?_, n3⟩, fun z => by
      have z2 : zro.head? = some 122 := by decide +kernel
      rw [z, z2] at n2; rcases n2 with n2 | n2 <;> cases n2⟩
    generalize s.name = x at *
    cases x with
    | nil => rcases n2 with n2 | n2 <;> cases n2
    | cons d r => exact ⟨d, r, rfl, by rcases n2 with n2 | n2 <;> cases n2 <;> decide⟩
  · have o := g.rows.bd s hs
    exact ⟨o.one, fun i e => by have := o.l i e; omega, fun i e => by have := o.u i e; omega, o.le⟩
  · obtain ⟨lo, u, e1, e2, a, b, c, d, j, hj, _⟩ := g.rows.ls s hs l
    refine ⟨fun z => ?_, lo, u, e1, e2, a, b, by omega⟩
    rw [z] at hj
    exact (List.nodup_cons.mp wp.nd).1 (List.mem_of_getElem? hj)
  · refine rank_of wp.nd fun s hs l => ?_
    obtain ⟨lo, u, e1, e2, a, b, c, d, j, hj, q⟩ := g.rows.ls s hs l
    exact ⟨j, hj, q⟩
open PySem PySem.Spec PyProof.Rows L2
/-- for x in xs, the list known when it is made -/
theorem w_forY {N : Po} {env : Env} {h : Hs} {s : Sv} {t : Tg} {b els : Sf}
    (hs : (s env h).wp (fun src h1 => ∃ (xs : List D) (J : Hs → Prop) (I : Nat → Env → Hs → Prop), Tells src xs J ∧ I 0 env h1 ∧ (∀ i env h, I i env h → J h) ∧
      (∀ i x env h, xs[i]? = some x → I i env h → (asgT t x env h).wp (fun env1 h1 => (b env1 h1).wp ⟨I (i + 1), N.nx, I (i + 1), N.rt, N.ex⟩) (fun _ _ => False)) ∧
      (∀ env h, I xs.length env h → (els env h).wp N)) (fun e h1 => N.ex e env h1)) : (forF s t b els env h).wp N := by
  unfold forF
  rw [w_fl]
  refine Res.wp_q hs fun src h1 q => ?_
  obtain ⟨xs, J, I, q1, q2, q3, q4, q5⟩ := q
  have := w_for (s := fun _ _ => .ok src h1) (t := t) (b := b) (els := els) (env := env) (h := h) (N := N) xs J I (show Tells src xs J ∧ I 0 env h1 from ⟨q1, q2⟩) q3 q4 q5
  unfold forF at this
  rw [w_fl] at this
  exact this
/-- [e for x in xs], the list known when it is made -/
theorem w_lcY {QD : D → Hs → Prop} {E : Ex → Hs → Prop} {env : Env} {h : Hs} {s : Sv} {t : Tg} {c : Option Ev} {e : Ev} {vs : List Nat}
    (hs : (s env h).wp (fun src h1 => ∃ (xs : List D) (J : Hs → Prop) (I : Nat → List D → Hs → Prop), Tells src xs J ∧ I 0 [] h1 ∧ (∀ i acc h, I i acc h → J h) ∧ (∀ i acc h, I i acc h → acc.length < lim + 1) ∧
      (∀ i x acc h, xs[i]? = some x → I i acc h → (asgT t x (wipeE env vs) h).wp (fun env1 h1 => (lcC c env1 h1).wp (fun b h2 => wif b ((e env1 h2).wp (fun y h3 => acc.length < lim ∧ I (i + 1) (acc ++ [y]) h3) (fun _ _ => False)) (I (i + 1) acc h2)) (fun _ _ => False)) (fun _ _ => False)) ∧
      (∀ acc h, I xs.length acc h → QD (.ref h.length) (h ++ [.lst acc]))) E) : (lcE s t c e vs env h).wp QD E := by
  unfold lcE
  rw [w_bind]
  refine Res.wp_q hs fun src h1 q => ?_
  obtain ⟨xs, J, I, q1, q2, q3, q4, q5, q6⟩ := q
  have := w_lc (s := fun _ _ => .ok src h1) (t := t) (c := c) (e := e) (vs := vs) (env := env) (h := h) (QD := QD) (E := E) xs J I (show Tells src xs J ∧ I 0 [] h1 from ⟨q1, q2⟩) q3 q4 q5 q6
  unfold lcE at this
  rw [w_bind] at this
  exact this
/-- between two rows -/
def WpE (b mn rl el : Nat) (env : Env) : Prop := ∃ o2 o5 o6 o7 o8, env = [some (.ref b), some (.ref mn), o2, some (.ref rl), some (.ref el), o5, o6, o7, o8]
theorem widePlan_ok {b dg : Nat} {h : Hs} {Q : D → Hs → Prop} {E : Ex → Hs → Prop} (hb : Bx b dg h) (hq : ∀ p h', P3 p → Bx b dg h' → Fr [b] h h' → Q (enP p) h') : (P03.fn__law_wide_plan.go [.ref b] h).wp Q E := by
  unfold P03.fn__law_wide_plan
  rw [w_defn]
  unfold P03.s__law_wide_plan
  try rw [w_seqF]
  have ano := @anyName_ok
  have na : 1 = P03.fn__law_any_name.n := rfl
  generalize P03.fn__law_any_name = AN at *
  have spo := @spanW_ok
  have nsp : 4 = PH.fn__law_span.n := rfl
  generalize PH.fn__law_span = SP at *
  have wio := @wide_ok
  have nwi : 2 = PH.fn__law_wide.n := rfl
  generalize PH.fn__law_wide = WI at *
  wp_walk using w_ssE
  refine w_lcY ?_
  wp_walk
  refine ⟨rfl, draw_ok hb (by decide) fun v h1 p q B1 F1 => ?_⟩
  obtain ⟨n, rfl⟩ := Int.eq_ofNat_of_zero_le p
  have sn : small (n : Int) = true := by unfold small; simp; omega
  wp_walk using sn
  refine ⟨(List.range n).map fun i => .int ((i : Nat) : Int), fun _ => True, fun i acc h' => ∃ ys : List Nm, acc = ys.map .str ∧ ys.length = i ∧ i ≤ 6 ∧ (∀ m ∈ ys, OkN m ∧ m ≠ zro) ∧ Bx b dg h' ∧ Fr [b] h h', by rw [Int.toNat_natCast]; exact t_rng0 n _, ⟨[], rfl, rfl, by omega, (fun _ m => nomatch m), B1, F1⟩, fun _ _ _ _ => trivial, ?_, ?_, ?_⟩
  · rintro i acc h' ⟨ys, rfl, l, l6, _⟩
    rw [List.length_map]
    show _ < 16777217
    omega
  · rintro i x acc h' hx ⟨ys, rfl, l, l6, ok, B, F⟩
    obtain ⟨hi, rfl⟩ := range_get0 hx
    wp_walk
    refine ⟨na, ano B fun x h2 o1 o2 B2 F2 => ⟨by rw [List.length_map]; omega, ys ++ [x], by rw [List.map_append]; rfl, by rw [List.length_append, l]; rfl, by omega, fun m hm => ?_, B2, F.trans F2⟩⟩
    rcases List.mem_append.mp hm with hm | hm
    · exact ok m hm
    · rw [List.mem_singleton.mp hm]; exact ⟨o1, o2⟩
  rintro acc h2 ⟨ys, rfl, l, l6, ok, B2, F2⟩
  have g2 : (h2 ++ [Cell.lst (ys.map D.str)])[h2.length]? = some (.lst (ys.map .str)) := get_new1
  rw [refS_at g2, ssR_at _ (by omega)]
  have gm := gBc3 (h2 ++ [Cell.lst (ys.map D.str)]) ((srtN ys).map D.str)
  have lm0 := get_lt gm
  have F3 : Fr [b] h (h2 ++ [Cell.lst (ys.map D.str)] ++ [Cell.lst ((srtN ys).map D.str)]) := F2.push.push
  have B3 : Bx b dg (h2 ++ [Cell.lst (ys.map D.str)] ++ [Cell.lst ((srtN ys).map D.str)]) := (B2.fr .app).fr .app
  have mo : ∀ m ∈ srtN ys, OkN m ∧ m ≠ zro := fun m hm => ok m (srt_mem.mp hm)
  have asc := srt_asc ys
  have ml : (srtN ys).length ≤ 6 := by have := srt_len ys; omega
  have lb := B2.lt
  have ld := B2.ltd
  have mb : (h2 ++ [Cell.lst (ys.map D.str)]).length ≠ b ∧ (h2 ++ [Cell.lst (ys.map D.str)]).length ≠ dg := by
    rw [List.length_append]; omega
  clear ok l g2 F1 F2 B1 B2 hb lb ld
  generalize h2 ++ [Cell.lst (ys.map D.str)] ++ [Cell.lst ((srtN ys).map D.str)] = h3 at *
  generalize (h2 ++ [Cell.lst (ys.map D.str)]).length = mn at *
  generalize srtN ys = ms at *
  have nd : (zro :: ms).Nodup := List.nodup_cons.mpr ⟨fun m => (mo _ m).2 rfl, asc.imp fun h e => by subst e; exact List.lt_irrefl _ h⟩
  wp_walk
  try rw [w_seqF]
  wp_walk
  have g1 : (h3 ++ [Cell.lst []] ++ [Cell.lst []])[h3.length]? = some (.lst []) := get_old get_new1
  have g2 : (h3 ++ [Cell.lst []] ++ [Cell.lst []])[(h3 ++ [Cell.lst []]).length]? = some (.lst []) := get_new1
  have gm := get_old (g := [Cell.lst []]) (get_old (g := [Cell.lst []]) gm)
  have F4 : Fr [b] h (h3 ++ [Cell.lst []] ++ [Cell.lst []]) := F3.push.push
  have B4 : Bx b dg (h3 ++ [Cell.lst []] ++ [Cell.lst []]) := (B3.fr .app).fr .app
  have lb := B3.lt
  have ld := B3.ltd
  have dis : (h3 ++ [Cell.lst []]).length = h3.length + 1 := by simp
  have l3 : h.length ≤ h3.length := F3.1
  generalize h3 ++ [Cell.lst []] ++ [Cell.lst []] = h4 at *
  generalize (h3 ++ [Cell.lst []]).length = el at *
  generalize h3.length = rl at *
  try rw [w_seqF]
  refine w_forY (Res.wp_q (Q := fun src h1 => ∃ n, src = rngSrc 0 1 n ∧ n ≤ 6 ∧ (0 < n → ms ≠ []) ∧ h1[mn]? = some (.lst (ms.map .str)) ∧ h1[rl]? = some (.lst []) ∧ h1[el]? = some (.lst []) ∧ Bx b dg h1 ∧ Fr [b] h h1) ?_ ?_)
  · wp_walk
    have eE : eqOp (h4 ++ [Cell.lst []]) (.ref mn) (.ref h4.length) = some ms.isEmpty := by
      rw [eq_refs (get_old gm) (gBc3 _ _) (flts_str 50 ms) (by rfl)]
      cases ms <;> rfl
    wp_walk using eE
    have gm5 := get_old (g := [Cell.lst []]) gm
    have g15 := get_old (g := [Cell.lst []]) g1
    have g25 := get_old (g := [Cell.lst []]) g2
    have B5 := B4.fr (Fr.app (g := [Cell.lst []]))
    have F5 : Fr [b] h (h4 ++ [Cell.lst []]) := F4.push
    generalize h4 ++ [Cell.lst []] = h5 at *
    cases em : ms.isEmpty with
    | true =>
      wp_walk
      exact ⟨by rfl, 0, rfl, by omega, (fun z => absurd z (by omega)), gm5, g15, g25, B5, F5⟩
    | false =>
      wp_walk
      refine ⟨rfl, draw_ok B5 (by decide) fun v h6 p q B6 F6 => ?_⟩
      obtain ⟨n, rfl⟩ := Int.eq_ofNat_of_zero_le p
      have sn : small (n : Int) = true := by unfold small; simp; omega
      wp_walk using sn
      exact ⟨n, by rw [Int.toNat_natCast], by omega, (fun _ z => by rw [z] at em; cases em), F6.get gm5 (by simp; omega), F6.get g15 (by simp; omega), F6.get g25 (by simp; omega), B6, F5.trans F6⟩
  rintro src h5 ⟨n, rfl, n6, mne, gm5, g15, g25, B5, F5⟩
  clear gm g1 g2 B4 F4 B3 F3
  refine ⟨(List.range n).map fun i => .int ((i : Nat) : Int), fun _ => True, fun i env h' => WpE b mn rl el env ∧ ∃ rows es, h'[mn]? = some (.lst (ms.map .str)) ∧ h'[rl]? = some (.lst (rows.map enS)) ∧ h'[el]? = some (.lst (es.map .str)) ∧ GW ms i rows es ∧ es.length ≤ i ∧ Bx b dg h' ∧ Fr [b] h h', t_rng0 n _, ⟨⟨_, _, _, _, _, rfl⟩, [], [], gm5, g15, g25, GW.nil ms, Nat.le_refl _, B5, F5⟩, fun _ _ _ _ => trivial, ?_, ?_⟩
  rotate_left
  · rintro env h6 ⟨⟨o2, o5, o6, o7, o8, rfl⟩, rows, es, gm, gr, ge, gw, le, B, F⟩
    rw [List.length_map, List.length_range] at gw
    wp_walk using gm, gr
    exact hq ⟨ms, rows⟩ _ (gw.p3 (by omega) mo asc (by omega)) B F
  rintro k x env h6 hx ⟨⟨o2, o5, o6, o7, o8, rfl⟩, rows, es, gm, gr, ge, gw, les, B, F⟩
  obtain ⟨hk, rfl⟩ := range_get0 hx
  have m0 := mne (by omega)
  have ln := num_len k (by omega)
  have lw := gw.ln
  clear hx gm5 g15 g25 B5 F5
  wp_walk
  try rw [w_seqF]
  wp_walk using num_log (show k < 1900 by omega)
  refine ⟨by rw [cs_s, show ([115] : List Nat).length = 1 from rfl]; omega, nsp, spo B gm nd m0 (by omega) fun x y lo hi h7 hx hy ne ow B7 F7 => ?_⟩
  have eN : cs "s" ++ cs (toString ((k : Nat) : Int)) = sNm "s" k := rfl
  rw [eN]
  have gm := F7.get gm (by simp; omega)
  have gr := F7.get gr (by simp; omega)
  have ge := F7.get ge (by simp; omega)
  have F7 := F.trans F7
  wp_walk
  refine w_cut (fun env h' => ∃ j : Nat, j < ms.length ∧ env = [some (.ref b), some (.ref mn), some (.int (k : Nat)), some (.ref rl), some (.ref el), some (enS ⟨false, sNm "s" k, x, y, lo, hi⟩), some (.int (j : Nat)), o7, o8] ∧ h'[mn]? = some (.lst (ms.map .str)) ∧ h'[rl]? = some (.lst (rows.map enS)) ∧ h'[el]? = some (.lst (es.map .str)) ∧ Bx b dg h' ∧ Fr [b] h h') ?_ ?_
  · wp_walk
    refine ⟨rfl, draw_ok B7 (by decide) fun v h8 p q B8 F8 => ?_⟩
    have gm := F8.get gm (by simp; omega)
    have gr := F8.get gr (by simp; omega)
    have ge := F8.get ge (by simp; omega)
    have F8 := F7.trans F8
    have lp := List.length_pos_iff.mpr m0
    wp_walk using gm
    refine ⟨by omega, ?_⟩
    have z1 := Int.emod_nonneg v (show (ms.length : Int) ≠ 0 by omega)
    have z2 := Int.emod_lt_of_pos v (show 0 < (ms.length : Int) by omega)
    generalize v % (ms.length : Int) = z at *
    obtain ⟨j, rfl⟩ := Int.eq_ofNat_of_zero_le z1
    exact ⟨j, by omega, rfl, gr, ge, B8, F8⟩
  clear gm gr ge B7 F7 B F
  rintro env h8 ⟨j, hj, rfl, gm, gr, ge, B8, F8⟩
  have gj : (ms.map D.str)[j]? = some (.str ms[j]) := by rw [List.getElem?_map, List.getElem?_eq_getElem hj]; rfl
  refine w_cut (fun env h' => ∃ (s : Spn) (es' : List Nm), (∃ o7 o8, env = [some (.ref b), some (.ref mn), some (.int (k : Nat)), some (.ref rl), some (.ref el), some (enS s), some (.int (j : Nat)), o7, o8]) ∧ h'[mn]? = some (.lst (ms.map .str)) ∧ h'[rl]? = some (.lst (rows.map enS)) ∧ h'[el]? = some (.lst (es'.map .str)) ∧ GW ms (k + 1) (rows ++ [s]) es' ∧ es'.length ≤ k + 1 ∧ Bx b dg h' ∧ Fr [b] h h') ?_ ?_
  rotate_left
  · rintro env h9 ⟨s, es', ⟨o7, o8, rfl⟩, gm, gr, ge, gw, le', B, F⟩
    wp_walk using gr
    refine ⟨by omega, ⟨_, _, _, _, _, rfl⟩, rows ++ [s], es', get_setne gm (by omega), by rw [get_set gr, List.map_append]; rfl, get_setne ge (by omega), gw, le', B.set (by omega) (by omega), F.setNew (by omega)⟩
  have keep : GW ms (k + 1) (rows ++ [⟨false, sNm "s" k, x, y, lo, hi⟩]) es := gw.more (by omega) ⟨hx, hy, ne⟩ ow (fun z => nomatch z) (fun _ m => m) rfl
  wp_walk
  refine ⟨rfl, draw_ok B8 (by decide) fun v2 h9 p q B9 F9 => ?_⟩
  have gm := F9.get gm (by simp; omega)
  have gr := F9.get gr (by simp; omega)
  have ge := F9.get ge (by simp; omega)
  have F9 := F8.trans F9
  wp_walk
  refine wif_d (fun _ => ?_) (fun c0 => ?_)
  rotate_left
  · wp_walk
    rw [decide_eq_false c0]
    wp_walk
    exact ⟨⟨false, sNm "s" k, x, y, lo, hi⟩, es, ⟨_, _, rfl⟩, gm, gr, ge, keep, by omega, B9, F9⟩
  wp_walk using gm, atN, gj, ge, in_strs
  by_cases ci : ms[j] ∈ es
  · wp_walk using decide_eq_true ci
    exact ⟨⟨false, sNm "s" k, x, y, lo, hi⟩, es, ⟨_, _, rfl⟩, gm, gr, ge, keep, by omega, B9, F9⟩
  wp_walk using decide_eq_false ci
  wp_walk using gm, ge, gj, atN
  refine ⟨by omega, ?_⟩
  have ge := get_set (c := .lst (es.map D.str ++ [D.str ms[j]])) ge
  have gm : (h9.set el (.lst (es.map D.str ++ [D.str ms[j]])))[mn]? = some (.lst (ms.map .str)) := get_setne gm (by omega)
  have gr : (h9.set el (.lst (es.map D.str ++ [D.str ms[j]])))[rl]? = some (.lst (rows.map enS)) := get_setne gr (by omega)
  have B9 : Bx b dg (h9.set el (.lst (es.map D.str ++ [D.str ms[j]]))) := B9.set (by omega) (by omega)
  have F9 : Fr [b] h (h9.set el (.lst (es.map D.str ++ [D.str ms[j]]))) := F9.setNew (by omega)
  generalize h9.set el (.lst (es.map D.str ++ [D.str ms[j]])) = hA at *
  refine ⟨nwi, wio B9 (by decide) fun w hB pw qw BB FB => ?_⟩
  have gm := FB.get gm (by simp; omega)
  have gr := FB.get gr (by simp; omega)
  have ge := FB.get ge (by simp; omega)
  have FB := F9.trans FB
  wp_walk
  refine ⟨rfl, pickB BB rfl (by decide) fun t hC mt BC FC => ?_⟩
  have gm := FC.get gm (by simp; omega)
  have gr := FC.get gr (by simp; omega)
  have ge := FC.get ge (by simp; omega)
  have FC := FB.trans FC
  obtain ⟨l, rfl, l1, l2⟩ : ∃ l : Int, t = .int l ∧ 1 ≤ l ∧ l ≤ 99999 := by
    simp only [List.mem_cons, List.not_mem_nil, or_false] at mt
    rcases mt with rfl | rfl | rfl
    · exact ⟨_, rfl, by decide, by decide⟩
    · exact ⟨_, rfl, by decide, by decide⟩
    · exact ⟨_, rfl, by omega, by omega⟩
  clear mt
  have lm := get_lt gm
  have ga : (hC ++ [Cell.lst [D.str (cs "zero")]])[mn]? = some (.lst (ms.map .str)) := get_old gm
  wp_walk
  refine w_cut (fun env h' => ∃ a : Nm, (a = zro ∨ ∃ i : Nat, i < j ∧ ms[i]? = some a) ∧ env = [some (.ref b), some (.ref mn), some (.int (k : Nat)), some (.ref rl), some (.ref el), some (enS ⟨false, sNm "s" k, x, y, lo, hi⟩), some (.int (j : Nat)), some (.int l), some (.str a)] ∧ h'[mn]? = some (.lst (ms.map .str)) ∧ h'[rl]? = some (.lst (rows.map enS)) ∧ h'[el]? = some (.lst (es.map D.str ++ [D.str ms[j]])) ∧ Bx b dg h' ∧ Fr [b] h h') ?_ ?_
  · wp_walk using ga, ofL_s, cut_to
    have t1 : (hC ++ [Cell.lst [D.str (cs "zero")]] ++ [Cell.lst ((ms.map D.str).take j)])[hC.length]? = some (.lst [D.str (cs "zero")]) := get_old get_new1
    have t2 : (hC ++ [Cell.lst [D.str (cs "zero")]] ++ [Cell.lst ((ms.map D.str).take j)])[(hC ++ [Cell.lst [D.str (cs "zero")]]).length]? = some (.lst ((ms.map D.str).take j)) := get_new1
    have t3 : (hC ++ [Cell.lst [D.str (cs "zero")]] ++ [Cell.lst ((ms.map D.str).take j)] ++ [Cell.lst (D.str (cs "zero") :: (ms.map D.str).take j)])[(hC ++ [Cell.lst [D.str (cs "zero")]] ++ [Cell.lst ((ms.map D.str).take j)]).length]? = some (.lst (D.str (cs "zero") :: (ms.map D.str).take j)) := get_new1
    have f2 : Fr [] hC (hC ++ [Cell.lst [D.str (cs "zero")]] ++ [Cell.lst ((ms.map D.str).take j)] ++ [Cell.lst (D.str (cs "zero") :: (ms.map D.str).take j)]) := Fr.app.push.push
    have lt : ((ms.map D.str).take j).length = j := by rw [List.length_take, List.length_map]; omega
    have lbC := BC.lt
    wp_walk using t1, t2
    have gm := f2.get gm (by simp)
    have gr := f2.get gr (by simp)
    have ge := f2.get ge (by simp)
    have BD := BC.fr f2
    have FD := FC.trans f2.up
    have le2 : (hC ++ [Cell.lst [D.str (cs "zero")]] ++ [Cell.lst ((ms.map D.str).take j)]).length ≠ b := by simp; omega
    generalize hC ++ [Cell.lst [D.str (cs "zero")]] ++ [Cell.lst ((ms.map D.str).take j)] ++ [Cell.lst (D.str (cs "zero") :: (ms.map D.str).take j)] = hD at *
    generalize (hC ++ [Cell.lst [D.str (cs "zero")]] ++ [Cell.lst ((ms.map D.str).take j)]).length = e2 at *
    refine ⟨by omega, rfl, draw_ok BD (by decide) fun v3 hE p3 q3 BE FE => ?_⟩
    have t4 := FE.get t3 (by simpa using le2)
    have gm := FE.get gm (by simp; omega)
    have gr := FE.get gr (by simp; omega)
    have ge := FE.get ge (by simp; omega)
    have y1 := Int.emod_nonneg v3 (show ((j : Int) + 1) ≠ 0 by omega)
    have y2 := Int.emod_lt_of_pos v3 (show 0 < ((j : Int) + 1) by omega)
    wp_walk
    refine ⟨by omega, ?_⟩
    generalize v3 % ((j : Int) + 1) = y at *
    obtain ⟨i, rfl⟩ := Int.eq_ofNat_of_zero_le y1
    obtain ⟨a, ha, qa⟩ : ∃ a : Nm, (D.str (cs "zero") :: (ms.map D.str).take j)[i]? = some (.str a) ∧ (a = zro ∨ ∃ i : Nat, i < j ∧ ms[i]? = some a) := by
      cases i with
      | zero => exact ⟨zro, rfl, .inl rfl⟩
      | succ i =>
        have hi : i < ms.length := by omega
        refine ⟨ms[i], ?_, .inr ⟨i, by omega, List.getElem?_eq_getElem hi⟩⟩
        rw [List.getElem?_cons_succ, List.getElem?_take_of_lt (by omega), List.getElem?_map, List.getElem?_eq_getElem hi]; rfl
    wp_walk using t4, atN, ha
    exact ⟨a, qa, rfl, gm, gr, ge, BE, FD.trans FE⟩
  clear gm gr ge ga BC FC BB FB B9 F9 lm
  rintro env hF ⟨a, qa, rfl, gm, gr, ge, BF, FF⟩
  wp_walk using num_log (show k < 1900 by omega)
  refine ⟨by rw [cs_s, show ([115] : List Nat).length = 1 from rfl]; omega, ?_⟩
  rw [eN]
  wp_walk using gm, atN, gj
  refine ⟨rfl, pickB BF rfl (by decide) fun t hG mt BG FG => ?_⟩
  have gm := FG.get gm (by simp; omega)
  have gr := FG.get gr (by simp; omega)
  have ge := FG.get ge (by simp; omega)
  have FG := FF.trans FG
  obtain ⟨e, rfl, e1, e2⟩ : ∃ l : Int, t = .int l ∧ 0 ≤ l ∧ l ≤ 99999 := by
    simp only [List.mem_cons, List.not_mem_nil, or_false] at mt
    rcases mt with rfl | rfl | rfl
    · exact ⟨_, rfl, by decide, by decide⟩
    · exact ⟨_, rfl, by decide, by decide⟩
    · exact ⟨_, rfl, by decide, by decide⟩
  clear mt
  wp_walk
  obtain ⟨u, hu, u1, u2⟩ : ∃ u : Int, (if l + e < 99999 then l + e else 99999) = u ∧ l ≤ u ∧ u ≤ 99999 := by
    by_cases c : l + e < 99999
    · exact ⟨_, if_pos c, by omega, by omega⟩
    · exact ⟨_, if_neg c, by omega, by omega⟩
  rw [hu]
  have mj : ms[j]? = some ms[j] := List.getElem?_eq_getElem hj
  have am : a ∈ zro :: ms := by
    rcases qa with rfl | ⟨i, _, hi⟩
    · exact List.mem_cons_self
    · exact List.mem_cons_of_mem _ (List.mem_of_getElem? hi)
  have ane : a ≠ ms[j] := fun z => by
    rw [List.nodup_cons] at nd
    rcases qa with q | ⟨i, hi, q⟩
    · exact nd.1 (by rw [← q, z]; exact List.getElem_mem hj)
    · obtain ⟨li, ei⟩ := List.getElem?_eq_some_iff.mp q
      rw [z] at ei
      have := (List.getElem_inj nd.2).mp ei
      omega
  have ow2 : OkW (some l) (some u) := ⟨.inl (by simp), fun i e => by cases e; omega, fun i e => by cases e; omega, fun i j e e' => by cases e; cases e'; omega⟩
  have ge : hG[el]? = some (.lst ((es ++ [ms[j]]).map .str)) := by rw [List.map_append]; exact ge
  exact ⟨⟨true, sNm "s" k, a, ms[j], some l, some u⟩, es ++ [ms[j]], ⟨_, _, rfl⟩, gm, gr, ge, gw.more (by omega) ⟨am, List.mem_cons_of_mem _ (List.getElem_mem hj), ane⟩ ow2 (fun _ => ⟨⟨⟨l, u, rfl, rfl, l1, u1, u2⟩, j, mj, qa⟩, ci, by simp⟩) (fun z m => List.mem_append_left _ m) rfl, by rw [List.length_append, List.length_singleton]; omega, BG, FG⟩
open PySem PySem.Spec PyProof.Rows L2
theorem P3.lk {p : Pln} (P : P3 p) : Lk (enP p) := ⟨by
  have mf := P.mf
  have rf := P.rf
  have kl : ∀ l : Bool, (kindOf l).length ≤ 10000 := fun l => by have := kind_len l; omega
  have eo : ∀ (d : Nat) (o : Option Int), lkOk (d + 1) (enO o) := fun d o => by cases o <;> exact trivial
  refine ⟨by simp, fun x hx => ?_⟩
  simp only [List.mem_cons, List.not_mem_nil, or_false] at hx
  rcases hx with rfl | rfl | rfl
  · show (cs "plan").length ≤ 10000
    decide +kernel
  · refine ⟨by rw [List.length_map]; omega, fun x hx => ?_⟩
    obtain ⟨m, hm, rfl⟩ := List.mem_map.mp hx
    show m.length ≤ 10000
    have := (P.mo m hm).1.l; omega
  · refine ⟨by rw [List.length_map]; omega, fun x hx => ?_⟩
    obtain ⟨s, hs, rfl⟩ := List.mem_map.mp hx
    have r := P.row hs
    have := r.n
    have := r.a
    have := r.b
    refine ⟨by show 6 ≤ _; omega, fun x hx => ?_⟩
    simp only [List.mem_cons, List.not_mem_nil, or_false] at hx
    rcases hx with rfl | rfl | rfl | rfl | rfl | rfl
    · exact kl _
    · show s.name.length ≤ 10000; omega
    · show s.a.length ≤ 10000; omega
    · show s.b.length ≤ 10000; omega
    · exact eo _ _
    · exact eo _ _⟩
theorem GP.loose_few {p : Pln} (g : GP p) : (p.rows.filter Spn.loose).length ≤ 8 := by
  obtain ⟨n, hn, e⟩ := g.n
  have lm : p.marks.length ≤ 7 := by rw [e, List.length_take]; omega
  rcases Nat.lt_or_ge p.marks.length ((p.rows.filter Spn.loose).map Spn.b).length with q | q
  · exfalso
    obtain ⟨i, j, hij, hj, ee⟩ := pigeon p.marks ((p.rows.filter Spn.loose).map Spn.b) (fun x m => by
      obtain ⟨s, hs, rfl⟩ := List.mem_map.mp m
      obtain ⟨hs, l⟩ := List.mem_filter.mp hs
      obtain ⟨_, _, _, _, _, _, _, _, j, hj, _⟩ := g.rows.ls s hs l
      exact List.mem_of_getElem? hj) q
    rw [List.getElem?_eq_getElem hj, List.getElem?_eq_getElem (Nat.lt_trans hij hj)] at ee
    have := (List.getElem_inj g.rows.le).mp (Option.some.inj ee)
    omega
  · rw [List.length_map] at q
    omega
def E3 (ns : List Int) (b : Nat) (env : Env) : Prop := ∃ o2 o3 o4 o5, env = [some (.ls (ns.map .int)), some (.ref b), o2, o3, o4, o5]
theorem law03 (ns : List Int) (hns : ns.length ≤ 63) : ∃ h', P03.fn_law.go [.ls (ns.map .int)] [] = .ok (.bl true) h' := by
  have key : (P03.fn_law.go [.ls (ns.map .int)] []).wp (fun d _ => d = .bl true) (fun _ _ => False) := by
    unfold P03.fn_law
    rw [w_defn]
    unfold P03.s_law
    have wpo := @widePlan_ok
    have nwp : 1 = P03.fn__law_wide_plan.n := rfl
    generalize P03.fn__law_wide_plan = WP at *
    have lpt := @lawPlanText_ok
    have nlp : 1 = P03.fn__law_plan_text.n := rfl
    generalize P03.fn__law_plan_text = LT at *
    have wro := @writePlan_ok
    have nwr : 1 = P03.fn_write_plan.n := rfl
    generalize P03.fn_write_plan = WR at *
    have rdo := @readPlan_ok
    have nrd : 1 = P03.fn_read_plan.n := rfl
    generalize P03.fn_read_plan = RD at *
    have lso := @looseOf_ok
    have nls : 1 = P03.fn_loose_of.n := rfl
    generalize P03.fn_loose_of = LS at *
    wp_walk
    rw [w_seqF]
    wp_walk
    refine ⟨rfl, digits_ok fun ds dg h1 hdg F1 edg _ => ?_⟩
    wp_walk
    rw [w_seqF]
    have B0 : Bx h1.length dg (h1 ++ [Cell.lst [.ref dg, .int 0]]) := ⟨ds, 0, by have := get_lt hdg; omega, by decide, get_new1, get_old hdg⟩
    generalize hb : h1.length = b at *
    generalize h1 ++ [Cell.lst [.ref dg, .int 0]] = h2 at *
    clear hdg F1 edg hb h1
    refine w_for ((List.range 5).map fun i => .int ((i : Nat) : Int)) (fun _ => True) (fun i env h' => E3 ns b env ∧ Bx b dg h') ?_ (fun _ _ _ _ => trivial) ?_ ?_
    · wp_walk using show small 5 = true from rfl
      exact ⟨t_rng0 5 _, ⟨_, _, _, _, rfl⟩, B0⟩
    · clear B0 h2
      rintro k x env h0 hx ⟨⟨o2, o3, o4, o5, rfl⟩, B0⟩
      clear hx
      wp_walk
      refine w_cut (fun env h' => ∃ p, P3 p ∧ (∃ o2 o4 o5, env = [some (.ls (ns.map .int)), some (.ref b), o2, some (enP p), o4, o5]) ∧ Bx b dg h') ?_ ?_
      · wp_walk
        refine ⟨nwp, wpo B0 fun p h1 P B1 _ => ?_⟩
        wp_walk
        exact ⟨p, P, ⟨_, _, _, rfl⟩, B1⟩
      clear B0
      rintro env h1 ⟨p, P, ⟨o2, o4, o5, rfl⟩, B1⟩
      refine w_cut (fun env h' => ∃ p, P3 p ∧ (∃ o2 o4 o5, env = [some (.ls (ns.map .int)), some (.ref b), o2, some (enP p), o4, o5]) ∧ Bx b dg h') ?_ ?_
      · wp_walk
        refine ⟨rfl, draw_ok B1 (by decide) fun v2 h2 p2 q2 B2 _ => ?_⟩
        wp_walk
        refine wif_d (fun _ => ?_) (fun _ => ?_)
        · wp_walk
          refine ⟨rfl, draw_ok B2 (by decide) fun v1 h1 p1 q1 B1 _ => ?_⟩
          wp_walk
          refine ⟨rfl, draw_ok B1 (by decide) fun v2 h2 p2 q2 B2 _ => ?_⟩
          wp_walk
          refine ⟨rfl, draw_ok B2 (by decide) fun v3 h3 p3 q3 B3 _ => ?_⟩
          obtain ⟨n1, rfl⟩ := Int.eq_ofNat_of_zero_le p1
          obtain ⟨n2, rfl⟩ := Int.eq_ofNat_of_zero_le p2
          obtain ⟨n3, rfl⟩ := Int.eq_ofNat_of_zero_le p3
          wp_walk
          refine ⟨rfl, plan_ok B3 (by omega) (by omega) (by omega) fun p h4 gp _ _ _ _ B4 _ => ?_⟩
          wp_walk
          exact ⟨p, gp.p3 gp.loose_few, ⟨_, _, _, rfl⟩, B4⟩
        · wp_walk
          exact ⟨p, P, ⟨_, _, _, rfl⟩, B2⟩
      clear B1 P
      rintro env h1 ⟨p, P, ⟨o2, o4, o5, rfl⟩, B1⟩
      have rf := P.rf
      have lT := plT_len P.pl
      refine w_cut (fun env h' => ∃ T, plT p = T ∧ (∃ o2 o5, env = [some (.ls (ns.map .int)), some (.ref b), o2, some (enP p), some (.str T), o5]) ∧ Bx b dg h') ?_ ?_
      · wp_walk
        refine ⟨nlp, lpt P.pl fun h2 F2 => ?_⟩
        wp_walk
        exact ⟨_, rfl, ⟨_, _, rfl⟩, B1.fr F2⟩
      clear B1
      rintro env h2 ⟨T, hT, ⟨o2, o5, rfl⟩, B2⟩
      rw [hT] at lT
      refine w_cut (fun env h' => (∃ o2 o5, env = [some (.ls (ns.map .int)), some (.ref b), o2, some (enP p), some (.str T), o5]) ∧ Bx b dg h') ?_ ?_
      · wp_walk
        refine ⟨nwr, wro P.pl fun h3 F3 => ?_⟩
        rw [hT]
        wp_walk
        refine ⟨rfl, like_str (by omega) fun h4 F4 => ?_⟩
        rw [decide_eq_true rfl]
        wp_walk
        refine ⟨nrd, rdo P hT fun h5 F5 => ?_⟩
        have lkP := P.lk
        clear rdo wro lpt wpo lso lT rf P hT
        generalize enP p = dP at *
        wp_walk
        refine ⟨rfl, like_ok lkP fun h6 F6 => ?_⟩
        wp_walk
        exact ⟨⟨_, _, rfl⟩, B2.fr (F3.trans (F4.trans (F5.trans F6)))⟩
      clear B2
      rintro env h3 ⟨⟨o2, o5, rfl⟩, B3⟩
      wp_walk
      refine ⟨nls, lso rf fun h4 F4 => ?_⟩
      have fl := List.length_filter_le Spn.loose p.rows
      wp_walk
      refine w_lcG p.rows enS Spn.loose (fun s => .str s.name) (fun _ => True) (fun h' => h' = h4) ?_ (fun _ _ => trivial) (by omega) ?_ ?_
      · wp_walk using ixM2'
        exact t_seq _ _
      · rintro i s h' hs rfl
        wp_walk using s5_0, k5_l
        refine wif_i (fun c => ?_) (fun c => ?_)
        · wp_walk using s5_1
          exact c
        · exact ⟨c, rfl⟩
      rintro h5 rfl
      have e1 : (h5 ++ [Cell.lst ((p.rows.filter Spn.loose).map fun s => D.str s.name)])[h5.length]? = some (.lst (((p.rows.filter Spn.loose).map Spn.name).map .str)) := by rw [List.map_map]; exact gBc3 _ _
      have F5 : Fr [] h5 (h5 ++ [Cell.lst ((p.rows.filter Spn.loose).map fun s => D.str s.name)]) := .app
      generalize h5 ++ [Cell.lst ((p.rows.filter Spn.loose).map fun s => D.str s.name)] = h6 at *
      wp_walk
      rw [sorted_txt e1 (by rw [List.length_map]; omega)]
      wp_walk using gBc3
      have lkS : Lk (.tup ((srtM ((p.rows.filter Spn.loose).map Spn.name)).map .str)) := ⟨⟨by
        rw [List.length_map, (srtM_perm _).length_eq, List.length_map]; omega, fun x hx => by
        obtain ⟨y, hy, rfl⟩ := List.mem_map.mp hx
        obtain ⟨s, hs, rfl⟩ := List.mem_map.mp ((srtM_perm _).mem_iff.mp hy)
        have := (P.sn s (List.mem_filter.mp hs).1).1.l
        show s.name.length ≤ 10000
        omega⟩⟩
      refine ⟨rfl, like_ok lkS fun h7 F7 => ?_⟩
      wp_walk
      exact ⟨⟨_, _, _, _, rfl⟩, B3.fr (F4.trans (F5.push.trans F7))⟩
    · rintro env h' ⟨⟨o2, o3, o4, o5, rfl⟩, _⟩
      wp_walk
  revert key
  cases P03.fn_law.go [.ls (ns.map .int)] [] with
  | ok d h => intro key; exact ⟨h, by rw [show d = .bl true from key]⟩
  | exc e h => intro key; exact key.elim
  | bad => intro key; exact key.elim
end M
namespace K03
theorem law_true (ns : List Int) (h : ns.length ≤ 63) : ∃ h', P03.fn_law.go [M.D.ls (ns.map M.D.int)] [] = M.Res.ok (M.D.bl true) h' := M.law03 ns h
open PySem PySem.Spec PyProof.Rows L2 M
def top (i : Nat) : Stmt := PySem.Challenge.pw_planholds_k03_pla_written_and_read.main.body.getD i (.Pass ⟨0, 0, 0, 0⟩)
def dd_is_name : He.DefD := ⟨("is_name", none), "is_name", "is_name", defArgs (top 8), defBody (top 8), defScope (top 8), [], []⟩
def dd_is_own_name : He.DefD := ⟨("is_own_name", none), "is_own_name", "is_own_name", defArgs (top 9), defBody (top 9), defScope (top 9), [], []⟩
def dd_is_whole : He.DefD := ⟨("is_whole", none), "is_whole", "is_whole", defArgs (top 10), defBody (top 10), defScope (top 10), [], []⟩
def dd_is_bound : He.DefD := ⟨("is_bound", none), "is_bound", "is_bound", defArgs (top 11), defBody (top 11), defScope (top 11), [], []⟩
def dd_whole_of : He.DefD := ⟨("whole_of", none), "whole_of", "whole_of", defArgs (top 12), defBody (top 12), defScope (top 12), [], []⟩
def dd_lines_of : He.DefD := ⟨("lines_of", none), "lines_of", "lines_of", defArgs (top 13), defBody (top 13), defScope (top 13), [], []⟩
def dd_are_bounds : He.DefD := ⟨("are_bounds", none), "are_bounds", "are_bounds", defArgs (top 18), defBody (top 18), defScope (top 18), [], []⟩
def dd_are_durations : He.DefD := ⟨("are_durations", none), "are_durations", "are_durations", defArgs (top 19), defBody (top 19), defScope (top 19), [], []⟩
def dd_is_span : He.DefD := ⟨("is_span", none), "is_span", "is_span", defArgs (top 20), defBody (top 20), defScope (top 20), [], []⟩
def dd_ends_well : He.DefD := ⟨("ends_well", none), "ends_well", "ends_well", defArgs (top 21), defBody (top 21), defScope (top 21), [], []⟩
def dd_loose_of : He.DefD := ⟨("loose_of", none), "loose_of", "loose_of", defArgs (top 22), defBody (top 22), defScope (top 22), [], []⟩
def dd_bound_text : He.DefD := ⟨("bound_text", none), "bound_text", "bound_text", defArgs (top 23), defBody (top 23), defScope (top 23), [], []⟩
def dd_span_line : He.DefD := ⟨("span_line", none), "span_line", "span_line", defArgs (top 24), defBody (top 24), defScope (top 24), [], []⟩
def dd_write_plan : He.DefD := ⟨("write_plan", none), "write_plan", "write_plan", defArgs (top 25), defBody (top 25), defScope (top 25), [], []⟩
def dd_read_line : He.DefD := ⟨("read_line", none), "read_line", "read_line", defArgs (top 26), defBody (top 26), defScope (top 26), [], []⟩
def dd_span_fault : He.DefD := ⟨("span_fault", none), "span_fault", "span_fault", defArgs (top 27), defBody (top 27), defScope (top 27), [], []⟩
def dd_line_fault : He.DefD := ⟨("line_fault", none), "line_fault", "line_fault", defArgs (top 28), defBody (top 28), defScope (top 28), [], []⟩
def dd_read_plan : He.DefD := ⟨("read_plan", none), "read_plan", "read_plan", defArgs (top 29), defBody (top 29), defScope (top 29), [], []⟩
def dd__law_cell : He.DefD := ⟨("_law_cell", none), "_law_cell", "_law_cell", defArgs (top 31), defBody (top 31), defScope (top 31), [], []⟩
def dd__law_digits : He.DefD := ⟨("_law_digits", none), "_law_digits", "_law_digits", defArgs (top 32), defBody (top 32), defScope (top 32), [], []⟩
def dd__law_draw : He.DefD := ⟨("_law_draw", none), "_law_draw", "_law_draw", defArgs (top 33), defBody (top 33), defScope (top 33), [], []⟩
def dd__law_wide : He.DefD := ⟨("_law_wide", none), "_law_wide", "_law_wide", defArgs (top 34), defBody (top 34), defScope (top 34), [], []⟩
def dd__law_like : He.DefD := ⟨("_law_like", none), "_law_like", "_law_like", defArgs (top 35), defBody (top 35), defScope (top 35), [], []⟩
def dd__law_bounds : He.DefD := ⟨("_law_bounds", none), "_law_bounds", "_law_bounds", defArgs (top 36), defBody (top 36), defScope (top 36), [], []⟩
def dd__law_span : He.DefD := ⟨("_law_span", none), "_law_span", "_law_span", defArgs (top 37), defBody (top 37), defScope (top 37), [], []⟩
def dd__law_plan : He.DefD := ⟨("_law_plan", none), "_law_plan", "_law_plan", defArgs (top 38), defBody (top 38), defScope (top 38), [], []⟩
def dd__law_bound_text : He.DefD := ⟨("_law_bound_text", none), "_law_bound_text", "_law_bound_text", defArgs (top 39), defBody (top 39), defScope (top 39), [], []⟩
def dd__law_span_text : He.DefD := ⟨("_law_span_text", none), "_law_span_text", "_law_span_text", defArgs (top 40), defBody (top 40), defScope (top 40), [], []⟩
def dd__law_plan_text : He.DefD := ⟨("_law_plan_text", none), "_law_plan_text", "_law_plan_text", defArgs (top 41), defBody (top 41), defScope (top 41), [], []⟩
def dd__law_any_name : He.DefD := ⟨("_law_any_name", none), "_law_any_name", "_law_any_name", defArgs (top 42), defBody (top 42), defScope (top 42), [], []⟩
def dd__law_wide_plan : He.DefD := ⟨("_law_wide_plan", none), "_law_wide_plan", "_law_wide_plan", defArgs (top 43), defBody (top 43), defScope (top 43), [], []⟩
def dd_law : He.DefD := ⟨("law", none), "law", "law", defArgs (top 44), defBody (top 44), defScope (top 44), [], []⟩
def fn : List He.DefD := [dd_is_name, dd_is_own_name, dd_is_whole, dd_is_bound, dd_whole_of, dd_lines_of, dd_are_bounds, dd_are_durations, dd_is_span, dd_ends_well, dd_loose_of, dd_bound_text, dd_span_line, dd_write_plan, dd_read_line, dd_span_fault, dd_line_fault, dd_read_plan, dd__law_cell, dd__law_digits, dd__law_draw, dd__law_wide, dd__law_like, dd__law_bounds, dd__law_span, dd__law_plan, dd__law_bound_text, dd__law_span_text, dd__law_plan_text, dd__law_any_name, dd__law_wide_plan, dd_law]
def fa : List He.Fa := [.glo "is_name", .glo "is_own_name", .glo "is_whole", .glo "is_bound", .glo "whole_of", .glo "lines_of", .glo "are_bounds", .glo "are_durations", .glo "is_span", .glo "ends_well", .glo "loose_of", .glo "bound_text", .glo "span_line", .glo "write_plan", .glo "read_line", .glo "span_fault", .glo "line_fault", .glo "read_plan", .glo "_law_cell", .glo "_law_digits", .glo "_law_draw", .glo "_law_wide", .glo "_law_like", .glo "_law_bounds", .glo "_law_span", .glo "_law_plan", .glo "_law_bound_text", .glo "_law_span_text", .glo "_law_plan_text", .glo "_law_any_name", .glo "_law_wide_plan", .glo "law", .free "ValueError", .free "all", .free "bool", .free "enumerate", .free "int", .free "isinstance", .free "len", .free "list", .free "min", .free "range", .free "set", .free "sorted", .free "str", .free "super", .free "tuple", .str "LETTERS" "abcdefghijklmnopqrstuvwxyz", .str "DIGITS" "0123456789", .str "ZERO" "zero", .int "LAST_BOUND" 99999, .int "MOST_MARKS" 40, .int "MOST_SPANS" 140, .int "MOST_LOOSE" 8]
section
variable {P : Program} {w : World} {K : PySem.W.Frag} {mg : Str → Option Value} {base : Heap}
noncomputable def C_is_name : Cn := ⟨["thing", "sign"], defScope (top 8), fun _ => true, [], [("LETTERS", .str (cs "abcdefghijklmnopqrstuvwxyz")), ("DIGITS", .str (cs "0123456789"))], ["all", "isinstance", "str", "len"], []⟩
theorem e_is_name : dSs (dS 60 C_is_name) (defBody (top 8)) = P05.s_is_name := by kernel_rfl
theorem d_is_name (c : Wd K mg fa fn) : DefOk P w K mg base ⟨K, mg, none⟩ 1 "is_name" P05.fn_is_name := by
  obtain ⟨fd, F⟩ := c.d 0 _ rfl
  exact def_ok (C := C_is_name) (ps := ["thing"]) F (c.glo 0 _ rfl) ⟨rfl, rfl, rfl, by decide +kernel, rfl, by decide +kernel, by decide +kernel⟩ rfl rfl ((((((GOk.nil.f1 (c.free 38 _ rfl)).f1 (c.free 44 _ rfl)).f1 (c.free 37 _ rfl)).f1 (c.free 33 _ rfl)).ct (c.str 48 _ _ rfl) (by decide +kernel)).ct (c.str 47 _ _ rfl) (by decide +kernel)) e_is_name rfl (fun _ _ _ _ _ _ us hl => match us, hl with | [_], _ => rfl)
noncomputable def C_is_own_name : Cn := ⟨["thing"], defScope (top 9), fun _ => true, [("is_name", P05.fn_is_name)], [("ZERO", .str (cs "zero"))], [], []⟩
theorem e_is_own_name : dSs (dS 60 C_is_own_name) (defBody (top 9)) = P05.s_is_own_name := by kernel_rfl
theorem d_is_own_name (c : Wd K mg fa fn) : DefOk P w K mg base ⟨K, mg, none⟩ 2 "is_own_name" P05.fn_is_own_name := by
  obtain ⟨fd, F⟩ := c.d 1 _ rfl
  exact def_ok (C := C_is_own_name) (ps := ["thing"]) F (c.glo 1 _ rfl) ⟨rfl, rfl, rfl, by decide +kernel, rfl, by decide +kernel, by decide +kernel⟩ rfl rfl ((GOk.nil.ct (c.str 49 _ _ rfl) (by decide +kernel)).df ((d_is_name c).mono (by decide))) e_is_own_name rfl (fun _ _ _ _ _ _ us hl => match us, hl with | [_], _ => rfl)
noncomputable def C_is_whole : Cn := ⟨["thing"], defScope (top 10), fun _ => true, [], [], ["isinstance", "int", "bool"], []⟩
theorem e_is_whole : dSs (dS 60 C_is_whole) (defBody (top 10)) = P07.s_is_whole := by kernel_rfl
theorem d_is_whole (c : Wd K mg fa fn) : DefOk P w K mg base ⟨K, mg, none⟩ 1 "is_whole" P07.fn_is_whole := by
  obtain ⟨fd, F⟩ := c.d 2 _ rfl
  exact def_ok (C := C_is_whole) (ps := ["thing"]) F (c.glo 2 _ rfl) ⟨rfl, rfl, rfl, by decide +kernel, rfl, by decide +kernel, by decide +kernel⟩ rfl rfl (((GOk.nil.f1 (c.free 34 _ rfl)).f1 (c.free 36 _ rfl)).f1 (c.free 37 _ rfl)) e_is_whole rfl (fun _ _ _ _ _ _ us hl => match us, hl with | [_], _ => rfl)
noncomputable def C_is_bound : Cn := ⟨["thing"], defScope (top 11), fun _ => true, [("is_whole", P07.fn_is_whole)], [("LAST_BOUND", .int 99999)], [], []⟩
theorem e_is_bound : dSs (dS 60 C_is_bound) (defBody (top 11)) = P05.s_is_bound := by kernel_rfl
theorem d_is_bound (c : Wd K mg fa fn) : DefOk P w K mg base ⟨K, mg, none⟩ 2 "is_bound" P05.fn_is_bound := by
  obtain ⟨fd, F⟩ := c.d 3 _ rfl
  exact def_ok (C := C_is_bound) (ps := ["thing"]) F (c.glo 3 _ rfl) ⟨rfl, rfl, rfl, by decide +kernel, rfl, by decide +kernel, by decide +kernel⟩ rfl rfl ((GOk.nil.ci (c.int 50 _ _ rfl)).df ((d_is_whole c).mono (by decide))) e_is_bound rfl (fun _ _ _ _ _ _ us hl => match us, hl with | [_], _ => rfl)
noncomputable def C_whole_of : Cn := ⟨["text", "digits", "sign"], defScope (top 12), fun _ => true, [], [("DIGITS", .str (cs "0123456789"))], ["int", "all", "len"], []⟩
theorem e_whole_of : dSs (dS 60 C_whole_of) (defBody (top 12)) = P03.s_whole_of := by kernel_rfl
theorem d_whole_of (c : Wd K mg fa fn) : DefOk P w K mg base ⟨K, mg, none⟩ 1 "whole_of" P03.fn_whole_of := by
  obtain ⟨fd, F⟩ := c.d 4 _ rfl
  exact def_ok (C := C_whole_of) (ps := ["text"]) F (c.glo 4 _ rfl) ⟨rfl, rfl, rfl, by decide +kernel, rfl, by decide +kernel, by decide +kernel⟩ rfl rfl ((((GOk.nil.f1 (c.free 38 _ rfl)).f1 (c.free 33 _ rfl)).f1 (c.free 36 _ rfl)).ct (c.str 48 _ _ rfl) (by decide +kernel)) e_whole_of rfl (fun _ _ _ _ _ _ us hl => match us, hl with | [_], _ => rfl)
noncomputable def C_lines_of : Cn := ⟨["text", "lines"], defScope (top 13), fun _ => true, [], [], [], []⟩
theorem e_lines_of : dSs (dS 60 C_lines_of) (defBody (top 13)) = P03.s_lines_of := by kernel_rfl
theorem d_lines_of (c : Wd K mg fa fn) : DefOk P w K mg base ⟨K, mg, none⟩ 1 "lines_of" P03.fn_lines_of := by
  obtain ⟨fd, F⟩ := c.d 5 _ rfl
  exact def_ok (C := C_lines_of) (ps := ["text"]) F (c.glo 5 _ rfl) ⟨rfl, rfl, rfl, by decide +kernel, rfl, by decide +kernel, by decide +kernel⟩ rfl rfl GOk.nil e_lines_of rfl (fun _ _ _ _ _ _ us hl => match us, hl with | [_], _ => rfl)
noncomputable def C_are_bounds : Cn := ⟨["least", "most"], defScope (top 18), fun _ => true, [("is_bound", P05.fn_is_bound)], [], [], []⟩
theorem e_are_bounds : dSs (dS 60 C_are_bounds) (defBody (top 18)) = P05.s_are_bounds := by kernel_rfl
theorem d_are_bounds (c : Wd K mg fa fn) : DefOk P w K mg base ⟨K, mg, none⟩ 3 "are_bounds" P05.fn_are_bounds := by
  obtain ⟨fd, F⟩ := c.d 6 _ rfl
  exact def_ok (C := C_are_bounds) (ps := ["least", "most"]) F (c.glo 6 _ rfl) ⟨rfl, rfl, rfl, by decide +kernel, rfl, by decide +kernel, by decide +kernel⟩ rfl rfl (GOk.nil.df ((d_is_bound c).mono (by decide))) e_are_bounds rfl (fun _ _ _ _ _ _ us hl => match us, hl with | [_, _], _ => rfl)
noncomputable def C_are_durations : Cn := ⟨["least", "most"], defScope (top 19), fun _ => true, [("is_whole", P07.fn_is_whole)], [("LAST_BOUND", .int 99999)], [], []⟩
theorem e_are_durations : dSs (dS 60 C_are_durations) (defBody (top 19)) = P05.s_are_durations := by kernel_rfl
theorem d_are_durations (c : Wd K mg fa fn) : DefOk P w K mg base ⟨K, mg, none⟩ 2 "are_durations" P05.fn_are_durations := by
  obtain ⟨fd, F⟩ := c.d 7 _ rfl
  exact def_ok (C := C_are_durations) (ps := ["least", "most"]) F (c.glo 7 _ rfl) ⟨rfl, rfl, rfl, by decide +kernel, rfl, by decide +kernel, by decide +kernel⟩ rfl rfl ((GOk.nil.ci (c.int 50 _ _ rfl)).df ((d_is_whole c).mono (by decide))) e_are_durations rfl (fun _ _ _ _ _ _ us hl => match us, hl with | [_, _], _ => rfl)
noncomputable def C_is_span : Cn := ⟨["thing", "kind", "name", "a", "b", "least", "most"], defScope (top 20), fun _ => true, [("are_bounds", P05.fn_are_bounds), ("is_own_name", P05.fn_is_own_name), ("is_name", P05.fn_is_name), ("are_durations", P05.fn_are_durations)], [("ZERO", .str (cs "zero"))], ["isinstance", "tuple", "len"], []⟩
theorem e_is_span : dSs (dS 60 C_is_span) (defBody (top 20)) = P05.s_is_span := by kernel_rfl
theorem d_is_span (c : Wd K mg fa fn) : DefOk P w K mg base ⟨K, mg, none⟩ 4 "is_span" P05.fn_is_span := by
  obtain ⟨fd, F⟩ := c.d 8 _ rfl
  exact def_ok (C := C_is_span) (ps := ["thing"]) F (c.glo 8 _ rfl) ⟨rfl, rfl, rfl, by decide +kernel, rfl, by decide +kernel, by decide +kernel⟩ rfl rfl ((((((((GOk.nil.f1 (c.free 38 _ rfl)).f1 (c.free 46 _ rfl)).f1 (c.free 37 _ rfl)).ct (c.str 49 _ _ rfl) (by decide +kernel)).df ((d_are_durations c).mono (by decide))).df ((d_is_name c).mono (by decide))).df ((d_is_own_name c).mono (by decide))).df ((d_are_bounds c).mono (by decide))) e_is_span rfl (fun _ _ _ _ _ _ us hl => match us, hl with | [_], _ => rfl)
noncomputable def C_ends_well : Cn := ⟨["before", "span", "begins", "at", "row"], defScope (top 21), fun _ => true, [], [], [], []⟩
theorem e_ends_well : dSs (dS 60 C_ends_well) (defBody (top 21)) = P05.s_ends_well := by kernel_rfl
theorem d_ends_well (c : Wd K mg fa fn) : DefOk P w K mg base ⟨K, mg, none⟩ 1 "ends_well" P05.fn_ends_well := by
  obtain ⟨fd, F⟩ := c.d 9 _ rfl
  exact def_ok (C := C_ends_well) (ps := ["before", "span"]) F (c.glo 9 _ rfl) ⟨rfl, rfl, rfl, by decide +kernel, rfl, by decide +kernel, by decide +kernel⟩ rfl rfl GOk.nil e_ends_well rfl (fun _ _ _ _ _ _ us hl => match us, hl with | [_, _], _ => rfl)
noncomputable def C_loose_of : Cn := ⟨["plan", "span"], defScope (top 22), fun _ => true, [], [], ["tuple", "sorted"], []⟩
theorem e_loose_of : dSs (dS 60 C_loose_of) (defBody (top 22)) = P03.s_loose_of := by kernel_rfl
theorem d_loose_of (c : Wd K mg fa fn) : DefOk P w K mg base ⟨K, mg, none⟩ 1 "loose_of" P03.fn_loose_of := by
  obtain ⟨fd, F⟩ := c.d 10 _ rfl
  exact def_ok (C := C_loose_of) (ps := ["plan"]) F (c.glo 10 _ rfl) ⟨rfl, rfl, rfl, by decide +kernel, rfl, by decide +kernel, by decide +kernel⟩ rfl rfl ((GOk.nil.f1 (c.free 43 _ rfl)).f1 (c.free 46 _ rfl)) e_loose_of rfl (fun _ _ _ _ _ _ us hl => match us, hl with | [_], _ => rfl)
noncomputable def C_bound_text : Cn := ⟨["bound"], defScope (top 23), fun _ => true, [], [], ["str"], []⟩
theorem e_bound_text : dSs (dS 60 C_bound_text) (defBody (top 23)) = P03.s_bound_text := by kernel_rfl
theorem d_bound_text (c : Wd K mg fa fn) : DefOk P w K mg base ⟨K, mg, none⟩ 1 "bound_text" P03.fn_bound_text := by
  obtain ⟨fd, F⟩ := c.d 11 _ rfl
  exact def_ok (C := C_bound_text) (ps := ["bound"]) F (c.glo 11 _ rfl) ⟨rfl, rfl, rfl, by decide +kernel, rfl, by decide +kernel, by decide +kernel⟩ rfl rfl (GOk.nil.f1 (c.free 44 _ rfl)) e_bound_text rfl (fun _ _ _ _ _ _ us hl => match us, hl with | [_], _ => rfl)
noncomputable def C_span_line : Cn := ⟨["span", "kind", "name", "a", "b", "least", "most"], defScope (top 24), fun _ => true, [("bound_text", P03.fn_bound_text)], [], [], []⟩
theorem e_span_line : dSs (dS 60 C_span_line) (defBody (top 24)) = P03.s_span_line := by kernel_rfl
theorem d_span_line (c : Wd K mg fa fn) : DefOk P w K mg base ⟨K, mg, none⟩ 2 "span_line" P03.fn_span_line := by
  obtain ⟨fd, F⟩ := c.d 12 _ rfl
  exact def_ok (C := C_span_line) (ps := ["span"]) F (c.glo 12 _ rfl) ⟨rfl, rfl, rfl, by decide +kernel, rfl, by decide +kernel, by decide +kernel⟩ rfl rfl (GOk.nil.df ((d_bound_text c).mono (by decide))) e_span_line rfl (fun _ _ _ _ _ _ us hl => match us, hl with | [_], _ => rfl)
noncomputable def C_write_plan : Cn := ⟨["plan", "lines", "mark", "span"], defScope (top 25), fun _ => true, [("span_line", P03.fn_span_line)], [], [], []⟩
theorem e_write_plan : dSs (dS 60 C_write_plan) (defBody (top 25)) = P03.s_write_plan := by kernel_rfl
theorem d_write_plan (c : Wd K mg fa fn) : DefOk P w K mg base ⟨K, mg, none⟩ 3 "write_plan" P03.fn_write_plan := by
  obtain ⟨fd, F⟩ := c.d 13 _ rfl
  exact def_ok (C := C_write_plan) (ps := ["plan"]) F (c.glo 13 _ rfl) ⟨rfl, rfl, rfl, by decide +kernel, rfl, by decide +kernel, by decide +kernel⟩ rfl rfl (GOk.nil.df ((d_span_line c).mono (by decide))) e_write_plan rfl (fun _ _ _ _ _ _ us hl => match us, hl with | [_], _ => rfl)
noncomputable def C_read_line : Cn := ⟨["line", "words", "span"], defScope (top 26), fun _ => true, [("whole_of", P03.fn_whole_of), ("is_own_name", P05.fn_is_own_name), ("is_span", P05.fn_is_span), ("span_line", P03.fn_span_line)], [], ["len"], []⟩
theorem e_read_line : dSs (dS 60 C_read_line) (defBody (top 26)) = P03.s_read_line := by kernel_rfl
theorem d_read_line (c : Wd K mg fa fn) : DefOk P w K mg base ⟨K, mg, none⟩ 5 "read_line" P03.fn_read_line := by
  obtain ⟨fd, F⟩ := c.d 14 _ rfl
  exact def_ok (C := C_read_line) (ps := ["line"]) F (c.glo 14 _ rfl) ⟨rfl, rfl, rfl, by decide +kernel, rfl, by decide +kernel, by decide +kernel⟩ rfl rfl (((((GOk.nil.f1 (c.free 38 _ rfl)).df ((d_span_line c).mono (by decide))).df ((d_is_span c).mono (by decide))).df ((d_is_own_name c).mono (by decide))).df ((d_whole_of c).mono (by decide))) e_read_line rfl (fun _ _ _ _ _ _ us hl => match us, hl with | [_], _ => rfl)
noncomputable def C_span_fault : Cn := ⟨["marks", "spans", "span", "loose", "known", "row"], defScope (top 27), fun _ => true, [("ends_well", P05.fn_ends_well)], [("ZERO", .str (cs "zero")), ("MOST_SPANS", .int 140), ("MOST_LOOSE", .int 8)], ["len"], []⟩
theorem e_span_fault : dSs (dS 60 C_span_fault) (defBody (top 27)) = P03.s_span_fault := by kernel_rfl
theorem d_span_fault (c : Wd K mg fa fn) : DefOk P w K mg base ⟨K, mg, none⟩ 2 "span_fault" P03.fn_span_fault := by
  obtain ⟨fd, F⟩ := c.d 15 _ rfl
  exact def_ok (C := C_span_fault) (ps := ["marks", "spans", "span"]) F (c.glo 15 _ rfl) ⟨rfl, rfl, rfl, by decide +kernel, rfl, by decide +kernel, by decide +kernel⟩ rfl rfl (((((GOk.nil.f1 (c.free 38 _ rfl)).ci (c.int 53 _ _ rfl)).ci (c.int 52 _ _ rfl)).ct (c.str 49 _ _ rfl) (by decide +kernel)).df ((d_ends_well c).mono (by decide))) e_span_fault rfl (fun _ _ _ _ _ _ us hl => match us, hl with | [_, _, _], _ => rfl)
noncomputable def C_line_fault : Cn := ⟨["marks", "spans", "row"], defScope (top 28), fun _ => true, [("span_fault", P03.fn_span_fault)], [("MOST_MARKS", .int 40)], ["len"], []⟩
theorem e_line_fault : dSs (dS 60 C_line_fault) (defBody (top 28)) = P03.s_line_fault := by kernel_rfl
theorem d_line_fault (c : Wd K mg fa fn) : DefOk P w K mg base ⟨K, mg, none⟩ 3 "line_fault" P03.fn_line_fault := by
  obtain ⟨fd, F⟩ := c.d 16 _ rfl
  exact def_ok (C := C_line_fault) (ps := ["marks", "spans", "row"]) F (c.glo 16 _ rfl) ⟨rfl, rfl, rfl, by decide +kernel, rfl, by decide +kernel, by decide +kernel⟩ rfl rfl (((GOk.nil.f1 (c.free 38 _ rfl)).ci (c.int 51 _ _ rfl)).df ((d_span_fault c).mono (by decide))) e_line_fault rfl (fun _ _ _ _ _ _ us hl => match us, hl with | [_, _, _], _ => rfl)
noncomputable def C_read_plan : Cn := ⟨["text", "marks", "spans", "lines", "ended", "at", "line", "row", "reason"], defScope (top 29), fun _ => true, [("lines_of", P03.fn_lines_of), ("read_line", P03.fn_read_line), ("line_fault", P03.fn_line_fault)], [], ["enumerate", "tuple", "len"], []⟩
theorem e_read_plan : dSs (dS 60 C_read_plan) (defBody (top 29)) = P03.s_read_plan := by kernel_rfl
theorem d_read_plan (c : Wd K mg fa fn) : DefOk P w K mg base ⟨K, mg, none⟩ 6 "read_plan" P03.fn_read_plan := by
  obtain ⟨fd, F⟩ := c.d 17 _ rfl
  exact def_ok (C := C_read_plan) (ps := ["text"]) F (c.glo 17 _ rfl) ⟨rfl, rfl, rfl, by decide +kernel, rfl, by decide +kernel, by decide +kernel⟩ rfl rfl ((((((GOk.nil.f1 (c.free 38 _ rfl)).f1 (c.free 46 _ rfl)).f1 (c.free 35 _ rfl)).df ((d_line_fault c).mono (by decide))).df ((d_read_line c).mono (by decide))).df ((d_lines_of c).mono (by decide))) e_read_plan rfl (fun _ _ _ _ _ _ us hl => match us, hl with | [_], _ => rfl)
noncomputable def C__law_cell : Cn := ⟨["script", "k"], defScope (top 31), fun _ => true, [], [], ["len"], []⟩
theorem e__law_cell : dSs (dS 60 C__law_cell) (defBody (top 31)) = PH.s__law_cell := by kernel_rfl
theorem d__law_cell (c : Wd K mg fa fn) : DefOk P w K mg base ⟨K, mg, none⟩ 1 "_law_cell" PH.fn__law_cell := by
  obtain ⟨fd, F⟩ := c.d 18 _ rfl
  exact def_ok (C := C__law_cell) (ps := ["script", "k"]) F (c.glo 18 _ rfl) ⟨rfl, rfl, rfl, by decide +kernel, rfl, by decide +kernel, by decide +kernel⟩ rfl rfl (GOk.nil.f1 (c.free 38 _ rfl)) e__law_cell rfl (fun _ _ _ _ _ _ us hl => match us, hl with | [_, _], _ => rfl)
noncomputable def C__law_digits : Cn := ⟨["script", "first", "last", "digits", "k", "cell", "step", "seed"], defScope (top 32), fun _ => true, [("_law_cell", PH.fn__law_cell)], [], ["range", "len", "int"], []⟩
theorem e__law_digits : dSs (dS 60 C__law_digits) (defBody (top 32)) = PH.s__law_digits := by kernel_rfl
theorem d__law_digits (c : Wd K mg fa fn) : DefOk P w K mg base ⟨K, mg, none⟩ 2 "_law_digits" PH.fn__law_digits := by
  obtain ⟨fd, F⟩ := c.d 19 _ rfl
  exact def_ok (C := C__law_digits) (ps := ["script", "first", "last"]) F (c.glo 19 _ rfl) ⟨rfl, rfl, rfl, by decide +kernel, rfl, by decide +kernel, by decide +kernel⟩ rfl rfl ((((GOk.nil.f1 (c.free 36 _ rfl)).f1 (c.free 38 _ rfl)).f1 (c.free 41 _ rfl)).df ((d__law_cell c).mono (by decide))) e__law_digits rfl (fun _ _ _ _ _ _ us hl => match us, hl with | [_, _, _], _ => rfl)
noncomputable def C__law_draw : Cn := ⟨["box", "many", "at"], defScope (top 33), fun _ => true, [], [], ["len", "int"], []⟩
theorem e__law_draw : dSs (dS 60 C__law_draw) (defBody (top 33)) = PH.s__law_draw := by kernel_rfl
theorem d__law_draw (c : Wd K mg fa fn) : DefOk P w K mg base ⟨K, mg, none⟩ 1 "_law_draw" PH.fn__law_draw := by
  obtain ⟨fd, F⟩ := c.d 20 _ rfl
  exact def_ok (C := C__law_draw) (ps := ["box", "many"]) F (c.glo 20 _ rfl) ⟨rfl, rfl, rfl, by decide +kernel, rfl, by decide +kernel, by decide +kernel⟩ rfl rfl ((GOk.nil.f1 (c.free 36 _ rfl)).f1 (c.free 38 _ rfl)) e__law_draw rfl (fun _ _ _ _ _ _ us hl => match us, hl with | [_, _], _ => rfl)
noncomputable def C__law_wide : Cn := ⟨["box", "many", "number"], defScope (top 34), fun _ => true, [("_law_draw", PH.fn__law_draw)], [], ["int"], []⟩
theorem e__law_wide : dSs (dS 60 C__law_wide) (defBody (top 34)) = PH.s__law_wide := by kernel_rfl
theorem d__law_wide (c : Wd K mg fa fn) : DefOk P w K mg base ⟨K, mg, none⟩ 2 "_law_wide" PH.fn__law_wide := by
  obtain ⟨fd, F⟩ := c.d 21 _ rfl
  exact def_ok (C := C__law_wide) (ps := ["box", "many"]) F (c.glo 21 _ rfl) ⟨rfl, rfl, rfl, by decide +kernel, rfl, by decide +kernel, by decide +kernel⟩ rfl rfl ((GOk.nil.f1 (c.free 36 _ rfl)).df ((d__law_draw c).mono (by decide))) e__law_wide rfl (fun _ _ _ _ _ _ us hl => match us, hl with | [_, _], _ => rfl)
noncomputable def C__law_like (self : Fn) : Cn := ⟨["told", "due", "k"], defScope (top 35), fun _ => true, [("_law_like", self)], [], ["isinstance", "tuple", "str", "int", "bool", "len", "range"], []⟩
theorem e__law_like (self : Fn) : dSs (dS 60 (C__law_like self)) (defBody (top 35)) = PH.s__law_like self := by kernel_rfl
theorem d__law_like (c : Wd K mg fa fn) : DefOk P w K mg base ⟨K, mg, none⟩ 13 "_law_like" PH.fn__law_like := by
  obtain ⟨fd, F⟩ := c.d 22 _ rfl
  exact def_rec (C := C__law_like) (ps := ["told", "due"]) (N := ["told", "due", "k"]) (j := 0) F (c.glo 22 _ rfl) ⟨rfl, rfl, rfl, by decide +kernel, rfl, by decide +kernel, by decide +kernel⟩ rfl (fun _ => rfl) (fun self i hi sf => ((((((((GOk.nil.f1 (c.free 41 _ rfl)).f1 (c.free 38 _ rfl)).f1 (c.free 34 _ rfl)).f1 (c.free 36 _ rfl)).f1 (c.free 44 _ rfl)).f1 (c.free 46 _ rfl)).f1 (c.free 37 _ rfl)).df (sf.mono (by omega)))) e__law_like (fun _ => rfl) rfl (fun _ _ _ _ _ _ us hl => match us, hl with | [_, _], _ => rfl) 12
noncomputable def C__law_bounds : Cn := ⟨["box", "wide", "least", "most"], defScope (top 36), fun _ => true, [("_law_draw", PH.fn__law_draw), ("_law_wide", PH.fn__law_wide)], [], ["min"], []⟩
theorem e__law_bounds : dSs (dS 60 C__law_bounds) (defBody (top 36)) = PH.s__law_bounds := by kernel_rfl
theorem d__law_bounds (c : Wd K mg fa fn) : DefOk P w K mg base ⟨K, mg, none⟩ 3 "_law_bounds" PH.fn__law_bounds := by
  obtain ⟨fd, F⟩ := c.d 23 _ rfl
  exact def_ok (C := C__law_bounds) (ps := ["box", "wide"]) F (c.glo 23 _ rfl) ⟨rfl, rfl, rfl, by decide +kernel, rfl, by decide +kernel, by decide +kernel⟩ rfl rfl (((GOk.nil.f1 (c.free 40 _ rfl)).df ((d__law_wide c).mono (by decide))).df ((d__law_draw c).mono (by decide))) e__law_bounds rfl (fun _ _ _ _ _ _ us hl => match us, hl with | [_, _], _ => rfl)
noncomputable def C__law_span : Cn := ⟨["box", "name", "marks", "wide", "ends", "a", "b"], defScope (top 37), fun _ => true, [("_law_draw", PH.fn__law_draw), ("_law_bounds", PH.fn__law_bounds)], [], ["list", "len", "int"], []⟩
theorem e__law_span : dSs (dS 60 C__law_span) (defBody (top 37)) = PH.s__law_span := by kernel_rfl
theorem d__law_span (c : Wd K mg fa fn) : DefOk P w K mg base ⟨K, mg, none⟩ 4 "_law_span" PH.fn__law_span := by
  obtain ⟨fd, F⟩ := c.d 24 _ rfl
  exact def_ok (C := C__law_span) (ps := ["box", "name", "marks", "wide"]) F (c.glo 24 _ rfl) ⟨rfl, rfl, rfl, by decide +kernel, rfl, by decide +kernel, by decide +kernel⟩ rfl rfl (((((GOk.nil.f1 (c.free 36 _ rfl)).f1 (c.free 38 _ rfl)).f1 (c.free 39 _ rfl)).df ((d__law_bounds c).mono (by decide))).df ((d__law_draw c).mono (by decide))) e__law_span rfl (fun _ _ _ _ _ _ us hl => match us, hl with | [_, _, _, _], _ => rfl)
noncomputable def C__law_plan : Cn := ⟨["box", "many", "spans", "loose", "marks", "k", "rows", "ends", "at", "begin", "least"], defScope (top 38), fun _ => true, [("_law_span", PH.fn__law_span), ("_law_draw", PH.fn__law_draw)], [], ["range", "tuple", "str", "list", "len"], []⟩
theorem e__law_plan : dSs (dS 60 C__law_plan) (defBody (top 38)) = PH.s__law_plan := by kernel_rfl
theorem d__law_plan (c : Wd K mg fa fn) : DefOk P w K mg base ⟨K, mg, none⟩ 5 "_law_plan" PH.fn__law_plan := by
  obtain ⟨fd, F⟩ := c.d 25 _ rfl
  exact def_ok (C := C__law_plan) (ps := ["box", "many", "spans", "loose"]) F (c.glo 25 _ rfl) ⟨rfl, rfl, rfl, by decide +kernel, rfl, by decide +kernel, by decide +kernel⟩ rfl rfl (((((((GOk.nil.f1 (c.free 38 _ rfl)).f1 (c.free 39 _ rfl)).f1 (c.free 44 _ rfl)).f1 (c.free 46 _ rfl)).f1 (c.free 41 _ rfl)).df ((d__law_draw c).mono (by decide))).df ((d__law_span c).mono (by decide))) e__law_plan rfl (fun _ _ _ _ _ _ us hl => match us, hl with | [_, _, _, _], _ => rfl)
noncomputable def C__law_bound_text : Cn := ⟨["bound"], defScope (top 39), fun _ => true, [], [], ["str"], []⟩
theorem e__law_bound_text : dSs (dS 60 C__law_bound_text) (defBody (top 39)) = P03.s__law_bound_text := by kernel_rfl
theorem d__law_bound_text (c : Wd K mg fa fn) : DefOk P w K mg base ⟨K, mg, none⟩ 1 "_law_bound_text" P03.fn__law_bound_text := by
  obtain ⟨fd, F⟩ := c.d 26 _ rfl
  exact def_ok (C := C__law_bound_text) (ps := ["bound"]) F (c.glo 26 _ rfl) ⟨rfl, rfl, rfl, by decide +kernel, rfl, by decide +kernel, by decide +kernel⟩ rfl rfl (GOk.nil.f1 (c.free 44 _ rfl)) e__law_bound_text rfl (fun _ _ _ _ _ _ us hl => match us, hl with | [_], _ => rfl)
noncomputable def C__law_span_text : Cn := ⟨["row"], defScope (top 40), fun _ => true, [("_law_bound_text", P03.fn__law_bound_text)], [], [], []⟩
theorem e__law_span_text : dSs (dS 60 C__law_span_text) (defBody (top 40)) = P03.s__law_span_text := by kernel_rfl
theorem d__law_span_text (c : Wd K mg fa fn) : DefOk P w K mg base ⟨K, mg, none⟩ 2 "_law_span_text" P03.fn__law_span_text := by
  obtain ⟨fd, F⟩ := c.d 27 _ rfl
  exact def_ok (C := C__law_span_text) (ps := ["row"]) F (c.glo 27 _ rfl) ⟨rfl, rfl, rfl, by decide +kernel, rfl, by decide +kernel, by decide +kernel⟩ rfl rfl (GOk.nil.df ((d__law_bound_text c).mono (by decide))) e__law_span_text rfl (fun _ _ _ _ _ _ us hl => match us, hl with | [_], _ => rfl)
noncomputable def C__law_plan_text : Cn := ⟨["plan", "lines", "mark", "row", "line"], defScope (top 41), fun _ => true, [("_law_span_text", P03.fn__law_span_text)], [], [], []⟩
theorem e__law_plan_text : dSs (dS 60 C__law_plan_text) (defBody (top 41)) = P03.s__law_plan_text := by kernel_rfl
theorem d__law_plan_text (c : Wd K mg fa fn) : DefOk P w K mg base ⟨K, mg, none⟩ 3 "_law_plan_text" P03.fn__law_plan_text := by
  obtain ⟨fd, F⟩ := c.d 28 _ rfl
  exact def_ok (C := C__law_plan_text) (ps := ["plan"]) F (c.glo 28 _ rfl) ⟨rfl, rfl, rfl, by decide +kernel, rfl, by decide +kernel, by decide +kernel⟩ rfl rfl (GOk.nil.df ((d__law_span_text c).mono (by decide))) e__law_plan_text rfl (fun _ _ _ _ _ _ us hl => match us, hl with | [_], _ => rfl)
noncomputable def C__law_any_name : Cn := ⟨["box", "first", "body"], defScope (top 42), fun _ => true, [("_law_draw", PH.fn__law_draw)], [], [], []⟩
theorem e__law_any_name : dSs (dS 60 C__law_any_name) (defBody (top 42)) = P03.s__law_any_name := by kernel_rfl
theorem d__law_any_name (c : Wd K mg fa fn) : DefOk P w K mg base ⟨K, mg, none⟩ 2 "_law_any_name" P03.fn__law_any_name := by
  obtain ⟨fd, F⟩ := c.d 29 _ rfl
  exact def_ok (C := C__law_any_name) (ps := ["box"]) F (c.glo 29 _ rfl) ⟨rfl, rfl, rfl, by decide +kernel, rfl, by decide +kernel, by decide +kernel⟩ rfl rfl (GOk.nil.df ((d__law_draw c).mono (by decide))) e__law_any_name rfl (fun _ _ _ _ _ _ us hl => match us, hl with | [_], _ => rfl)
noncomputable def C__law_wide_plan : Cn := ⟨["box", "marks", "k", "rows", "ends", "row", "at", "least", "begin"], defScope (top 43), fun _ => true, [("_law_span", PH.fn__law_span), ("_law_draw", PH.fn__law_draw), ("_law_any_name", P03.fn__law_any_name), ("_law_wide", PH.fn__law_wide)], [], ["sorted", "range", "set", "tuple", "len", "str", "min"], []⟩
theorem e__law_wide_plan : dSs (dS 60 C__law_wide_plan) (defBody (top 43)) = P03.s__law_wide_plan := by kernel_rfl
theorem d__law_wide_plan (c : Wd K mg fa fn) : DefOk P w K mg base ⟨K, mg, none⟩ 5 "_law_wide_plan" P03.fn__law_wide_plan := by
  obtain ⟨fd, F⟩ := c.d 30 _ rfl
  exact def_ok (C := C__law_wide_plan) (ps := ["box"]) F (c.glo 30 _ rfl) ⟨rfl, rfl, rfl, by decide +kernel, rfl, by decide +kernel, by decide +kernel⟩ rfl rfl (((((((((((GOk.nil.f1 (c.free 40 _ rfl)).f1 (c.free 44 _ rfl)).f1 (c.free 38 _ rfl)).f1 (c.free 46 _ rfl)).f1 (c.free 42 _ rfl)).f1 (c.free 41 _ rfl)).f1 (c.free 43 _ rfl)).df ((d__law_wide c).mono (by decide))).df ((d__law_any_name c).mono (by decide))).df ((d__law_draw c).mono (by decide))).df ((d__law_span c).mono (by decide))) e__law_wide_plan rfl (fun _ _ _ _ _ _ us hl => match us, hl with | [_], _ => rfl)
noncomputable def C_law : Cn := ⟨["script", "box", "turn", "plan", "text", "row"], defScope (top 44), fun _ => true, [("_law_digits", PH.fn__law_digits), ("_law_wide_plan", P03.fn__law_wide_plan), ("_law_plan_text", P03.fn__law_plan_text), ("_law_draw", PH.fn__law_draw), ("_law_plan", PH.fn__law_plan), ("_law_like", PH.fn__law_like), ("loose_of", P03.fn_loose_of), ("write_plan", P03.fn_write_plan), ("read_plan", P03.fn_read_plan)], [], ["range", "tuple", "sorted"], []⟩
theorem e_law : dSs (dS 60 C_law) (defBody (top 44)) = P03.s_law := by kernel_rfl
theorem fn_law_ok {f : Addr} {fd : FuncData} (F : FunD K "law" "law" (defArgs (top 44)) (defBody (top 44)) (defScope (top 44)) [] [] f fd) (c : Wd K mg fa fn) : FnOk P w K mg base (L2N.CX P w) 14 f fd ["script"] (spOf ⟨K, mg, none⟩ P03.fn_law) := by
  exact fn_sound (C := C_law) F ⟨rfl, rfl, rfl, by decide +kernel, rfl, by decide +kernel, by decide +kernel⟩ rfl rfl ((((((((((((GOk.nil.f1 (c.free 43 _ rfl)).f1 (c.free 46 _ rfl)).f1 (c.free 41 _ rfl)).df ((d_read_plan c).mono (by decide))).df ((d_write_plan c).mono (by decide))).df ((d_loose_of c).mono (by decide))).df ((d__law_like c).mono (by decide))).df ((d__law_plan c).mono (by decide))).df ((d__law_draw c).mono (by decide))).df ((d__law_plan_text c).mono (by decide))).df ((d__law_wide_plan c).mono (by decide))).df ((d__law_digits c).mono (by decide))) 60 e_law rfl (fun _ _ _ _ => .keep _)
end
abbrev R : PySem.W.OpenRow := PySem.W.OpenLaw.row PySem.Challenge.rw_planholds_k03_pla_written_and_read
abbrev hk : PySem.W.Hook := He.hookD 4 fa fn
def ob (s : PySem.W.SharedT) : He.AlD := He.obsDG 4 fa fn (HandSHeadRun.getT s)
theorem ob_eq (s : PySem.W.SharedT) : ob s = hk.obs s.abs := He.obsDG_eq (HandSHeadRun.getT_eq s)
theorem run (w : World) : HandSHeadRun.RunEq R (PySem.W.view R.prog [44]) hk ob 6000 ((["BadText", "DIGITS", "LAST_BOUND", "LETTERS", "MOST_LOOSE", "MOST_MARKS", "MOST_SPANS", "PlanError", "ZERO", "_law_any_name", "_law_bound_text", "_law_bounds", "_law_cell", "_law_digits", "_law_draw", "_law_like", "_law_plan", "_law_plan_text", "_law_span", "_law_span_text", "_law_wide", "_law_wide_plan", "are_bounds", "are_durations", "bound_text", "ends_well", "is_bound", "is_name", "is_own_name", "is_span"] : List PySem.Str) ++ (["is_whole", "line_fault", "lines_of", "loose_of", "read_line", "read_plan", "span_fault", "span_line", "whole_of", "write_plan"] : List PySem.Str)) w := by
  intro os
  kernel_rfl
theorem facts {P : Program} {w : World} {K : PySem.W.Frag} {h : Heap} {mg : Str → Option Value} {f : Addr} (X : K.In h) (G : h.Ns mainGlobals mg) (hfa : mg ("law" : Str) = some (.ref f)) (c : He.SaysD fa fn K) :
    ∃ fd : FuncData, (∀ (s : Shared) (v : Value), BindsTo s fd ⟨[v], []⟩ [("script", v)]) ∧ ∀ base : Heap, K.In base → base.Ns mainGlobals mg → FnOk P w K mg base CX0 14 f fd ["script"] (fun vs H Q _ => spOf ⟨K, mg, none⟩ P03.fn_law vs H Q fun _ _ _ => False) := by
  obtain ⟨fd, F⟩ := c.def_ 31 (d := dd_law) rfl
  have e := hfa.symm.trans (He.glo_ok X G (c.fact 31 (f := .glo "law") rfl))
  cases e
  have b := FunD.bindsA (ps := ["script"]) F fun _ _ _ _ _ _ us hl => match us, hl with | [_], _ => rfl
  refine ⟨fd, fun s v => b s [v] rfl, fun base _ _ => ?_⟩
  have c' : Wd K mg fa fn := Wd.of X G c
  exact FnOk.nox (fn_law_ok F c')
end K03
open PySem PySem.W PySem.Calls PyProof.Rows
set_option maxHeartbeats 0 in
theorem PySem.Challenge.cw_planholds_k03_pla_written_and_read_holds : PySem.Challenge.rw_planholds_k03_pla_written_and_read.Holds := by
  w_on; o_law
  refine HandSHeadRun.head_any (r := OpenLaw.row PySem.Challenge.rw_planholds_k03_pla_written_and_read) (q := view (OpenLaw.row PySem.Challenge.rw_planholds_k03_pla_written_and_read).prog [44]) (H := K03.hk) (ob := K03.ob) (M := 6000) (loose := (["BadText", "DIGITS", "LAST_BOUND", "LETTERS", "MOST_LOOSE", "MOST_MARKS", "MOST_SPANS", "PlanError", "ZERO", "_law_any_name", "_law_bound_text", "_law_bounds", "_law_cell", "_law_digits", "_law_draw", "_law_like", "_law_plan", "_law_plan_text", "_law_span", "_law_span_text", "_law_wide", "_law_wide_plan", "are_bounds", "are_durations", "bound_text", "ends_well", "is_bound", "is_name", "is_own_name", "is_span"] : List PySem.Str) ++ (["is_whole", "line_fault", "lines_of", "loose_of", "read_line", "read_plan", "span_fault", "span_line", "whole_of", "write_plan"] : List PySem.Str)) (d := HandSHeadRun.topDef (OpenLaw.row PySem.Challenge.rw_planholds_k03_pla_written_and_read).prog 44) (kwd := []) K03.ob_eq
    (by kernel_rfl) (fun s => by kernel_rfl) K03.run (by kernel_rfl) (by kernel_rfl) (by kernel_rfl) (by rfl) (by first | assumption | decide +kernel) (by decide +kernel) ⟨rfl, rfl, rfl, rfl, rfl, by decide +kernel⟩ ?hw ?hc
  case hw => w_witness2
  case hc =>
    refine L2.walk_ofE (l := PySem.Challenge.rw_planholds_k03_pla_written_and_read) (n := 63) (k := 14) (x := "script") (CX := L2.CX0) rfl (by decide) (by kernel_rfl) ⟨rfl, by decide, by decide⟩ ?F (fun _ _ _ _ z => z)
    intro w mg fa h Y G hmg0
    obtain ⟨K, KX, c⟩ := Y
    have hmg : mg ("law" : PySem.Str) = some (.ref fa) := by
      have e : (HandSHeadRun.topDef (OpenLaw.row PySem.Challenge.rw_planholds_k03_pla_written_and_read).prog 44).name = ("law" : PySem.Str) := by kernel_rfl
      rw [← e]
      exact hmg0
    obtain ⟨fd, hb, hF⟩ := K03.facts (P := (PySem.Challenge.rw_planholds_k03_pla_written_and_read).prog) (w := w) KX G hmg c
    exact ⟨K, fd, (fun vs H Q _ => M.spOf ⟨K, mg, none⟩ P03.fn_law vs H Q fun _ _ _ => False), KX, hb, fun H a ns hl ho hS => M.law_sp (k := ⟨K, mg, none⟩) rfl ho hS rfl (K03.law_true ns hl), hF⟩
