import PyProof.Rows.All
import Wide.All
import OpenK.AllK
import Wide.FinOn
import KE.KStateDown
import Lean
import HandS.Base
import HandS.Call
import HandS.Ends
import HandS.More
import HandS.Words
import HandS.WordsExc
import HandS.Defaults
import HandS.Head0
import HandS.Head1
import HandS.Head2
import HandS.HeadEnd
import HandS.HeadHook1
import HandS.HeadHook2
import HandS.ForMost
import HandS.Exc
import HandS.ExcCtx
import HandS.TryOnly
import HandS.IsInst
import HandS.TupAny
import HandS.CallSlots
import HandS.HotCalls
import KE.DataEq
import HandS.Wide
import HandS.TupLe
import HandS.Strs
import HandS.FStr
import HandS.NoneIn
import HandS.Zip
import HandS.Dict
import HandS.DictComp
import HandS.Codes
import HandS.StrMore
import HandS.Conv
import HandS.RaiseMore
import HandS.Flow
import HandS.ExcOwn
import HandS.Style
import HandS.Rev
import HandS.Star
import PySem.Challenge.RW_planholds_k06_way_said
set_option Elab.async false
set_option linter.all false
set_option maxRecDepth 100000
set_option maxHeartbeats 4000000
/-! M: a denotational semantics of the Python that the package and its laws are written in: tree data, a heap of lists and dicts, results. -/
namespace M
open PySem PySem.Spec PyProof.Rows L2

/-- data: tuples are trees, and lists that are read only (ls); what can be changed stands in a heap -/
inductive D where
  | non | bl (b : Bool) | int (i : Int) | str (x : List Nat) | tup (xs : List D) | ls (xs : List D) | ref (n : Nat)
  deriving Inhabited
/-- a written text -/
def cs (s : String) : List Nat := (PySem.Str.ofString s).cps.toList
/-- what stands in the heap: a list, a dict (t: its keys are tuples; lk: it is walked), an instance -/
inductive Cell where
  | lst (xs : List D) | dic (t lk : Bool) (kvs : List (D × D)) | ins (c : Str) (fs : List (Str × D))
  deriving Inhabited
abbrev Hs := List Cell
abbrev Env := List (Option D)
/-- an exception: its class's name, its fields -/
structure Ex where
  cls : Str
  fs : List (Str × D)
  deriving Inhabited
inductive Res (α : Type) where
  | ok (a : α) (h : Hs) | exc (e : Ex) (h : Hs) | bad
  deriving Inhabited
inductive Fl where
  | nx (env : Env) (h : Hs) | rt (d : D) (h : Hs) | bk (env : Env) (h : Hs) | ct (env : Env) (h : Hs) | exc (e : Ex) (env : Env) (h : Hs) | bad
  deriving Inhabited
abbrev lim : Nat := 16777216
def Res.bind {α β : Type} (r : Res α) (f : α → Hs → Res β) : Res β := match r with
  | .ok a h => f a h
  | .exc e h => .exc e h
  | .bad => .bad
section
variable {α β : Type}
@[simp] theorem Res.bind_ok (a : α) (h : Hs) (f : α → Hs → Res β) : (Res.ok a h).bind f = f a h := rfl
@[simp] theorem Res.bind_exc (e : Ex) (h : Hs) (f : α → Hs → Res β) : (Res.exc e h : Res α).bind f = .exc e h := rfl
@[simp] theorem Res.bind_bad (f : α → Hs → Res β) : (Res.bad : Res α).bind f = .bad := rfl
end
/-- an answer that must be there -/
def Res.of {α : Type} (o : Option α) (h : Hs) : Res α := match o with
  | some a => .ok a h
  | none => .bad
@[simp] theorem Res.of_some {α : Type} (a : α) (h : Hs) : Res.of (some a) h = .ok a h := rfl
@[simp] theorem Res.of_none {α : Type} (h : Hs) : Res.of (none : Option α) h = .bad := rfl

/-! ### data against values -/
/-- a list that nobody writes: known to the object, or of the module -/
def SqR (K : PySem.W.Frag) (H : Hp) (a : Addr) (xs : List V) : Prop :=
  (∃ o, H a = some (.frz o (.lst xs))) ∨
    ∃ (o : Obj) (its : Array Value) (n : Nat), K.lookup a = some o ∧ o.cls = .type "list" ∧ o.dict = none ∧ o.data = .seq its n ∧ its.size ≤ sizeLine ∧ Vals xs its.toList
theorem SqR.sq {K : PySem.W.Frag} {H : Hp} {a : Addr} {xs : List V} (h : SqR K H a xs) : SqL K H a xs := h.elim (fun q => .inl (.inr q)) .inr
def keyD : Key → D
  | .inl i => .int i
  | .inr x => .str x.cps.toList
def keyOk : Key → Prop
  | .inl _ => True
  | .inr x => x.cps.size ≤ lim
section
variable (K : PySem.W.Frag) (F : List Addr) (H : Hp)
mutual
def DV : D → V → Prop
  | .non, v => v = .non
  | .bl b, v => v = .bl b
  | .int i, v => v = .int i
  | .str x, v => v = .str ⟨x.toArray⟩ ∧ x.length ≤ lim
  | .tup ds, v => ∃ a vs, v = .ref a ∧ H a = some (.tup vs) ∧ DVs ds vs
  | .ls ds, v => ∃ a vs, v = .ref a ∧ SqR K H a vs ∧ DVs ds vs
  | .ref n, v => ∃ a, v = .ref a ∧ F[n]? = some a
def DVs : List D → List V → Prop
  | [], vs => vs = []
  | d :: ds, vs => ∃ v r, vs = v :: r ∧ DV d v ∧ DVs ds r
end
/-- a dict's object: flat keys, or tuples of them -/
def DicR (t : Bool) (kvs : List (D × D)) (o : HO) : Prop := match t with
  | false => ∃ l : List (Key × V), o = .dK l ∧ Paired (fun (p : D × D) (q : Key × V) => p.1 = keyD q.1 ∧ keyOk q.1 ∧ DV K F H p.2 q.2) kvs l
  | true => ∃ l : List (List Key × V), o = .dT l ∧ Paired (fun (p : D × D) (q : List Key × V) => p.1 = .tup (q.1.map keyD) ∧ (∀ z ∈ q.1, keyOk z) ∧ DV K F H p.2 q.2) kvs l
/-- attributes -/
def DFs : List (Str × D) → List (Str × V) → Prop
  | [], vs => vs = []
  | (n, d) :: ds, vs => ∃ v r, vs = (n, v) :: r ∧ DV K F H d v ∧ DFs ds r
end
structure Kx where
  K : PySem.W.Frag
  mg : Str → Option Value
  xd : Option (Addr × List (Str × V))

def CellR (k : Kx) (F : List Addr) (H : Hp) (a : Addr) : Cell → Prop
  | .lst xs => ∃ vs, H a = some (.lst vs) ∧ DVs k.K F H xs vs
  | .dic t lk kvs => ∃ o, DicR k.K F H t kvs o ∧ (if lk then ∃ ob, H a = some (.frz ob o) else H a = some o)
  | .ins c fs => ∃ C dx vs, k.mg c = some (.ref C) ∧ H a = some (.ins C dx vs) ∧ DFs k.K F H fs vs
structure RelH (k : Kx) (F : List Addr) (H : Hp) (h : Hs) : Prop where
  len : F.length = h.length
  nd : F.Nodup
  cell : ∀ (i : Nat) (c : Cell) (a : Addr), h[i]? = some c → F[i]? = some a → CellR k F H a c
structure Step (K : PySem.W.Frag) (F : List Addr) (H : Hp) (F' : List Addr) (H' : Hp) : Prop where
  pre : ∃ G, F' = F ++ G
  old : ∀ a o, H a = some o → a ∉ F → H' a = some o
  new : ∀ a, a ∈ F' → a ∉ F → H a = none
  tup : ∀ a xs, H a = some (.tup xs) → H' a = some (.tup xs)
  lsr : ∀ a xs, SqR K H a xs → SqR K H' a xs
theorem Step.refl {K F H} : Step K F H F H := ⟨⟨[], by simp⟩, fun _ _ e _ => e, fun _ h1 h2 => absurd h1 h2, fun _ _ h => h, fun _ _ h => h⟩
theorem Step.mem {K F H F' H'} (s : Step K F H F' H') {a : Addr} (h : a ∈ F) : a ∈ F' := by
  obtain ⟨G, e⟩ := s.pre
  rw [e]; exact List.mem_append_left _ h
theorem Step.trans {K F H F1 H1 F2 H2} (s : Step K F H F1 H1) (t : Step K F1 H1 F2 H2) : Step K F H F2 H2 where
  pre := by
    obtain ⟨G, e⟩ := s.pre
    obtain ⟨G', e'⟩ := t.pre
    exact ⟨G ++ G', by rw [e', e, List.append_assoc]⟩
  old := fun a o e n => by
    have e1 := s.old a o e n
    refine t.old a o e1 fun m => ?_
    rw [s.new a m n] at e; cases e
  new := fun a m n => by
    by_cases m1 : a ∈ F1
    · exact s.new a m1 n
    · have z := t.new a m m1
      cases e : H a with
      | none => rfl
      | some o =>
        rw [s.old a o e n] at z; cases z
  tup := fun a xs h => t.tup a xs (s.tup a xs h)
  lsr := fun a xs h => t.lsr a xs (s.lsr a xs h)
theorem Step.get {K F H F' H'} (s : Step K F H F' H') {n : Nat} {a : Addr} (h : F[n]? = some a) : F'[n]? = some a := by
  obtain ⟨G, e⟩ := s.pre
  obtain ⟨hl, _⟩ := List.getElem?_eq_some_iff.mp h
  rw [e, List.getElem?_append_left hl]; exact h
mutual
theorem DV.mono {K F H F' H'} (s : Step K F H F' H') : ∀ (d : D) (v : V), DV K F H d v → DV K F' H' d v
  | .non, _, h => by unfold DV at h ⊢; exact h
  | .bl _, _, h => by unfold DV at h ⊢; exact h
  | .int _, _, h => by unfold DV at h ⊢; exact h
  | .str _, _, h => by unfold DV at h ⊢; exact h
  | .tup ds, v, h => by
    unfold DV at h ⊢
    obtain ⟨a, vs, e, q, r⟩ := h
    exact ⟨a, vs, e, s.tup _ _ q, DVs.mono s ds vs r⟩
  | .ls ds, v, h => by
    unfold DV at h ⊢
    obtain ⟨a, vs, e, q, r⟩ := h
    exact ⟨a, vs, e, s.lsr _ _ q, DVs.mono s ds vs r⟩
  | .ref n, v, h => by
    unfold DV at h ⊢
    obtain ⟨a, e, q⟩ := h
    exact ⟨a, e, s.get q⟩
theorem DVs.mono {K F H F' H'} (s : Step K F H F' H') : ∀ (ds : List D) (vs : List V), DVs K F H ds vs → DVs K F' H' ds vs
  | [], _, h => by unfold DVs at h ⊢; exact h
  | d :: ds, vs, h => by
    unfold DVs at h ⊢
    obtain ⟨v, r, e, h1, h2⟩ := h
    exact ⟨v, r, e, DV.mono s d v h1, DVs.mono s ds r h2⟩
end
theorem DFs.mono {K F H F' H'} (s : Step K F H F' H') : ∀ (ds : List (Str × D)) (vs : List (Str × V)), DFs K F H ds vs → DFs K F' H' ds vs
  | [], _, h => h
  | (n, d) :: ds, vs, h => by
    obtain ⟨v, r, e, h1, h2⟩ := h
    exact ⟨v, r, e, DV.mono s d v h1, DFs.mono s ds r h2⟩
theorem DicR.mono {K F H F' H'} (s : Step K F H F' H') {t kvs o} (h : DicR K F H t kvs o) : DicR K F' H' t kvs o := by
  cases t with
  | false => obtain ⟨l, e, p⟩ := h; exact ⟨l, e, Paired.mapP p fun _ _ q => ⟨q.1, q.2.1, DV.mono s _ _ q.2.2⟩⟩
  | true => obtain ⟨l, e, p⟩ := h; exact ⟨l, e, Paired.mapP p fun _ _ q => ⟨q.1, q.2.1, DV.mono s _ _ q.2.2⟩⟩
theorem DicR.is {K F H t kvs o} (h : DicR K F H t kvs o) : (∃ l, o = .dK l) ∨ ∃ l, o = .dT l := by
  cases t with
  | false => obtain ⟨l, e, _⟩ := h; exact .inl ⟨l, e⟩
  | true => obtain ⟨l, e, _⟩ := h; exact .inr ⟨l, e⟩
/-! lists of data -/
section
variable {K : PySem.W.Frag} {F : List Addr} {H : Hp}
theorem DVs.len : ∀ {ds : List D} {vs : List V}, DVs K F H ds vs → ds.length = vs.length
  | [], vs, h => by unfold DVs at h; rw [h]; rfl
  | d :: ds, vs, h => by
    unfold DVs at h
    obtain ⟨v, r, e, _, h2⟩ := h
    rw [e, List.length_cons, List.length_cons, DVs.len h2]
theorem DVs.get : ∀ {ds : List D} {vs : List V} {i : Nat} {d : D}, DVs K F H ds vs → ds[i]? = some d → ∃ v, vs[i]? = some v ∧ DV K F H d v
  | [], _, _, _, _, e => by simp at e
  | d :: ds, vs, i, d', h, e => by
    unfold DVs at h
    obtain ⟨v, r, ev, h1, h2⟩ := h
    subst ev
    cases i with
    | zero =>
      have : d = d' := by simpa using e
      subst this
      exact ⟨v, rfl, h1⟩
    | succ i =>
      have e2 : ds[i]? = some d' := by simpa using e
      obtain ⟨w, q1, q2⟩ := DVs.get h2 e2
      exact ⟨w, by simpa using q1, q2⟩
theorem DVs.getV {ds : List D} {vs : List V} {i : Nat} {v : V} (h : DVs K F H ds vs) (e : vs[i]? = some v) : ∃ d, ds[i]? = some d ∧ DV K F H d v := by
  have hl : i < vs.length := (List.getElem?_eq_some_iff.mp e).1
  have hd : i < ds.length := by rw [h.len]; exact hl
  obtain ⟨w, q1, q2⟩ := h.get (List.getElem?_eq_getElem hd)
  rw [e] at q1; cases q1
  exact ⟨_, List.getElem?_eq_getElem hd, q2⟩
theorem DVs.nil : DVs K F H [] [] := by unfold DVs; rfl
theorem DVs.cons {d v ds vs} (h1 : DV K F H d v) (h2 : DVs K F H ds vs) : DVs K F H (d :: ds) (v :: vs) := by
  unfold DVs; exact ⟨v, vs, rfl, h1, h2⟩
theorem DVs.uncons {d v ds vs} (h : DVs K F H (d :: ds) (v :: vs)) : DV K F H d v ∧ DVs K F H ds vs := by
  unfold DVs at h
  obtain ⟨w, r, e, h1, h2⟩ := h
  cases e
  exact ⟨h1, h2⟩
theorem DVs.app : ∀ {ds es : List D} {vs ws : List V}, DVs K F H ds vs → DVs K F H es ws → DVs K F H (ds ++ es) (vs ++ ws)
  | [], _, vs, _, h, h2 => by unfold DVs at h; rw [h]; exact h2
  | d :: ds, es, vs, ws, h, h2 => by
    unfold DVs at h
    obtain ⟨v, r, e, h1, h3⟩ := h
    rw [e]
    exact DVs.cons h1 (DVs.app h3 h2)
theorem DVs.take : ∀ {ds : List D} {vs : List V} (n : Nat), DVs K F H ds vs → DVs K F H (ds.take n) (vs.take n)
  | _, _, 0, _ => DVs.nil
  | [], vs, n + 1, h => by unfold DVs at h; rw [h]; exact DVs.nil
  | d :: ds, vs, n + 1, h => by
    unfold DVs at h
    obtain ⟨v, r, e, h1, h3⟩ := h
    rw [e]
    exact DVs.cons h1 (DVs.take n h3)
theorem DVs.drop : ∀ {ds : List D} {vs : List V} (n : Nat), DVs K F H ds vs → DVs K F H (ds.drop n) (vs.drop n)
  | _, _, 0, h => h
  | [], vs, n + 1, h => by unfold DVs at h; rw [h]; exact DVs.nil
  | d :: ds, vs, n + 1, h => by
    unfold DVs at h
    obtain ⟨v, r, e, h1, h3⟩ := h
    rw [e]
    exact DVs.drop n h3
theorem DVs.set : ∀ {ds : List D} {vs : List V} (i : Nat) {d v}, DVs K F H ds vs → DV K F H d v → DVs K F H (ds.set i d) (vs.set i v)
  | [], vs, i, _, _, h, _ => by unfold DVs at h; rw [h]; exact DVs.nil
  | d :: ds, vs, i, d', v', h, hd => by
    unfold DVs at h
    obtain ⟨v, r, e, h1, h3⟩ := h
    rw [e]
    cases i with
    | zero => exact DVs.cons hd h3
    | succ i => exact DVs.cons h1 (DVs.set i h3 hd)
theorem DVs.rev : ∀ {ds : List D} {vs : List V}, DVs K F H ds vs → DVs K F H ds.reverse vs.reverse
  | [], vs, h => by unfold DVs at h; rw [h]; exact DVs.nil
  | d :: ds, vs, h => by
    unfold DVs at h
    obtain ⟨v, r, e, h1, h3⟩ := h
    rw [e, List.reverse_cons, List.reverse_cons]
    exact DVs.app (DVs.rev h3) (DVs.cons h1 DVs.nil)
end
/-! ### changes of the heap -/
theorem Tp.upd {H : Hp} {p a : Addr} {o : HO} {xs : List V} (hp : ∀ u, H p = some u → ∀ ys, u ≠ .tup ys) (h : H a = some (.tup xs)) : L2.upd H p o a = some (.tup xs) := by
  rw [upd_ne (show a ≠ p from fun e => by subst e; exact hp _ h xs rfl)]; exact h
theorem SqR.upd {K : PySem.W.Frag} {H : Hp} {p a : Addr} {o : HO} {xs : List V} (hp : ∀ u, H p = some u → ∀ ob ys, u ≠ .frz ob (.lst ys)) (h : SqR K H a xs) : SqR K (upd H p o) a xs := by
  rcases h with ⟨ob, h⟩ | h
  · refine .inl ⟨ob, ?_⟩
    rw [upd_ne (show a ≠ p from fun e => by subst e; exact hp _ h ob xs rfl)]; exact h
  · exact .inr h
/-- the object of a cell -/
theorem CellR.there {k F H a} : ∀ {c : Cell}, CellR k F H a c → ∃ o, H a = some o ∧ (∀ ys, o ≠ .tup ys) ∧ (∀ ob ys, o ≠ .frz ob (.tup ys)) ∧ (∀ ob ys, o ≠ .frz ob (.lst ys)) ∧ ∀ vs, o ≠ .xd vs
  | .lst xs, ⟨vs, e, _⟩ => ⟨_, e, fun _ z => (nomatch z), fun _ _ z => (nomatch z), fun _ _ z => (nomatch z), fun _ z => (nomatch z)⟩
  | .dic t lk kvs, ⟨o, d, e⟩ => by
    have ho := d.is
    cases lk with
    | true =>
      obtain ⟨ob, e⟩ := e
      rcases ho with ⟨l, rfl⟩ | ⟨l, rfl⟩ <;> exact ⟨_, e, fun _ z => (nomatch z), fun _ _ z => (nomatch z), fun _ _ z => (nomatch z), fun _ z => (nomatch z)⟩
    | false =>
      have e : H a = some o := e
      rcases ho with ⟨l, rfl⟩ | ⟨l, rfl⟩ <;> exact ⟨_, e, fun _ z => (nomatch z), fun _ _ z => (nomatch z), fun _ _ z => (nomatch z), fun _ z => (nomatch z)⟩
  | .ins c fs, ⟨C, dx, vs, _, e, _⟩ => ⟨_, e, fun _ z => (nomatch z), fun _ _ z => (nomatch z), fun _ _ z => (nomatch z), fun _ z => (nomatch z)⟩
theorem RelH.at {k F H h} (r : RelH k F H h) {a : Addr} (m : a ∈ F) : ∃ (i : Nat) (c : Cell), h[i]? = some c ∧ F[i]? = some a ∧ CellR k F H a c := by
  obtain ⟨i, hi, e⟩ := List.mem_iff_getElem.mp m
  have hi' : i < h.length := by rw [← r.len]; exact hi
  have e' : F[i]? = some a := by rw [List.getElem?_eq_getElem hi, e]
  exact ⟨i, h[i], List.getElem?_eq_getElem hi', e', r.cell i _ a (List.getElem?_eq_getElem hi') e'⟩
theorem RelH.there {k F H h} (r : RelH k F H h) {a : Addr} (m : a ∈ F) : ∃ o, H a = some o ∧ (∀ ys, o ≠ .tup ys) ∧ (∀ ob ys, o ≠ .frz ob (.tup ys)) ∧ (∀ ob ys, o ≠ .frz ob (.lst ys)) ∧ ∀ vs, o ≠ .xd vs :=
  let ⟨_, _, _, _, c⟩ := r.at m; c.there
theorem RelH.fresh {k F H h} (r : RelH k F H h) {p : Addr} (hp : H p = none) : p ∉ F := fun m => by
  obtain ⟨o, e, _⟩ := r.there m
  rw [hp] at e; cases e
/-- what a cell says is of its own object and of data -/
theorem CellR.keep {k F H F' H' a} (s : Step k.K F H F' H') (e : H' a = H a) : ∀ {c : Cell}, CellR k F H a c → CellR k F' H' a c
  | .lst xs, ⟨vs, q, d⟩ => ⟨vs, e.trans q, DVs.mono s _ _ d⟩
  | .dic t lk kvs, ⟨o, d, q⟩ => ⟨o, d.mono s, by rw [e]; exact q⟩
  | .ins c fs, ⟨C, dx, vs, m, q, d⟩ => ⟨C, dx, vs, m, e.trans q, DFs.mono s _ _ d⟩
section
variable {k : Kx} {F : List Addr} {H : Hp} {h : Hs} {p : Addr} {o : HO}
/-- something new that is no cell -/
theorem RelH.stepNew (r : RelH k F H h) (hp : H p = none) : Step k.K F H F (upd H p o) where
  pre := ⟨[], by simp⟩
  old := fun a u e _ => by rw [upd_ne (ne_of_none e hp)]; exact e
  new := fun _ h1 h2 => absurd h1 h2
  tup := fun a xs => Tp.upd fun u e => by rw [hp] at e; cases e
  lsr := fun a xs => SqR.upd fun u e => by rw [hp] at e; cases e
theorem RelH.addNew (r : RelH k F H h) (hp : H p = none) : RelH k F (upd H p o) h := by
  refine ⟨r.len, r.nd, fun i c a e1 e2 => ?_⟩
  have c0 := r.cell i c a e1 e2
  obtain ⟨u, e, _⟩ := c0.there
  exact c0.keep (r.stepNew hp) (upd_ne (ne_of_none e hp))
/-- a new cell -/
theorem RelH.stepCell (r : RelH k F H h) (hp : H p = none) : Step k.K F H (F ++ [p]) (upd H p o) where
  pre := ⟨[p], rfl⟩
  old := fun a u e _ => by rw [upd_ne (ne_of_none e hp)]; exact e
  new := fun a h1 h2 => by
    rcases List.mem_append.mp h1 with m | m
    · exact absurd m h2
    · rw [List.mem_singleton.mp m]; exact hp
  tup := fun a xs => Tp.upd fun u e => by rw [hp] at e; cases e
  lsr := fun a xs => SqR.upd fun u e => by rw [hp] at e; cases e
theorem RelH.addCell {c : Cell} (r : RelH k F H h) (hp : H p = none) (hc : CellR k (F ++ [p]) (upd H p o) p c) : RelH k (F ++ [p]) (upd H p o) (h ++ [c]) := by
  refine ⟨by simp [r.len], ?_, fun i c' a e1 e2 => ?_⟩
  · refine List.nodup_append.mpr ⟨r.nd, by simp, fun a ha b hb => ?_⟩
    rw [List.mem_singleton.mp hb]
    exact fun e => r.fresh hp (e ▸ ha)
  · by_cases hi : i < h.length
    · rw [List.getElem?_append_left hi] at e1
      rw [List.getElem?_append_left (by rw [r.len]; exact hi)] at e2
      have c0 := r.cell i c' a e1 e2
      obtain ⟨u, e, _⟩ := c0.there
      exact c0.keep (r.stepCell hp) (upd_ne (ne_of_none e hp))
    · have hn : h.length ≤ i := Nat.le_of_not_lt hi
      rw [List.getElem?_append_right hn] at e1
      rw [List.getElem?_append_right (by rw [r.len]; exact hn), r.len] at e2
      cases hj : i - h.length with
      | zero =>
        rw [hj] at e1 e2
        have z1 : c = c' := by simpa using e1
        have z2 : p = a := by simpa using e2
        rw [← z1, ← z2]; exact hc
      | succ j => rw [hj] at e1; simp at e1
/-- a cell is written -/
theorem RelH.stepSet {i : Nat} (r : RelH k F H h) (hi : F[i]? = some p) : Step k.K F H F (upd H p o) where
  pre := ⟨[], by simp⟩
  old := fun a u e n => by rw [upd_ne (show a ≠ p from fun q => n (by rw [q]; exact List.mem_of_getElem? hi))]; exact e
  new := fun _ h1 h2 => absurd h1 h2
  tup := fun a xs => Tp.upd fun u e => by
    obtain ⟨u', e', n1, n2, _⟩ := r.there (List.mem_of_getElem? hi)
    rw [e] at e'; cases e'
    exact n1
  lsr := fun a xs => SqR.upd fun u e => by
    obtain ⟨u', e', n1, n2, n3, _⟩ := r.there (List.mem_of_getElem? hi)
    rw [e] at e'; cases e'
    exact n3
theorem RelH.setCell {i : Nat} {c : Cell} (r : RelH k F H h) (hi : F[i]? = some p) (hc : CellR k F (upd H p o) p c) : RelH k F (upd H p o) (h.set i c) := by
  refine ⟨by simp [r.len], r.nd, fun j c' a e1 e2 => ?_⟩
  by_cases hj : i = j
  · subst hj
    rw [hi] at e2; cases e2
    have hl : i < h.length := by rw [← r.len]; exact (List.getElem?_eq_some_iff.mp hi).1
    rw [List.getElem?_set_self hl] at e1; cases e1
    exact hc
  · rw [List.getElem?_set_ne hj] at e1
    refine (r.cell j c' a e1 e2).keep (r.stepSet hi) (upd_ne fun q => hj ?_)
    subst q
    obtain ⟨l1, g1⟩ := List.getElem?_eq_some_iff.mp hi
    obtain ⟨l2, g2⟩ := List.getElem?_eq_some_iff.mp e2
    exact (List.getElem_inj r.nd).mp (g1.trans g2.symm)
end
/-! ### the state -/
def ER (k : Kx) (F : List Addr) (H : Hp) (σ : L2.St) (env : Env) : Prop := env.length = σ.length ∧ ∀ (i : Nat) (d : D), env[i]? = some (some d) → ∃ v, σ[i]? = some (some v) ∧ DV k.K F H d v
def XD (k : Kx) (F : List Addr) (H : Hp) : Prop := match k.xd with
  | none => True
  | some (dd, vs) => H dd = some (.xd vs) ∧ dd ∉ F
structure SR (k : Kx) (F : List Addr) (H : Hp) (h : Hs) (σ : L2.St) (env : Env) : Prop where
  rel : RelH k F H h
  er : ER k F H σ env
  xd : XD k F H
theorem ER.mono {k F H F' H' σ env} (s : Step k.K F H F' H') (e : ER k F H σ env) : ER k F' H' σ env :=
  ⟨e.1, fun i d q => let ⟨v, h1, h2⟩ := e.2 i d q; ⟨v, h1, DV.mono s d v h2⟩⟩
theorem XD.mono {k F H F' H'} (s : Step k.K F H F' H') (e : XD k F H) : XD k F' H' := by
  unfold XD at e ⊢
  split
  · trivial
  · rename_i dd vs q
    rw [q] at e
    exact ⟨s.old _ _ e.1 e.2, fun m => by have z := s.new _ m e.2; rw [e.1] at z; cases z⟩
theorem SR.step {k F H h σ env F' H' h'} (r : SR k F H h σ env) (s : Step k.K F H F' H') (r' : RelH k F' H' h') : SR k F' H' h' σ env := ⟨r', r.er.mono s, r.xd.mono s⟩
theorem ER.set {k F H σ env d v} (i : Nat) (e : ER k F H σ env) (h : DV k.K F H d v) : ER k F H (σ.set i (some v)) (env.set i (some d)) := by
  refine ⟨by simpa using e.1, fun j d' q => ?_⟩
  by_cases hj : i = j
  · subst hj
    by_cases hi : i < env.length
    · rw [List.getElem?_set_self hi] at q
      cases q
      have hs : i < σ.length := by rw [← e.1]; exact hi
      exact ⟨v, List.getElem?_set_self hs, h⟩
    · rw [List.getElem?_eq_none (by simpa using hi)] at q; cases q
  · rw [List.getElem?_set_ne hj] at q ⊢
    exact e.2 j d' q
theorem ER.clear {k F H σ env} (i : Nat) (e : ER k F H σ env) : ER k F H (σ.set i none) (env.set i none) := by
  refine ⟨by simpa using e.1, fun j d' q => ?_⟩
  by_cases hj : i = j
  · subst hj
    by_cases hi : i < env.length
    · rw [List.getElem?_set_self hi] at q; cases q
    · rw [List.getElem?_eq_none (by simpa using hi)] at q; cases q
  · rw [List.getElem?_set_ne hj] at q ⊢
    exact e.2 j d' q
/-- an immediate value: of no heap -/
def Imm : D → V → Prop
  | .non, v => v = .non
  | .bl b, v => v = .bl b
  | .int i, v => v = .int i
  | .str x, v => v = .str ⟨x.toArray⟩ ∧ x.length ≤ lim
  | _, _ => False
theorem Imm.dv {K F H} : ∀ {d : D} {v : V}, Imm d v → DV K F H d v
  | .non, _, h => by unfold DV; exact h
  | .bl _, _, h => by unfold DV; exact h
  | .int _, _, h => by unfold DV; exact h
  | .str _, _, h => by unfold DV; exact h
  | .tup _, _, h => h.elim
  | .ls _, _, h => h.elim
  | .ref _, _, h => h.elim
def ImmFs (fs : List (Str × D)) (vs : List (Str × V)) : Prop := Paired (fun (p : Str × D) (q : Str × V) => p.1 = q.1 ∧ Imm p.2 q.2) fs vs
/-- an exception's class and own dict -/
def XR (k : Kx) (F : List Addr) (H : Hp) (e : Ex) (cls : Value) (dx : Option Addr) : Prop :=
  ∃ C dd vs, k.mg e.cls = some (.ref C) ∧ cls = .ref C ∧ dx = some dd ∧ H dd = some (.xd vs) ∧ dd ∉ F ∧ ImmFs e.fs vs

/-! ### what is wanted of a result -/
def Post (k : Kx) {α : Type} (F : List Addr) (H : Hp) (P : α → List Addr → Hs → Hp → Prop) (W : Value → Option Addr → Hp → Prop) : Res α → Prop
  | .ok a h' => ∀ F' H', Step k.K F H F' H' → RelH k F' H' h' → P a F' h' H'
  | .exc e h' => ∀ F' H' cls dx, Step k.K F H F' H' → RelH k F' H' h' → XR k F' H' e cls dx → W cls dx H'
  | .bad => False
theorem Post.imp {k : Kx} {α : Type} {F H} {P P' : α → List Addr → Hs → Hp → Prop} {W W' : Value → Option Addr → Hp → Prop} {r : Res α} (p : Post k F H P W r)
    (h : ∀ a F' h' H', Step k.K F H F' H' → RelH k F' H' h' → P a F' h' H' → P' a F' h' H') (hw : ∀ c d H', W c d H' → W' c d H') : Post k F H P' W' r := by
  cases r with
  | ok a h' => exact fun F' H' s r => h a F' h' H' s r (p F' H' s r)
  | exc e h' => exact fun F' H' cls dx s r x => hw _ _ _ (p F' H' cls dx s r x)
  | bad => exact p
theorem Post.step {k : Kx} {α : Type} {F H F1 H1} {P : α → List Addr → Hs → Hp → Prop} {W : Value → Option Addr → Hp → Prop} {r : Res α} (p : Post k F H P W r) (s : Step k.K F H F1 H1) : Post k F1 H1 P W r := by
  cases r with
  | ok a h' => exact fun F' H' s' r => p F' H' (s.trans s') r
  | exc e h' => exact fun F' H' cls dx s' r x => p F' H' cls dx (s.trans s') r x
  | bad => exact p
theorem Post.bind {k : Kx} {α β : Type} {F H} {P : β → List Addr → Hs → Hp → Prop} {W : Value → Option Addr → Hp → Prop} {r : Res α} {f : α → Hs → Res β} (p : Post k F H P W (r.bind f)) :
    Post k F H (fun a F1 h1 H1 => Post k F1 H1 P W (f a h1)) W r := by
  cases r with
  | ok a h1 => exact fun F1 H1 s r => Post.step (r := f a h1) p s
  | exc e h' => exact p
  | bad => exact p
theorem Post.ok {k : Kx} {α : Type} {F H h} {P : α → List Addr → Hs → Hp → Prop} {W : Value → Option Addr → Hp → Prop} {a : α} (p : Post k F H P W (.ok a h)) (r : RelH k F H h) : P a F h H := p F H .refl r
/-- a value wanted -/
abbrev PV (k : Kx) (Q : VK) : D → List Addr → Hs → Hp → Prop := fun d F' _ H' => ∀ v, DV k.K F' H' d v → Q v H'
abbrev PVs (k : Kx) (Q : List V → Hp → Prop) : List D → List Addr → Hs → Hp → Prop := fun d F' _ H' => ∀ v, DVs k.K F' H' d v → Q v H'
abbrev PB (Q : Bool → Hp → Prop) : Bool → List Addr → Hs → Hp → Prop := fun b _ _ H' => Q b H'
abbrev PEnv (k : Kx) (Q : L2.St → Hp → Prop) : Env → List Addr → Hs → Hp → Prop := fun env F' _ H' => ∀ σ', ER k F' H' σ' env → Q σ' H'

/-! ### readings -/
def tE (k : Kx) (W : WX) (f : Env → Hs → Res D) : TE := fun σ H Q => ∃ F h env, SR k F H h σ env ∧ Post k F H (PV k Q) (fun c d H' => W c d σ H') (f env h)
def tT (k : Kx) (W : WX) (f : Env → Hs → Res Bool) : TT := fun σ H Q => ∃ F h env, SR k F H h σ env ∧ Post k F H (PB Q) (fun c d H' => W c d σ H') (f env h)
def tA (k : Kx) (W : WX) (f : Env → Hs → Res (List D)) : TA := fun σ H Q => ∃ F h env, SR k F H h σ env ∧ Post k F H (PVs k Q) (fun c d H' => W c d σ H') (f env h)
def tG (k : Kx) (W : WX) (g : D → Env → Hs → Res Env) : TG := fun v σ H Q => ∃ F h env d, SR k F H h σ env ∧ DV k.K F H d v ∧ Post k F H (PEnv k Q) (fun c d H' => W c d σ H') (g d env h)
def PostF (k : Kx) (F : List Addr) (H : Hp) (N : Ends) (W : WX) : Fl → Prop
  | .nx env h' => ∀ F' H' σ', Step k.K F H F' H' → RelH k F' H' h' → ER k F' H' σ' env → N.nx σ' H'
  | .bk env h' => ∀ F' H' σ', Step k.K F H F' H' → RelH k F' H' h' → ER k F' H' σ' env → N.bk σ' H'
  | .ct env h' => ∀ F' H' σ', Step k.K F H F' H' → RelH k F' H' h' → ER k F' H' σ' env → N.ct σ' H'
  | .rt d h' => ∀ F' H' v, Step k.K F H F' H' → RelH k F' H' h' → DV k.K F' H' d v → N.rt v H'
  | .exc e env h' => ∀ F' H' σ' cls dx, Step k.K F H F' H' → RelH k F' H' h' → ER k F' H' σ' env → XR k F' H' e cls dx → W cls dx σ' H'
  | .bad => False
def tS (k : Kx) (W : WX) (s : Env → Hs → Fl) : TS := fun N σ H => ∃ F h env, SR k F H h σ env ∧ PostF k F H N W (s env h)
theorem PostF.step {k F H F1 H1 N W fl} (p : PostF k F H N W fl) (s : Step k.K F H F1 H1) : PostF k F1 H1 N W fl := by
  cases fl with
  | nx env h' => exact fun F' H' σ' s' => p F' H' σ' (s.trans s')
  | bk env h' => exact fun F' H' σ' s' => p F' H' σ' (s.trans s')
  | ct env h' => exact fun F' H' σ' s' => p F' H' σ' (s.trans s')
  | rt d h' => exact fun F' H' v s' => p F' H' v (s.trans s')
  | exc e env h' => exact fun F' H' σ' cls dx s' => p F' H' σ' cls dx (s.trans s')
  | bad => exact p
/-! weakening of readings -/
theorem PE.imp {X : Cx} {e : Expr} {t t' : TE} (p : PE X e t) (h : ∀ σ H Q, t' σ H Q → t σ H Q) : PE X e t' := ⟨fun pins s σ H Q I q => p.run pins s σ H Q I (h σ H Q q)⟩
theorem PT.imp {X : Cx} {e : Expr} {t t' : TT} (p : PT X e t) (h : ∀ σ H Q, t' σ H Q → t σ H Q) : PT X e t' := ⟨fun pins s σ H Q I q => p.run pins s σ H Q I (h σ H Q q)⟩
theorem PW.imp {X : Cx} {e : Expr} {t t' : TT} (p : PW X e t) (h : ∀ σ H Q, t' σ H Q → t σ H Q) : PW X e t' := ⟨fun w pins s σ H Q I q => p.run w pins s σ H Q I (h σ H Q q)⟩
theorem PA.imp {X : Cx} {e : List Expr} {t t' : TA} (p : PA X e t) (h : ∀ σ H Q, t' σ H Q → t σ H Q) : PA X e t' := ⟨fun pos pins s σ H Q I q => p.run pos pins s σ H Q I (h σ H Q q)⟩
theorem PS.imp {X : Cx} {e : Stmt} {t t' : TS} (p : PS X e t) (h : ∀ N σ H, t' N σ H → t N σ H) : PS X e t' := ⟨fun pins s σ H N I q => p.run pins s σ H N I (h N σ H q)⟩
theorem PSs.imp {X : Cx} {e : List Stmt} {t t' : TS} (p : PSs X e t) (h : ∀ N σ H, t' N σ H → t N σ H) : PSs X e t' := ⟨fun pins s σ H N I q => p.run pins s σ H N I (h N σ H q)⟩
theorem PG.imp {X : Cx} {e : Expr} {t t' : TG} (p : PG X e t) (h : ∀ v σ H Q, t' v σ H Q → t v σ H Q) : PG X e t' := ⟨fun pins s σ H v u Q I r q => p.run pins s σ H v u Q I r (h v σ H Q q)⟩
/-! M1: operators on data, against the operators on values. -/
open PySem PySem.Spec PyProof.Rows L2

/-! ### data as the library's data, to compare -/
mutual
def py : D → Option PyData
  | .non => some .none
  | .bl b => some (.bool b)
  | .int i => some (.int i)
  | .str x => some (.str ⟨x.toArray⟩)
  | .tup xs => (pys xs).map .tuple
  | .ls xs => (pys xs).map .list
  | .ref _ => none
def pys : List D → Option (List PyData)
  | [] => some []
  | d :: ds => match py d, pys ds with
    | some p, some ps => some (p :: ps)
    | _, _ => none
end
/-- .. with the list that stands at a reference -/
def pyH (h : Hs) : D → Option PyData
  | .ref n => match h[n]? with
    | some (.lst xs) => (pys xs).map .list
    | _ => none
  | d => py d
section
variable {K : PySem.W.Frag} {F : List Addr} {H : Hp}
mutual
theorem py_dp : ∀ (d : D) (v : V) (p : PyData), DV K F H d v → py d = some p → Dp K H v p
  | .non, v, p, h, e => by unfold DV at h; subst h; unfold py at e; cases e; exact .non
  | .bl b, v, p, h, e => by unfold DV at h; subst h; unfold py at e; cases e; exact .bl b
  | .int i, v, p, h, e => by unfold DV at h; subst h; unfold py at e; cases e; exact .int i
  | .str x, v, p, h, e => by unfold DV at h; obtain ⟨h, _⟩ := h; subst h; unfold py at e; cases e; exact .str _
  | .tup ds, v, p, h, e => by
    unfold DV at h
    obtain ⟨a, vs, rfl, q, r⟩ := h
    unfold py at e
    obtain ⟨ps, e1, rfl⟩ := Option.map_eq_some_iff.mp e
    exact .tup (SqT.of q) (pys_dp ds vs ps r e1)
  | .ls ds, v, p, h, e => by
    unfold DV at h
    obtain ⟨a, vs, rfl, q, r⟩ := h
    unfold py at e
    obtain ⟨ps, e1, rfl⟩ := Option.map_eq_some_iff.mp e
    exact .lst q.sq (pys_dp ds vs ps r e1)
  | .ref n, v, p, h, e => by unfold py at e; cases e
theorem pys_dp : ∀ (ds : List D) (vs : List V) (ps : List PyData), DVs K F H ds vs → pys ds = some ps → DpAll K H vs ps
  | [], vs, ps, h, e => by unfold DVs at h; subst h; unfold pys at e; cases e; exact .nil
  | d :: ds, vs, ps, h, e => by
    unfold DVs at h
    obtain ⟨v, r, rfl, h1, h2⟩ := h
    unfold pys at e
    cases e1 : py d with
    | none => rw [e1] at e; cases e
    | some p =>
      cases e2 : pys ds with
      | none => rw [e1, e2] at e; cases e
      | some ps' =>
        rw [e1, e2] at e; cases e
        exact .cons (py_dp d v p h1 e1) (pys_dp ds r ps' h2 e2)
end
mutual
theorem py_plain : ∀ (d : D) (p : PyData), py d = some p → p.plain = true
  | .non, p, e => by unfold py at e; cases e; rfl
  | .bl b, p, e => by unfold py at e; cases e; rfl
  | .int i, p, e => by unfold py at e; cases e; rfl
  | .str x, p, e => by unfold py at e; cases e; rfl
  | .tup ds, p, e => by
    unfold py at e
    obtain ⟨ps, e1, rfl⟩ := Option.map_eq_some_iff.mp e
    show PyData.plainAll ps = true
    exact pys_plain ds ps e1
  | .ls ds, p, e => by
    unfold py at e
    obtain ⟨ps, e1, rfl⟩ := Option.map_eq_some_iff.mp e
    show PyData.plainAll ps = true
    exact pys_plain ds ps e1
  | .ref n, p, e => by unfold py at e; cases e
theorem pys_plain : ∀ (ds : List D) (ps : List PyData), pys ds = some ps → PyData.plainAll ps = true
  | [], ps, e => by unfold pys at e; cases e; rfl
  | d :: ds, ps, e => by
    unfold pys at e
    cases e1 : py d with
    | none => rw [e1] at e; cases e
    | some p =>
      cases e2 : pys ds with
      | none => rw [e1, e2] at e; cases e
      | some ps' =>
        rw [e1, e2] at e; cases e
        show (p.plain && PyData.plainAll ps') = true
        rw [py_plain d p e1, pys_plain ds ps' e2]; rfl
end
end
theorem RelH.lst {k F H h} (r : RelH k F H h) {n : Nat} {xs : List D} {v : V} (e : h[n]? = some (.lst xs)) (d : DV k.K F H (.ref n) v) : ∃ a vs, v = .ref a ∧ F[n]? = some a ∧ H a = some (.lst vs) ∧ DVs k.K F H xs vs := by
  unfold DV at d
  obtain ⟨a, rfl, hf⟩ := d
  obtain ⟨vs, q, dv⟩ := r.cell n _ a e hf
  exact ⟨a, vs, rfl, hf, q, dv⟩
theorem pyH_dp {k F H h} (r : RelH k F H h) {d : D} {v : V} {p : PyData} (dv : DV k.K F H d v) (e : pyH h d = some p) : Dp k.K H v p ∧ p.plain = true := by
  cases d with
  | ref n =>
    simp only [pyH] at e
    cases q : h[n]? with
    | none => rw [q] at e; cases e
    | some c =>
      rw [q] at e
      cases c with
      | lst xs =>
        obtain ⟨ps, e1, rfl⟩ := Option.map_eq_some_iff.mp e
        obtain ⟨a, vs, rfl, _, hl, dvs⟩ := r.lst q dv
        exact ⟨.lst (SqL.of hl) (pys_dp xs vs ps dvs e1), pys_plain xs ps e1⟩
      | _ => cases e
  | _ => exact ⟨py_dp _ v p dv e, py_plain _ p e⟩

/-! ### truth -/
def truth (h : Hs) : D → Option Bool
  | .non => some false
  | .bl b => some b
  | .int i => some (i != 0)
  | .str x => some (!x.isEmpty)
  | .tup xs => some (!xs.isEmpty)
  | .ls xs => some (!xs.isEmpty)
  | .ref n => match h[n]? with
    | some (.lst xs) => some (!xs.isEmpty)
    | _ => none
theorem DVs.empty {K F H} {ds : List D} {vs : List V} (h : DVs K F H ds vs) : vs.isEmpty = ds.isEmpty := by
  cases ds with
  | nil => unfold DVs at h; rw [h]; rfl
  | cons d ds => unfold DVs at h; obtain ⟨v, r, rfl, _⟩ := h; rfl
theorem truth_ok {k F H h} (r : RelH k F H h) {d : D} {v : V} {b : Bool} (dv : DV k.K F H d v) (e : truth h d = some b) : TruV k.K v H b := by
  cases d with
  | non => unfold DV at dv; subst dv; cases e; rfl
  | bl c => unfold DV at dv; subst dv; cases e; rfl
  | int i => unfold DV at dv; subst dv; cases e; rfl
  | str x =>
    unfold DV at dv
    obtain ⟨rfl, hl⟩ := dv
    cases e
    refine ⟨?_, ?_⟩
    · show (x.toArray).size ≤ sizeLine
      rw [List.size_toArray]; exact hl
    · show _ = (((x.toArray).size : Int) != 0)
      rw [List.size_toArray]
      cases x with
      | nil => rfl
      | cons c x => simp [bne]; omega
  | tup xs =>
    unfold DV at dv
    obtain ⟨a, vs, rfl, q, dvs⟩ := dv
    cases e
    exact .inr (.inl ⟨vs, SqT.of q, by rw [dvs.empty]⟩)
  | ls xs =>
    unfold DV at dv
    obtain ⟨a, vs, rfl, q, dvs⟩ := dv
    cases e
    exact .inl ⟨vs, q.sq, by rw [dvs.empty]⟩
  | ref n =>
    simp only [truth] at e
    cases q : h[n]? with
    | none => rw [q] at e; cases e
    | some c =>
      rw [q] at e
      cases c with
      | lst xs =>
        cases e
        obtain ⟨a, vs, rfl, _, hl, dvs⟩ := r.lst q dv
        exact .inl ⟨vs, SqL.of hl, by rw [dvs.empty]⟩
      | _ => cases e

/-! ### binary operators -/
/-- a two-place operation by data -/
def rD (k : Kx) (g : Hs → D → D → Res D) : R2 := fun x y H Q => ∃ (W0 : Value → Option Addr → Hp → Prop) (F : List Addr) (h : Hs) (d e : D), RelH k F H h ∧ DV k.K F H d x ∧ DV k.K F H e y ∧ Post k F H (PV k Q) W0 (g h d e)
theorem OpR.imp {X : Cx} {f : Value → Value → Sem Value} {r r' : R2} (o : OpR X f r) (h : ∀ x y H Q, r' x y H Q → r x y H Q) : OpR X f r' :=
  fun pins s σ H x y v u Q I rx ry q => o pins s σ H x y v u Q I rx ry (h x y H Q q)
/-- by cases of data -/
theorem OpR.byD {X : Cx} {f : Value → Value → Sem Value} {k : Kx} {g : Hs → D → D → Res D}
    (h : ∀ (pins : List (Addr × Obj)) (s : Shared) (σ : L2.St) (H : Hp) (x y : V) (v u : Value) (Q : VK) (W0 : Value → Option Addr → Hp → Prop) (F : List Addr) (hs : Hs) (d e : D), Inv X pins σ H s → RelV x v → RelV y u → RelH k F H hs → DV k.K F H d x → DV k.K F H e y →
      Post k F H (PV k Q) W0 (g hs d e) → wpAny (model X.prog X.w) X.A (f v u) (EP X pins σ Q) X.xe s) : OpR X f (rD k g) :=
  fun pins s σ H x y v u Q I rx ry ⟨W0, F, hs, d, e, r, dx, dy, p⟩ => h pins s σ H x y v u Q W0 F hs d e I rx ry r dx dy p
section
variable {k : Kx} {F : List Addr} {H : Hp} {h : Hs} {Q : VK} {W : Value → Option Addr → Hp → Prop} {d : D}
/-- the heap stays -/
theorem Post.here {v : V} (p : Post k F H (PV k Q) W (.ok d h)) (r : RelH k F H h) (dv : DV k.K F H d v) : Q v H := p F H .refl r v dv
/-- a new tuple -/
theorem Post.tup {ds : List D} {vs : List V} {a : Addr} (p : Post k F H (PV k Q) W (.ok (.tup ds) h)) (r : RelH k F H h) (dv : DVs k.K F H ds vs) (ha : H a = none) : Q (.ref a) (upd H a (.tup vs)) := by
  have st := r.stepNew (o := .tup vs) ha
  refine p F _ st (r.addNew ha) _ ?_
  unfold DV
  exact ⟨a, vs, rfl, upd_same, DVs.mono st _ _ dv⟩
/-- a new list -/
theorem Post.lst {ds : List D} {vs : List V} {a : Addr} (p : Post k F H (PV k Q) W (.ok (.ref h.length) (h ++ [.lst ds]))) (r : RelH k F H h) (dv : DVs k.K F H ds vs) (ha : H a = none) : Q (.ref a) (upd H a (.lst vs)) := by
  have st := r.stepCell (o := .lst vs) ha
  refine p _ _ st (r.addCell ha ⟨vs, upd_same, DVs.mono st _ _ dv⟩) _ ?_
  unfold DV
  exact ⟨a, rfl, by rw [← r.len]; simp⟩
end
/-- room for a product -/
def mulOk (i j : Int) : Bool := decide ((-18446744073709551616 < i ∧ i < 18446744073709551616) ∨ (-18446744073709551616 < j ∧ j < 18446744073709551616) ∨ i.natAbs.log2 + j.natAbs.log2 ≤ 900000)
def addOp (h : Hs) : D → D → Res D
  | .int i, .int j => .ok (.int (i + j)) h
  | .str x, .str y => if x.length + y.length ≤ lim then .ok (.str (x ++ y)) h else .bad
  | .tup xs, .tup ys => if xs.length + ys.length ≤ lim then .ok (.tup (xs ++ ys)) h else .bad
  | .ref a, .ref b => match h[a]?, h[b]? with
    | some (.lst xs), some (.lst ys) => if xs.length + ys.length ≤ lim then .ok (.ref h.length) (h ++ [.lst (xs ++ ys)]) else .bad
    | _, _ => .bad
  | _, _ => .bad
def subOp (h : Hs) : D → D → Res D
  | .int i, .int j => .ok (.int (i - j)) h
  | _, _ => .bad
def mulOp (h : Hs) : D → D → Res D
  | .int i, .int j => if mulOk i j then .ok (.int (i * j)) h else .bad
  | _, _ => .bad
def fdivOp (h : Hs) : D → D → Res D
  | .int i, .int j => if 0 < j ∧ j < 1073741824 then .ok (.int (i / j)) h else .bad
  | _, _ => .bad
def modOp (h : Hs) : D → D → Res D
  | .int i, .int j => if 0 < j then .ok (.int (i % j)) h else .bad
  | _, _ => .bad
def powOp (h : Hs) : D → D → Res D
  | .int i, .int j => if 0 ≤ j ∧ j ≤ 1000 ∧ i.natAbs < 18446744073709551616 then .ok (.int (i ^ j.toNat)) h else .bad
  | _, _ => .bad
def binOp : Operator → Hs → D → D → Res D
  | .Add => addOp
  | .Sub => subOp
  | .Mult => mulOp
  | .FloorDiv => fdivOp
  | .Mod => modOp
  | .Pow => powOp
  | _ => fun _ _ _ => .bad
theorem DV.intV {K F H i v} (h : DV K F H (.int i) v) : v = .int i := by unfold DV at h; exact h
theorem DV.strV {K F H x v} (h : DV K F H (.str x) v) : v = .str ⟨x.toArray⟩ ∧ x.length ≤ lim := by unfold DV at h; exact h
theorem DV.mkInt {K F H i} : DV K F H (.int i) (.int i) := by unfold DV; rfl
theorem DV.mkBl {K F H i} : DV K F H (.bl i) (.bl i) := by unfold DV; rfl
theorem DV.mkStr {K F H x} (h : List.length x ≤ lim) : DV K F H (.str x) (.str ⟨x.toArray⟩) := by unfold DV; exact ⟨rfl, h⟩
theorem lim_eq : sizeLine = lim := by rw [sizeLine_eq]
theorem le_lim {n : Nat} (h : n ≤ lim) : n ≤ sizeLine := by rw [lim_eq]; exact h
/-- no answer without its condition -/
theorem Post.cond {k : Kx} {α : Type} {F H} {P : α → List Addr → Hs → Hp → Prop} {W : Value → Option Addr → Hp → Prop} {c : Prop} [Decidable c] {r : Res α} (p : Post k F H P W (if c then r else .bad)) : c ∧ Post k F H P W r := by
  by_cases hc : c
  · rw [if_pos hc] at p; exact ⟨hc, p⟩
  · rw [if_neg hc] at p; exact p.elim
section
variable {X : Cx} {k : Kx}
theorem mulOk_ok {i j : Int} (h : mulOk i j = true) : IntMulOk i j := by
  have h := of_decide_eq_true h
  rcases h with h | h | h
  · exact CMul.ok (.inl h)
  · exact CMul.ok (.inr h)
  · have hi : i.natAbs < 2 ^ (i.natAbs.log2 + 1) := Nat.lt_log2_self
    have hj : j.natAbs < 2 ^ (j.natAbs.log2 + 1) := Nat.lt_log2_self
    exact (wide_mul hi hj (by omega) (by omega) (by omega)).ok
theorem op_mulM : OpR X (binaryOp .Mult) (rI IntMulOk fun i j => .int (i * j)) := opI fun _ _ _ _ _ _ _ hc q => mul_int q hc
theorem op_addD (hK : X.K = k.K) : OpR X (binaryOp .Add) (rD k addOp) := by
  refine OpR.byD fun pins s σ H x y v u Q W0 F h d e I rx ry r dx dy p => ?_
  have go : ∀ {t : R2}, OpR X (binaryOp .Add) t → t x y H Q → wpAny (model X.prog X.w) X.A (binaryOp .Add v u) (EP X pins σ Q) X.xe s := fun o q => o pins s σ H x y v u Q I rx ry q
  cases d <;> cases e <;> try exact p.elim
  · rename_i i j
    cases dx.intV; cases dy.intV
    exact go op_add ⟨i, j, rfl, rfl, p.here r DV.mkInt⟩
  · rename_i a b
    obtain ⟨rfl, ha⟩ := dx.strV
    obtain ⟨rfl, hb⟩ := dy.strV
    obtain ⟨hz, p⟩ := Post.cond (c := a.length + b.length ≤ lim) (r := (.ok (.str (a ++ b)) h : Res D)) p
    refine go op_add_str ⟨_, _, rfl, rfl, le_lim (by simpa [Str.length] using hz), ?_⟩
    refine p.here r ?_
    have e : (⟨a.toArray⟩ : Str) ++ ⟨b.toArray⟩ = ⟨(a ++ b).toArray⟩ := by
      show (⟨a.toArray ++ b.toArray⟩ : Str) = _
      simp
    rw [e]
    exact DV.mkStr (by simpa using hz)
  · rename_i xs ys
    unfold DV at dx dy
    obtain ⟨a, vs, rfl, qa, da⟩ := dx
    obtain ⟨b, ws, rfl, qb, db⟩ := dy
    obtain ⟨hz, p⟩ := Post.cond (c := xs.length + ys.length ≤ lim) (r := (.ok (.tup (xs ++ ys)) h : Res D)) p
    have keep : ∀ (c : Addr) (l : List V), H c = some (.tup l) → DVs k.K F H (xs ++ ys) l → Q (.ref c) H := fun c l q dd => p.here r (by unfold DV; exact ⟨c, l, rfl, q, dd⟩)
    have dd := da.app db
    refine go op_catA ⟨a, b, vs, ws, rfl, rfl, by rw [hK]; exact SqT.of qa, by rw [hK]; exact SqT.of qb, by rw [← da.len, ← db.len]; exact le_lim hz, fun e => ?_, fun _ e => ?_, fun _ _ c hc => p.tup r dd hc⟩
    · subst e; exact keep b ws qb dd
    · subst e; rw [List.append_nil] at dd; exact keep a vs qa dd
  · rename_i a b
    have p : Post k F H (PV k Q) W0 (match h[a]?, h[b]? with
      | some (.lst xs), some (.lst ys) => if xs.length + ys.length ≤ lim then .ok (.ref h.length) (h ++ [.lst (xs ++ ys)]) else .bad
      | _, _ => .bad) := p
    cases ea : h[a]? with
    | none => rw [ea] at p; exact p.elim
    | some ca =>
      cases eb : h[b]? with
      | none => rw [ea, eb] at p; cases ca <;> exact p.elim
      | some cb =>
        rw [ea, eb] at p
        cases ca <;> cases cb <;> try exact p.elim
        rename_i xs ys
        obtain ⟨pa, vs, rfl, _, ha, da⟩ := r.lst ea dx
        obtain ⟨pb, ws, rfl, _, hb, db⟩ := r.lst eb dy
        obtain ⟨hz, p⟩ := Post.cond (c := xs.length + ys.length ≤ lim) (r := (.ok (.ref h.length) (h ++ [.lst (xs ++ ys)]) : Res D)) p
        exact go op_cat ⟨pa, pb, vs, ws, rfl, rfl, ha, hb, by rw [← da.len, ← db.len]; exact le_lim hz, fun c hc => p.lst r (da.app db) hc⟩
/-- ints in, an int out -/
theorem op_intD {op : Operator} {C : Int → Int → Prop} {g : Int → Int → Int} (o : OpR X (binaryOp op) (rI C fun i j => .int (g i j))) {f : Hs → D → D → Res D}
    (hf : ∀ h d e, f h d e = .bad ∨ ∃ i j, d = .int i ∧ e = .int j ∧ C i j ∧ f h d e = .ok (.int (g i j)) h) : OpR X (binaryOp op) (rD k f) := by
  refine OpR.byD fun pins s σ H x y v u Q W0 F h d e I rx ry r dx dy p => ?_
  rcases hf h d e with q | ⟨i, j, rfl, rfl, c, q⟩
  · rw [q] at p; exact p.elim
  · rw [q] at p
    cases dx.intV; cases dy.intV
    exact o pins s σ H _ _ v u Q I rx ry ⟨i, j, rfl, rfl, c, p.here r DV.mkInt⟩
theorem op_binD (hK : X.K = k.K) (op : Operator) : OpR X (binaryOp op) (rD k (binOp op)) := by
  have no : ∀ {op : Operator}, (∀ h d e, binOp op h d e = .bad) → OpR X (binaryOp op) (rD k (binOp op)) := fun q => OpR.byD fun pins s σ H x y v u Q W0 F h d e I rx ry r dx dy p => by rw [q] at p; exact p.elim
  have two : ∀ {f : Hs → D → D → Res D} {C : Int → Int → Prop} {g : Int → Int → Int} (_ : ∀ h i j, f h (.int i) (.int j) = .bad ∨ (C i j ∧ f h (.int i) (.int j) = .ok (.int (g i j)) h)) (_ : ∀ h d e, (∀ i j, ¬ (d = .int i ∧ e = .int j)) → f h d e = .bad),
      ∀ h d e, f h d e = .bad ∨ ∃ i j, d = .int i ∧ e = .int j ∧ C i j ∧ f h d e = .ok (.int (g i j)) h := fun {f C g} h1 h2 h d e => by
    by_cases q : ∃ i j, d = .int i ∧ e = .int j
    · obtain ⟨i, j, rfl, rfl⟩ := q
      rcases h1 h i j with z | ⟨c, z⟩
      · exact .inl z
      · exact .inr ⟨i, j, rfl, rfl, c, z⟩
    · exact .inl (h2 h d e fun i j z => q ⟨i, j, z⟩)
  cases op with
  | Add => exact op_addD hK
  | Sub =>
    refine op_intD (C := fun _ _ => True) (g := fun i j => i - j) (OpR.imp op_sub fun x y H Q ⟨i, j, a, b, _, q⟩ => ⟨i, j, a, b, q⟩) (two (fun h i j => .inr ⟨trivial, rfl⟩) fun h d e n => ?_)
    cases d <;> cases e <;> first | rfl | exact absurd ⟨rfl, rfl⟩ (n _ _)
  | Mult =>
    refine op_intD (C := IntMulOk) (g := fun i j => i * j) op_mulM (two (fun h i j => ?_) fun h d e n => ?_)
    · show (if mulOk i j then _ else _) = _ ∨ (_ ∧ (if mulOk i j then _ else _) = _)
      cases q : mulOk i j with
      | true => exact .inr ⟨mulOk_ok q, rfl⟩
      | false => exact .inl rfl
    · cases d <;> cases e <;> first | rfl | exact absurd ⟨rfl, rfl⟩ (n _ _)
  | FloorDiv =>
    refine op_intD (C := CDiv) (g := fun i j => i / j) op_fdiv (two (fun h i j => ?_) fun h d e n => ?_)
    · show (if 0 < j ∧ j < 1073741824 then _ else _) = _ ∨ (_ ∧ (if 0 < j ∧ j < 1073741824 then _ else _) = _)
      by_cases q : 0 < j ∧ j < 1073741824
      · rw [if_pos q]; exact .inr ⟨q, rfl⟩
      · rw [if_neg q]; exact .inl rfl
    · cases d <;> cases e <;> first | rfl | exact absurd ⟨rfl, rfl⟩ (n _ _)
  | Mod =>
    refine op_intD (C := fun _ j => 0 < j) (g := fun i j => i % j) op_mod (two (fun h i j => ?_) fun h d e n => ?_)
    · show (if 0 < j then _ else _) = _ ∨ (_ ∧ (if 0 < j then _ else _) = _)
      by_cases q : 0 < j
      · rw [if_pos q]; exact .inr ⟨q, rfl⟩
      · rw [if_neg q]; exact .inl rfl
    · cases d <;> cases e <;> first | rfl | exact absurd ⟨rfl, rfl⟩ (n _ _)
  | Pow =>
    refine op_intD (C := CPow) (g := fun i j => i ^ j.toNat) op_pow (two (fun h i j => ?_) fun h d e n => ?_)
    · show (if 0 ≤ j ∧ j ≤ 1000 ∧ i.natAbs < 18446744073709551616 then _ else _) = _ ∨ (_ ∧ (if 0 ≤ j ∧ j ≤ 1000 ∧ i.natAbs < 18446744073709551616 then _ else _) = _)
      by_cases q : 0 ≤ j ∧ j ≤ 1000 ∧ i.natAbs < 18446744073709551616
      · rw [if_pos q]; exact .inr ⟨⟨q.1, by omega, q.2.2⟩, rfl⟩
      · rw [if_neg q]; exact .inl rfl
    · cases d <;> cases e <;> first | rfl | exact absurd ⟨rfl, rfl⟩ (n _ _)
  | _ => exact no fun _ _ _ => rfl
end
/-! M1d: dicts by data: keys are ints, texts, or tuples of them. -/
open PySem PySem.Spec PyProof.Rows L2

mutual
/-- the same key -/
def kEq : D → D → Bool
  | .int i, .int j => decide (i = j)
  | .str x, .str y => decide (x = y)
  | .tup xs, .tup ys => kEqs xs ys
  | _, _ => false
def kEqs : List D → List D → Bool
  | [], [] => true
  | x :: xs, y :: ys => kEq x y && kEqs xs ys
  | _, _ => false
end
/-- a key of one part -/
def k1 : D → Bool
  | .int _ => true
  | .str _ => true
  | _ => false
/-- a key of a dict of this kind -/
def kOk (t : Bool) (d : D) : Bool := match t, d with
  | false, d => k1 d
  | true, .tup xs => xs.all k1
  | true, _ => false
def dfind (kvs : List (D × D)) (k : D) : Option D := (kvs.find? fun p => kEq p.1 k).map (·.2)
def dput (kvs : List (D × D)) (k v : D) : List (D × D) :=
  if (kvs.any fun p => kEq p.1 k) = true then kvs.map (fun p => if kEq p.1 k = true then (p.1, v) else p) else kvs ++ [(k, v)]
def ddrop (kvs : List (D × D)) (k : D) : List (D × D) := kvs.filter fun p => !kEq p.1 k
/-- the dict at a reference (walked or not), and where it stands -/
def dicAt (h : Hs) : D → Option (Nat × Bool × List (D × D))
  | .ref n => match h[n]? with
    | some (.dic t false kvs) => some (n, t, kvs)
    | _ => none
  | _ => none
/-- the dict at a reference, to be read -/
def dicRd (h : Hs) : D → Option (Bool × List (D × D))
  | .ref n => match h[n]? with
    | some (.dic t _ kvs) => some (t, kvs)
    | _ => none
  | _ => none
theorem dicAt_ref {h : Hs} {d : D} {n : Nat} {t : Bool} {kvs : List (D × D)} (e : dicAt h d = some (n, t, kvs)) : d = .ref n ∧ h[n]? = some (.dic t false kvs) := by
  unfold dicAt at e
  split at e
  · split at e
    · rename_i q; cases e; exact ⟨rfl, q⟩
    · cases e
  · cases e
theorem dicRd_ref {h : Hs} {d : D} {t : Bool} {kvs : List (D × D)} (e : dicRd h d = some (t, kvs)) : ∃ n lk, d = .ref n ∧ h[n]? = some (.dic t lk kvs) := by
  unfold dicRd at e
  split at e
  · split at e
    · rename_i q; cases e; exact ⟨_, _, rfl, q⟩
    · cases e
  · cases e
theorem kEq_keyD (a b : Key) : kEq (keyD a) (keyD b) = decide (a = b) := by
  cases a with
  | inl i =>
    cases b with
    | inl j => unfold keyD kEq; simp
    | inr y => unfold keyD kEq; simp
  | inr x =>
    cases b with
    | inl j => unfold keyD kEq; simp
    | inr y =>
      unfold keyD kEq
      obtain ⟨x⟩ := x
      obtain ⟨y⟩ := y
      by_cases h : x = y
      · subst h; simp
      · have h1 : ¬ x.toList = y.toList := fun z => h (Array.toList_inj.mp z)
        have h2 : ¬ (Sum.inr ⟨x⟩ : Key) = Sum.inr ⟨y⟩ := fun z => h (by injection z with z; injection z)
        rw [decide_eq_false h2]
        exact decide_eq_false h1
theorem kEqs_keyD : ∀ a b : List Key, kEqs (a.map keyD) (b.map keyD) = decide (a = b)
  | [], [] => rfl
  | [], b :: bs => by unfold List.map kEqs; simp
  | a :: as, [] => by unfold List.map kEqs; simp
  | a :: as, b :: bs => by
    show (kEq (keyD a) (keyD b) && kEqs (as.map keyD) (bs.map keyD)) = _
    rw [kEq_keyD, kEqs_keyD as bs]
    by_cases h : a = b
    · by_cases h2 : as = bs
      · simp [h, h2]
      · simp [h, h2]
    · simp [h]
theorem kEqT_keyD (a b : List Key) : kEq (.tup (a.map keyD)) (.tup (b.map keyD)) = decide (a = b) := by
  unfold kEq; exact kEqs_keyD a b
section
variable {κ : Type} [DecidableEq κ] {R : D → V → Prop} {f : κ → D}
/-- two tables, pair by pair -/
abbrev TabR (R : D → V → Prop) (f : κ → D) (P : κ → Prop) : List (D × D) → List (κ × V) → Prop := Paired (fun (p : D × D) (q : κ × V) => p.1 = f q.1 ∧ P q.1 ∧ R p.2 q.2)
variable {P : κ → Prop} (hf : ∀ a b, kEq (f a) (f b) = decide (a = b))
include hf
theorem TabR.find {kvs : List (D × D)} {l : List (κ × V)} (t : TabR R f P kvs l) (k : κ) : (dfind kvs (f k) = none ∧ valV l k = none) ∨ ∃ d v, dfind kvs (f k) = some d ∧ valV l k = some v ∧ R d v := by
  induction t with
  | nil => exact .inl ⟨rfl, rfl⟩
  | @cons p q ps qs r _ ih =>
    obtain ⟨r1, r2, r3⟩ := r
    by_cases h : q.1 = k
    · refine .inr ⟨p.2, q.2, ?_, valV_pos h, r3⟩
      unfold dfind
      rw [List.find?_cons, r1, hf, decide_eq_true h]
      rfl
    · have e1 : dfind (p :: ps) (f k) = dfind ps (f k) := by
        unfold dfind
        rw [List.find?_cons, r1, hf, decide_eq_false h]
      rw [e1, valV_neg h]
      exact ih
theorem TabR.any {kvs : List (D × D)} {l : List (κ × V)} (t : TabR R f P kvs l) (k : κ) : (kvs.any fun p => kEq p.1 (f k)) = (l.any fun q => decide (q.1 = k)) := by
  induction t with
  | nil => rfl
  | cons r _ ih => rw [List.any_cons, List.any_cons, r.1, hf, ih]
theorem TabR.put {kvs : List (D × D)} {l : List (κ × V)} (t : TabR R f P kvs l) {k : κ} {d : D} {v : V} (hp : P k) (hd : R d v) : TabR R f P (dput kvs (f k) d) (putK l k v) := by
  unfold dput putK
  rw [t.any hf k]
  by_cases c : (l.any fun q => decide (q.1 = k)) = true
  · rw [if_pos c, if_pos c]
    clear c
    induction t with
    | nil => exact .nil
    | @cons p q ps qs r _ ih =>
      refine .cons ?_ ih
      by_cases h : q.1 = k
      · dsimp only; rw [r.1, hf, decide_eq_true h, if_pos rfl, if_pos h]; exact ⟨rfl, r.2.1, hd⟩
      · dsimp only; rw [r.1, hf, decide_eq_false h, if_neg (by decide), if_neg h]; exact r
  · rw [if_neg c, if_neg c]
    clear c
    induction t with
    | nil => exact .cons ⟨rfl, hp, hd⟩ .nil
    | cons r _ ih => exact .cons r ih
theorem TabR.drop {kvs : List (D × D)} {l : List (κ × V)} (t : TabR R f P kvs l) (k : κ) : TabR R f P (ddrop kvs (f k)) (dropK l k) := by
  unfold ddrop dropK
  induction t with
  | nil => exact .nil
  | @cons p q ps qs r _ ih =>
    by_cases h : q.1 = k
    · rw [List.filter_cons_of_neg (by rw [r.1, hf, decide_eq_true h]; decide), List.filter_cons_of_neg (by simp [h])]; exact ih
    · rw [List.filter_cons_of_pos (by rw [r.1, hf, decide_eq_false h]; decide), List.filter_cons_of_pos (by simp [h])]; exact .cons r ih
end
section
variable {K : PySem.W.Frag} {F : List Addr} {H : Hp}
/-- a key by its value -/
theorem k1_key {d : D} {y : V} (h : k1 d = true) (dv : DV K F H d y) : ∃ k : Key, d = keyD k ∧ y = kV k ∧ keyOk k := by
  cases d with
  | int i => exact ⟨.inl i, rfl, by rw [dv.intV]; rfl, trivial⟩
  | str x => obtain ⟨e, l⟩ := dv.strV; exact ⟨.inr ⟨x.toArray⟩, by unfold keyD; simp, e, by unfold keyOk; simpa using l⟩
  | _ => cases h
theorem ks_keys : ∀ {ds : List D} {ys : List V}, ds.all k1 = true → DVs K F H ds ys → ∃ ks : List Key, ds = ks.map keyD ∧ ys = ks.map kV ∧ ∀ z ∈ ks, keyOk z
  | [], ys, _, dv => by unfold DVs at dv; exact ⟨[], rfl, dv, fun _ h => nomatch h⟩
  | d :: ds, ys, h, dv => by
    rw [List.all_cons, Bool.and_eq_true] at h
    unfold DVs at dv
    obtain ⟨v, r, rfl, d1, d2⟩ := dv
    obtain ⟨k, rfl, rfl, o⟩ := k1_key h.1 d1
    obtain ⟨ks, rfl, rfl, os⟩ := ks_keys h.2 d2
    exact ⟨k :: ks, rfl, rfl, fun z hz => (List.mem_cons.mp hz).elim (fun e => e ▸ o) (os z)⟩
end
section
variable {k : Kx} {F : List Addr} {H : Hp} {h : Hs}
/-- reading a dict -/
theorem RelH.dget (r : RelH k F H h) {d e : D} {x y : V} {t : Bool} {kvs : List (D × D)} (q : dicRd h d = some (t, kvs)) (hk : kOk t e = true) (dx : DV k.K F H d x) (dy : DV k.K F H e y) :
    ∃ a o, x = .ref a ∧ DGet H a y o ∧ ((dfind kvs e = none ∧ o = none) ∨ ∃ z v, dfind kvs e = some z ∧ o = some v ∧ DV k.K F H z v) := by
  obtain ⟨n, lk, rfl, hn⟩ := dicRd_ref q
  unfold DV at dx
  obtain ⟨a, rfl, hf⟩ := dx
  obtain ⟨u, dr, hu⟩ := r.cell n _ a hn hf
  cases t with
  | false =>
    obtain ⟨l, rfl, p⟩ := dr
    have rd : Rd H a (.dK l) := by
      cases lk with
      | false => exact .inl hu
      | true => exact .inr hu
    obtain ⟨ky, rfl, rfl, _⟩ := k1_key hk dy
    refine ⟨a, valV l ky, rfl, .inl ⟨l, ky, rd, rfl, rfl⟩, ?_⟩
    rcases TabR.find kEq_keyD p ky with ⟨e1, e2⟩ | ⟨z, v, e1, e2, e3⟩
    · exact .inl ⟨e1, e2⟩
    · exact .inr ⟨z, v, e1, e2, e3⟩
  | true =>
    obtain ⟨l, rfl, p⟩ := dr
    have rd : Rd H a (.dT l) := by
      cases lk with
      | false => exact .inl hu
      | true => exact .inr hu
    cases e with
    | tup ds =>
      unfold DV at dy
      obtain ⟨b, vs, rfl, hb, dvs⟩ := dy
      obtain ⟨ks, rfl, rfl, _⟩ := ks_keys hk dvs
      refine ⟨a, valV l ks, rfl, .inr ⟨l, ks, b, rd, rfl, hb, rfl⟩, ?_⟩
      have p : TabR (DV k.K F H) (fun q : List Key => D.tup (q.map keyD)) (fun q => ∀ z ∈ q, keyOk z) kvs l := p
      rcases TabR.find (f := fun q : List Key => D.tup (q.map keyD)) kEqT_keyD p ks with ⟨e1, e2⟩ | ⟨z, v, e1, e2, e3⟩
      · exact .inl ⟨e1, e2⟩
      · exact .inr ⟨z, v, e1, e2, e3⟩
    | _ => cases hk
/-- writing a dict -/
theorem RelH.dput (r : RelH k F H h) {d e z : D} {x y v : V} {n : Nat} {t : Bool} {kvs : List (D × D)} (q : dicAt h d = some (n, t, kvs)) (hk : kOk t e = true) (hl : kvs.length < lim) (dx : DV k.K F H d x) (dy : DV k.K F H e y) (dz : DV k.K F H z v) :
    ∃ a H', x = .ref a ∧ DPut H a y v H' ∧ Step k.K F H F H' ∧ RelH k F H' (h.set n (.dic t false (M.dput kvs e z))) := by
  obtain ⟨rfl, hn⟩ := dicAt_ref q
  unfold DV at dx
  obtain ⟨a, rfl, hf⟩ := dx
  obtain ⟨u, dr, hu⟩ := r.cell n _ a hn hf
  have hu : H a = some u := hu
  cases t with
  | false =>
    obtain ⟨l, rfl, p⟩ := dr
    obtain ⟨ky, rfl, rfl, o⟩ := k1_key hk dy
    have hl2 : l.length < sizeLine := by rw [← p.length]; exact Nat.lt_of_lt_of_le hl (le_lim (Nat.le_refl _))
    have p2 := TabR.put kEq_keyD p (k := ky) o dz
    have st := r.stepSet (o := .dK (putK l ky v)) hf
    exact ⟨a, _, rfl, DPut.k hu hl2, st, r.setCell hf ⟨_, ⟨_, rfl, Paired.mapP p2 fun _ _ q => ⟨q.1, q.2.1, DV.mono st _ _ q.2.2⟩⟩, upd_same⟩⟩
  | true =>
    obtain ⟨l, rfl, p⟩ := dr
    cases e with
    | tup ds =>
      unfold DV at dy
      obtain ⟨b, vs, rfl, hb, dvs⟩ := dy
      obtain ⟨ks, rfl, rfl, o⟩ := ks_keys hk dvs
      have hl2 : l.length < sizeLine := by rw [← p.length]; exact Nat.lt_of_lt_of_le hl (le_lim (Nat.le_refl _))
      have p : TabR (DV k.K F H) (fun q : List Key => D.tup (q.map keyD)) (fun q => ∀ z ∈ q, keyOk z) kvs l := p
      have p2 := TabR.put (f := fun q : List Key => D.tup (q.map keyD)) kEqT_keyD p (k := ks) o dz
      have st := r.stepSet (o := .dT (putK l ks v)) hf
      exact ⟨a, _, rfl, DPut.t hu hb hl2, st, r.setCell hf ⟨_, ⟨_, rfl, Paired.mapP p2 fun _ _ q => ⟨q.1, q.2.1, DV.mono st _ _ q.2.2⟩⟩, upd_same⟩⟩
    | _ => cases hk
end
/-! ### d[k], as a subscript -/
theorem ix_dic {X : Cx} (hu : X.A.units + 1 < cLine) : IxR X (fun x y H Q => ∃ a v, x = .ref a ∧ DGet H a y (some v) ∧ Q v H) := by
  intro ve se pins s σ H x y v u Q I rx ry q hs
  obtain ⟨a, w, rfl, g, q⟩ := q
  cases rx
  have hT := dict_typeIs I g
  unfold subscriptTail
  refine wpAny_bind ?_
  rw [getitemInPython_of_ne hT.not_modules]
  refine wpAny_bind (wpAny_specialOf hT PySem.F.slot_dict_getitem.lookup ?_)
  have fin : wpAny (model X.prog X.w) X.A (subscripted se false (.ref a) u) (fun r s₃ => wpAny (model X.prog X.w) X.A (letTemporaryGo ve (.ref a) r >>= fun _ => pure r) (EP X pins σ Q) X.xe s₃) X.xe s := by
    rw [hs]
    exact wpAny_operating (d_getItem hu I g ry fun w' s3 I3 rw' => wpAny_bind (wpAny_letTemporaryGo (wpAny_pure ⟨w, H, I3, rw', q⟩)))
  first
    | exact wpAny_pure (wpAny_bind fin)
    | exact wpAny_bind (wpAny_pure (wpAny_bind fin))
    | exact wpAny_bind fin
/-! M2: comparisons, subscripts. -/
open PySem PySem.Spec PyProof.Rows L2

/-! ### comparisons -/
def eqOp (h : Hs) (d e : D) : Option Bool := match pyH h d, pyH h e with
  | some p, some q => if min p.depth q.depth ≤ 60 then some (PyData.eqv p q) else none
  | _, _ => none
/-- what can be walked as a list of data -/
def seqH (h : Hs) : D → Option (List D)
  | .tup xs => some xs
  | .ls xs => some xs
  | .ref n => match h[n]? with
    | some (.lst xs) => some xs
    | _ => none
  | _ => none
def inSeq (h : Hs) (x : D) (xs : List D) : Option Bool := match pyH h x, pys xs with
  | some p, some ps => if p.depth ≤ 60 then some (ps.any fun y => PyData.eqv y p) else none
  | _, _ => none
def inStr : D → List Nat → Option Bool
  | .str [a], t => some (decide (a ∈ t))
  | _, _ => none
def inOp (h : Hs) (x c : D) : Option Bool := match c with
  | .str t => inStr x t
  | c => match seqH h c with
    | some xs => inSeq h x xs
    | none => match dicRd h c with
      | some (t, kvs) => if kOk t x = true then some (dfind kvs x).isSome else none
      | none => none
def isOp : D → D → Option Bool
  | .non, .non => some true
  | .ref _, .non => some false
  | .tup _, .non => some false
  | .ls _, .non => some false
  | .bl _, .non => some false
  | .int _, .non => some false
  | .str _, .non => some false
  | .bl a, .bl b => some (a == b)
  | .non, .bl _ => some false
  | .int _, .bl _ => some false
  | .str _, .bl _ => some false
  | .tup _, .bl _ => some false
  | .ls _, .bl _ => some false
  | .ref _, .bl _ => some false
  | _, _ => none
def ordI : CmpOp → Int → Int → Bool
  | .Lt, i, j => decide (i < j)
  | .LtE, i, j => decide (i ≤ j)
  | .Gt, i, j => decide (j < i)
  | .GtE, i, j => decide (j ≤ i)
  | _, _, _ => false
def ordS : CmpOp → List Nat → List Nat → Bool
  | .Lt, x, y => decide (x < y)
  | .LtE, x, y => !decide (y < x)
  | .Gt, x, y => decide (y < x)
  | .GtE, x, y => !decide (x < y)
  | _, _, _ => false
def ordOp (o : CmpOp) (h : Hs) : D → D → Option Bool
  | .int i, .int j => some (ordI o i j)
  | .str x, .str y => some (ordS o x y)
  | _, _ => none
def cmpOp : CmpOp → Hs → D → D → Option Bool
  | .Eq, h, d, e => eqOp h d e
  | .NotEq, h, d, e => (eqOp h d e).map not
  | .In, h, d, e => inOp h d e
  | .NotIn, h, d, e => (inOp h d e).map not
  | .Is, _, d, e => isOp d e
  | .IsNot, _, d, e => (isOp d e).map not
  | o, h, d, e => ordOp o h d e
/-- a comparison's answer -/
def cmpR (o : CmpOp) (h : Hs) (d e : D) : Res D := Res.of ((cmpOp o h d e).map .bl) h
theorem Post.ofBl {k : Kx} {F H h} {Q : VK} {W : Value → Option Addr → Hp → Prop} {o : Option Bool} (p : Post k F H (PV k Q) W (Res.of (o.map .bl) h)) (r : RelH k F H h) : ∃ b, o = some b ∧ Q (.bl b) H := by
  cases o with
  | none => exact p.elim
  | some b => exact ⟨b, rfl, Post.here (d := .bl b) p r DV.mkBl⟩
section
variable {X : Cx} {k : Kx}
theorem eq_any {pins : List (Addr × Obj)} {s : Shared} {σ : L2.St} {H : Hp} {x y : V} {v u : Value} {p q : PyData} (I : L2.Inv X pins σ H s) (rx : L2.RelV x v) (ry : L2.RelV y u) (hu : X.A.units + 64 < cLine)
    (dx : Dp X.K H x p) (dy : Dp X.K H y q) (px : p.plain = true) (py : q.plain = true) (hd : min p.depth q.depth ≤ 60) :
    (∀ (E : Value → Shared → Prop) (Q : Value → Shared → Prop), Q (.bool (PyData.eqv p q)) s → wpAny (model X.prog X.w) X.A (compareOp .Eq v u) Q E s) ∧
    (∀ (E : Value → Shared → Prop) (Q : Value → Shared → Prop), Q (.bool (!PyData.eqv p q)) s → wpAny (model X.prog X.w) X.A (compareOp .NotEq v u) Q E s) := by
  obtain ⟨as, r1⟩ := Dp.reads I p x v dx rx
  obtain ⟨bs, r2⟩ := Dp.reads I q y u dy ry
  exact ⟨fun E Q h => SeqAt.eq_plain r1 r2 px py (by omega) h, fun E Q h => SeqAt.ne_plain r1 r2 px py (by omega) h⟩
theorem eqOp_some {h : Hs} {d e : D} {b : Bool} (q : eqOp h d e = some b) : ∃ p p', pyH h d = some p ∧ pyH h e = some p' ∧ min p.depth p'.depth ≤ 60 ∧ b = PyData.eqv p p' := by
  unfold eqOp at q
  cases e1 : pyH h d with
  | none => rw [e1] at q; cases q
  | some p =>
    cases e2 : pyH h e with
    | none => rw [e1, e2] at q; cases q
    | some p' =>
      rw [e1, e2] at q
      by_cases hd : min p.depth p'.depth ≤ 60
      · have q : (if min p.depth p'.depth ≤ 60 then some (PyData.eqv p p') else none) = some b := q
        rw [if_pos hd] at q; cases q
        exact ⟨p, p', rfl, rfl, hd, rfl⟩
      · have q : (if min p.depth p'.depth ≤ 60 then some (PyData.eqv p p') else none) = some b := q
        rw [if_neg hd] at q; cases q
/-- membership in a list or tuple -/
theorem in_any {pins : List (Addr × Obj)} {s : Shared} {σ : L2.St} {F : List Addr} {H : Hp} {h : Hs} {x y : V} {v u : Value} {d c : D} {xs : List D} {b : Bool} (I : L2.Inv X pins σ H s) (hK : X.K = k.K) (r : RelH k F H h) (rx : L2.RelV x v) (ry : L2.RelV y u) (hu : X.A.units + 64 < cLine)
    (dx : DV k.K F H d x) (dy : DV k.K F H c y) (hc : seqH h c = some xs) (q : inSeq h d xs = some b) :
    (∀ (E : Value → Shared → Prop) (Q : Value → Shared → Prop), Q (.bool b) s → wpAny (model X.prog X.w) X.A (compareOp .In v u) Q E s) ∧
    (∀ (E : Value → Shared → Prop) (Q : Value → Shared → Prop), Q (.bool (!b)) s → wpAny (model X.prog X.w) X.A (compareOp .NotIn v u) Q E s) := by
  unfold inSeq at q
  cases e1 : pyH h d with
  | none => rw [e1] at q; cases q
  | some p =>
    cases e2 : pys xs with
    | none => rw [e1, e2] at q; cases q
    | some ps =>
      rw [e1, e2] at q
      have q : (if p.depth ≤ 60 then some (ps.any fun y => PyData.eqv y p) else none) = some b := q
      by_cases hd : p.depth ≤ 60
      · rw [if_pos hd] at q; cases q
        obtain ⟨dp, pp⟩ := pyH_dp r dx e1
        obtain ⟨as, r1⟩ := Dp.reads I p x v (by rw [hK]; exact dp) rx
        have pl := pys_plain xs ps e2
        have hm : X.A.units + 1 + min (PyData.depthAll ps) p.depth < cLine := by
          have := Nat.min_le_right (PyData.depthAll ps) p.depth
          omega
        have lst : ∀ {a : Addr} {vs : List V}, y = .ref a → SqL k.K H a vs → DVs k.K F H xs vs →
            (∀ (E : Value → Shared → Prop) (Q : Value → Shared → Prop), Q (.bool (ps.any fun y => PyData.eqv y p)) s → wpAny (model X.prog X.w) X.A (compareOp .In v u) Q E s) ∧
            (∀ (E : Value → Shared → Prop) (Q : Value → Shared → Prop), Q (.bool (!ps.any fun y => PyData.eqv y p)) s → wpAny (model X.prog X.w) X.A (compareOp .NotIn v u) Q E s) := fun {a vs} ey sq dv => by
          obtain ⟨bs, r2⟩ := Dp.reads I (.list ps) y u (by rw [hK, ey]; exact .lst sq (pys_dp xs vs ps dv e2)) ry
          exact ⟨fun E Q h => SeqAt.in_list_data r2 r1 pl pp hm h, fun E Q h => SeqAt.notIn_list_data r2 r1 pl pp hm h⟩
        cases c with
        | tup ys =>
          cases hc
          unfold DV at dy
          obtain ⟨a, vs, ey, sq, dv⟩ := dy
          obtain ⟨bs, r2⟩ := Dp.reads I (.tuple ps) y u (by rw [hK, ey]; exact .tup (SqT.of sq) (pys_dp xs vs ps dv e2)) ry
          exact ⟨fun E Q h => SeqAt.in_tuple_data r2 r1 pl pp hm h, fun E Q h => SeqAt.notIn_tuple_data r2 r1 pl pp hm h⟩
        | ls ys =>
          cases hc
          unfold DV at dy
          obtain ⟨a, vs, ey, sq, dv⟩ := dy
          exact lst ey sq.sq dv
        | ref n =>
          simp only [seqH] at hc
          cases e3 : h[n]? with
          | none => rw [e3] at hc; cases hc
          | some c =>
            rw [e3] at hc
            cases c with
            | lst zs =>
              cases hc
              obtain ⟨a, vs, ey, _, hl, dv⟩ := r.lst e3 dy
              exact lst ey (SqL.of hl) dv
            | _ => cases hc
        | _ => cases hc
      · rw [if_neg hd] at q; cases q
theorem isOp_ok {pins : List (Addr × Obj)} {s : Shared} {σ : L2.St} {F : List Addr} {H : Hp} {x y : V} {v u : Value} {d c : D} {b : Bool} (I : L2.Inv X pins σ H s) (rx : L2.RelV x v) (ry : L2.RelV y u) (dx : DV k.K F H d x) (dy : DV k.K F H c y) (q : isOp d c = some b) :
    plainIs v u = true ∧ (v == u) = b := by
  cases c with
  | non =>
    unfold DV at dy; subst dy; cases ry
    cases d with
    | non => unfold DV at dx; subst dx; cases rx; cases q; exact ⟨rfl, rfl⟩
    | bl a => unfold DV at dx; subst dx; cases rx; cases q; exact ⟨rfl, rfl⟩
    | int i => unfold DV at dx; subst dx; obtain ⟨t, rfl⟩ := rx; cases q; exact ⟨rfl, rfl⟩
    | str z => unfold DV at dx; obtain ⟨rfl, _⟩ := dx; obtain ⟨t, rfl⟩ := rx; cases q; exact ⟨rfl, rfl⟩
    | tup z => unfold DV at dx; obtain ⟨a, vs, rfl, _⟩ := dx; cases rx; cases q; exact ⟨rfl, rfl⟩
    | ls z => unfold DV at dx; obtain ⟨a, vs, rfl, _⟩ := dx; cases rx; cases q; exact ⟨rfl, rfl⟩
    | ref z => unfold DV at dx; obtain ⟨a, rfl, _⟩ := dx; cases rx; cases q; exact ⟨rfl, rfl⟩
  | bl c =>
    unfold DV at dy; subst dy; cases ry
    cases d with
    | non => unfold DV at dx; subst dx; cases rx; cases q; exact ⟨rfl, rfl⟩
    | bl a =>
      unfold DV at dx; subst dx; cases rx; cases q
      refine ⟨rfl, ?_⟩
      cases a <;> cases c <;> rfl
    | int i => unfold DV at dx; subst dx; obtain ⟨t, rfl⟩ := rx; cases q; exact ⟨rfl, rfl⟩
    | str z => unfold DV at dx; obtain ⟨rfl, _⟩ := dx; obtain ⟨t, rfl⟩ := rx; cases q; exact ⟨rfl, rfl⟩
    | tup z => unfold DV at dx; obtain ⟨a, vs, rfl, _⟩ := dx; cases rx; cases q; exact ⟨rfl, rfl⟩
    | ls z => unfold DV at dx; obtain ⟨a, vs, rfl, _⟩ := dx; cases rx; cases q; exact ⟨rfl, rfl⟩
    | ref z => unfold DV at dx; obtain ⟨a, rfl, _⟩ := dx; cases rx; cases q; exact ⟨rfl, rfl⟩
  | _ => cases d <;> cases q
theorem op_cmpD (hK : X.K = k.K) (hu : X.A.units + 64 < cLine) (op : CmpOp) : OpR X (compareOp op) (rD k (cmpR op)) := by
  refine OpR.byD fun pins s σ H x y v u Q W0 F h d e I rx ry r dx dy p => ?_
  obtain ⟨b, q, hQ⟩ := Post.ofBl p r
  have fin : ∀ {E : Value → Shared → Prop}, EP X pins σ Q (.bool b) s := ⟨.bl b, H, I, rfl, hQ⟩
  have neg : ∀ {o : Option Bool}, o.map not = some b → ∃ c, o = some c ∧ b = !c := fun {o} z => by
    cases o with
    | none => cases z
    | some c => cases z; exact ⟨c, rfl, rfl⟩
  have ord : ∀ {o : CmpOp}, (∀ h d e, cmpOp o h d e = ordOp o h d e) → (∀ (i j : Int) (t t' : Tok), ordI o i j = b → wpAny (model X.prog X.w) X.A (compareOp o (.int i t) (.int j t')) (EP X pins σ Q) X.xe s) →
      (∀ (i j : Str) (t t' : Tok), ordS o i.cps.toList j.cps.toList = b → wpAny (model X.prog X.w) X.A (compareOp o (.str i t) (.str j t')) (EP X pins σ Q) X.xe s) → cmpOp o h d e = some b → wpAny (model X.prog X.w) X.A (compareOp o v u) (EP X pins σ Q) X.xe s := fun {o} c0 hi hs c => by
    rw [c0] at c
    cases d <;> cases e <;> try cases c
    · obtain ⟨t, rfl⟩ := dx.intV ▸ rx
      obtain ⟨t', rfl⟩ := dy.intV ▸ ry
      exact hi _ _ t t' rfl
    · obtain ⟨rfl, _⟩ := dx.strV
      obtain ⟨rfl, _⟩ := dy.strV
      obtain ⟨t, rfl⟩ := rx
      obtain ⟨t', rfl⟩ := ry
      exact hs _ _ t t' (by simp)
  have fin' : ∀ {E : Value → Shared → Prop} (s' : Shared), L2.Inv X pins σ H s' → EP X pins σ Q (.bool b) s' := fun s' I' => ⟨.bl b, H, I', rfl, hQ⟩
  have mem : ∀ {c : Bool}, inOp h d e = some c → (∀ (Q : Value → Shared → Prop), (∀ s', L2.Inv X pins σ H s' → Q (.bool c) s') → wpAny (model X.prog X.w) X.A (compareOp .In v u) Q X.xe s) ∧ (∀ (Q : Value → Shared → Prop), (∀ s', L2.Inv X pins σ H s' → Q (.bool (!c)) s') → wpAny (model X.prog X.w) X.A (compareOp .NotIn v u) Q X.xe s) := fun {c} z => by
    have gen : (match seqH h e with | some xs => inSeq h d xs | none => match dicRd h e with | some (t, kvs) => if kOk t d = true then some (dfind kvs d).isSome else none | none => none) = some c → (∀ (Q : Value → Shared → Prop), (∀ s', L2.Inv X pins σ H s' → Q (.bool c) s') → wpAny (model X.prog X.w) X.A (compareOp .In v u) Q X.xe s) ∧ (∀ (Q : Value → Shared → Prop), (∀ s', L2.Inv X pins σ H s' → Q (.bool (!c)) s') → wpAny (model X.prog X.w) X.A (compareOp .NotIn v u) Q X.xe s) := fun z => by
      cases e1 : seqH h e with
      | none =>
        rw [e1] at z
        have z : (match dicRd h e with | some (t, kvs) => if kOk t d = true then some (dfind kvs d).isSome else none | none => none) = some c := z
        cases e2 : dicRd h e with
        | none => rw [e2] at z; cases z
        | some tk =>
          obtain ⟨t, kvs⟩ := tk
          rw [e2] at z
          have z : (if kOk t d = true then some (dfind kvs d).isSome else none) = some c := z
          by_cases q : kOk t d = true
          · rw [if_pos q] at z
            obtain ⟨a, o, rfl, g, co⟩ := r.dget e2 q dy dx
            have eo : o.isSome = c := by
              rcases co with ⟨e3, rfl⟩ | ⟨z', w, e3, rfl, _⟩
              · rw [e3] at z; exact Option.some.inj z
              · rw [e3] at z; exact Option.some.inj z
            cases ry
            have hu1 : X.A.units + 1 < cLine := by omega
            exact ⟨fun Q q => d_in hu1 I g rx fun s' I' => by rw [eo]; exact q s' I', fun Q q => d_notIn hu1 I g rx fun s' I' => by rw [eo]; exact q s' I'⟩
          · rw [if_neg q] at z; cases z
      | some xs =>
        rw [e1] at z
        obtain ⟨h1, h2⟩ := in_any I hK r rx ry hu dx dy e1 z
        exact ⟨fun Q q => h1 _ Q (q s I), fun Q q => h2 _ Q (q s I)⟩
    cases e with
    | str t =>
      have z : inStr d t = some c := z
      cases d with
      | str x =>
        cases x with
        | nil => cases z
        | cons a x =>
          cases x with
          | cons _ _ => cases z
          | nil =>
            obtain ⟨rfl, _⟩ := dx.strV
            obtain ⟨rfl, _⟩ := dy.strV
            obtain ⟨t1, rfl⟩ := rx
            obtain ⟨t2, rfl⟩ := ry
            have ea : decide (a ∈ t) = c := Option.some.inj z
            have f : (!(Builtin.Str.occurrences ⟨t.toArray⟩ ⟨#[a]⟩ 0 (Str.length ⟨t.toArray⟩) 1).isEmpty) = c := by
              rw [PySem.StrLaws.found_one ⟨t.toArray⟩ a, ← ea]
            exact ⟨fun Q q => PyProof.Rows.in_str (by rw [f]; exact q s I), fun Q q => PyProof.Rows.notIn_str (by rw [f]; exact q s I)⟩
      | _ => cases z
    | _ => exact gen z
  cases op with
  | Eq =>
    obtain ⟨p1, p2, e1, e2, hd, rfl⟩ := eqOp_some q
    obtain ⟨a1, a2⟩ := pyH_dp r dx e1
    obtain ⟨b1, b2⟩ := pyH_dp r dy e2
    exact (eq_any I rx ry hu (by rw [hK]; exact a1) (by rw [hK]; exact b1) a2 b2 hd).1 _ _ (fin (E := X.xe))
  | NotEq =>
    obtain ⟨c, q1, rfl⟩ := neg q
    obtain ⟨p1, p2, e1, e2, hd, rfl⟩ := eqOp_some q1
    obtain ⟨a1, a2⟩ := pyH_dp r dx e1
    obtain ⟨b1, b2⟩ := pyH_dp r dy e2
    exact (eq_any I rx ry hu (by rw [hK]; exact a1) (by rw [hK]; exact b1) a2 b2 hd).2 _ _ (fin (E := X.xe))
  | Is =>
    obtain ⟨h1, h2⟩ := isOp_ok I rx ry dx dy q
    exact wpAny_is_plain h1 (by rw [h2]; exact fin (E := X.xe))
  | IsNot =>
    obtain ⟨c, q1, rfl⟩ := neg q
    obtain ⟨h1, h2⟩ := isOp_ok I rx ry dx dy q1
    exact wpAny_isNot_plain h1 (by rw [h2]; exact fin (E := X.xe))
  | In => exact (mem q).1 _ (fin' (E := X.xe))
  | NotIn =>
    obtain ⟨c, q1, rfl⟩ := neg q
    exact (mem q1).2 _ (fin' (E := X.xe))
  | Lt => exact ord (fun _ _ _ => rfl) (fun i j t t' z => lt_int (by rw [show decide (i < j) = b from z]; exact fin (E := X.xe))) (fun i j t t' z => lt_str (by rw [show decide (i.cps.toList < j.cps.toList) = b from z]; exact fin (E := X.xe))) q
  | LtE => exact ord (fun _ _ _ => rfl) (fun i j t t' z => le_int (by rw [show decide (i ≤ j) = b from z]; exact fin (E := X.xe))) (fun i j t t' z => PySem.P.le_str (by rw [show (!decide (j.cps.toList < i.cps.toList)) = b from z]; exact fin (E := X.xe))) q
  | Gt => exact ord (fun _ _ _ => rfl) (fun i j t t' z => gt_int (by rw [show decide (j < i) = b from z]; exact fin (E := X.xe))) (fun i j t t' z => PySem.P.gt_str (by rw [show decide (j.cps.toList < i.cps.toList) = b from z]; exact fin (E := X.xe))) q
  | GtE => exact ord (fun _ _ _ => rfl) (fun i j t t' z => ge_int (by rw [show decide (j ≤ i) = b from z]; exact fin (E := X.xe))) (fun i j t t' z => PySem.P.ge_str (by rw [show (!decide (i.cps.toList < j.cps.toList)) = b from z]; exact fin (E := X.xe))) q
end
/-! M3: subscripts, slices, built-in functions and methods. -/
open PySem PySem.Spec PyProof.Rows L2

/-! ### subscripts -/
/-- an item, from either end -/
def ixSq (h : Hs) (d e : D) : Res D := match e with
  | .int i => match d with
    | .str x => Res.of ((atI x i).map fun c => .str [c]) h
    | d => match seqH h d with
      | some xs => Res.of (atI xs i) h
      | none => .bad
  | _ => .bad
/-- an item: of a dict by its key -/
def ixOp (h : Hs) (d e : D) : Res D := match dicRd h d with
  | some (t, kvs) => if kOk t e = true then Res.of (dfind kvs e) h else .bad
  | none => ixSq h d e
theorem atI_dv {K F H} {ds : List D} {vs : List V} {i : Int} {d : D} (h : DVs K F H ds vs) (e : atI ds i = some d) : ∃ v, atI vs i = some v ∧ DV K F H d v := by
  unfold atI at e ⊢
  rw [← h.len]
  cases q : ixN ds.length i with
  | none => rw [q] at e; cases e
  | some j =>
    rw [q] at e
    exact h.get e
/-- a list or tuple that is read -/
theorem RelH.seq {k F H h} (r : RelH k F H h) {d : D} {v : V} {xs : List D} (dv : DV k.K F H d v) (e : seqH h d = some xs) : ∃ a vs, v = .ref a ∧ (SqL k.K H a vs ∨ SqT k.K H a vs) ∧ DVs k.K F H xs vs ∧ (∀ ys, d = .tup ys → H a = some (.tup vs)) ∧ ((∀ ys, d ≠ .tup ys) → SqL k.K H a vs) := by
  cases d with
  | tup ys =>
    cases e
    unfold DV at dv
    obtain ⟨a, vs, rfl, q, dvs⟩ := dv
    exact ⟨a, vs, rfl, .inr (SqT.of q), dvs, fun _ _ => q, fun n => absurd rfl (n xs)⟩
  | ls ys =>
    cases e
    unfold DV at dv
    obtain ⟨a, vs, rfl, q, dvs⟩ := dv
    exact ⟨a, vs, rfl, .inl q.sq, dvs, fun _ z => (nomatch z), fun _ => q.sq⟩
  | ref n =>
    simp only [seqH] at e
    cases e3 : h[n]? with
    | none => rw [e3] at e; cases e
    | some c =>
      rw [e3] at e
      cases c with
      | lst zs =>
        cases e
        obtain ⟨a, vs, rfl, _, hl, dvs⟩ := r.lst e3 dv
        exact ⟨a, vs, rfl, .inl (SqL.of hl), dvs, fun _ z => (nomatch z), fun _ => SqL.of hl⟩
      | _ => cases e
  | _ => cases e
theorem seqH_tup {h : Hs} {d : D} {xs : List D} (e : seqH h d = some xs) : d = .tup xs ∨ ∀ ys, d ≠ .tup ys := by
  cases d with
  | tup ys => cases e; exact .inl rfl
  | _ => exact .inr fun _ z => nomatch z
section
variable {X : Cx} {k : Kx}
theorem ix_Sq (hK : X.K = k.K) : IxR X (rD k ixSq) := by
  intro ve se pins s σ H x y v u Q I rx ry hw hsb
  obtain ⟨W0, F, h, d, e, r, dx, dy, p⟩ := hw
  cases e with
  | int i =>
    cases dy.intV
    have gen : Post k F H (PV k Q) W0 (match seqH h d with | some xs => Res.of (atI xs i) h | none => .bad) → wpAny (model X.prog X.w) X.A (subscriptTail ve se v u) (EP X pins σ Q) X.xe s := fun p => by
      cases e1 : seqH h d with
      | none => rw [e1] at p; exact p.elim
      | some xs =>
        rw [e1] at p
        have p : Post k F H (PV k Q) W0 (Res.of (atI xs i) h) := p
        cases e2 : atI xs i with
        | none => rw [e2] at p; exact p.elim
        | some z =>
          rw [e2] at p
          obtain ⟨a, vs, rfl, sq, dvs, _⟩ := r.seq dx e1
          obtain ⟨w, e3, dw⟩ := atI_dv dvs e2
          have q : Q w H := Post.here p r dw
          rcases sq with sq | sq
          · exact ix_list ve se pins s σ H _ _ v u Q I rx ry ⟨a, vs, i, w, rfl, rfl, by rw [hK]; exact sq, e3, q⟩ hsb
          · exact ix_tup ve se pins s σ H _ _ v u Q I rx ry ⟨a, vs, i, w, rfl, rfl, by rw [hK]; exact sq, e3, q⟩ hsb
    cases d with
    | str x =>
      obtain ⟨rfl, hl⟩ := dx.strV
      have p : Post k F H (PV k Q) W0 (Res.of ((atI x i).map fun c => .str [c]) h) := p
      cases e2 : atI x i with
      | none => rw [e2] at p; exact p.elim
      | some c =>
        rw [e2] at p
        refine ix_str ve se pins s σ H _ _ v u Q I rx ry ⟨_, i, c, rfl, rfl, le_lim hl, e2, ?_⟩ hsb
        exact Post.here (d := .str [c]) p r (DV.mkStr (x := [c]) (by show 1 ≤ 16777216; decide))
    | _ => exact gen p
  | _ => exact p.elim

theorem ix_D {X : Cx} {k : Kx} (hK : X.K = k.K) (hu : X.A.units + 1 < cLine) : IxR X (rD k ixOp) := by
  intro ve se pins s σ H x y v u Q I rx ry hw hsb
  obtain ⟨W0, F, h, d, e, r, dx, dy, p⟩ := hw
  unfold ixOp at p
  cases e1 : dicRd h d with
  | none => rw [e1] at p; exact ix_Sq hK ve se pins s σ H x y v u Q I rx ry ⟨W0, F, h, d, e, r, dx, dy, p⟩ hsb
  | some tk =>
    obtain ⟨t, kvs⟩ := tk
    rw [e1] at p
    obtain ⟨q, p⟩ := Post.cond (c := kOk t e = true) (r := Res.of (dfind kvs e) h) p
    obtain ⟨a, o, rfl, g, co⟩ := r.dget e1 q dx dy
    rcases co with ⟨e3, rfl⟩ | ⟨z, w, e3, rfl, dz⟩
    · rw [e3] at p; exact p.elim
    · rw [e3] at p
      exact ix_dic hu ve se pins s σ H _ y v u Q I rx ry ⟨a, w, rfl, g, Post.here p r dz⟩ hsb

/-! ### slices -/
def cutD {α : Type} (xs : List α) (lo hi : Option Int) : List α := (xs.drop (HT.sIx xs.length 0 lo)).take (HT.sIx xs.length xs.length hi - HT.sIx xs.length 0 lo)
def slOp (h : Hs) (d : D) (lo hi : Option Int) : Res D := match d with
  | .str x => .ok (.str (cutD x lo hi)) h
  | .tup xs => .ok (.tup (cutD xs lo hi)) h
  | d => match seqH h d with
    | some xs => .ok (.ref h.length) (h ++ [.lst (cutD xs lo hi)])
    | none => .bad
theorem DVs.cut {K F H} {ds : List D} {vs : List V} (h : DVs K F H ds vs) (lo hi : Option Int) : DVs K F H (cutD ds lo hi) (cutV vs lo hi) := by
  unfold cutD cutV
  rw [← h.len]
  exact (h.drop _).take _
theorem cutD_len {α : Type} (xs : List α) (lo hi : Option Int) : (cutD xs lo hi).length ≤ xs.length := by
  unfold cutD
  rw [List.length_take, List.length_drop]
  omega
def rSlD (k : Kx) : V → Option Int → Option Int → Hp → VK → Prop := fun x lo hi H Q => ∃ (W0 : Value → Option Addr → Hp → Prop) (F : List Addr) (h : Hs) (d : D), RelH k F H h ∧ DV k.K F H d x ∧ Post k F H (PV k Q) W0 (slOp h d lo hi)
theorem sl_D (hK : X.K = k.K) : SlR X (rSlD k) := by
  intro pins s σ H x v vl vu lo hi sl Q I rx hs pl pu hw
  obtain ⟨W0, F, h, d, r, dx, p⟩ := hw
  have gen : Post k F H (PV k Q) W0 (match seqH h d with | some xs => .ok (.ref h.length) (h ++ [.lst (cutD xs lo hi)]) | none => .bad) → (∀ ys, d ≠ .tup ys) → ∃ T id, typeLookup (.type T) "__getitem__" = pure (some (.builtin id)) ∧ s.TypeIs v T ∧ wpAny (model X.prog X.w) X.A (getItem v (.ref sl)) (EP X pins σ Q) X.xe s := fun p n => by
    cases e1 : seqH h d with
    | none => rw [e1] at p; exact p.elim
    | some xs =>
      rw [e1] at p
      obtain ⟨a, vs, rfl, _, dvs, _, sq⟩ := r.seq dx e1
      exact sl_list pins s σ H _ v vl vu lo hi sl Q I rx hs pl pu ⟨a, vs, rfl, by rw [hK]; exact sq n, fun c hc => Post.lst p r (dvs.cut lo hi) hc⟩
  cases d with
  | str z =>
    obtain ⟨rfl, hl⟩ := dx.strV
    refine sl_str pins s σ H _ v vl vu lo hi sl Q I rx hs pl pu ⟨_, rfl, le_lim hl, ?_⟩
    have e : cutS ⟨z.toArray⟩ lo hi = ⟨(cutD z lo hi).toArray⟩ := by
      unfold cutS cutD
      simp [Str.length]
    rw [e]
    exact Post.here (d := .str (cutD z lo hi)) p r (DV.mkStr (Nat.le_trans (cutD_len z lo hi) hl))
  | tup xs =>
    unfold DV at dx
    obtain ⟨a, vs, rfl, sq, dvs⟩ := dx
    have dd := dvs.cut lo hi
    refine sl_tupA pins s σ H _ v vl vu lo hi sl Q I rx hs pl pu ⟨a, vs, rfl, by rw [hK]; exact SqT.of sq, fun hw => ?_, fun hw c hc => ?_⟩
    · have e : cutV vs lo hi = vs := by
        unfold cutV
        rw [hw.1, hw.2]
        simp
      rw [e] at dd
      exact Post.here (d := .tup (cutD xs lo hi)) p r (by unfold DV; exact ⟨a, vs, rfl, sq, dd⟩)
    · exact Post.tup p r dd hc
  | _ => exact gen p (fun _ z => nomatch z)
end

/-! ### calls of what is built in -/
abbrev BF := Hs → List D → Res D
def rC (k : Kx) (g : BF) : List V → Hp → VK → Prop := fun vs H Q => ∃ (W0 : Value → Option Addr → Hp → Prop) (F : List Addr) (h : Hs) (ds : List D), RelH k F H h ∧ DVs k.K F H ds vs ∧ Post k F H (PV k Q) W0 (g h ds)
theorem CallR.byD {X : Cx} {f : Value} {k : Kx} {g : BF}
    (h : ∀ (pins : List (Addr × Obj)) (s : Shared) (σ : L2.St) (H : Hp) (xs : List V) (us : List Value) (Q : VK) (W0 : Value → Option Addr → Hp → Prop) (F : List Addr) (hs : Hs) (ds : List D), L2.Inv X pins σ H s → Vals xs us → RelH k F H hs → DVs k.K F H ds xs →
      Post k F H (PV k Q) W0 (g hs ds) → wpAny (model X.prog X.w) X.A (call f us) (EP X pins σ Q) X.xe s) : CallR X f (rC k g) :=
  fun pins s σ H xs us Q I r ⟨W0, F, hs, ds, rl, dv, p⟩ => h pins s σ H xs us Q W0 F hs ds I r rl dv p
/-- of one argument -/
theorem CallR.byD1 {X : Cx} {f : Value} {k : Kx} {g : Hs → D → Res D} {g' : BF} (e1 : ∀ h d, g' h [d] = g h d) (e0 : ∀ h ds, (∀ d, ds ≠ [d]) → g' h ds = .bad)
    (h : ∀ (H : Hp) (x : V) (Q : VK) (W0 : Value → Option Addr → Hp → Prop) (F : List Addr) (hs : Hs) (d : D), RelH k F H hs → DV k.K F H d x →
      Post k F H (PV k Q) W0 (g hs d) → ∃ r, CallR X f r ∧ r [x] H Q) : CallR X f (rC k g') := by
  refine CallR.byD fun pins s σ H xs us Q W0 F hs ds I r rl dv p => ?_
  by_cases q : ∃ d, ds = [d]
  · obtain ⟨d, rfl⟩ := q
    rw [e1] at p
    unfold DVs at dv
    obtain ⟨v, rr, rfl, d1, d2⟩ := dv
    unfold DVs at d2
    subst d2
    obtain ⟨rr, o, q⟩ := h H v Q W0 F hs d rl d1 p
    exact o pins s σ H _ us Q I r q
  · rw [e0 hs ds fun d e => q ⟨d, e⟩] at p
    exact p.elim
def lenD (h : Hs) : D → Option Nat
  | .str x => some x.length
  | d => match seqH h d with
    | some xs => some xs.length
    | none => match dicRd h d with
      | some (false, kvs) => some kvs.length
      | _ => none
def len1 (h : Hs) (d : D) : Res D := Res.of ((lenD h d).map fun n => .int n) h
def on1 (g : Hs → D → Res D) : BF := fun h ds => match ds with
  | [d] => g h d
  | _ => .bad
def on2 (g : Hs → D → D → Res D) : BF := fun h ds => match ds with
  | [d, e] => g h d e
  | _ => .bad
theorem on1_bad {g : Hs → D → Res D} (h : Hs) (ds : List D) (n : ∀ d, ds ≠ [d]) : on1 g h ds = .bad := by
  match ds, n with
  | [], _ => rfl
  | [d], n => exact absurd rfl (n d)
  | _ :: _ :: _, _ => rfl
/-- ints of data -/
def intsD : List D → Option (List Int)
  | [] => some []
  | .int i :: r => (intsD r).map (i :: ·)
  | _ :: _ => none
def blsD : List D → Option (List Bool)
  | [] => some []
  | .bl i :: r => (blsD r).map (i :: ·)
  | _ :: _ => none
def strsD : List D → Option (List (List Nat))
  | [] => some []
  | .str i :: r => (strsD r).map (i :: ·)
  | _ :: _ => none
theorem intsD_eq : ∀ {ds : List D} {ns : List Int}, intsD ds = some ns → ds = ns.map .int
  | [], ns, e => by cases e; rfl
  | .int i :: r, ns, e => by
    obtain ⟨m, e1, rfl⟩ := Option.map_eq_some_iff.mp (show (intsD r).map (i :: ·) = some ns from e)
    rw [intsD_eq e1]; rfl
  | .non :: _, _, e => by cases e
  | .bl _ :: _, _, e => by cases e
  | .str _ :: _, _, e => by cases e
  | .tup _ :: _, _, e => by cases e
  | .ls _ :: _, _, e => by cases e
  | .ref _ :: _, _, e => by cases e
theorem blsD_eq : ∀ {ds : List D} {ns : List Bool}, blsD ds = some ns → ds = ns.map .bl
  | [], ns, e => by cases e; rfl
  | .bl i :: r, ns, e => by
    obtain ⟨m, e1, rfl⟩ := Option.map_eq_some_iff.mp (show (blsD r).map (i :: ·) = some ns from e)
    rw [blsD_eq e1]; rfl
  | .non :: _, _, e => by cases e
  | .int _ :: _, _, e => by cases e
  | .str _ :: _, _, e => by cases e
  | .tup _ :: _, _, e => by cases e
  | .ls _ :: _, _, e => by cases e
  | .ref _ :: _, _, e => by cases e
theorem strsD_eq : ∀ {ds : List D} {ns : List (List Nat)}, strsD ds = some ns → ds = ns.map .str
  | [], ns, e => by cases e; rfl
  | .str i :: r, ns, e => by
    obtain ⟨m, e1, rfl⟩ := Option.map_eq_some_iff.mp (show (strsD r).map (i :: ·) = some ns from e)
    rw [strsD_eq e1]; rfl
  | .non :: _, _, e => by cases e
  | .int _ :: _, _, e => by cases e
  | .bl _ :: _, _, e => by cases e
  | .tup _ :: _, _, e => by cases e
  | .ls _ :: _, _, e => by cases e
  | .ref _ :: _, _, e => by cases e
theorem intsD_map (ns : List Int) : intsD (ns.map .int) = some ns := by
  induction ns with
  | nil => rfl
  | cons n ns ih => show (intsD (ns.map .int)).map (n :: ·) = _; rw [ih]; rfl
theorem blsD_map (ns : List Bool) : blsD (ns.map .bl) = some ns := by
  induction ns with
  | nil => rfl
  | cons n ns ih => show (blsD (ns.map .bl)).map (n :: ·) = _; rw [ih]; rfl
theorem strsD_map (ns : List (List Nat)) : strsD (ns.map .str) = some ns := by
  induction ns with
  | nil => rfl
  | cons n ns ih => show (strsD (ns.map .str)).map (n :: ·) = _; rw [ih]; rfl
theorem DVs.ints {K F H} : ∀ {ns : List Int} {vs : List V}, DVs K F H (ns.map .int) vs → vs = ns.map V.int
  | [], vs, h => by unfold List.map DVs at h; exact h
  | n :: ns, vs, h => by
    rw [List.map_cons] at h
    unfold DVs at h
    obtain ⟨v, r, rfl, h1, h2⟩ := h
    rw [h1.intV, DVs.ints h2]; rfl
theorem DVs.bls {K F H} : ∀ {ns : List Bool} {vs : List V}, DVs K F H (ns.map .bl) vs → vs = ns.map V.bl
  | [], vs, h => by unfold List.map DVs at h; exact h
  | n :: ns, vs, h => by
    rw [List.map_cons] at h
    unfold DVs at h
    obtain ⟨v, r, rfl, h1, h2⟩ := h
    unfold DV at h1
    rw [h1, DVs.bls h2]; rfl
theorem DVs.strs {K F H} : ∀ {ns : List (List Nat)} {vs : List V}, DVs K F H (ns.map .str) vs → vs = ns.map (fun x => V.str ⟨x.toArray⟩) ∧ ∀ x ∈ ns, x.length ≤ lim
  | [], vs, h => by unfold List.map DVs at h; exact ⟨h, fun _ m => nomatch m⟩
  | n :: ns, vs, h => by
    rw [List.map_cons] at h
    unfold DVs at h
    obtain ⟨v, r, rfl, h1, h2⟩ := h
    obtain ⟨e, m⟩ := DVs.strs h2
    rw [h1.strV.1, e]
    refine ⟨rfl, fun x hx => ?_⟩
    rcases List.mem_cons.mp hx with z | z
    · rw [z]; exact h1.strV.2
    · exact m x z
/-- the type's name -/
def tyD (h : Hs) : D → Option String
  | .non => some "NoneType"
  | .bl _ => some "bool"
  | .int _ => some "int"
  | .str _ => some "str"
  | .tup _ => some "tuple"
  | .ls _ => some "list"
  | .ref n => match h[n]? with
    | some (.lst _) => some "list"
    | some (.dic _ false _) => some "dict"
    | _ => none
def isiT (T : String) (h : Hs) (d : D) : Option Bool := (tyD h d).bind fun t => kitB t T
theorem tyD_ok {k F H h} (r : RelH k F H h) {d : D} {v : V} {t : String} (dv : DV k.K F H d v) (e : tyD h d = some t) : TyX k.K H v (.type t) := by
  cases d with
  | non => unfold DV at dv; subst dv; cases e; exact .base .non
  | bl b => unfold DV at dv; subst dv; cases e; exact .base (.bl b)
  | int i => unfold DV at dv; subst dv; cases e; exact .base (.int i)
  | str x => obtain ⟨rfl, _⟩ := dv.strV; cases e; exact .base (.str _)
  | tup xs =>
    unfold DV at dv
    obtain ⟨a, vs, rfl, q, _⟩ := dv
    cases e
    exact .base (.tup q)
  | ls xs =>
    unfold DV at dv
    obtain ⟨a, vs, rfl, q, _⟩ := dv
    cases e
    rcases q with ⟨o, q⟩ | ⟨o, its, n, hk, hc, _⟩
    · exact .base (.frz q)
    · exact .kList hk hc
  | ref n =>
    simp only [tyD] at e
    cases q : h[n]? with
    | none => rw [q] at e; cases e
    | some c =>
      rw [q] at e
      unfold DV at dv
      obtain ⟨a, rfl, hf⟩ := dv
      have cr := r.cell n c a q hf
      cases c with
      | lst xs =>
        cases e
        obtain ⟨vs, q, _⟩ := cr
        exact .base (.lst q)
      | dic t lk kvs =>
        cases lk with
        | true => cases e
        | false =>
          cases e
          obtain ⟨o, d, q⟩ := cr
          have q : H a = some o := q
          rcases d.is with ⟨l, rfl⟩ | ⟨l, rfl⟩
          · exact .base (.dK q)
          · exact .base (.dT q)
      | ins c fs => cases e
def str1 (h : Hs) : D → Res D
  | .int i => if i.natAbs.log2 < 1920 then .ok (.str (cs (toString i))) h else .bad
  | .str x => .ok (.str x) h
  | _ => .bad
def int1 (h : Hs) : D → Res D
  | .int i => .ok (.int i) h
  | .bl b => .ok (.int (if b then 1 else 0)) h
  | .str x => if x.length ≤ 640 then Res.of ((PySem.intText? ⟨x.toArray⟩).map .int) h else .bad
  | _ => .bad
def bool1 (h : Hs) : D → Res D
  | .int i => .ok (.bl (i != 0)) h
  | .bl b => .ok (.bl b) h
  | _ => .bad
def abs1 (h : Hs) : D → Res D
  | .int i => .ok (.int (if i < 0 then -i else i)) h
  | _ => .bad
def all1 (h : Hs) (d : D) : Res D := match seqH h d with
  | some xs => match d with
    | .tup _ => .bad
    | _ => Res.of ((blsD xs).map fun bs => .bl (bs.all id)) h
  | none => .bad
def any1 (h : Hs) (d : D) : Res D := match seqH h d with
  | some xs => match d with
    | .tup _ => .bad
    | _ => Res.of ((blsD xs).map fun bs => .bl (bs.any id)) h
  | none => .bad
def sum1 (h : Hs) (d : D) : Res D := match seqH h d with
  | some xs => match d with
    | .tup _ => .bad
    | _ => Res.of ((intsD xs).map fun bs => .int bs.sum) h
  | none => .bad
def max2 (h : Hs) : D → D → Res D
  | .int i, .int j => .ok (.int (if j > i then j else i)) h
  | _, _ => .bad
def min2 (h : Hs) : D → D → Res D
  | .int i, .int j => .ok (.int (if j < i then j else i)) h
  | _, _ => .bad
def list1 (h : Hs) (d : D) : Res D := match seqH h d with
  | some xs => .ok (.ref h.length) (h ++ [.lst xs])
  | none => .bad
def tuple1 (h : Hs) (d : D) : Res D := match seqH h d with
  | some xs => .ok (.tup xs) h
  | none => .bad
theorem natCast_len {n m : Nat} (e : n = m) : ((n : Nat) : Int) = m := by rw [e]
section
variable {X : Cx} {k : Kx}
theorem call_lenD {X : Cx} : CallR X (.builtin "len") (fun xs H Q => ∃ a kvs, xs = [.ref a] ∧ Rd H a (.dK kvs) ∧ Q (.int kvs.length) H) := by
  intro pins s σ H vs us Q I rv q
  obtain ⟨a, kvs, rfl, rd, q⟩ := q
  obtain ⟨u, rfl, ru⟩ := rv.one
  cases ru
  exact d_len I rd fun t s' I' => ⟨.int kvs.length, H, I', ⟨t, rfl⟩, q⟩
theorem c_len (hK : X.K = k.K) : CallR X (.builtin "len") (rC k (on1 len1)) := by
  refine CallR.byD1 (g := len1) (fun _ _ => rfl) on1_bad fun H x Q W0 F hs d r dv p => ?_
  have gen : ∀ xs, seqH hs d = some xs → lenD hs d = some xs.length → ∃ r, CallR X (.builtin "len") r ∧ r [x] H Q := fun xs e q => by
    obtain ⟨a, vs, rfl, sq, dvs, _⟩ := r.seq dv e
    have p : Post k F H (PV k Q) W0 (Res.of ((lenD hs d).map fun n => .int n) hs) := p
    rw [q] at p
    refine ⟨_, call_len, _, vs.length, rfl, ?_, ?_⟩
    · rcases sq with sq | sq
      · exact .inl ⟨vs, by rw [hK]; exact sq, rfl⟩
      · exact .inr ⟨vs, by rw [hK]; exact sq, rfl⟩
    · rw [← dvs.len]
      exact Post.here (d := .int _) p r DV.mkInt
  cases d with
  | str z =>
    obtain ⟨rfl, hl⟩ := dv.strV
    exact ⟨_, call_len, _, z.length, rfl, ⟨le_lim hl, rfl⟩, Post.here (d := .int _) p r DV.mkInt⟩
  | tup xs => exact gen xs rfl rfl
  | ls xs => exact gen xs rfl rfl
  | ref n =>
    cases q : seqH hs (.ref n) with
    | none =>
      have e0 : lenD hs (.ref n) = (match dicRd hs (.ref n) with | some (false, kvs) => some kvs.length | _ => none) := by
        show (match seqH hs (.ref n) with | some xs => some xs.length | none => _) = _
        rw [q]
      have p : Post k F H (PV k Q) W0 (Res.of ((lenD hs (.ref n)).map fun n => .int n) hs) := p
      rw [e0] at p
      cases e : dicRd hs (.ref n) with
      | none => rw [e] at p; exact p.elim
      | some tk =>
        obtain ⟨t, kvs⟩ := tk
        rw [e] at p
        cases t with
        | true => exact p.elim
        | false =>
          obtain ⟨n', lk, z, hn⟩ := dicRd_ref e
          cases z
          unfold DV at dv
          obtain ⟨a, rfl, hf⟩ := dv
          obtain ⟨u, ⟨l, rfl, pr⟩, hu⟩ := r.cell n _ a hn hf
          have rd : Rd H a (.dK l) := by
            cases lk with
            | false => exact .inl hu
            | true => exact .inr hu
          refine ⟨_, call_lenD, a, l, rfl, rd, ?_⟩
          have : l.length = kvs.length := pr.length.symm
          rw [this]
          exact Post.here (d := .int _) p r DV.mkInt
    | some xs => exact gen xs q (by show (match seqH hs (.ref n) with | some xs => some xs.length | none => _) = _; rw [q])
  | _ => exact p.elim
theorem c_str (hK : X.K = k.K) : CallR X (.type "str") (rC k (on1 str1)) := by
  refine CallR.byD1 (g := str1) (fun _ _ => rfl) on1_bad fun H x Q W0 F hs d r dv p => ?_
  cases d with
  | int i =>
    cases dv.intV
    obtain ⟨hz, p⟩ := Post.cond (c := i.natAbs.log2 < 1920) (r := (.ok (.str (cs (toString i))) hs : Res D)) p
    refine ⟨_, call_str_int, i, rfl, hz, ?_⟩
    refine Post.here (d := .str (cs (toString i))) p r ?_
    have e : (⟨(cs (toString i)).toArray⟩ : Str) = Str.ofString (toString i) := by
      unfold cs
      simp
    have h := DV.mkStr (K := k.K) (F := F) (H := H) (x := cs (toString i)) (by
      have z := int_text_fits hz
      rw [lim_eq] at z
      unfold cs
      rw [Array.length_toList]
      exact z)
    rw [e] at h
    exact h
  | str z =>
    obtain ⟨rfl, hl⟩ := dv.strV
    exact ⟨_, SkE.call_str_str, _, rfl, Post.here (d := .str z) p r (DV.mkStr hl)⟩
  | _ => exact p.elim
theorem c_int (hK : X.K = k.K) : CallR X (.type "int") (rC k (on1 int1)) := by
  refine CallR.byD1 (g := int1) (fun _ _ => rfl) on1_bad fun H x Q W0 F hs d r dv p => ?_
  cases d with
  | int i => cases dv.intV; exact ⟨_, call_int1, .inl ⟨i, rfl, Post.here (d := .int i) p r DV.mkInt⟩⟩
  | bl b => unfold DV at dv; subst dv; exact ⟨_, call_int1, .inr ⟨b, rfl, Post.here (d := .int _) p r DV.mkInt⟩⟩
  | str z =>
    obtain ⟨rfl, hl⟩ := dv.strV
    obtain ⟨hz, p⟩ := Post.cond (c := z.length ≤ 640) (r := Res.of ((PySem.intText? ⟨z.toArray⟩).map D.int) hs) p
    cases e : PySem.intText? ⟨z.toArray⟩ with
    | none => rw [e] at p; exact p.elim
    | some n => rw [e] at p; exact ⟨_, call_int_str, _, n, rfl, e, hz, Post.here (d := .int n) p r DV.mkInt⟩
  | _ => exact p.elim
theorem c_bool (hK : X.K = k.K) : CallR X (.type "bool") (rC k (on1 bool1)) := by
  refine CallR.byD1 (g := bool1) (fun _ _ => rfl) on1_bad fun H x Q W0 F hs d r dv p => ?_
  cases d with
  | int i => cases dv.intV; exact ⟨_, call_bool1, .inl ⟨i, rfl, Post.here (d := .bl _) p r DV.mkBl⟩⟩
  | bl b => unfold DV at dv; subst dv; exact ⟨_, call_bool1, .inr ⟨b, rfl, Post.here (d := .bl _) p r DV.mkBl⟩⟩
  | _ => exact p.elim
theorem c_abs : CallR X (.builtin "abs") (rC k (on1 abs1)) := by
  refine CallR.byD1 (g := abs1) (fun _ _ => rfl) on1_bad fun H x Q W0 F hs d r dv p => ?_
  cases d with
  | int i => cases dv.intV; exact ⟨_, call_abs, i, rfl, Post.here (d := .int _) p r DV.mkInt⟩
  | _ => exact p.elim
/-- of a list, not of a tuple -/
theorem notTup {α : Type} {h : Hs} {d : D} {f : List D → Res α} {k F H} {P : α → List Addr → Hs → Hp → Prop} {W : Value → Option Addr → Hp → Prop} (p : Post k F H P W (match seqH h d with | some xs => (match d with | .tup _ => .bad | _ => f xs) | none => .bad)) :
    ∃ xs, seqH h d = some xs ∧ (∀ ys, d ≠ .tup ys) ∧ Post k F H P W (f xs) := by
  cases e : seqH h d with
  | none => rw [e] at p; exact p.elim
  | some xs =>
    rw [e] at p
    cases d with
    | tup ys => exact p.elim
    | _ => exact ⟨xs, rfl, fun _ z => (nomatch z), p⟩
theorem c_all (hK : X.K = k.K) (hc : X.calm = true) : CallR X (.builtin "all") (rC k (on1 all1)) := by
  refine CallR.byD1 (g := all1) (fun _ _ => rfl) on1_bad fun H x Q W0 F hs d r dv p => ?_
  obtain ⟨xs, e, n, p⟩ := notTup (α := D) (h := hs) (d := d) (f := fun xs => Res.of ((blsD xs).map fun bs => D.bl (bs.all id)) hs) (p : Post k F H (PV k Q) W0 (all1 hs d))
  cases q : blsD xs with
  | none => rw [q] at p; exact p.elim
  | some bs =>
    rw [q] at p
    obtain ⟨a, vs, rfl, _, dvs, _, sq⟩ := r.seq dv e
    rw [blsD_eq q] at dvs
    have ev := dvs.bls
    subst ev
    exact ⟨_, cr_all hc, a, bs, rfl, by rw [hK]; exact sq n, Post.here (d := .bl _) p r DV.mkBl⟩
theorem c_any (hK : X.K = k.K) (hc : X.calm = true) : CallR X (.builtin "any") (rC k (on1 any1)) := by
  refine CallR.byD1 (g := any1) (fun _ _ => rfl) on1_bad fun H x Q W0 F hs d r dv p => ?_
  obtain ⟨xs, e, n, p⟩ := notTup (α := D) (h := hs) (d := d) (f := fun xs => Res.of ((blsD xs).map fun bs => D.bl (bs.any id)) hs) (p : Post k F H (PV k Q) W0 (any1 hs d))
  cases q : blsD xs with
  | none => rw [q] at p; exact p.elim
  | some bs =>
    rw [q] at p
    obtain ⟨a, vs, rfl, _, dvs, _, sq⟩ := r.seq dv e
    rw [blsD_eq q] at dvs
    have ev := dvs.bls
    subst ev
    exact ⟨_, cr_any hc, a, bs, rfl, by rw [hK]; exact sq n, Post.here (d := .bl _) p r DV.mkBl⟩
theorem c_sum (hK : X.K = k.K) (hc : X.calm = true) : CallR X (.builtin "sum") (rC k (on1 sum1)) := by
  refine CallR.byD1 (g := sum1) (fun _ _ => rfl) on1_bad fun H x Q W0 F hs d r dv p => ?_
  obtain ⟨xs, e, n, p⟩ := notTup (α := D) (h := hs) (d := d) (f := fun xs => Res.of ((intsD xs).map fun bs => D.int bs.sum) hs) (p : Post k F H (PV k Q) W0 (sum1 hs d))
  cases q : intsD xs with
  | none => rw [q] at p; exact p.elim
  | some bs =>
    rw [q] at p
    obtain ⟨a, vs, rfl, _, dvs, _, sq⟩ := r.seq dv e
    rw [intsD_eq q] at dvs
    have ev := dvs.ints
    subst ev
    exact ⟨_, cr_sum hc, a, bs, rfl, by rw [hK]; exact sq n, Post.here (d := .int _) p r DV.mkInt⟩
theorem c_list (hK : X.K = k.K) : CallR X (.type "list") (rC k (on1 list1)) := by
  refine CallR.byD1 (g := list1) (fun _ _ => rfl) on1_bad fun H x Q W0 F hs d r dv p => ?_
  have p : Post k F H (PV k Q) W0 (match seqH hs d with | some xs => .ok (.ref hs.length) (hs ++ [.lst xs]) | none => .bad) := p
  cases e : seqH hs d with
  | none => rw [e] at p; exact p.elim
  | some xs =>
    rw [e] at p
    obtain ⟨a, vs, rfl, sq, dvs, _⟩ := r.seq dv e
    exact ⟨_, call_list_of, a, vs, rfl, by rw [hK]; exact sq, fun l hl => Post.lst p r dvs hl⟩
theorem c_tuple (hK : X.K = k.K) : CallR X (.type "tuple") (rC k (on1 tuple1)) := by
  refine CallR.byD1 (g := tuple1) (fun _ _ => rfl) on1_bad fun H x Q W0 F hs d r dv p => ?_
  have p : Post k F H (PV k Q) W0 (match seqH hs d with | some xs => .ok (.tup xs) hs | none => .bad) := p
  cases e : seqH hs d with
  | none => rw [e] at p; exact p.elim
  | some xs =>
    rw [e] at p
    obtain ⟨a, vs, rfl, sq, dvs, st, sl⟩ := r.seq dv e
    refine ⟨_, call_tuple_of, a, vs, rfl, ?_⟩
    rcases seqH_tup e with z | z
    · exact .inr ⟨by rw [hK]; exact SqT.of (st xs z), Post.here (d := .tup xs) p r (by unfold DV; exact ⟨a, vs, rfl, st xs z, dvs⟩)⟩
    · exact .inl ⟨by rw [hK]; exact sl z, fun l hl => Post.tup p r dvs hl⟩
theorem c_two {f : Value} {g : Int → Int → Int} {G : Hs → D → D → Res D} (o : CallR X f (fun xs H Q => ∃ i j, xs = [.int i, .int j] ∧ Q (.int (g i j)) H)) (h1 : ∀ h i j, G h (.int i) (.int j) = .ok (.int (g i j)) h)
    (h2 : ∀ h d e, (∀ i j, ¬ (d = .int i ∧ e = .int j)) → G h d e = .bad) : CallR X f (rC k (on2 G)) := by
  refine CallR.byD fun pins s σ H xs us Q W0 F hs ds I r rl dv p => ?_
  match ds, dv, p with
  | [], _, p => exact p.elim
  | [_], _, p => exact p.elim
  | _ :: _ :: _ :: _, _, p => exact p.elim
  | [d, e], dv, p =>
    unfold DVs at dv
    obtain ⟨v, rr, rfl, d1, dv⟩ := dv
    unfold DVs at dv
    obtain ⟨w, rr, rfl, d2, dv⟩ := dv
    unfold DVs at dv
    subst dv
    have p : Post k F H (PV k Q) W0 (G hs d e) := p
    by_cases q : ∃ i j, d = .int i ∧ e = .int j
    · obtain ⟨i, j, rfl, rfl⟩ := q
      rw [h1] at p
      cases d1.intV; cases d2.intV
      exact o pins s σ H _ us Q I r ⟨i, j, rfl, Post.here (d := .int _) p rl DV.mkInt⟩
    · rw [h2 hs d e fun i j z => q ⟨i, j, z⟩] at p
      exact p.elim
theorem c_max (hc : X.calm = true) : CallR X (.builtin "max") (rC k (on2 max2)) := c_two (g := fun i j => if j > i then j else i) (call_max2 hc) (fun _ _ _ => rfl) fun h d e n => by
  cases d <;> cases e <;> first | rfl | exact absurd ⟨rfl, rfl⟩ (n _ _)
theorem c_min (hc : X.calm = true) : CallR X (.builtin "min") (rC k (on2 min2)) := c_two (g := fun i j => if j < i then j else i) (call_min2 hc) (fun _ _ _ => rfl) fun h d e n => by
  cases d <;> cases e <;> first | rfl | exact absurd ⟨rfl, rfl⟩ (n _ _)
end
/-! M4: expressions. -/
open PySem PySem.Spec PyProof.Rows L2

abbrev Ev := Env → Hs → Res D
abbrev Tv := Env → Hs → Res Bool
abbrev Av := Env → Hs → Res (List D)
def vE (i : Nat) : Ev := fun env h => match env[i]? with
  | some (some d) => .ok d h
  | _ => .bad
def kE (d : D) : Ev := fun _ h => .ok d h
def bE (a b : Ev) (g : Hs → D → D → Res D) : Ev := fun env h => (a env h).bind fun x h1 => (b env h1).bind fun y h2 => g h2 x y
def uE (a : Ev) (g : Hs → D → Res D) : Ev := fun env h => (a env h).bind fun x h1 => g h1 x
/-- a test: a value's truth -/
def tst (a : Ev) : Tv := fun env h => (a env h).bind fun x h1 => Res.of (truth h1 x) h1
def andE (a b : Ev) : Ev := fun env h => (a env h).bind fun x h1 => (Res.of (truth h1 x) h1).bind fun t h2 => if t then b env h2 else .ok x h2
def orE (a b : Ev) : Ev := fun env h => (a env h).bind fun x h1 => (Res.of (truth h1 x) h1).bind fun t h2 => if t then .ok x h2 else b env h2
def notE (a : Ev) : Ev := fun env h => (tst a env h).bind fun t h1 => .ok (.bl (!t)) h1
def ifE (t : Ev) (a b : Ev) : Ev := fun env h => (tst t env h).bind fun c h1 => if c then a env h1 else b env h1
def chE (a b c : Ev) (o o' : CmpOp) : Ev := fun env h => (a env h).bind fun x h1 => (b env h1).bind fun y h2 => (cmpR o h2 x y).bind fun t h3 => match t with
  | .bl true => (c env h3).bind fun z h4 => cmpR o' h4 y z
  | .bl false => .ok (.bl false) h3
  | _ => .bad
def ch3E (a b c d : Ev) (o o' o'' : CmpOp) : Ev := fun env h => (a env h).bind fun x h1 => (b env h1).bind fun y h2 => (cmpR o h2 x y).bind fun t h3 => match t with
  | .bl true => (c env h3).bind fun z h4 => (cmpR o' h4 y z).bind fun t h5 => match t with
    | .bl true => (d env h5).bind fun w h6 => cmpR o'' h6 z w
    | .bl false => .ok (.bl false) h5
    | _ => .bad
  | .bl false => .ok (.bl false) h3
  | _ => .bad
def aNil : Av := fun _ h => .ok [] h
def aCons (a : Ev) (r : Av) : Av := fun env h => (a env h).bind fun x h1 => (r env h1).bind fun xs h2 => .ok (x :: xs) h2
def tupE (a : Av) : Ev := fun env h => (a env h).bind fun xs h1 => if xs.length ≤ lim then .ok (.tup xs) h1 else .bad
def lstE (a : Av) : Ev := fun env h => (a env h).bind fun xs h1 => if xs.length ≤ lim then .ok (.ref h1.length) (h1 ++ [.lst xs]) else .bad
/-- a slice's bound -/
def ptE (o : Option Ev) : Env → Hs → Res (Option Int) := match o with
  | none => fun _ h => .ok none h
  | some l => fun env h => (l env h).bind fun i h2 => match i with
    | .int i => .ok (some i) h2
    | _ => .bad
def slE (a : Ev) (lo hi : Option Ev) : Ev := fun env h => (a env h).bind fun x h1 =>
  (ptE lo env h1).bind fun l h2 => (ptE hi env h2).bind fun u h3 => slOp h3 x l u
def cE (as : Av) (g : BF) : Ev := fun env h => (as env h).bind fun xs h1 => g h1 xs
def isiE (a : Ev) (T : String) : Ev := fun env h => (a env h).bind fun x h1 => Res.of ((isiT T h1 x).map .bl) h1
/-- a method of what is built in: the receiver's kind is looked at ahead of the arguments -/
structure MF where
  ty : Hs → D → Bool
  go : Hs → D → List D → Res D
def mE (a : Ev) (as : Av) (m : MF) : Ev := fun env h => (a env h).bind fun x h1 => if m.ty h1 x then (as env h1).bind fun xs h2 => m.go h2 x xs else .bad

section
variable {X : Cx} {k : Kx} {W : WX} {a b c : Expr} {fa fb fc : Ev} {pos : Pos}
/-- what is behind a value -/
theorem tE_bind {g : D → Hs → Res D} {σ H Q} (p : tE k W (fun env h => (fa env h).bind g) σ H Q) :
    tE k W fa σ H fun x H1 => ∃ F h d env, SR k F H1 h σ env ∧ DV k.K F H1 d x ∧ Post k F H1 (PV k Q) (fun c d H' => W c d σ H') (g d h) := by
  obtain ⟨F, h, env, sr, p⟩ := p
  exact ⟨F, h, env, sr, p.bind.imp (fun d F' h' H' st rl q v dv => ⟨F', h', d, env, sr.step st rl, dv, q⟩) fun _ _ _ x => x⟩
theorem me_var {i : Nat} {x : Str} (hN : X.N[i]? = some x) (hv : Vis X.env.scope x) (h1 : (x == ("__debug__" : Str)) = false) (h2 : (x == ("__classdict__" : Str)) = false) : PE X (.Name x pos) (tE k W (vE i)) := by
  refine PE.imp (pe_var hN hv h1 h2) fun σ H Q ⟨F, h, env, sr, p⟩ => ?_
  have p : Post k F H (PV k Q) _ (match env[i]? with | some (some d) => .ok d h | _ => .bad) := p
  cases e : env[i]? with
  | none => rw [e] at p; exact p.elim
  | some o =>
    rw [e] at p
    cases o with
    | none => exact p.elim
    | some d =>
      obtain ⟨v, e1, dv⟩ := sr.er.2 i d e
      exact ⟨v, e1, Post.here p sr.rel dv⟩
theorem me_con {e : Expr} {d : D} {v : V} (p : PE X e (tC v)) (dv : ∀ F H, DV k.K F H d v) : PE X e (tE k W (kE d)) :=
  PE.imp p fun σ H Q ⟨F, h, env, sr, q⟩ => Post.here (d := d) q sr.rel (dv F H)
theorem me_bin {op : Operator} {g : Hs → D → D → Res D} (ho : OpR X (binaryOp op) (rD k g)) (ha : PE X a (tE k W fa)) (hb : PE X b (tE k W fb)) : PE X (.BinOp a op b pos) (tE k W (bE fa fb g)) := by
  refine PE.imp (pe_op ho ha hb) fun σ H Q p => ?_
  obtain ⟨F, h, env, sr, p⟩ := p
  exact ⟨F, h, env, sr, p.bind.imp (fun d F' h' H' st rl q v dv => ⟨F', h', env, sr.step st rl, q.bind.imp (fun e F2 h2 H2 st2 rl2 q2 w dw => ⟨_, F2, h2, d, e, rl2, DV.mono st2 _ _ dv, dw, q2⟩) fun _ _ _ x => x⟩) fun _ _ _ x => x⟩
theorem me_un {op : UnaryOp} {g : Hs → D → Res D} (ho : UnR X (unaryOp op) (fun x H Q => ∃ (W0 : Value → Option Addr → Hp → Prop) (F : List Addr) (h : Hs) (d : D), RelH k F H h ∧ DV k.K F H d x ∧ Post k F H (PV k Q) W0 (g h d))) (ha : PE X a (tE k W fa)) : PE X (.UnaryOp op a pos) (tE k W (uE fa g)) := by
  refine PE.imp (pe_un ho ha) fun σ H Q p => ?_
  obtain ⟨F, h, env, sr, p⟩ := p
  exact ⟨F, h, env, sr, p.bind.imp (fun d F' h' H' st rl q v dv => ⟨_, F', h', d, rl, dv, q⟩) fun _ _ _ x => x⟩
def negD (h : Hs) : D → Res D
  | .int i => .ok (.int (-i)) h
  | _ => .bad
theorem un_negD : UnR X (unaryOp .USub) (fun x H Q => ∃ (W0 : Value → Option Addr → Hp → Prop) (F : List Addr) (h : Hs) (d : D), RelH k F H h ∧ DV k.K F H d x ∧ Post k F H (PV k Q) W0 (negD h d)) := by
  intro pins s σ H x v Q I rx q
  obtain ⟨W0, F, h, d, r, dv, p⟩ := q
  cases d with
  | int i => cases dv.intV; exact un_neg pins s σ H _ v Q I rx ⟨i, rfl, Post.here (d := .int _) p r DV.mkInt⟩
  | _ => exact p.elim
/-- an answer that is a truth value -/
theorem Post.bl {F H h} {P P' : D → List Addr → Hs → Hp → Prop} {W' W0 : Value → Option Addr → Hp → Prop} {o : Option Bool} (p : Post k F H P W' (Res.of (o.map D.bl) h)) (hp : ∀ b F' h' H', Step k.K F H F' H' → RelH k F' H' h' → P (.bl b) F' h' H' → P' (.bl b) F' h' H') : Post k F H P' W0 (Res.of (o.map D.bl) h) := by
  cases o with
  | none => exact p.elim
  | some b => exact fun F' H' st r => hp b F' h H' st r (p F' H' st r)
theorem DV.blV {K F H b v} (h : DV K F H (.bl b) v) : v = .bl b := by unfold DV at h; exact h
theorem me_cmp {op : CmpOp} (hK : X.K = k.K) (hu : X.A.units + 64 < cLine) (ha : PE X a (tE k W fa)) (hb : PE X b (tE k W fb)) (hm : behindInMarks op b = false) : PE X (.Compare a [op] [b] pos) (tE k W (bE fa fb (cmpR op))) := by
  refine PE.imp (pe_cmpR (op_cmpD hK hu op) ha hb hm) fun σ H Q p => ?_
  obtain ⟨F, h, env, sr, p⟩ := p
  exact ⟨F, h, env, sr, p.bind.imp (fun d F' h' H' st rl q v dv => ⟨F', h', env, sr.step st rl, q.bind.imp (fun e F2 h2 H2 st2 rl2 q2 w dw => ⟨_, F2, h2, d, e, rl2, DV.mono st2 _ _ dv, dw, q2⟩) fun _ _ _ x => x⟩) fun _ _ _ x => x⟩
/-- the truth of an answer that is a truth value -/
theorem tstBl {F H b} {Q : Bool → Hp → Prop} {h : Hs} {W' : Value → Option Addr → Hp → Prop} (r : RelH k F H h) (p : Post k F H (PB Q) W' (Res.of (truth h (.bl b)) h)) : Q b H := p F H .refl r
theorem mt_cmp {op : CmpOp} (hK : X.K = k.K) (hu : X.A.units + 64 < cLine) (ha : PE X a (tE k W fa)) (hb : PE X b (tE k W fb)) (hm : behindInMarks op b = false) : PT X (.Compare a [op] [b] pos) (tT k W (tst (bE fa fb (cmpR op)))) := by
  refine PT.imp (pt_cmpR (op_cmpD hK hu op) ha hb hm) fun σ H Q p => ?_
  obtain ⟨F, h, env, sr, p⟩ := p
  refine ⟨F, h, env, sr, p.bind.bind.imp (fun d F' h' H' st rl q v dv => ⟨F', h', env, sr.step st rl, q.bind.imp (fun e F2 h2 H2 st2 rl2 q2 w dw => ⟨fun _ _ _ => False, F2, h2, d, e, rl2, DV.mono st2 _ _ dv, dw, Post.bl q2 fun b F3 h3 H3 _ r3 z v dv => ?_⟩) fun _ _ _ x => x⟩) fun _ _ _ x => x⟩
  cases dv.blV
  exact ⟨b, rfl, tstBl r3 z⟩
/-- a test by its value's truth -/
theorem tst_tE {σ H} {Q : Bool → Hp → Prop} (p : tT k W (tst fa) σ H Q) : tE k W fa σ H fun v H' => ∃ b, TruV k.K v H' b ∧ Q b H' := by
  obtain ⟨F, h, env, sr, p⟩ := p
  refine ⟨F, h, env, sr, p.bind.imp (fun d F' h' H' st rl q v dv => ?_) fun _ _ _ x => x⟩
  cases e : truth h' d with
  | none => rw [e] at q; exact q.elim
  | some b => rw [e] at q; exact ⟨b, truth_ok rl dv e, q F' H' .refl rl⟩
theorem mt_any (hK : X.K = k.K) (ha : PE X a (tE k W fa)) (he : ∀ whole, isTrue a X.env whole = (do let v ← whole; standAt a.pos; holding [v] (truthy v))) : PT X a (tT k W (tst fa)) :=
  PT.imp (pt_truth ha he) fun σ H Q p => by rw [hK]; exact tst_tE p
theorem mt_not (ha : PT X a (tT k W (tst fa))) : PT X (.UnaryOp .Not a pos) (tT k W (tst (notE fa))) := by
  refine PT.imp (pt_not ha) fun σ H Q p => ?_
  obtain ⟨F, h, env, sr, p⟩ := p
  exact ⟨F, h, env, sr, p.bind.bind.imp (fun b F' h' H' st rl q => tstBl rl (Post.ok q rl)) fun _ _ _ x => x⟩
theorem me_not (hK : X.K = k.K) (ha : PE X a (tE k W fa)) : PE X (.UnaryOp .Not a pos) (tE k W (notE fa)) := by
  refine PE.imp (pe_notT ha) fun σ H Q p => ?_
  obtain ⟨F, h, env, sr, p⟩ := p
  have q : tT k W (tst fa) σ H (fun b H' => Q (.bl (!b)) H') := ⟨F, h, env, sr, p.bind.imp (fun b F' h' H' st rl q => Post.here (d := .bl _) q rl DV.mkBl) fun _ _ _ x => x⟩
  have q := tst_tE q
  rw [← hK] at q
  exact q
theorem mt_and1 (ha : PT X a (tT k W (tst fa))) : PT X (.BoolOp .And [a] pos) (tT k W (tst fa)) := PW.pt (pw_and1 ha)
theorem andT_imp {σ H} {Q : Bool → Hp → Prop} (p : tT k W (tst (andE fa fb)) σ H Q) : tAnd (tT k W (tst fa)) (tT k W (tst fb)) σ H Q := by
  obtain ⟨F, h, env, sr, p⟩ := p
  have p : Post k F H (PB Q) (fun c d H' => W c d σ H') (((fa env h).bind fun x h1 => (Res.of (truth h1 x) h1).bind fun t h2 => if t then fb env h2 else .ok x h2).bind fun x h1 => Res.of (truth h1 x) h1) := p
  refine ⟨F, h, env, sr, ?_⟩
  show Post k F H _ _ ((fa env h).bind fun x h1 => Res.of (truth h1 x) h1)
  cases e : fa env h with
  | bad => rw [e] at p; exact p.elim
  | exc ex h' => rw [e] at p; exact p
  | ok x h1 =>
    rw [e] at p
    show Post k F H _ _ (Res.of (truth h1 x) h1)
    have p : Post k F H (PB Q) (fun c d H' => W c d σ H') (((Res.of (truth h1 x) h1).bind fun t h2 => if t then fb env h2 else .ok x h2).bind fun x h1 => Res.of (truth h1 x) h1) := p
    cases e2 : truth h1 x with
    | none => rw [e2] at p; exact p.elim
    | some t =>
      rw [e2] at p
      intro F' H' st rl
      cases t with
      | true => exact ⟨F', h1, env, sr.step st rl, Post.step (p : Post k F H (PB Q) _ (tst fb env h1)) st⟩
      | false =>
        have p : Post k F H (PB Q) (fun c d H' => W c d σ H') (Res.of (truth h1 x) h1) := p
        rw [e2] at p
        exact p F' H' st rl
theorem orT_imp {σ H} {Q : Bool → Hp → Prop} (p : tT k W (tst (orE fa fb)) σ H Q) : tOr (tT k W (tst fa)) (tT k W (tst fb)) σ H Q := by
  obtain ⟨F, h, env, sr, p⟩ := p
  have p : Post k F H (PB Q) (fun c d H' => W c d σ H') (((fa env h).bind fun x h1 => (Res.of (truth h1 x) h1).bind fun t h2 => if t then .ok x h2 else fb env h2).bind fun x h1 => Res.of (truth h1 x) h1) := p
  refine ⟨F, h, env, sr, ?_⟩
  show Post k F H _ _ ((fa env h).bind fun x h1 => Res.of (truth h1 x) h1)
  cases e : fa env h with
  | bad => rw [e] at p; exact p.elim
  | exc ex h' => rw [e] at p; exact p
  | ok x h1 =>
    rw [e] at p
    show Post k F H _ _ (Res.of (truth h1 x) h1)
    have p : Post k F H (PB Q) (fun c d H' => W c d σ H') (((Res.of (truth h1 x) h1).bind fun t h2 => if t then .ok x h2 else fb env h2).bind fun x h1 => Res.of (truth h1 x) h1) := p
    cases e2 : truth h1 x with
    | none => rw [e2] at p; exact p.elim
    | some t =>
      rw [e2] at p
      intro F' H' st rl
      cases t with
      | false => exact ⟨F', h1, env, sr.step st rl, Post.step (p : Post k F H (PB Q) _ (tst fb env h1)) st⟩
      | true =>
        have p : Post k F H (PB Q) (fun c d H' => W c d σ H') (Res.of (truth h1 x) h1) := p
        rw [e2] at p
        exact p F' H' st rl
theorem mw_and {r : List Expr} (ha : PT X a (tT k W (tst fa))) (hb : PW X (.BoolOp .And (b :: r) pos) (tT k W (tst fb))) : PW X (.BoolOp .And (a :: b :: r) pos) (tT k W (tst (andE fa fb))) := PW.imp (pw_and ha hb) fun σ H Q p => andT_imp p
theorem mw_or {r : List Expr} (ha : PT X a (tT k W (tst fa))) (hb : PW X (.BoolOp .Or (b :: r) pos) (tT k W (tst fb))) : PW X (.BoolOp .Or (a :: b :: r) pos) (tT k W (tst (orE fa fb))) := PW.imp (pw_or ha hb) fun σ H Q p => orT_imp p
theorem me_and {r : List Expr} (hK : X.K = k.K) (ha : PE X a (tE k W fa)) (hb : PE X (.BoolOp .And (b :: r) pos) (tE k W fb)) : PE X (.BoolOp .And (a :: b :: r) pos) (tE k W (andE fa fb)) := by
  refine PE.imp (pe_andT ha hb) fun σ H Q p => ?_
  obtain ⟨F, h, env, sr, p⟩ := p
  refine ⟨F, h, env, sr, p.bind.imp (fun d F' h' H' st rl q v dv => ?_) fun _ _ _ x => x⟩
  cases e : truth h' d with
  | none => rw [e] at q; exact q.elim
  | some t =>
    rw [e] at q
    refine ⟨t, by rw [hK]; exact truth_ok rl dv e, ?_⟩
    cases t with
    | true => exact ⟨F', h', env, sr.step st rl, q⟩
    | false => exact Post.here (d := d) q rl dv
theorem me_or {r : List Expr} (hK : X.K = k.K) (ha : PE X a (tE k W fa)) (hb : PE X (.BoolOp .Or (b :: r) pos) (tE k W fb)) : PE X (.BoolOp .Or (a :: b :: r) pos) (tE k W (orE fa fb)) := by
  refine PE.imp (pe_orT ha hb) fun σ H Q p => ?_
  obtain ⟨F, h, env, sr, p⟩ := p
  refine ⟨F, h, env, sr, p.bind.imp (fun d F' h' H' st rl q v dv => ?_) fun _ _ _ x => x⟩
  cases e : truth h' d with
  | none => rw [e] at q; exact q.elim
  | some t =>
    rw [e] at q
    refine ⟨t, by rw [hK]; exact truth_ok rl dv e, ?_⟩
    cases t with
    | false => exact ⟨F', h', env, sr.step st rl, q⟩
    | true => exact Post.here (d := d) q rl dv
theorem me_if {t : Expr} {ft : Ev} (ht : PT X t (tT k W (tst ft))) (ha : PE X a (tE k W fa)) (hb : PE X b (tE k W fb)) : PE X (.IfExp t a b pos) (tE k W (ifE ft fa fb)) := by
  refine PE.imp (pe_ifExp ht ha hb) fun σ H Q p => ?_
  obtain ⟨F, h, env, sr, p⟩ := p
  refine ⟨F, h, env, sr, p.bind.imp (fun c F' h' H' st rl q => ?_) fun _ _ _ x => x⟩
  cases c with
  | true => exact ⟨F', h', env, sr.step st rl, q⟩
  | false => exact ⟨F', h', env, sr.step st rl, q⟩
/-- chains of three -/
def tChain3 (r r' r'' : R2) (ta tb tc td : TE) : TE := fun σ H Q => ta σ H fun x H1 => tb σ H1 fun y H2 => r x y H2 fun z H3 => ∃ q, z = .bl q ∧ (if q = true then tc σ H3 fun u H4 => r' y u H4 fun z' H5 => ∃ q', z' = .bl q' ∧ (if q' = true then td σ H5 fun v H6 => r'' u v H6 Q else Q (.bl false) H5) else Q (.bl false) H3)
theorem pe_chain3 {d : Expr} {o1 o2 o3 : CmpOp} {r r' r'' : R2} {ta tb tc td : TE} (h1 : OpR X (compareOp o1) r) (h2 : OpR X (compareOp o2) r') (h3 : OpR X (compareOp o3) r'') (ha : PE X a ta) (hb : PE X b tb) (hc : PE X c tc) (hd : PE X d td) (hm : lastMarks [o1, o2, o3] [b, c, d] = false) :
    PE X (.Compare a [o1, o2, o3] [b, c, d] pos) (tChain3 r r' r'' ta tb tc td) := by
  refine ⟨fun pins s σ H Q I h => ?_⟩
  refine Compare_chain (thn (ha.run pins s σ H _ I h) fun v s1 ⟨x, H1, I1, r1, q1⟩ => chain_link (thn (hb.run pins s1 σ H1 _ I1 q1) fun u s2 ⟨y, H2, I2, r2, q2⟩ =>
    thn (h1 pins s2 σ H2 x y v u _ I2 r1 r2 q2) fun e s3 ⟨z, H3, I3, r3, k, ek, q3⟩ => ?_)) hm
  subst ek
  cases r3
  refine wpAny_truthy_bool ?_
  cases k with
  | false => exact ite_ff ⟨.bl false, H3, I3, rfl, q3⟩
  | true =>
    refine ite_tt (chain_link (thn (hc.run pins s3 σ H3 _ I3 q3) fun u' s4 ⟨y', H4, I4, r4, q4⟩ => thn (h2 pins s4 σ H4 y y' u u' _ I4 r2 r4 q4) fun e s5 ⟨z, H5, I5, r5, k, ek, q5⟩ => ?_))
    subst ek
    cases r5
    refine wpAny_truthy_bool ?_
    cases k with
    | false => exact ite_ff ⟨.bl false, H5, I5, rfl, q5⟩
    | true => exact ite_tt (chain_last (thn (hd.run pins s5 σ H5 _ I5 q5) fun w' s6 ⟨z', H6, I6, r6, q6⟩ => h3 pins s6 σ H6 y' z' u' w' Q I6 r4 r6 q6))
theorem pt_chain3 {d : Expr} {o1 o2 o3 : CmpOp} {r r' r'' : R2} {ta tb tc td : TE} (h1 : OpR X (compareOp o1) r) (h2 : OpR X (compareOp o2) r') (h3 : OpR X (compareOp o3) r'') (ha : PE X a ta) (hb : PE X b tb) (hc : PE X c tc) (hd : PE X d td) (hm : lastMarks [o1, o2, o3] [b, c, d] = false) :
    PT X (.Compare a [o1, o2, o3] [b, c, d] pos) (tTest (tChain3 r r' r'' ta tb tc td)) := by
  refine ⟨fun pins s σ H Q I h => ?_⟩
  refine isTrue_chain (thn (ha.run pins s σ H _ I h) fun v s1 ⟨x, H1, I1, r1, q1⟩ => test_link (thn (hb.run pins s1 σ H1 _ I1 q1) fun u s2 ⟨y, H2, I2, r2, q2⟩ =>
    thn (h1 pins s2 σ H2 x y v u _ I2 r1 r2 q2) fun e s3 ⟨z, H3, I3, r3, k, ek, q3⟩ => ?_)) hm
  subst ek
  cases r3
  refine wpAny_truthy_bool ?_
  cases k with
  | false =>
    obtain ⟨k', e', q'⟩ := q3
    cases e'
    exact ite_ff ⟨H3, I3, q'⟩
  | true =>
    refine ite_tt (test_link (thn (hc.run pins s3 σ H3 _ I3 q3) fun u' s4 ⟨y', H4, I4, r4, q4⟩ => thn (h2 pins s4 σ H4 y y' u u' _ I4 r2 r4 q4) fun e s5 ⟨z, H5, I5, r5, k, ek, q5⟩ => ?_))
    subst ek
    cases r5
    refine wpAny_truthy_bool ?_
    cases k with
    | false =>
      obtain ⟨k', e', q'⟩ := q5
      cases e'
      exact ite_ff ⟨H5, I5, q'⟩
    | true =>
      refine ite_tt (test_last (thn (hd.run pins s5 σ H5 _ I5 q5) fun w' s6 ⟨z', H6, I6, r6, q6⟩ => thn (h3 pins s6 σ H6 y' z' u' w' _ I6 r4 r6 q6) fun e s7 ⟨z2, H7, I7, r7, k2, e2, q7⟩ => ?_))
      subst e2
      cases r7
      exact wpAny_truthy_bool ⟨H7, I7, q7⟩
theorem me_chain {op op' : CmpOp} (hK : X.K = k.K) (hu : X.A.units + 64 < cLine) (ha : PE X a (tE k W fa)) (hb : PE X b (tE k W fb)) (hc : PE X c (tE k W fc)) (hm : lastMarks [op, op'] [b, c] = false) :
    PE X (.Compare a [op, op'] [b, c] pos) (tE k W (chE fa fb fc op op')) := by
  refine PE.imp (pe_chain (op_cmpD hK hu op) (op_cmpD hK hu op') ha hb hc hm) fun σ H Q p => ?_
  obtain ⟨F, h, env, sr, p⟩ := p
  refine ⟨F, h, env, sr, p.bind.imp (fun d F' h' H' st rl q v dv => ⟨F', h', env, sr.step st rl, q.bind.imp (fun e F2 h2 H2 st2 rl2 q2 w dw => ⟨fun _ _ _ => False, F2, h2, d, e, rl2, DV.mono st2 _ _ dv, dw, Post.bl q2.bind fun t F3 h3 H3 st3 r3 q3 z dz => ?_⟩) fun _ _ _ x => x⟩) fun _ _ _ x => x⟩
  cases dz.blV
  refine ⟨t, rfl, ?_⟩
  cases t with
  | true => exact ⟨F3, h3, env, ((sr.step st rl).step st2 rl2).step st3 r3, q3.bind.imp (fun g F4 h4 H4 st4 rl4 q4 u du => ⟨_, F4, h4, e, g, rl4, DV.mono (st3.trans st4) _ _ dw, du, q4⟩) fun _ _ _ x => x⟩
  | false => exact Post.here (d := .bl false) q3 r3 DV.mkBl
theorem mt_chain {op op' : CmpOp} (hK : X.K = k.K) (hu : X.A.units + 64 < cLine) (ha : PE X a (tE k W fa)) (hb : PE X b (tE k W fb)) (hc : PE X c (tE k W fc)) (hm : lastMarks [op, op'] [b, c] = false) :
    PT X (.Compare a [op, op'] [b, c] pos) (tT k W (tst (chE fa fb fc op op'))) := by
  refine PT.imp (pt_chain (op_cmpD hK hu op) (op_cmpD hK hu op') ha hb hc hm) fun σ H Q p => ?_
  obtain ⟨F, h, env, sr, p⟩ := p
  refine ⟨F, h, env, sr, p.bind.bind.imp (fun d F' h' H' st rl q v dv => ⟨F', h', env, sr.step st rl, q.bind.imp (fun e F2 h2 H2 st2 rl2 q2 w dw => ⟨fun _ _ _ => False, F2, h2, d, e, rl2, DV.mono st2 _ _ dv, dw, Post.bl q2.bind fun t F3 h3 H3 st3 r3 q3 z dz => ?_⟩) fun _ _ _ x => x⟩) fun _ _ _ x => x⟩
  cases dz.blV
  refine ⟨t, rfl, ?_⟩
  cases t with
  | true => exact ⟨F3, h3, env, ((sr.step st rl).step st2 rl2).step st3 r3, q3.bind.imp (fun g F4 h4 H4 st4 rl4 q4 u du => ⟨fun _ _ _ => False, F4, h4, e, g, rl4, DV.mono (st3.trans st4) _ _ dw, du, Post.bl q4 fun b F5 h5 H5 _ r5 z v dv => by cases dv.blV; exact ⟨b, rfl, tstBl r5 z⟩⟩) fun _ _ _ x => x⟩
  | false => exact ⟨false, rfl, tstBl r3 (Post.ok q3 r3)⟩
theorem me_chain3 {d : Expr} {fd : Ev} {o1 o2 o3 : CmpOp} (hK : X.K = k.K) (hu : X.A.units + 64 < cLine) (ha : PE X a (tE k W fa)) (hb : PE X b (tE k W fb)) (hc : PE X c (tE k W fc)) (hd : PE X d (tE k W fd)) (hm : lastMarks [o1, o2, o3] [b, c, d] = false) :
    PE X (.Compare a [o1, o2, o3] [b, c, d] pos) (tE k W (ch3E fa fb fc fd o1 o2 o3)) := by
  refine PE.imp (pe_chain3 (op_cmpD hK hu o1) (op_cmpD hK hu o2) (op_cmpD hK hu o3) ha hb hc hd hm) fun σ H Q p => ?_
  obtain ⟨F, h, env, sr, p⟩ := p
  refine ⟨F, h, env, sr, p.bind.imp (fun d F' h' H' st rl q v dv => ⟨F', h', env, sr.step st rl, q.bind.imp (fun e F2 h2 H2 st2 rl2 q2 w dw => ⟨fun _ _ _ => False, F2, h2, d, e, rl2, DV.mono st2 _ _ dv, dw, Post.bl q2.bind fun t F3 h3 H3 st3 r3 q3 z dz => ?_⟩) fun _ _ _ x => x⟩) fun _ _ _ x => x⟩
  cases dz.blV
  refine ⟨t, rfl, ?_⟩
  cases t with
  | false => exact Post.here (d := .bl false) q3 r3 DV.mkBl
  | true =>
    refine ⟨F3, h3, env, ((sr.step st rl).step st2 rl2).step st3 r3, q3.bind.imp (fun g F4 h4 H4 st4 rl4 q4 u du => ⟨fun _ _ _ => False, F4, h4, e, g, rl4, DV.mono (st3.trans st4) _ _ dw, du, Post.bl q4.bind fun t F5 h5 H5 st5 r5 q5 z dz => ?_⟩) fun _ _ _ x => x⟩
    cases dz.blV
    refine ⟨t, rfl, ?_⟩
    cases t with
    | false => exact Post.here (d := .bl false) q5 r5 DV.mkBl
    | true => exact ⟨F5, h5, env, ((((sr.step st rl).step st2 rl2).step st3 r3).step st4 rl4).step st5 r5, q5.bind.imp (fun g2 F6 h6 H6 st6 rl6 q6 u2 du2 => ⟨_, F6, h6, g, g2, rl6, DV.mono (st5.trans st6) _ _ du, du2, q6⟩) fun _ _ _ x => x⟩
theorem mt_chain3 {d : Expr} {fd : Ev} {o1 o2 o3 : CmpOp} (hK : X.K = k.K) (hu : X.A.units + 64 < cLine) (ha : PE X a (tE k W fa)) (hb : PE X b (tE k W fb)) (hc : PE X c (tE k W fc)) (hd : PE X d (tE k W fd)) (hm : lastMarks [o1, o2, o3] [b, c, d] = false) :
    PT X (.Compare a [o1, o2, o3] [b, c, d] pos) (tT k W (tst (ch3E fa fb fc fd o1 o2 o3))) := by
  refine PT.imp (pt_chain3 (op_cmpD hK hu o1) (op_cmpD hK hu o2) (op_cmpD hK hu o3) ha hb hc hd hm) fun σ H Q p => ?_
  obtain ⟨F, h, env, sr, p⟩ := p
  refine ⟨F, h, env, sr, p.bind.bind.imp (fun d F' h' H' st rl q v dv => ⟨F', h', env, sr.step st rl, q.bind.imp (fun e F2 h2 H2 st2 rl2 q2 w dw => ⟨fun _ _ _ => False, F2, h2, d, e, rl2, DV.mono st2 _ _ dv, dw, Post.bl q2.bind fun t F3 h3 H3 st3 r3 q3 z dz => ?_⟩) fun _ _ _ x => x⟩) fun _ _ _ x => x⟩
  cases dz.blV
  refine ⟨t, rfl, ?_⟩
  cases t with
  | false => exact ⟨false, rfl, tstBl r3 (Post.ok q3 r3)⟩
  | true =>
    refine ⟨F3, h3, env, ((sr.step st rl).step st2 rl2).step st3 r3, q3.bind.imp (fun g F4 h4 H4 st4 rl4 q4 u du => ⟨fun _ _ _ => False, F4, h4, e, g, rl4, DV.mono (st3.trans st4) _ _ dw, du, Post.bl q4.bind fun t F5 h5 H5 st5 r5 q5 z dz => ?_⟩) fun _ _ _ x => x⟩
    cases dz.blV
    refine ⟨t, rfl, ?_⟩
    cases t with
    | false => exact ⟨false, rfl, tstBl r5 (Post.ok q5 r5)⟩
    | true => exact ⟨F5, h5, env, ((((sr.step st rl).step st2 rl2).step st3 r3).step st4 rl4).step st5 r5, q5.bind.imp (fun g2 F6 h6 H6 st6 rl6 q6 u2 du2 => ⟨fun _ _ _ => False, F6, h6, g, g2, rl6, DV.mono (st5.trans st6) _ _ du, du2, Post.bl q6 fun b F7 h7 H7 _ r7 z v dv => by cases dv.blV; exact ⟨b, rfl, tstBl r7 z⟩⟩) fun _ _ _ x => x⟩
/-! arguments, displays -/
theorem ma_nil : PA X [] (tA k W aNil) := PA.imp pa_nil fun σ H Q p => by
  obtain ⟨F, h, env, sr, p⟩ := p
  exact Post.ok p sr.rel [] DVs.nil
theorem ma_cons {es : List Expr} {fr : Av} (ha : PE X a (tE k W fa)) (hr : PA X es (tA k W fr)) (hs : starEach (a :: es) X.env = (false, eval a X.env) :: starEach es X.env) : PA X (a :: es) (tA k W (aCons fa fr)) := by
  refine PA.imp (pa_cons ha hr hs) fun σ H Q p => ?_
  obtain ⟨F, h, env, sr, p⟩ := p
  exact ⟨F, h, env, sr, p.bind.imp (fun d F' h' H' st rl q v dv => ⟨F', h', env, sr.step st rl, q.bind.imp (fun ds F2 h2 H2 st2 rl2 q2 vs dvs => Post.ok q2 rl2 (v :: vs) (DVs.cons (DV.mono st2 _ _ dv) dvs)) fun _ _ _ x => x⟩) fun _ _ _ x => x⟩
theorem me_tup {es : List Expr} {fr : Av} {x1 : Nat} (h : PA X es (tA k W fr)) : PE X (.Tuple es x1 pos) (tE k W (tupE fr)) := by
  refine PE.imp (pe_tup h) fun σ H Q p => ?_
  obtain ⟨F, h, env, sr, p⟩ := p
  refine ⟨F, h, env, sr, p.bind.imp (fun ds F' h' H' st rl q vs dvs => ?_) fun _ _ _ x => x⟩
  obtain ⟨hz, q⟩ := q.cond
  exact ⟨by rw [← dvs.len]; exact le_lim hz, fun c hc => Post.tup q rl dvs hc⟩
theorem me_lst {es : List Expr} {fr : Av} (h : PA X es (tA k W fr)) : PE X (.List es pos) (tE k W (lstE fr)) := by
  refine PE.imp (pe_lst h) fun σ H Q p => ?_
  obtain ⟨F, h, env, sr, p⟩ := p
  refine ⟨F, h, env, sr, p.bind.imp (fun ds F' h' H' st rl q vs dvs => ?_) fun _ _ _ x => x⟩
  obtain ⟨hz, q⟩ := q.cond
  exact ⟨by rw [← dvs.len]; exact le_lim hz, fun c hc => Post.lst q rl dvs hc⟩
/-! subscripts -/
theorem me_ix (hK : X.K = k.K) (hu : X.A.units + 1 < cLine) (ha : PE X a (tE k W fa)) (hb : PE X b (tE k W fb)) (hs : PlainIx b) : PE X (.Subscript a b pos) (tE k W (bE fa fb ixOp)) := by
  refine PE.imp (pe_ix (ix_D hK hu) ha hb hs) fun σ H Q p => ?_
  obtain ⟨F, h, env, sr, p⟩ := p
  exact ⟨F, h, env, sr, p.bind.imp (fun d F' h' H' st rl q v dv => ⟨F', h', env, sr.step st rl, q.bind.imp (fun e F2 h2 H2 st2 rl2 q2 w dw => ⟨_, F2, h2, d, e, rl2, DV.mono st2 _ _ dv, dw, q2⟩) fun _ _ _ x => x⟩) fun _ _ _ x => x⟩
/-- a slice's bound -/
def tO (k : Kx) (W : WX) (f : Env → Hs → Res (Option Int)) : TO := fun σ H Q => ∃ F h env, SR k F H h σ env ∧ Post k F H (fun o _ _ H' => Q o H') (fun c d H' => W c d σ H') (f env h)
theorem PO.imp {e : Option Expr} {t t' : TO} (p : PO X e t) (h : ∀ σ H Q, t' σ H Q → t σ H Q) : PO X e t' := ⟨fun pins s σ H Q I q => p.run pins s σ H Q I (h σ H Q q)⟩
theorem mo_none : PO X none (tO k W (ptE none)) := PO.imp po_none fun σ H Q p => by
  obtain ⟨F, h, env, sr, p⟩ := p
  exact Post.ok (P := fun o _ _ H' => Q o H') p sr.rel
theorem mo_some (ha : PE X a (tE k W fa)) : PO X (some a) (tO k W (ptE (some fa))) := PO.imp (po_some ha) fun σ H Q p => by
  obtain ⟨F, h, env, sr, p⟩ := p
  refine ⟨F, h, env, sr, p.bind.imp (fun d F' h' H' st rl q v dv => ?_) fun _ _ _ x => x⟩
  cases d with
  | int i => cases dv.intV; exact ⟨i, rfl, q F' H' .refl rl⟩
  | _ => exact q.elim
theorem me_sl {lo hi : Option Expr} {fl fh : Option Ev} {p2 : Pos} (hK : X.K = k.K) (ha : PE X a (tE k W fa)) (hl : PO X lo (tO k W (ptE fl))) (hh : PO X hi (tO k W (ptE fh))) : PE X (.Subscript a (.Slice lo hi none p2) pos) (tE k W (slE fa fl fh)) := by
  refine PE.imp (pe_slice (sl_D hK) ha hl hh) fun σ H Q p => ?_
  obtain ⟨F, h, env, sr, p⟩ := p
  exact ⟨F, h, env, sr, p.bind.imp (fun d F' h' H' st rl q v dv => ⟨F', h', env, sr.step st rl, q.bind.imp (fun l F2 h2 H2 st2 rl2 q2 => ⟨F2, h2, env, (sr.step st rl).step st2 rl2, q2.bind.imp (fun u F3 h3 H3 st3 rl3 q3 => ⟨_, F3, h3, d, rl3, DV.mono (st2.trans st3) _ _ dv, q3⟩) fun _ _ _ x => x⟩) fun _ _ _ x => x⟩) fun _ _ _ x => x⟩
/-! calls of what is built in -/
variable {x : Str} {p1 : Pos} {es : List Expr} {fr : Av} {g : BF}
theorem cE_imp {σ H Q} (p : tE k W (cE fr g) σ H Q) : tCB (rC k g) (tA k W fr) σ H Q := by
  obtain ⟨F, h, env, sr, p⟩ := p
  exact ⟨F, h, env, sr, p.bind.imp (fun ds F' h' H' st rl q vs dvs => ⟨_, F', h', ds, rl, dvs, q⟩) fun _ _ _ x => x⟩
theorem me_callB {id : String} (hc : CallR X (.builtin id) (rC k g)) (hg : Gl X x) (hm : X.mg x = none) (hv : bootBuiltins x = some (.builtin id)) (ha : PA X (a :: es) (tA k W fr)) (hn : x ≠ "__name__") (hdb : (x == ("__debug__" : Str)) = false)
    (he : starEach (a :: es) X.env = (false, eval a X.env) :: starEach es X.env) (hpl : (backTo pos (starEach es X.env)).any (·.1) = false) : PE X (.Call (.Name x p1) (a :: es) [] pos) (tE k W (cE fr g)) :=
  PE.imp (pe_callB hc hg hm hv ha hn hdb he hpl) fun σ H Q p => cE_imp p
theorem me_callTy {T : String} (hc : CallR X (.type T) (rC k g)) (hg : Gl X x) (hm : X.mg x = none) (hv : bootBuiltins x = some (.type T)) (ha : PA X (a :: es) (tA k W fr)) (hn : x ≠ "__name__") (hdb : (x == ("__debug__" : Str)) = false)
    (he : starEach (a :: es) X.env = (false, eval a X.env) :: starEach es X.env) (hpl : (backTo pos (starEach es X.env)).any (·.1) = false) : PE X (.Call (.Name x p1) (a :: es) [] pos) (tE k W (cE fr g)) :=
  PE.imp (pe_callTy hc hg hm hv ha hn hdb he hpl) fun σ H Q p => cE_imp p
theorem me_isi {T : String} {x2 : Str} {p2 : Pos} (hK : X.K = k.K) (hg : Gl X "isinstance") (hm : X.mg "isinstance" = none) (ha : PE X a (tE k W fa)) (hs : starEach [a, .Name x2 p2] X.env = (false, eval a X.env) :: starEach [.Name x2 p2] X.env)
    (hg2 : Gl X x2) (hm2 : X.mg x2 = none) (hv2 : bootBuiltins x2 = some (.type T)) (hn2 : x2 ≠ "__name__") (hd2 : (x2 == ("__debug__" : Str)) = false) : PE X (.Call (.Name "isinstance" p1) [a, .Name x2 p2] [] pos) (tE k W (isiE fa T)) := by
  have hb : PE X (.Name x2 p2) (tC (.ty T)) := pe_bltn (v := .ty T) hg2 hm2 hv2 rfl hn2 hd2
  refine PE.imp (pe_callB call_isi hg hm (by decide +kernel) (pa_cons ha (pa_cons hb pa_nil (by rfl)) hs) (by decide) (by decide) hs (by rfl)) fun σ H Q p => ?_
  obtain ⟨F, h, env, sr, p⟩ := p
  refine ⟨F, h, env, sr, p.bind.imp (fun d F' h' H' st rl q v dv => ?_) fun _ _ _ x => x⟩
  obtain ⟨b, e, q⟩ := Post.ofBl q rl
  unfold isiT at e
  cases e2 : tyD h' d with
  | none => rw [e2] at e; cases e
  | some t =>
    rw [e2] at e
    exact ⟨v, .ty T, .type t, .type T, b, rfl, .ty T, by rw [hK]; exact tyD_ok rl dv e2, kit_ty e, q⟩
/-! methods of what is built in -/
/-- the rule of a method by data -/
def MtD (X : Cx) (k : Kx) (T id : String) (m : MF) : Prop := (∀ F H h d v, RelH k F H h → DV k.K F H d v → m.ty h d = true → tyV X.K T v H) ∧
  MtR X id (fun x vs H Q => ∃ (W0 : Value → Option Addr → Hp → Prop) (F : List Addr) (h : Hs) (d : D) (ds : List D), RelH k F H h ∧ DV k.K F H d x ∧ DVs k.K F H ds vs ∧ Post k F H (PV k Q) W0 (m.go h d ds))
theorem me_bm {name : Str} {apos : Pos} {T id : String} {m : MF} (pa : PlainAttrs T) (slot : Slot T name id) (hty : typeOf (.builtin id) = pure (.type "method_descriptor")) (hm : MtD X k T id m) (ho : PE X a (tE k W fa)) (ha : PA X (b :: es) (tA k W fr))
    (hbase : attributeBase a name X.env (eval a X.env) = eval a X.env)
    (hfew : ((backTo pos (starEach (b :: es) X.env)).all (fun x => !x.1) && (backToKw pos (keywordEach [] X.env)).all (fun x => x.1.isSome)
      && decide ((b :: es).length + ([] : List Keyword).length + (if ([] : List Keyword).isEmpty then 0 else 1) < 30)) = true)
    (hline : (apos.endLine == pos.line) = true) (hs : starEach (b :: es) X.env = (false, eval b X.env) :: starEach es X.env) (hplain : (backTo pos (starEach es X.env)).any (·.1) = false) :
    PE X (.Call (.Attribute a name apos) (b :: es) [] pos) (tE k W (mE fa fr m)) := by
  refine PE.imp (pe_bm pa slot hty hm.2 ho ha hbase hfew hline hs hplain) fun σ H Q p => ?_
  obtain ⟨F, h, env, sr, p⟩ := p
  refine ⟨F, h, env, sr, p.bind.imp (fun d F' h' H' st rl q v dv => ?_) fun _ _ _ x => x⟩
  cases e : m.ty h' d with
  | false => rw [e] at q; exact q.elim
  | true =>
    rw [e] at q
    exact ⟨hm.1 F' H' h' d v rl dv e, F', h', env, sr.step st rl, Post.imp (Post.bind (r := fr env h') q) (fun ds F2 h2 H2 st2 rl2 q2 vs dvs => ⟨_, F2, h2, d, ds, rl2, DV.mono st2 _ _ dv, dvs, q2⟩) fun _ _ _ x => x⟩
theorem me_bm0 {name : Str} {apos : Pos} {T id : String} {m : MF} (pa : PlainAttrs T) (slot : Slot T name id) (hty : typeOf (.builtin id) = pure (.type "method_descriptor")) (hm : MtD X k T id m) (ho : PE X a (tE k W fa))
    (hbase : attributeBase a name X.env (eval a X.env) = eval a X.env) (hline : (apos.endLine == pos.line) = true) :
    PE X (.Call (.Attribute a name apos) [] [] pos) (tE k W (mE fa aNil m)) := by
  refine PE.imp (pe_bm0 pa slot hty hm.2 ho hbase hline) fun σ H Q p => ?_
  obtain ⟨F, h, env, sr, p⟩ := p
  refine ⟨F, h, env, sr, p.bind.imp (fun d F' h' H' st rl q v dv => ?_) fun _ _ _ x => x⟩
  cases e : m.ty h' d with
  | false => rw [e] at q; exact q.elim
  | true =>
    rw [e] at q
    exact ⟨hm.1 F' H' h' d v rl dv e, _, F', h', d, [], rl, dv, DVs.nil, q⟩
end
/-! M5: a def's call, what of the heap is given back, statements. -/
open PySem PySem.Spec PyProof.Rows L2

/-! ### what of the heap is given back behind a call -/
mutual
/-- references renamed -/
def ren (g : Nat → Nat) : D → D
  | .tup xs => .tup (rens g xs)
  | .ls xs => .ls (rens g xs)
  | .ref n => .ref (g n)
  | .non => .non
  | .bl b => .bl b
  | .int i => .int i
  | .str x => .str x
def rens (g : Nat → Nat) : List D → List D
  | [] => []
  | d :: ds => ren g d :: rens g ds
end
mutual
/-- no reference from n on -/
def clo (n : Nat) : D → Prop
  | .tup xs => clos n xs
  | .ls xs => clos n xs
  | .ref m => m < n
  | _ => True
def clos (n : Nat) : List D → Prop
  | [] => True
  | d :: ds => clo n d ∧ clos n ds
end
def renC (g : Nat → Nat) : Cell → Cell
  | .lst xs => .lst (rens g xs)
  | .dic t lk kvs => .dic t lk (kvs.map fun p => (p.1, ren g p.2))
  | .ins c fs => .ins c (fs.map fun p => (p.1, ren g p.2))
def cloC (n : Nat) : Cell → Prop
  | .lst xs => clos n xs
  | .dic _ _ kvs => ∀ p ∈ kvs, clo n p.2
  | .ins _ fs => ∀ p ∈ fs, clo n p.2
section
variable {K : PySem.W.Frag} {F' F2 : List Addr} {H : Hp} {g : Nat → Nat} {n : Nat}
mutual
theorem ren_dv (hf : ∀ m, m < n → F2[m]? = F'[g m]?) : ∀ (d : D) (v : V), clo n d → DV K F' H (ren g d) v → DV K F2 H d v
  | .non, v, _, h => by unfold ren DV at h; unfold DV; exact h
  | .bl b, v, _, h => by unfold ren DV at h; unfold DV; exact h
  | .int i, v, _, h => by unfold ren DV at h; unfold DV; exact h
  | .str x, v, _, h => by unfold ren DV at h; unfold DV; exact h
  | .tup xs, v, c, h => by
    unfold ren DV at h
    obtain ⟨a, vs, e, q, r⟩ := h
    unfold clo at c
    unfold DV
    exact ⟨a, vs, e, q, rens_dv hf xs vs c r⟩
  | .ls xs, v, c, h => by
    unfold ren DV at h
    obtain ⟨a, vs, e, q, r⟩ := h
    unfold clo at c
    unfold DV
    exact ⟨a, vs, e, q, rens_dv hf xs vs c r⟩
  | .ref m, v, c, h => by
    unfold ren DV at h
    obtain ⟨a, e, q⟩ := h
    unfold clo at c
    unfold DV
    exact ⟨a, e, by rw [hf m c]; exact q⟩
theorem rens_dv (hf : ∀ m, m < n → F2[m]? = F'[g m]?) : ∀ (ds : List D) (vs : List V), clos n ds → DVs K F' H (rens g ds) vs → DVs K F2 H ds vs
  | [], vs, _, h => by unfold rens DVs at h; unfold DVs; exact h
  | d :: ds, vs, c, h => by
    unfold rens DVs at h
    obtain ⟨v, r, e, h1, h2⟩ := h
    unfold clos at c
    rw [e]
    exact DVs.cons (ren_dv hf d v c.1 h1) (rens_dv hf ds r c.2 h2)
end
theorem renF_dv (hf : ∀ m, m < n → F2[m]? = F'[g m]?) : ∀ (fs : List (Str × D)) (vs : List (Str × V)), (∀ p ∈ fs, clo n p.2) → DFs K F' H (fs.map fun p => (p.1, ren g p.2)) vs → DFs K F2 H fs vs
  | [], vs, _, h => h
  | (x, d) :: ds, vs, c, h => by
    obtain ⟨v, r, e, h1, h2⟩ := h
    exact ⟨v, r, e, ren_dv hf d v (c (x, d) List.mem_cons_self) h1, renF_dv hf ds r (fun p hp => c p (List.mem_cons_of_mem _ hp)) h2⟩
theorem Paired.mapL {α β γ : Type} {R : β → γ → Prop} {f : α → β} : ∀ {l : List α} {m : List γ}, Paired R (l.map f) m → Paired (fun a c => R (f a) c) l m
  | [], _, h => by cases h; exact .nil
  | a :: l, _, h => by
    cases h with
    | cons r t => exact .cons r (Paired.mapL t)
theorem Paired.memL {β γ : Type} {R R' : β → γ → Prop} : ∀ {l : List β} {m : List γ}, Paired R l m → (∀ a ∈ l, ∀ c, R a c → R' a c) → Paired R' l m
  | _, _, .nil, _ => .nil
  | _, _, .cons r t, f => .cons (f _ List.mem_cons_self _ r) (Paired.memL t fun a ha => f a (List.mem_cons_of_mem _ ha))
theorem renC_ok {k : Kx} (hf : ∀ m, m < n → F2[m]? = F'[g m]?) {a : Addr} : ∀ {c : Cell}, cloC n c → CellR k F' H a (renC g c) → CellR k F2 H a c
  | .lst xs, c, ⟨vs, e, d⟩ => ⟨vs, e, rens_dv hf xs vs c d⟩
  | .dic t lk kvs, c, ⟨o, d, e⟩ => by
    refine ⟨o, ?_, e⟩
    cases t with
    | false => obtain ⟨l, eo, p⟩ := d; exact ⟨l, eo, Paired.memL (Paired.mapL p) fun p hp q z => ⟨z.1, z.2.1, ren_dv hf _ _ (c p hp) z.2.2⟩⟩
    | true => obtain ⟨l, eo, p⟩ := d; exact ⟨l, eo, Paired.memL (Paired.mapL p) fun p hp q z => ⟨z.1, z.2.1, ren_dv hf _ _ (c p hp) z.2.2⟩⟩
  | .ins c fs, cl, ⟨C, dx, vs, m, e, d⟩ => ⟨C, dx, vs, m, e, renF_dv hf fs vs cl d⟩
end
mutual
theorem ren_id : ∀ d : D, ren (fun m => m) d = d
  | .tup xs => by unfold ren; rw [rens_id xs]
  | .ls xs => by unfold ren; rw [rens_id xs]
  | .ref n => rfl
  | .non => rfl
  | .bl b => rfl
  | .int i => rfl
  | .str x => rfl
theorem rens_id : ∀ d : List D, rens (fun m => m) d = d
  | [] => rfl
  | d :: ds => by unfold rens; rw [ren_id d, rens_id ds]
end
theorem renC_id (c : Cell) : renC (fun m => m) c = c := by
  cases c with
  | lst xs => show Cell.lst _ = _; rw [rens_id]
  | dic t lk kvs => show Cell.dic t lk _ = _; simp [ren_id]
  | ins c fs => show Cell.ins c _ = _; simp [ren_id]
mutual
theorem ren_clo {n : Nat} {g : Nat → Nat} (hg : ∀ i, i < n → g i = i) : ∀ d : D, clo n d → ren g d = d
  | .tup xs, c => by unfold clo at c; unfold ren; rw [rens_clo hg xs c]
  | .ls xs, c => by unfold clo at c; unfold ren; rw [rens_clo hg xs c]
  | .ref n, c => by unfold clo at c; unfold ren; rw [hg _ c]
  | .non, _ => rfl
  | .bl b, _ => rfl
  | .int i, _ => rfl
  | .str x, _ => rfl
theorem rens_clo {n : Nat} {g : Nat → Nat} (hg : ∀ i, i < n → g i = i) : ∀ d : List D, clos n d → rens g d = d
  | [], _ => rfl
  | d :: ds, c => by unfold clos at c; unfold rens; rw [ren_clo hg d c.1, rens_clo hg ds c.2]
end
section
variable {K : PySem.W.Frag} {F : List Addr} {H : Hp}
mutual
/-- what is told of a heap has no reference out of it -/
theorem DV.clo : ∀ (d : D) (v : V), DV K F H d v → clo F.length d
  | .tup xs, v, h => by
    unfold DV at h
    obtain ⟨a, vs, _, _, r⟩ := h
    unfold M.clo
    exact DVs.clo xs vs r
  | .ls xs, v, h => by
    unfold DV at h
    obtain ⟨a, vs, _, _, r⟩ := h
    unfold M.clo
    exact DVs.clo xs vs r
  | .ref n, v, h => by
    unfold DV at h
    obtain ⟨a, _, q⟩ := h
    unfold M.clo
    exact (List.getElem?_eq_some_iff.mp q).1
  | .non, _, _ => by unfold M.clo; trivial
  | .bl b, _, _ => by unfold M.clo; trivial
  | .int i, _, _ => by unfold M.clo; trivial
  | .str x, _, _ => by unfold M.clo; trivial
theorem DVs.clo : ∀ (ds : List D) (vs : List V), DVs K F H ds vs → clos F.length ds
  | [], _, _ => by unfold clos; trivial
  | d :: ds, vs, h => by
    unfold DVs at h
    obtain ⟨v, r, _, h1, h2⟩ := h
    unfold clos
    exact ⟨DV.clo d v h1, DVs.clo ds r h2⟩
end
theorem DFs.clo : ∀ (ds : List (Str × D)) (vs : List (Str × V)), DFs K F H ds vs → ∀ p ∈ ds, clo F.length p.2
  | [], _, _, _, m => nomatch m
  | (x, d) :: ds, vs, h, p, m => by
    obtain ⟨v, r, _, h1, h2⟩ := h
    rcases List.mem_cons.mp m with z | z
    · rw [z]; exact DV.clo d v h1
    · exact DFs.clo ds r h2 p z
theorem Paired.allL {β γ : Type} {R : β → γ → Prop} {P : β → Prop} : ∀ {l : List β} {m : List γ}, Paired R l m → (∀ a c, R a c → P a) → ∀ a ∈ l, P a
  | _, _, .nil, _, _, m => nomatch m
  | _, _, .cons r t, f, a, m => by
    rcases List.mem_cons.mp m with z | z
    · rw [z]; exact f _ _ r
    · exact Paired.allL t f a z
theorem CellR.clo {k : Kx} {F : List Addr} {H : Hp} {a : Addr} : ∀ {c : Cell}, CellR k F H a c → cloC F.length c
  | .lst xs, ⟨vs, _, d⟩ => DVs.clo xs vs d
  | .dic t lk kvs, ⟨o, d, _⟩ => by
    cases t with
    | false => obtain ⟨l, _, p⟩ := d; exact Paired.allL p fun a c z => DV.clo _ _ z.2.2
    | true => obtain ⟨l, _, p⟩ := d; exact Paired.allL p fun a c z => DV.clo _ _ z.2.2
  | .ins c fs, ⟨C, dx, vs, _, _, d⟩ => DFs.clo fs vs d
end
/-- the heap h2 stands in h1 by g; h was there ahead of the call -/
structure Emb (h h1 h2 : Hs) (g : Nat → Nat) : Prop where
  old : ∀ i, i < h.length → g i = i
  le : h.length ≤ h2.length
  inj : ∀ i j, i < h2.length → j < h2.length → g i = g j → i = j
  cell : ∀ (i : Nat) (c : Cell), h2[i]? = some c → h1[g i]? = some (renC g c) ∧ cloC h2.length c ∨ h1[g i]? = some c ∧ h[i]? = some c
inductive Gc (h : Hs) : Res D → Res D → Prop
  | keep (r : Res D) : Gc h r r
  | bad (r : Res D) : Gc h r .bad
  | ok {d : D} {h1 h2 : Hs} {g : Nat → Nat} (e : Emb h h1 h2 g) (c : clo h2.length d) : Gc h (.ok (ren g d) h1) (.ok d h2)
  | exc {x : Ex} {h1 h2 : Hs} {g : Nat → Nat} (e : Emb h h1 h2 g) : Gc h (.exc x h1) (.exc x h2)
theorem Emb.rel {k : Kx} {F F' : List Addr} {H H' : Hp} {h h1 h2 : Hs} {g : Nat → Nat} (e : Emb h h1 h2 g) (r0 : RelH k F H h) (st : Step k.K F H F' H') (r : RelH k F' H' h1) :
    ∃ F2, Step k.K F H F2 H' ∧ RelH k F2 H' h2 ∧ (∀ m, m < h2.length → F2[m]? = F'[g m]?) ∧ ∀ a, a ∈ F2 → a ∈ F' := by
  have gl : ∀ i, i < h2.length → g i < F'.length := fun i hi => by
    have q : ∃ c, h1[g i]? = some c := by
      rcases e.cell i h2[i] (List.getElem?_eq_getElem hi) with z | z
      · exact ⟨_, z.1⟩
      · exact ⟨_, z.1⟩
    obtain ⟨c, q⟩ := q
    rw [r.len]
    exact (List.getElem?_eq_some_iff.mp q).1
  let F2 := (List.range h2.length).map fun i => F'.getD (g i) 0
  have f2 : ∀ m, m < h2.length → F2[m]? = F'[g m]? := fun m hm => by
    show ((List.range h2.length).map fun i => F'.getD (g i) 0)[m]? = _
    rw [List.getElem?_map, List.getElem?_range hm, List.getElem?_eq_getElem (gl m hm)]
    show some (F'.getD (g m) 0) = _
    rw [List.getD_eq_getElem?_getD, List.getElem?_eq_getElem (gl m hm)]
    rfl
  have len2 : F2.length = h2.length := by
    show ((List.range h2.length).map _).length = _
    simp
  have mem2 : ∀ a, a ∈ F2 → a ∈ F' := fun a ha => by
    obtain ⟨i, hi, ei⟩ := List.mem_iff_getElem.mp ha
    have hi' : i < h2.length := by rw [← len2]; exact hi
    have z := f2 i hi'
    rw [List.getElem?_eq_getElem hi, ei] at z
    exact List.mem_of_getElem? z.symm
  have pre : F2.take F.length = F := by
    obtain ⟨G, eG⟩ := st.pre
    apply List.ext_getElem?
    intro i
    by_cases hi : i < F.length
    · have hi0 : i < h.length := by rw [← r0.len]; exact hi
      rw [List.getElem?_take_of_lt hi, f2 i (Nat.lt_of_lt_of_le hi0 e.le), e.old i hi0, eG, List.getElem?_append_left hi]
    · rw [List.getElem?_eq_none (by rw [List.length_take]; omega), List.getElem?_eq_none (by omega)]
  have stp : Step k.K F H F2 H' := by
    refine ⟨⟨F2.drop F.length, ?_⟩, st.old, fun a h1 h2 => st.new a (mem2 a h1) h2, st.tup, st.lsr⟩
    conv => lhs; rw [← List.take_append_drop F.length F2]
    rw [pre]
  refine ⟨F2, stp, ⟨len2, ?_, fun i c a e1 e2 => ?_⟩, f2, mem2⟩
  · refine List.pairwise_iff_getElem.mpr fun i j hi hj hij q => ?_
    have hi' : i < h2.length := by rw [← len2]; exact hi
    have hj' : j < h2.length := by rw [← len2]; exact hj
    have z1 := f2 i hi'
    have z2 := f2 j hj'
    rw [List.getElem?_eq_getElem hi, List.getElem?_eq_getElem (gl i hi')] at z1
    rw [List.getElem?_eq_getElem hj, List.getElem?_eq_getElem (gl j hj')] at z2
    have z := (List.getElem_inj r.nd).mp ((Option.some.inj z1).symm.trans (q.trans (Option.some.inj z2)))
    have := e.inj i j hi' hj' z
    omega
  · have hi : i < h2.length := (List.getElem?_eq_some_iff.mp e1).1
    rw [f2 i hi] at e2
    rcases e.cell i c e1 with ⟨z, cl⟩ | ⟨z, z0⟩
    · exact renC_ok f2 cl (r.cell (g i) _ a z e2)
    · -- an old cell, as it was
      have hi0 : i < h.length := (List.getElem?_eq_some_iff.mp z0).1
      have hF : F[i]? = some a := by
        rw [e.old i hi0] at e2
        obtain ⟨G, eG⟩ := st.pre
        rw [eG, List.getElem?_append_left (by rw [r0.len]; exact hi0)] at e2
        exact e2
      have c0 := r0.cell i c a z0 hF
      have c1 := r.cell (g i) c a z e2
      have cl := c0.clo
      rw [r0.len] at cl
      exact renC_ok (F' := F') (g := fun m => m) (n := h.length) (fun m hm => by rw [f2 m (Nat.lt_of_lt_of_le hm e.le), e.old m hm]) cl (by rw [renC_id]; exact c1)
theorem Gc.post {k : Kx} {F : List Addr} {H : Hp} {h : Hs} {r r' : Res D} {Q : VK} {W : Value → Option Addr → Hp → Prop} (gc : Gc h r r') (r0 : RelH k F H h) (p : Post k F H (PV k Q) W r') : Post k F H (PV k Q) W r := by
  cases gc with
  | keep => exact p
  | bad => exact p.elim
  | ok e c =>
    intro F' H' st rl v dv
    obtain ⟨F2, st2, rl2, f2, _⟩ := e.rel r0 st rl
    exact p F2 H' st2 rl2 v (ren_dv f2 _ v c dv)
  | exc e =>
    intro F' H' cls dx st rl x
    obtain ⟨F2, st2, rl2, f2, m2⟩ := e.rel r0 st rl
    obtain ⟨C, dd, vs, a1, a2, a3, a4, a5, a6⟩ := x
    exact p F2 H' cls dx st2 rl2 ⟨C, dd, vs, a1, a2, a3, a4, fun m => a5 (m2 _ m), a6⟩
/-- nothing new is handed out: all that was made goes -/
theorem Gc.pure {h : Hs} {d : D} {j : Hs} (c : clo h.length d) : Gc h (.ok d (h ++ j)) (.ok d h) := by
  have e : Emb h (h ++ j) h (fun m => m) := ⟨fun _ _ => rfl, Nat.le_refl _, fun _ _ _ _ q => q, fun i c q => .inr ⟨by rw [List.getElem?_append_left (List.getElem?_eq_some_iff.mp q).1]; exact q, q⟩⟩
  have z := Gc.ok (d := d) e c
  rwa [ren_id] at z
theorem Gc.pureX {h : Hs} {x : Ex} {j : Hs} : Gc h (.exc x (h ++ j)) (.exc x h) :=
  .exc (g := fun m => m) ⟨fun _ _ => rfl, Nat.le_refl _, fun _ _ _ _ q => q, fun i c q => .inr ⟨by rw [List.getElem?_append_left (List.getElem?_eq_some_iff.mp q).1]; exact q, q⟩⟩
/-- a new list is handed out, of closed data -/
theorem Gc.list {h : Hs} {xs : List D} {j : Hs} {n : Nat} (hn : (h ++ j)[n]? = some (.lst xs)) (hl : h.length ≤ n) (c : clos (h.length + 1) xs) (hx : ∀ m, m ≠ h.length → m < h.length + 1 → True) (cx : clos h.length xs) :
    Gc h (.ok (.ref n) (h ++ j)) (.ok (.ref h.length) (h ++ [.lst xs])) := by
  let g : Nat → Nat := fun m => if m = h.length then n else m
  have g0 : ∀ i, i < h.length → g i = i := fun i hi => if_neg (by omega)
  have gn : g h.length = n := if_pos rfl
  have e : Emb h (h ++ j) (h ++ [.lst xs]) g := by
    refine ⟨g0, by simp, fun a b ha hb q => ?_, fun i c' q => ?_⟩
    · rw [List.length_append, List.length_singleton] at ha hb
      by_cases h1 : a = h.length
      · by_cases h2 : b = h.length
        · omega
        · rw [h1, gn, g0 b (by omega)] at q; omega
      · by_cases h2 : b = h.length
        · rw [h2, gn, g0 a (by omega)] at q; omega
        · rw [g0 a (by omega), g0 b (by omega)] at q; exact q
    · by_cases hi : i < h.length
      · rw [List.getElem?_append_left hi] at q
        rw [g0 i hi]
        exact .inr ⟨by rw [List.getElem?_append_left hi]; exact q, q⟩
      · have hi2 : i = h.length := by
          have z := (List.getElem?_eq_some_iff.mp q).1
          rw [List.length_append, List.length_singleton] at z
          omega
        subst hi2
        rw [List.getElem?_append_right (Nat.le_refl _), Nat.sub_self] at q
        have q : c' = .lst xs := by simpa using q.symm
        subst q
        refine .inl ⟨?_, ?_⟩
        · rw [gn, hn]
          show some (Cell.lst xs) = some (Cell.lst (rens g xs))
          rw [rens_clo g0 xs cx]
        · rw [List.length_append, List.length_singleton]; exact c
  have z := Gc.ok (d := .ref h.length) e (by unfold clo; simp)
  have : ren g (.ref h.length) = .ref n := by unfold ren; rw [gn]
  rwa [this] at z
/-! M6: calls of defs, targets, statements, loops, comprehensions. -/
open PySem PySem.Spec PyProof.Rows L2

/-! ### calls of defs -/
/-- a def: how many parameters, what it does -/
structure Fn where
  n : Nat
  go : List D → Hs → Res D
def spOf (k : Kx) (f : Fn) : Sp := fun vs H Q E => vs.length = f.n ∧ ∃ F h ds, RelH k F H h ∧ DVs k.K F H ds vs ∧ XD k F H ∧ Post k F H (PV k Q) (fun c d H' => E c d H') (f.go ds h)
def fE (as : Av) (f : Fn) : Ev := fun env h => (as env h).bind fun xs h1 => if xs.length = f.n then f.go xs h1 else .bad
section
variable {X : Cx} {k : Kx} {W : WX} {pos p1 : Pos} {x : Str} {a : Expr} {es : List Expr} {fr : Av} {f : Fn} {j : Nat} {ad : Addr} {fd : FuncData} {ps : List Str}
theorem fE_imp {σ H Q} (p : tE k W (fE fr f) σ H Q) : tCallS (spOf k f) (WE W) (tA k W fr) σ H Q := by
  obtain ⟨F, h, env, sr, p⟩ := p
  refine ⟨F, h, env, sr, p.bind.imp (fun ds F' h' H' st rl q vs dvs => ?_) fun _ _ _ x => x⟩
  obtain ⟨hn, q⟩ := q.cond
  exact ⟨by rw [← dvs.len]; exact hn, F', h', ds, rl, dvs, (sr.step st rl).xd, q⟩
theorem me_fn (F : FnOk X.prog X.w X.K X.mg X.base (L2N.CX X.prog X.w) j ad fd ps (spOf k f)) (hr : Room j X.A) (hg : Gl X x) (hm : X.mg x = some (.ref ad)) (hk : PySem.W.keepIn X.K (.ref ad) = true) (hb : Binds X.K fd ps []) (tk : L2N.Takes X W)
    (ha : PA X (a :: es) (tA k W fr)) (hdb : (x == ("__debug__" : Str)) = false) (he : starEach (a :: es) X.env = (false, eval a X.env) :: starEach es X.env) (hpl : (backTo pos (starEach es X.env)).any (·.1) = false) :
    PE X (.Call (.Name x p1) (a :: es) [] pos) (tE k W (fE fr f)) :=
  PE.imp (pe_callS F hr hg hm hk hb (L2N.passAt tk) ha hdb he hpl) fun σ H Q p => fE_imp p
end
/-! ### targets -/
inductive Tg where
  | nm (i : Nat) | tp (ts : List Tg)
mutual
def asgT : Tg → D → Env → Hs → Res Env
  | .nm i, d, env, h => .ok (env.set i (some d)) h
  | .tp ts, d, env, h => match seqH h d with
    | some xs => if xs.length = ts.length then asgTs ts xs env h else .bad
    | none => .bad
def asgTs : List Tg → List D → Env → Hs → Res Env
  | [], [], env, h => .ok env h
  | t :: ts, d :: ds, env, h => (asgT t d env h).bind fun env' h' => asgTs ts ds env' h'
  | _, _, _, _ => .bad
end
abbrev Gv := D → Env → Hs → Res Env
/-- o[i] = .., o a list -/
def setL (h : Hs) (o i d : D) : Option Hs := match o, i with
  | .ref n, .int j => match h[n]? with
    | some (.lst xs) => (ixN xs.length j).map fun m => h.set n (.lst (xs.set m d))
    | _ => none
  | _, _ => none
/-- o[i] = .. -/
def setOp (h : Hs) (o i d : D) : Option Hs := match dicAt h o with
  | some (n, t, kvs) => if kOk t i = true ∧ kvs.length < lim then some (h.set n (.dic t false (dput kvs i d))) else none
  | none => setL h o i d
def gS (o i : Ev) : Gv := fun d env h => (o env h).bind fun x h1 => (i env h1).bind fun y h2 => match setOp h2 x y d with
  | some h3 => .ok env h3
  | none => .bad
def tGs (k : Kx) (W : WX) (g : List D → Env → Hs → Res Env) : TGs := fun vs σ H Q => ∃ F h env ds, SR k F H h σ env ∧ DVs k.K F H ds vs ∧ Post k F H (PEnv k Q) (fun c d H' => W c d σ H') (g ds env h)
section
variable {X : Cx} {k : Kx} {W : WX} {pos : Pos}
theorem mg_name {i : Nat} {x : Str} (hN : X.N.Nodup) (hi : X.N[i]? = some x) (hx : Loc X.env.scope x) (hf : X.fn x = true ∨ X.env.scope.names.lookup x = some .local) : PG X (.Name x pos) (tG k W (asgT (.nm i))) :=
  PG.imp (pg_name hN hi hx hf) fun v σ H Q ⟨F, h, env, d, sr, dv, p⟩ => by
    unfold asgT at p
    exact Post.ok p sr.rel _ (sr.er.set i dv)
theorem PGs.imp {ts : List Expr} {t t' : TGs} (p : PGs X ts t) (h : ∀ vs σ H Q, t' vs σ H Q → t vs σ H Q) : PGs X ts t' := ⟨fun pins s σ H vs us Q I r q => p.run pins s σ H vs us Q I r (h vs σ H Q q)⟩
theorem mgs_nil : PGs X [] (tGs k W (asgTs [])) := PGs.imp pgs_nil fun vs σ H Q ⟨F, h, env, ds, sr, dv, p⟩ => by
  cases ds with
  | nil =>
    unfold DVs at dv
    unfold asgTs at p
    exact ⟨dv, Post.ok p sr.rel σ sr.er⟩
  | cons d ds => unfold asgTs at p; exact p.elim
/-- what is behind a stored name: the slots that the targets do not know stay -/
theorem mgs_cons {e : Expr} {es : List Expr} {t : Tg} {ts : List Tg} (h1 : PG X e (tG k (fun _ _ _ _ => False) (asgT t))) (h2 : PGs X es (tGs k (fun _ _ _ _ => False) (asgTs ts)))
    (hs : (assignEach (e :: es) X.env).map (·.2) = assign e X.env :: (assignEach es X.env).map (·.2)) : PGs X (e :: es) (tGs k (fun _ _ _ _ => False) (asgTs (t :: ts))) := by
  refine PGs.imp (pgs_cons h1 h2 hs) fun vs σ H Q ⟨F, h, env, ds, sr, dv, p⟩ => ?_
  cases ds with
  | nil => unfold asgTs at p; exact p.elim
  | cons d ds =>
    unfold DVs at dv
    obtain ⟨v, r, rfl, d1, d2⟩ := dv
    unfold asgTs at p
    exact ⟨v, r, rfl, F, h, env, d, sr, d1, p.bind.imp (fun env' F' h' H' st rl q σ' er => ⟨F', h', env', ds, ⟨rl, er, sr.xd.mono st⟩, DVs.mono st _ _ d2, q⟩) fun _ _ _ x => x⟩
theorem tGs.weak {ts : List Tg} {vs σ H Q} (p : tGs k W (asgTs ts) vs σ H Q) (n : ∀ ds env h e h', asgTs ts ds env h ≠ .exc e h') : tGs k (fun _ _ _ _ => False) (asgTs ts) vs σ H Q := by
  obtain ⟨F, h, env, ds, sr, dv, p⟩ := p
  refine ⟨F, h, env, ds, sr, dv, ?_⟩
  cases e : asgTs ts ds env h with
  | ok a h' => rw [e] at p; exact p
  | exc x h' => exact absurd e (n _ _ _ _ _)
  | bad => rw [e] at p; exact p
mutual
theorem asgT_ne : ∀ (t : Tg) (d : D) (env : Env) (h : Hs) (e : Ex) (h' : Hs), asgT t d env h ≠ .exc e h'
  | .nm i, d, env, h, e, h', z => by unfold asgT at z; cases z
  | .tp ts, d, env, h, e, h', z => by
    unfold asgT at z
    cases q : seqH h d with
    | none => rw [q] at z; cases z
    | some xs =>
      rw [q] at z
      have z : (if xs.length = ts.length then asgTs ts xs env h else .bad) = Res.exc e h' := z
      by_cases c : xs.length = ts.length
      · rw [if_pos c] at z; exact asgTs_ne ts xs env h e h' z
      · rw [if_neg c] at z; cases z
theorem asgTs_ne : ∀ (ts : List Tg) (ds : List D) (env : Env) (h : Hs) (e : Ex) (h' : Hs), asgTs ts ds env h ≠ .exc e h'
  | [], [], _, _, _, _, z => by unfold asgTs at z; cases z
  | [], _ :: _, _, _, _, _, z => by unfold asgTs at z; cases z
  | _ :: _, [], _, _, _, _, z => by unfold asgTs at z; cases z
  | t :: ts, d :: ds, env, h, e, h', z => by
    unfold asgTs at z
    cases q : asgT t d env h with
    | ok a h1 => rw [q] at z; exact asgTs_ne ts ds a h1 e h' z
    | exc x h1 => exact asgT_ne t d env h x h1 q
    | bad => rw [q] at z; cases z
end
theorem tG.weak {t : Tg} {W' : WX} {v σ H Q} (p : tG k W (asgT t) v σ H Q) : tG k W' (asgT t) v σ H Q := by
  obtain ⟨F, h, env, d, sr, dv, p⟩ := p
  refine ⟨F, h, env, d, sr, dv, ?_⟩
  cases e : asgT t d env h with
  | ok a h' => rw [e] at p; exact p
  | exc x h' => exact absurd e (asgT_ne t d env h x h')
  | bad => rw [e] at p; exact p
theorem PG.or {e : Expr} {t t' : TG} (p : PG X e t) (p' : PG X e t') : PG X e (fun v σ H Q => t v σ H Q ∨ t' v σ H Q) := ⟨fun pins s σ H v u Q I r q => q.elim (p.run pins s σ H v u Q I r) (p'.run pins s σ H v u Q I r)⟩
theorem mg_tup {es : List Expr} {x1 : Nat} {ts : List Tg} (hK : X.K = k.K) (hc : X.calm = true) (h : PGs X es (tGs k (fun _ _ _ _ => False) (asgTs ts))) (hn : (assignEach es X.env).length = ts.length) (hst : (assignEach es X.env).findIdx? (·.1) = none) :
    PG X (.Tuple es x1 pos) (tG k W (asgT (.tp ts))) := by
  refine PG.imp (PG.or (pg_tup hc h hn hst) (pg_unl hc h hn hst)) fun v σ H Q p0 => ?_
  obtain ⟨F, h, env, d, sr, dv, p1⟩ := tG.weak (W' := fun _ _ _ _ => False) p0
  unfold asgT at p1
  cases q : seqH h d with
  | none => rw [q] at p1; exact p1.elim
  | some xs =>
    rw [q] at p1
    obtain ⟨c, p⟩ := Post.cond (c := xs.length = ts.length) (r := asgTs ts xs env h) p1
    obtain ⟨a, vs, rfl, _, dvs, sT, sL⟩ := sr.rel.seq dv q
    rcases seqH_tup q with z | z
    · exact .inl ⟨a, vs, rfl, by rw [hK]; exact SqT.of (sT xs z), by rw [← dvs.len]; exact c, F, h, env, xs, sr, dvs, p⟩
    · exact .inr ⟨a, vs, rfl, by rw [hK]; exact sL z, by rw [← dvs.len]; exact c, F, h, env, xs, sr, dvs, p⟩
theorem set_L : PSet X (fun o i v H Q => ∃ F h d e g h', RelH k F H h ∧ DV k.K F H d o ∧ DV k.K F H e i ∧ DV k.K F H g v ∧ setL h d e g = some h' ∧ ∀ H', Step k.K F H F H' → RelH k F H' h' → Q H') := by
  intro pins s σ H o i v ov iv u Q I ro ri rv q
  obtain ⟨F, h, d, e, g, h', rl, d1, d2, d3, so, q⟩ := q
  unfold setL at so
  cases d <;> cases e <;> try cases so
  rename_i n j
  have so : (match h[n]? with | some (.lst xs) => (ixN xs.length j).map fun m => h.set n (.lst (xs.set m g)) | _ => none) = some h' := so
  cases e1 : h[n]? with
  | none => rw [e1] at so; cases so
  | some c =>
    rw [e1] at so
    cases c with
    | lst xs =>
      obtain ⟨m, e2, rfl⟩ := Option.map_eq_some_iff.mp so
      obtain ⟨a, vs, rfl, hf, hl, dvs⟩ := rl.lst e1 d1
      cases d2.intV
      have st := rl.stepSet (o := .lst (vs.set m v)) hf
      exact set_list pins s σ H _ _ v ov iv u Q I ro ri rv ⟨a, vs, j, m, rfl, rfl, hl, by rw [← dvs.len]; exact e2, q _ st (rl.setCell hf ⟨_, upd_same, DVs.mono st _ _ (dvs.set m d3)⟩)⟩
    | _ => cases so
theorem set_D (hu : X.A.units + 1 < cLine) : PSet X (fun o i v H Q => ∃ F h d e g h', RelH k F H h ∧ DV k.K F H d o ∧ DV k.K F H e i ∧ DV k.K F H g v ∧ setOp h d e g = some h' ∧ ∀ H', Step k.K F H F H' → RelH k F H' h' → Q H') := by
  intro pins s σ H o i v ov iv u Q I ro ri rv q
  obtain ⟨F, h, d, e, g, h', rl, d1, d2, d3, so, q⟩ := q
  unfold setOp at so
  cases e1 : dicAt h d with
  | none => rw [e1] at so; exact set_L (k := k) pins s σ H o i v ov iv u Q I ro ri rv ⟨F, h, d, e, g, h', rl, d1, d2, d3, so, q⟩
  | some tk =>
    obtain ⟨n, t, kvs⟩ := tk
    rw [e1] at so
    have so : (if kOk t e = true ∧ kvs.length < lim then some (h.set n (.dic t false (dput kvs e g))) else none) = some h' := so
    by_cases c : kOk t e = true ∧ kvs.length < lim
    · rw [if_pos c] at so; cases so
      obtain ⟨a, H', rfl, dp, st, rl'⟩ := rl.dput e1 c.1 c.2 d1 d2 d3
      cases ro
      exact d_setItem hu I dp ri rv fun s' I' => ⟨H', I', q H' st rl'⟩
    · rw [if_neg c] at so; cases so
theorem mg_sub {o i : Expr} {fo fi : Ev} (hu : X.A.units + 1 < cLine) (ho : PE X o (tE k W fo)) (hi : PE X i (tE k W fi))
    (ha : ∀ v, assign (.Subscript o i pos) X.env v = (do
      let ov ← holding [v] (eval o X.env)
      let iv ← holding [v, ov] (eval i X.env)
      standAt pos
      holding [v, ov, iv] (setItem ov iv v)
      release [v, ov, iv] [])) : PG X (.Subscript o i pos) (tG k W (gS fo fi)) := by
  refine PG.imp (pg_sub ho hi (set_D (k := k) hu) ha) fun v σ H Q p => ?_
  obtain ⟨F, h, env, d, sr, dv, p⟩ := p
  refine ⟨F, h, env, sr, p.bind.imp (fun x F' h' H' st rl q xv dx => ⟨F', h', env, sr.step st rl, q.bind.imp (fun y F2 h2 H2 st2 rl2 q2 yv dy => ?_) fun _ _ _ x => x⟩) fun _ _ _ x => x⟩
  cases e : setOp h2 x y d with
  | none => rw [e] at q2; exact q2.elim
  | some h3 =>
    rw [e] at q2
    exact ⟨F2, h2, x, y, d, h3, rl2, DV.mono st2 _ _ dx, dy, DV.mono (st.trans st2) _ _ dv, e, fun H3 st3 rl3 => q2 F2 H3 st3 rl3 σ (sr.er.mono ((st.trans st2).trans st3))⟩
end
/-! M7: turns without a bound, what is walked, statements, comprehensions. -/
open PySem PySem.Spec PyProof.Rows L2

/-! ### turns without a bound -/
section
variable {S R : Type}
def iterN (f : S → S ⊕ R) : Nat → S → Option R
  | 0, _ => none
  | n + 1, s => match f s with
    | .inl s' => iterN f n s'
    | .inr r => some r
theorem iterN_succ {f : S → S ⊕ R} : ∀ {n : Nat} {s : S} {r : R}, iterN f n s = some r → iterN f (n + 1) s = some r
  | 0, _, _, h => by cases h
  | n + 1, s, r, h => by
    unfold iterN at h ⊢
    cases e : f s with
    | inl s' => rw [e] at h; exact iterN_succ (n := n) h
    | inr r' => rw [e] at h; exact h
theorem iterN_mono {f : S → S ⊕ R} {n m : Nat} {s : S} {r : R} (hm : n ≤ m) (h : iterN f n s = some r) : iterN f m s = some r := by
  induction hm with
  | refl => exact h
  | step _ ih => exact iterN_succ ih
theorem iterN_inj {f : S → S ⊕ R} {n m : Nat} {s : S} {r r' : R} (h : iterN f n s = some r) (h' : iterN f m s = some r') : r = r' := by
  have a := iterN_mono (Nat.le_max_left n m) h
  have b := iterN_mono (Nat.le_max_right n m) h'
  rw [a] at b; cases b; rfl
open Classical in
noncomputable def iter (f : S → S ⊕ R) (bad : R) (s : S) : R := if h : ∃ r n, iterN f n s = some r then h.choose else bad
theorem iter_of {f : S → S ⊕ R} {bad : R} {s : S} {r : R} {n : Nat} (h : iterN f n s = some r) : iter f bad s = r := by
  have e : ∃ r n, iterN f n s = some r := ⟨r, n, h⟩
  unfold iter
  rw [dif_pos e]
  obtain ⟨m, hm⟩ := e.choose_spec
  exact iterN_inj hm h
theorem iter_eq {f : S → S ⊕ R} {bad : R} {s : S} : iter f bad s = match f s with
    | .inl s' => iter f bad s'
    | .inr r => r := by
  cases e : f s with
  | inr r => exact iter_of (n := 1) (by unfold iterN; rw [e])
  | inl s' =>
    show iter f bad s = iter f bad s'
    by_cases h : ∃ r n, iterN f n s' = some r
    · obtain ⟨r, n, h⟩ := h
      rw [iter_of h]
      exact iter_of (n := n + 1) (by unfold iterN; rw [e]; exact h)
    · have h2 : ¬ ∃ r n, iterN f n s = some r := fun ⟨r, n, q⟩ => by
        cases n with
        | zero => cases q
        | succ n =>
          unfold iterN at q
          rw [e] at q
          exact h ⟨r, n, q⟩
      unfold iter
      rw [dif_neg h, dif_neg h2]
theorem iter_good {f : S → S ⊕ R} {bad : R} {s : S} (h : iter f bad s ≠ bad) : ∃ n, iterN f n s = some (iter f bad s) := by
  by_cases e : ∃ r n, iterN f n s = some r
  · obtain ⟨r, n, q⟩ := e
    exact ⟨n, by rw [iter_of q]; exact q⟩
  · unfold iter at h
    rw [dif_neg e] at h
    exact absurd rfl h
end

/-! ### what is walked -/
/-- at turn i: an item, or the end; none: the walk is broken -/
structure Src where nxt : Nat → Hs → Option (Option D)
def seqSrc (xs : List D) : Src := ⟨fun i _ => some xs[i]?⟩
def celSrc (n : Nat) : Src := ⟨fun i h => match h[n]? with
  | some (.lst xs) => some xs[i]?
  | _ => none⟩
def rngSrc (lo c : Int) (n : Nat) : Src := ⟨fun i _ => some (if i < n then some (.int (lo + (i : Nat) * c)) else none)⟩
def enuSrc (s : Src) : Src := ⟨fun i h => (s.nxt i h).map fun o => o.map fun d => .tup [.int (i : Nat), d]⟩
def zipSrc (s t : Src) : Src := ⟨fun i h => match s.nxt i h, t.nxt i h with
  | some (some x), some (some y) => some (some (.tup [x, y]))
  | some _, some _ => some none
  | _, _ => none⟩
def srcOf (h : Hs) : D → Option Src
  | .tup xs => some (seqSrc xs)
  | .ls xs => some (seqSrc xs)
  | .str x => some (seqSrc (x.map fun c => .str [c]))
  | .ref n => match h[n]? with
    | some (.lst _) => some (celSrc n)
    | _ => none
  | _ => none
/-- a list: in the heap, or read only -/
def srcL (h : Hs) : D → Option Src
  | .ls xs => some (seqSrc xs)
  | .ref n => match h[n]? with
    | some (.lst _) => some (celSrc n)
    | _ => none
  | _ => none
def srcT : D → Option Src
  | .tup xs => some (seqSrc xs)
  | _ => none
def zipOf (h : Hs) (x y : D) : Option Src := match srcL h x, srcL h y with
  | some s, some t => some (zipSrc s t)
  | _, _ => match srcT x, srcT y with
    | some s, some t => some (zipSrc s t)
    | _, _ => none
abbrev Sv := Env → Hs → Res Src
def vS (a : Ev) : Sv := fun env h => (a env h).bind fun d h1 => Res.of (srcOf h1 d) h1
def small (i : Int) : Bool := decide (-(2 ^ 62) ≤ i) && decide (i < 2 ^ 62)
def rng1Of : List D → Option Src
  | [.int j] => if small j = true then some (rngSrc 0 1 j.toNat) else none
  | _ => none
def rng2Of : List D → Option Src
  | [.int i, .int j] => if small i = true ∧ small j = true then some (rngSrc i 1 (j - i).toNat) else none
  | _ => none
/-- downwards, by one -/
def rng3Of : List D → Option Src
  | [.int i, .int j, .int c] => if small i = true ∧ small j = true ∧ c = -1 then some (rngSrc i (-1) (i - j).toNat) else none
  | _ => none
theorem rng1_inv {xs : List D} {s : Src} (h : rng1Of xs = some s) : ∃ j, xs = [.int j] ∧ small j = true ∧ s = rngSrc 0 1 j.toNat := by
  unfold rng1Of at h
  split at h
  · rename_i j
    split at h
    · rename_i c
      cases h
      exact ⟨j, rfl, c, rfl⟩
    · cases h
  · cases h
theorem rng2_inv {xs : List D} {s : Src} (h : rng2Of xs = some s) : ∃ i j, xs = [.int i, .int j] ∧ small i = true ∧ small j = true ∧ s = rngSrc i 1 (j - i).toNat := by
  unfold rng2Of at h
  split at h
  · rename_i i j
    split at h
    · rename_i c
      cases h
      exact ⟨i, j, rfl, c.1, c.2, rfl⟩
    · cases h
  · cases h
theorem rng3_inv {xs : List D} {s : Src} (h : rng3Of xs = some s) : ∃ i j, xs = [.int i, .int j, .int (-1)] ∧ small i = true ∧ small j = true ∧ s = rngSrc i (-1) (i - j).toNat := by
  unfold rng3Of at h
  split at h
  · rename_i i j c
    split at h
    · rename_i q
      cases h
      obtain ⟨a, b, rfl⟩ := q
      exact ⟨i, j, rfl, a, b, rfl⟩
    · cases h
  · cases h
def rS (as : Av) (g : List D → Option Src) : Sv := fun env h => (as env h).bind fun xs h1 => Res.of (g xs) h1
def eS (a : Ev) : Sv := fun env h => (a env h).bind fun d h1 => Res.of ((srcL h1 d).map enuSrc) h1
def zS (a b : Ev) : Sv := fun env h => (a env h).bind fun x h1 => (b env h1).bind fun y h2 => Res.of (zipOf h2 x y) h2
def revCel (n m : Nat) : Src := ⟨fun i h => if i < m then match h[n]? with
  | some (.lst ys) => (ys[m - 1 - i]?).map some
  | _ => none
else some none⟩
def revOf (h : Hs) : D → Option Src
  | .tup xs => some (seqSrc xs.reverse)
  | .ls xs => some (seqSrc xs.reverse)
  | .ref n => match h[n]? with
    | some (.lst xs) => some (revCel n xs.length)
    | _ => none
  | _ => none
def revS (a : Ev) : Sv := fun env h => (a env h).bind fun d h1 => Res.of (revOf h1 d) h1
/-- the iterator walks as the source says -/
def JRel (k : Kx) (F : List Addr) (H : Hp) (src : Src) (J : It) : Prop := ∀ (F' : List Addr) (h' : Hs) (H' : Hp) (i : Nat), Step k.K F H F' H' → RelH k F' H' h' →
  (src.nxt i h' = some none → J.stop i H') ∧
  ∀ d, src.nxt i h' = some (some d) → J.go i H' ∧ ∀ x H'', J.yld i H' x H'' → Step k.K F' H' F' H'' ∧ RelH k F' H'' h' ∧ DV k.K F' H'' d x
def tI (k : Kx) (W : WX) (f : Sv) : TI := fun σ H R => ∃ F h env, SR k F H h σ env ∧ Post k F H (fun src F' _ H' => ∀ J, JRel k F' H' src J → R J H') (fun c d H' => W c d σ H') (f env h)
theorem PI.imp {X : Cx} {tg e : Expr} {t t' : TI} (p : PI X tg e t) (h : ∀ σ H R, t' σ H R → t σ H R) : PI X tg e t' := ⟨fun pins s σ H R I q => p.run pins s σ H R I (h σ H R q)⟩
theorem PI.or {X : Cx} {tg e : Expr} {t t' : TI} (p : PI X tg e t) (p' : PI X tg e t') : PI X tg e (fun σ H R => t σ H R ∨ t' σ H R) := ⟨fun pins s σ H R I q => q.elim (p.run pins s σ H R I) (p'.run pins s σ H R I)⟩
section
variable {k : Kx} {F : List Addr} {H : Hp}
theorem jr_tup {xs : List D} {a : Addr} {vs : List V} (hq : H a = some (.tup vs)) (dv : DVs k.K F H xs vs) : JRel k F H (seqSrc xs) (Itt k.K a) := fun F' h' H' i s r => by
  have hq' : SqT k.K H' a vs := SqT.of (s.tup _ _ hq)
  have dv' := DVs.mono s _ _ dv
  refine ⟨fun e => ⟨vs, hq', ?_⟩, fun d e => ?_⟩
  · have e : xs[i]? = none := Option.some.inj e
    rw [← dv.len]; exact List.getElem?_eq_none_iff.mp e
  · have e : xs[i]? = some d := Option.some.inj e
    obtain ⟨v, ev, d1⟩ := dv'.get e
    refine ⟨⟨vs, v, hq', ev⟩, fun x H'' y => ?_⟩
    obtain ⟨rfl, y⟩ := y
    have z := y vs hq'
    rw [ev] at z; cases z
    exact ⟨.refl, r, d1⟩
theorem jr_lst {xs : List D} {a : Addr} {vs : List V} (hq : SqR k.K H a vs) (dv : DVs k.K F H xs vs) : JRel k F H (seqSrc xs) (Itl k.K a) := fun F' h' H' i s r => by
  have hq' := (s.lsr _ _ hq).sq
  have dv' := DVs.mono s _ _ dv
  refine ⟨fun e => ⟨vs, hq', ?_⟩, fun d e => ?_⟩
  · have e : xs[i]? = none := Option.some.inj e
    rw [← dv.len]; exact List.getElem?_eq_none_iff.mp e
  · have e : xs[i]? = some d := Option.some.inj e
    obtain ⟨v, ev, d1⟩ := dv'.get e
    refine ⟨⟨vs, v, hq', ev⟩, fun x H'' y => ?_⟩
    obtain ⟨rfl, y⟩ := y
    have z := y vs hq'
    rw [ev] at z; cases z
    exact ⟨.refl, r, d1⟩
theorem cel_at {n : Nat} {a : Addr} {h : Hs} {o : Option D} {i : Nat} (hf : F[n]? = some a) (r : RelH k F H h) (e : (celSrc n).nxt i h = some o) : ∃ xs vs, H a = some (.lst vs) ∧ DVs k.K F H xs vs ∧ xs[i]? = o := by
  have e : (match h[n]? with | some (.lst xs) => some xs[i]? | _ => none) = some o := e
  cases e1 : h[n]? with
  | none => rw [e1] at e; cases e
  | some c =>
    rw [e1] at e
    cases c with
    | lst xs =>
      obtain ⟨vs, q, dv⟩ := r.cell n _ a e1 hf
      exact ⟨xs, vs, q, dv, Option.some.inj e⟩
    | _ => cases e
theorem jr_cel {n : Nat} {a : Addr} (hf : F[n]? = some a) : JRel k F H (celSrc n) (Itl k.K a) := fun F' h' H' i s r => by
  refine ⟨fun e => ?_, fun d e => ?_⟩
  · obtain ⟨xs, vs, q, dv, e⟩ := cel_at (s.get hf) r e
    exact ⟨vs, SqL.of q, by rw [← dv.len]; exact List.getElem?_eq_none_iff.mp e⟩
  · obtain ⟨xs, vs, q, dv, e⟩ := cel_at (s.get hf) r e
    obtain ⟨v, ev, d1⟩ := dv.get e
    refine ⟨⟨vs, v, SqL.of q, ev⟩, fun x H'' y => ?_⟩
    obtain ⟨rfl, y⟩ := y
    have z := y vs (SqL.of q)
    rw [ev] at z; cases z
    exact ⟨.refl, r, d1⟩
theorem jr_rng {lo : Int} {n : Nat} : JRel k F H (rngSrc lo 1 n) (Itr lo n) := fun F' h' H' i s r => by
  refine ⟨fun e => ?_, fun d e => ?_⟩
  · have e : (if i < n then some (D.int (lo + (i : Nat) * 1)) else none) = none := Option.some.inj e
    show n ≤ i
    by_cases c : i < n
    · rw [if_pos c] at e; cases e
    · omega
  · have e : (if i < n then some (D.int (lo + (i : Nat) * 1)) else none) = some d := Option.some.inj e
    by_cases c : i < n
    · rw [if_pos c] at e; cases e
      refine ⟨c, fun x H'' y => ?_⟩
      obtain ⟨rfl, rfl⟩ := y
      refine ⟨.refl, r, ?_⟩
      rw [Int.mul_one]
      unfold DV; rfl
    · rw [if_neg c] at e; cases e
theorem jr_rngC {lo c : Int} {n : Nat} : JRel k F H (rngSrc lo c n) (Itc lo c n) := fun F' h' H' i s r => by
  refine ⟨fun e => ?_, fun d e => ?_⟩
  · have e : (if i < n then some (D.int (lo + (i : Nat) * c)) else none) = none := Option.some.inj e
    show n ≤ i
    by_cases c : i < n
    · rw [if_pos c] at e; cases e
    · omega
  · have e : (if i < n then some (D.int (lo + (i : Nat) * c)) else none) = some d := Option.some.inj e
    by_cases c : i < n
    · rw [if_pos c] at e; cases e
      refine ⟨c, fun x H'' y => ?_⟩
      obtain ⟨rfl, rfl⟩ := y
      refine ⟨.refl, r, ?_⟩
      unfold DV; rfl
    · rw [if_neg c] at e; cases e
theorem jr_str {x : List Nat} : JRel k F H (seqSrc (x.map fun c => .str [c])) (Its ⟨x.toArray⟩) := fun F' h' H' i s r => by
  refine ⟨fun e => ?_, fun d e => ?_⟩
  · have e : (x.map fun c => D.str [c])[i]? = none := Option.some.inj e
    show x.toArray.size ≤ i
    have := List.getElem?_eq_none_iff.mp e
    simpa using this
  · have e : (x.map fun c => D.str [c])[i]? = some d := Option.some.inj e
    rw [List.getElem?_map] at e
    obtain ⟨c, ec, rfl⟩ := Option.map_eq_some_iff.mp e
    refine ⟨?_, fun v H'' y => ?_⟩
    · show i < x.toArray.size
      have := (List.getElem?_eq_some_iff.mp ec).1
      simpa using this
    · obtain ⟨rfl, c', e1, rfl⟩ := y
      have e1 : x.toArray[i]? = some c' := e1
      have : x[i]? = some c' := by simpa using e1
      rw [ec] at this; cases this
      refine ⟨.refl, r, ?_⟩
      unfold DV; exact ⟨rfl, show 1 ≤ 16777216 by decide⟩
/-- a walk of a list, in new pairs -/
theorem DV.pair {F : List Addr} {H : Hp} {d1 d2 : D} {x y : V} {T : Addr} {h : Hs} (r : RelH k F H h) (hT : H T = none) (h1 : DV k.K F H d1 x) (h2 : DV k.K F H d2 y) : DV k.K F (upd H T (.tup [x, y])) (.tup [d1, d2]) (.ref T) := by
  have s := r.stepNew (o := .tup [x, y]) hT
  unfold DV
  exact ⟨T, [x, y], rfl, upd_same, DVs.cons (DV.mono s _ _ h1) (DVs.cons (DV.mono s _ _ h2) DVs.nil)⟩
/-- what a list's source knows -/
def LsAt (k : Kx) (F : List Addr) (H : Hp) (src : Src) (a : Addr) : Prop := ∀ (F' : List Addr) (h' : Hs) (H' : Hp) (i : Nat) (o : Option D), Step k.K F H F' H' → RelH k F' H' h' → src.nxt i h' = some o → ∃ xs vs, SqL k.K H' a vs ∧ DVs k.K F' H' xs vs ∧ xs[i]? = o
theorem ls_at {h : Hs} {d : D} {v : V} {src : Src} (r : RelH k F H h) (dv : DV k.K F H d v) (e : srcL h d = some src) : ∃ a, v = .ref a ∧ (∃ vs, SqL k.K H a vs) ∧ LsAt k F H src a ∧ JRel k F H src (Itl k.K a) := by
  unfold srcL at e
  cases d with
  | ls xs =>
    cases e
    unfold DV at dv
    obtain ⟨a, vs, rfl, q, dvs⟩ := dv
    exact ⟨a, rfl, ⟨vs, q.sq⟩, fun F' h' H' i o s _ e => ⟨xs, vs, (s.lsr _ _ q).sq, DVs.mono s _ _ dvs, Option.some.inj e⟩, jr_lst q dvs⟩
  | ref n =>
    have e : (match h[n]? with | some (.lst _) => some (celSrc n) | _ => none) = some src := e
    cases e1 : h[n]? with
    | none => rw [e1] at e; cases e
    | some c =>
      rw [e1] at e
      cases c with
      | lst xs =>
        cases e
        obtain ⟨a, vs, rfl, hf, hl, dvs⟩ := r.lst e1 dv
        refine ⟨a, rfl, ⟨vs, SqL.of hl⟩, fun F' h' H' i o s r' e => ?_, jr_cel hf⟩
        obtain ⟨ys, ws, q, d2, e2⟩ := cel_at (s.get hf) r' e
        exact ⟨ys, ws, SqL.of q, d2, e2⟩
      | _ => cases e
  | _ => cases e
theorem jr_enu {src : Src} {a : Addr} (l : LsAt k F H src a) : JRel k F H (enuSrc src) (Ite k.K a) := fun F' h' H' i s r => by
  refine ⟨fun e => ?_, fun d e => ?_⟩
  · obtain ⟨o, e1, e2⟩ := Option.map_eq_some_iff.mp e
    have : o = none := by simpa using e2
    subst this
    obtain ⟨xs, vs, q, dv, e3⟩ := l F' h' H' i _ s r e1
    exact ⟨vs, q, by rw [← dv.len]; exact List.getElem?_eq_none_iff.mp e3⟩
  · obtain ⟨o, e1, e2⟩ := Option.map_eq_some_iff.mp e
    obtain ⟨d', rfl, rfl⟩ := Option.map_eq_some_iff.mp e2
    obtain ⟨xs, vs, q, dv, e3⟩ := l F' h' H' i _ s r e1
    obtain ⟨v, ev, d1⟩ := dv.get e3
    refine ⟨⟨vs, v, q, ev⟩, fun x H'' y => ?_⟩
    obtain ⟨T, z, rfl, hT, rfl, y⟩ := y
    have w := y vs q
    rw [ev] at w; cases w
    exact ⟨r.stepNew hT, r.addNew hT, DV.pair r hT (by unfold DV; rfl) d1⟩
theorem zip_none {s t : Src} {i : Nat} {h : Hs} (e : (zipSrc s t).nxt i h = some none) : ∃ o o', s.nxt i h = some o ∧ t.nxt i h = some o' ∧ (o = none ∨ o' = none) := by
  have e : (match s.nxt i h, t.nxt i h with | some (some x), some (some y) => some (some (D.tup [x, y])) | some _, some _ => some none | _, _ => none) = some none := e
  cases e1 : s.nxt i h with
  | none => rw [e1] at e; cases e
  | some o =>
    cases e2 : t.nxt i h with
    | none => rw [e1, e2] at e; cases o <;> cases e
    | some o' =>
      rw [e1, e2] at e
      refine ⟨o, o', rfl, rfl, ?_⟩
      cases o with
      | none => exact .inl rfl
      | some x => cases o' with
        | none => exact .inr rfl
        | some y => cases e
theorem zip_some {s t : Src} {i : Nat} {h : Hs} {d : D} (e : (zipSrc s t).nxt i h = some (some d)) : ∃ x y, s.nxt i h = some (some x) ∧ t.nxt i h = some (some y) ∧ d = .tup [x, y] := by
  have e : (match s.nxt i h, t.nxt i h with | some (some x), some (some y) => some (some (D.tup [x, y])) | some _, some _ => some none | _, _ => none) = some (some d) := e
  cases e1 : s.nxt i h with
  | none => rw [e1] at e; cases e
  | some o =>
    cases e2 : t.nxt i h with
    | none => rw [e1, e2] at e; cases o <;> cases e
    | some o' =>
      rw [e1, e2] at e
      cases o with
      | none => cases o' <;> cases e
      | some x => cases o' with
        | none => cases e
        | some y => cases e; exact ⟨x, y, rfl, rfl, rfl⟩
theorem jr_zip {s t : Src} {a b : Addr} (l : LsAt k F H s a) (l' : LsAt k F H t b) : JRel k F H (zipSrc s t) (Itz k.K a b) := fun F' h' H' i st r => by
  refine ⟨fun e => ?_, fun d e => ?_⟩
  · obtain ⟨o, o', e1, e2, c⟩ := zip_none e
    obtain ⟨xs, vs, q, dv, e3⟩ := l F' h' H' i _ st r e1
    obtain ⟨ys, ws, q', dv', e4⟩ := l' F' h' H' i _ st r e2
    refine ⟨vs, ws, q, q', ?_⟩
    rcases c with rfl | rfl
    · exact .inl (by rw [← dv.len]; exact List.getElem?_eq_none_iff.mp e3)
    · exact .inr (by rw [← dv'.len]; exact List.getElem?_eq_none_iff.mp e4)
  · obtain ⟨x, y, e1, e2, rfl⟩ := zip_some e
    obtain ⟨xs, vs, q, dv, e3⟩ := l F' h' H' i _ st r e1
    obtain ⟨ys, ws, q', dv', e4⟩ := l' F' h' H' i _ st r e2
    obtain ⟨v, ev, d1⟩ := dv.get e3
    obtain ⟨w, ew, d2⟩ := dv'.get e4
    refine ⟨⟨vs, ws, v, w, q, q', ev, ew⟩, fun z H'' yl => ?_⟩
    obtain ⟨T, p1, p2, rfl, hT, rfl, y1, y2⟩ := yl
    have w1 := y1 vs q
    have w2 := y2 ws q'
    rw [ev] at w1; cases w1
    rw [ew] at w2; cases w2
    exact ⟨r.stepNew hT, r.addNew hT, DV.pair r hT d1 d2⟩
theorem jr_zipT {xs ys : List D} {vs ws : List V} {a b : Addr} (q : H a = some (.tup vs)) (q' : H b = some (.tup ws)) (dv : DVs k.K F H xs vs) (dv' : DVs k.K F H ys ws) : JRel k F H (zipSrc (seqSrc xs) (seqSrc ys)) (RZ.ItzT k.K a b) := fun F' h' H' i st r => by
  have q : SqT k.K H' a vs := SqT.of (st.tup _ _ q)
  have q' : SqT k.K H' b ws := SqT.of (st.tup _ _ q')
  have dv := DVs.mono st _ _ dv
  have dv' := DVs.mono st _ _ dv'
  refine ⟨fun e => ?_, fun d e => ?_⟩
  · obtain ⟨o, o', e1, e2, c⟩ := zip_none e
    have e3 : xs[i]? = o := Option.some.inj e1
    have e4 : ys[i]? = o' := Option.some.inj e2
    refine ⟨vs, ws, q, q', ?_⟩
    rcases c with rfl | rfl
    · exact .inl (by rw [← dv.len]; exact List.getElem?_eq_none_iff.mp e3)
    · exact .inr (by rw [← dv'.len]; exact List.getElem?_eq_none_iff.mp e4)
  · obtain ⟨x, y, e1, e2, rfl⟩ := zip_some e
    have e3 : xs[i]? = some x := Option.some.inj e1
    have e4 : ys[i]? = some y := Option.some.inj e2
    obtain ⟨v, ev, d1⟩ := dv.get e3
    obtain ⟨w, ew, d2⟩ := dv'.get e4
    refine ⟨⟨vs, ws, v, w, q, q', ev, ew⟩, fun z H'' yl => ?_⟩
    obtain ⟨T, p1, p2, rfl, hT, rfl, y1, y2⟩ := yl
    have w1 := y1 vs q
    have w2 := y2 ws q'
    rw [ev] at w1; cases w1
    rw [ew] at w2; cases w2
    exact ⟨r.stepNew hT, r.addNew hT, DV.pair r hT d1 d2⟩

theorem jr_revT {xs : List D} {a : Addr} {vs : List V} (hq : H a = some (.tup vs)) (dv : DVs k.K F H xs vs) : JRel k F H (seqSrc xs.reverse) (RT.ItvT k.K a vs.length) := fun F' h' H' i s r => by
  have hq' : SqT k.K H' a vs := SqT.of (s.tup _ _ hq)
  have dv' := DVs.mono s _ _ dv
  have hl := dv.len
  refine ⟨fun e => ?_, fun d e => ?_⟩
  · have e : xs.reverse[i]? = none := Option.some.inj e
    have := List.getElem?_eq_none_iff.mp e
    rw [List.length_reverse] at this
    show vs.length ≤ i
    omega
  · have e : xs.reverse[i]? = some d := Option.some.inj e
    have hi : i < xs.length := by have := (List.getElem?_eq_some_iff.mp e).1; simpa using this
    rw [List.getElem?_reverse hi] at e
    obtain ⟨v, ev, d1⟩ := dv'.get e
    rw [hl] at ev
    refine ⟨⟨by omega, vs, v, hq', ev⟩, fun x H'' y => ?_⟩
    obtain ⟨rfl, y⟩ := y
    have z := y vs hq'
    rw [ev] at z; cases z
    exact ⟨.refl, r, d1⟩
theorem jr_revL {xs : List D} {a : Addr} {vs : List V} (hq : SqR k.K H a vs) (dv : DVs k.K F H xs vs) : JRel k F H (seqSrc xs.reverse) (Itv k.K a vs.length) := fun F' h' H' i s r => by
  have hq' := (s.lsr _ _ hq).sq
  have dv' := DVs.mono s _ _ dv
  have hl := dv.len
  refine ⟨fun e => ?_, fun d e => ?_⟩
  · have e : xs.reverse[i]? = none := Option.some.inj e
    have := List.getElem?_eq_none_iff.mp e
    rw [List.length_reverse] at this
    show vs.length ≤ i
    omega
  · have e : xs.reverse[i]? = some d := Option.some.inj e
    have hi : i < xs.length := by have := (List.getElem?_eq_some_iff.mp e).1; simpa using this
    rw [List.getElem?_reverse hi] at e
    obtain ⟨v, ev, d1⟩ := dv'.get e
    rw [hl] at ev
    refine ⟨⟨by omega, vs, v, hq', ev⟩, fun x H'' y => ?_⟩
    obtain ⟨rfl, y⟩ := y
    have z := y vs hq'
    rw [ev] at z; cases z
    exact ⟨.refl, r, d1⟩
end

/-! ### rules of walks -/
section
variable {X : Cx} {k : Kx} {W : WX} {a b tg : Expr} {fa fb : Ev} {pos : Pos} {fr : Av}
theorem mi_val (hK : X.K = k.K) (ha : PE X a (tE k W fa)) : PI X tg a (tI k W (vS fa)) := by
  refine PI.imp (PI.or (pi_list ha) (PI.or (pi_tup ha) (pi_str ha))) fun σ H R p => ?_
  obtain ⟨F, h, env, sr, p⟩ := p
  have p : Post k F H (fun src F' _ H' => ∀ J, JRel k F' H' src J → R J H') (fun c d H' => W c d σ H') ((fa env h).bind fun d h1 => Res.of (srcOf h1 d) h1) := p
  cases e : fa env h with
  | bad => rw [e] at p; exact p.elim
  | exc x h1 => rw [e] at p; exact .inl ⟨F, h, env, sr, by rw [e]; exact p⟩
  | ok d h1 =>
    rw [e] at p
    have p : Post k F H (fun src F' _ H' => ∀ J, JRel k F' H' src J → R J H') (fun c d H' => W c d σ H') (Res.of (srcOf h1 d) h1) := p
    cases es : srcOf h1 d with
    | none => rw [es] at p; exact p.elim
    | some src =>
      rw [es] at p
      have p : ∀ F' H', Step k.K F H F' H' → RelH k F' H' h1 → ∀ J, JRel k F' H' src J → R J H' := p
      cases d with
      | tup xs =>
        cases es
        refine .inr (.inl ⟨F, h, env, sr, ?_⟩)
        rw [e]
        intro F' H' s r v dv
        unfold DV at dv
        obtain ⟨a, vs, rfl, q, dvs⟩ := dv
        exact ⟨a, rfl, ⟨vs, by rw [hK]; exact SqT.of q⟩, by rw [hK]; exact p F' H' s r _ (jr_tup q dvs)⟩
      | ls xs =>
        cases es
        refine .inl ⟨F, h, env, sr, ?_⟩
        rw [e]
        intro F' H' s r v dv
        unfold DV at dv
        obtain ⟨a, vs, rfl, q, dvs⟩ := dv
        exact ⟨a, rfl, ⟨vs, by rw [hK]; exact q.sq⟩, by rw [hK]; exact p F' H' s r _ (jr_lst q dvs)⟩
      | ref n =>
        have es : (match h1[n]? with | some (.lst _) => some (celSrc n) | _ => none) = some src := es
        cases e1 : h1[n]? with
        | none => rw [e1] at es; cases es
        | some c =>
          rw [e1] at es
          cases c with
          | lst xs =>
            cases es
            refine .inl ⟨F, h, env, sr, ?_⟩
            rw [e]
            intro F' H' s r v dv
            obtain ⟨a, vs, rfl, hf, hl, dvs⟩ := r.lst e1 dv
            exact ⟨a, rfl, ⟨vs, SqL.of hl⟩, by rw [hK]; exact p F' H' s r _ (jr_cel hf)⟩
          | _ => cases es
      | str x =>
        cases es
        refine .inr (.inr ⟨F, h, env, sr, ?_⟩)
        rw [e]
        intro F' H' s r v dv
        unfold DV at dv
        obtain ⟨rfl, _⟩ := dv
        exact ⟨_, rfl, p F' H' s r _ jr_str⟩
      | _ => cases es
theorem small_ok {i : Int} (h : small i = true) : -(2 ^ 62) ≤ i ∧ i < 2 ^ 62 := by
  unfold small at h
  simpa using h
theorem DVs.intL {K F H} : ∀ {js : List Int} {vs : List V}, DVs K F H (js.map D.int) vs → vs = js.map V.int
  | [], vs, h => by unfold List.map DVs at h; exact h
  | j :: js, vs, h => by
    unfold List.map DVs at h
    obtain ⟨v, r, rfl, d1, d2⟩ := h
    rw [d1.intV, DVs.intL d2]; rfl
theorem Post.ofOpt {α : Type} {F H h} {P : α → List Addr → Hs → Hp → Prop} {W' : Value → Option Addr → Hp → Prop} {o : Option α} (p : Post k F H P W' (Res.of o h)) (r : RelH k F H h) : ∃ a, o = some a ∧ P a F h H := by
  cases o with
  | none => exact p.elim
  | some a => exact ⟨a, rfl, p F H .refl r⟩
theorem mi_rng1 {p1 : Pos} {c : Expr} (hg : Gl X "range") (hm : X.mg "range" = none) (ha : PA X [c] (tA k W fr)) (hs : starEach [c] X.env = [(false, eval c X.env)]) : PI X tg (.Call (.Name "range" p1) [c] [] pos) (tI k W (rS fr rng1Of)) := by
  refine PI.imp (pi_range1 hg hm ha hs) fun σ H R p => ?_
  obtain ⟨F, h, env, sr, p⟩ := p
  refine ⟨F, h, env, sr, p.bind.imp (fun ds F' h' H' st rl q vs dvs => ?_) fun _ _ _ x => x⟩
  obtain ⟨src, e, q⟩ := Post.ofOpt q rl
  obtain ⟨j, rfl, c, rfl⟩ := rng1_inv e
  obtain rfl := DVs.intL (js := [j]) dvs
  exact ⟨j, rfl, (small_ok c).1, (small_ok c).2, q _ jr_rng⟩
theorem mi_rng2 {p1 : Pos} {c d : Expr} (hg : Gl X "range") (hm : X.mg "range" = none) (ha : PA X [c, d] (tA k W fr)) (hs : starEach [c, d] X.env = [(false, eval c X.env), (false, eval d X.env)]) (hs2 : starEach [d] X.env = [(false, eval d X.env)]) : PI X tg (.Call (.Name "range" p1) [c, d] [] pos) (tI k W (rS fr rng2Of)) := by
  refine PI.imp (pi_range2 hg hm ha hs hs2) fun σ H R p => ?_
  obtain ⟨F, h, env, sr, p⟩ := p
  refine ⟨F, h, env, sr, p.bind.imp (fun ds F' h' H' st rl q vs dvs => ?_) fun _ _ _ x => x⟩
  obtain ⟨src, e, q⟩ := Post.ofOpt q rl
  obtain ⟨i, j, rfl, c, d, rfl⟩ := rng2_inv e
  obtain rfl := DVs.intL (js := [i, j]) dvs
  exact ⟨i, j, rfl, ⟨(small_ok c).1, (small_ok c).2, (small_ok d).1, (small_ok d).2⟩, q _ jr_rng⟩
theorem mi_rng3 {p1 : Pos} {c d e : Expr} (hg : Gl X "range") (hm : X.mg "range" = none) (ha : PA X [c, d, e] (tA k W fr)) (hs : starEach [c, d, e] X.env = (false, eval c X.env) :: starEach [d, e] X.env) (hpl : (backTo pos (starEach [d, e] X.env)).any (·.1) = false) : PI X tg (.Call (.Name "range" p1) [c, d, e] [] pos) (tI k W (rS fr rng3Of)) := by
  refine PI.imp (pi_range3 hg hm ha hs hpl) fun σ H R p => ?_
  obtain ⟨F, h, env, sr, p⟩ := p
  refine ⟨F, h, env, sr, p.bind.imp (fun ds F' h' H' st rl q vs dvs => ?_) fun _ _ _ x => x⟩
  obtain ⟨src, e, q⟩ := Post.ofOpt q rl
  obtain ⟨i, j, rfl, c, d, rfl⟩ := rng3_inv e
  obtain rfl := DVs.intL (js := [i, j, -1]) dvs
  exact ⟨i, j, -1, _, rfl, RgC.neg (small_ok c).1 (small_ok c).2 (small_ok d).1 (small_ok d).2, q _ jr_rngC⟩
theorem mi_enu {p1 tpos : Pos} {elts : List Expr} {kk : Nat} (hK : X.K = k.K) (hg : Gl X "enumerate") (hm : X.mg "enumerate" = none) (ha : PA X [a] (tA k W (aCons fa aNil))) (hs : starEach [a] X.env = [(false, eval a X.env)]) : PI X (.Tuple elts kk tpos) (.Call (.Name "enumerate" p1) [a] [] pos) (tI k W (eS fa)) := by
  refine PI.imp (pi_enum hg hm ha hs) fun σ H R p => ?_
  obtain ⟨F, h, env, sr, p⟩ := p
  refine ⟨F, h, env, sr, ?_⟩
  have p : Post k F H (fun src F' _ H' => ∀ J, JRel k F' H' src J → R J H') (fun c d H' => W c d σ H') ((fa env h).bind fun d h1 => Res.of ((srcL h1 d).map enuSrc) h1) := p
  show Post k F H _ _ ((fa env h).bind fun x h1 => (aNil env h1).bind fun xs h2 => .ok (x :: xs) h2)
  cases e : fa env h with
  | bad => rw [e] at p; exact p.elim
  | exc x h1 => rw [e] at p; exact p
  | ok d h1 =>
    rw [e] at p
    intro F' H' s r vs dvs
    obtain ⟨src, e2, q⟩ := Post.ofOpt (Post.step p s) r
    obtain ⟨s0, e3, rfl⟩ := Option.map_eq_some_iff.mp e2
    unfold DVs at dvs
    obtain ⟨v, w, rfl, d1, d2⟩ := dvs
    unfold DVs at d2
    subst d2
    obtain ⟨a, rfl, ⟨ws, hq⟩, l, _⟩ := ls_at r d1 e3
    exact ⟨a, ws, rfl, by rw [hK]; exact hq, by rw [hK]; exact q _ (jr_enu l)⟩
theorem mi_zip {p1 tpos : Pos} {elts : List Expr} {kk : Nat} (hK : X.K = k.K) (hg : Gl X "zip") (hm : X.mg "zip" = none) (ha : PA X [a, b] (tA k W (aCons fa (aCons fb aNil)))) (hs : starEach [a, b] X.env = (false, eval a X.env) :: starEach [b] X.env) (hpl : (backTo pos (starEach [b] X.env)).any (·.1) = false) : PI X (.Tuple elts kk tpos) (.Call (.Name "zip" p1) [a, b] [] pos) (tI k W (zS fa fb)) := by
  refine PI.imp (RZ.pi_zipA hg hm ha hs hpl) fun σ H R p => ?_
  obtain ⟨F, h, env, sr, p⟩ := p
  refine ⟨F, h, env, sr, ?_⟩
  have p : Post k F H (fun src F' _ H' => ∀ J, JRel k F' H' src J → R J H') (fun c d H' => W c d σ H') ((fa env h).bind fun x h1 => (fb env h1).bind fun y h2 => Res.of (zipOf h2 x y) h2) := p
  show Post k F H _ _ ((fa env h).bind fun x h1 => ((fb env h1).bind fun y h2 => (aNil env h2).bind fun xs h3 => .ok (y :: xs) h3).bind fun xs h2 => .ok (x :: xs) h2)
  cases e : fa env h with
  | bad => rw [e] at p; exact p.elim
  | exc x h1 => rw [e] at p; exact p
  | ok d h1 =>
    rw [e] at p
    have p : Post k F H (fun src F' _ H' => ∀ J, JRel k F' H' src J → R J H') (fun c d H' => W c d σ H') ((fb env h1).bind fun y h2 => Res.of (zipOf h2 d y) h2) := p
    show Post k F H _ _ (((fb env h1).bind fun y h2 => (aNil env h2).bind fun xs h3 => .ok (y :: xs) h3).bind fun xs h2 => .ok (d :: xs) h2)
    cases e' : fb env h1 with
    | bad => rw [e'] at p; exact p.elim
    | exc x h2 => rw [e'] at p; exact p
    | ok d' h2 =>
      rw [e'] at p
      intro F' H' s r vs dvs
      obtain ⟨src, e2, q⟩ := Post.ofOpt (Post.step p s) r
      unfold DVs at dvs
      obtain ⟨v, w, rfl, d1, d2⟩ := dvs
      unfold DVs at d2
      obtain ⟨v', w', rfl, d3, d4⟩ := d2
      unfold DVs at d4
      subst d4
      unfold zipOf at e2
      split at e2
      · rename_i s1 s2 z1 z2
        cases e2
        obtain ⟨a, rfl, ⟨ws, hq⟩, l, _⟩ := ls_at r d1 z1
        obtain ⟨a', rfl, ⟨ws', hq'⟩, l', _⟩ := ls_at r d3 z2
        exact ⟨a, a', ws, ws', rfl, .inl (by rw [hK]; exact ⟨hq, hq', q _ (jr_zip l l')⟩)⟩
      · split at e2
        · rename_i s1 s2 z1 z2
          cases e2
          unfold srcT at z1 z2
          split at z1
          · split at z2
            · cases z1; cases z2
              unfold DV at d1 d3
              obtain ⟨a, us, rfl, q1, dv1⟩ := d1
              obtain ⟨a', us', rfl, q2, dv2⟩ := d3
              exact ⟨a, a', us, us', rfl, .inr (by rw [hK]; exact ⟨SqT.of q1, SqT.of q2, q _ (jr_zipT q1 q2 dv1 dv2)⟩)⟩
            · cases z2
          · cases z1
        · cases e2
theorem mi_rev {p1 : Pos} (hK : X.K = k.K) (hg : Gl X "reversed") (hm : X.mg "reversed" = none) (ha : PE X a (tE k W fa)) (hs : starEach [a] X.env = (false, eval a X.env) :: starEach [] X.env) : PI X tg (.Call (.Name "reversed" p1) [a] [] pos) (tI k W (revS fa)) := by
  refine PI.imp (RT.pi_revA hg hm ha hs) fun σ H R p => ?_
  obtain ⟨F, h, env, sr, p⟩ := p
  refine ⟨F, h, env, sr, p.bind.imp (fun d F' h' H' st rl q v dv => ?_) fun _ _ _ x => x⟩
  obtain ⟨src, e, q⟩ := Post.ofOpt q rl
  cases d with
  | tup xs =>
    cases e
    unfold DV at dv
    obtain ⟨a, us, rfl, q1, dv1⟩ := dv
    exact ⟨a, us, rfl, .inr (by rw [hK]; exact ⟨SqT.of q1, q _ (jr_revT q1 dv1)⟩)⟩
  | ls xs =>
    cases e
    unfold DV at dv
    obtain ⟨a, us, rfl, q1, dv1⟩ := dv
    exact ⟨a, us, rfl, .inl (by rw [hK]; exact ⟨q1.sq, q _ (jr_revL q1 dv1)⟩)⟩
  | ref n =>
    have e : (match h'[n]? with | some (.lst xs) => some (revCel n xs.length) | _ => none) = some src := e
    cases e1 : h'[n]? with
    | none => rw [e1] at e; cases e
    | some c =>
      rw [e1] at e
      cases c with
      | lst xs =>
        cases e
        obtain ⟨a, us, rfl, hf, hl, dvs⟩ := rl.lst e1 dv
        refine ⟨a, us, rfl, .inl ⟨by rw [hK]; exact SqL.of hl, ?_⟩⟩
        rw [hK]
        refine q _ fun F2 h2 H2 i s2 r2 => ⟨fun e => ?_, fun d e => ?_⟩
        · show us.length ≤ i
          rw [← dvs.len]
          unfold revCel at e
          by_cases c : i < xs.length
          · simp only [if_pos c] at e
            split at e
            · rename_i ys _
              cases e4 : ys[xs.length - 1 - i]? with
              | none => rw [e4] at e; cases e
              | some y => rw [e4] at e; cases e
            · cases e
          · omega
        · unfold revCel at e
          by_cases c : i < xs.length
          · simp only [if_pos c] at e
            split at e
            · rename_i ys e2
              cases e4 : ys[xs.length - 1 - i]? with
              | none => rw [e4] at e; cases e
              | some y =>
                rw [e4] at e; cases e
                obtain ⟨ws, q2, d2⟩ := r2.cell n _ a e2 (s2.get hf)
                obtain ⟨w, ew, dw⟩ := d2.get e4
                rw [dvs.len] at ew
                refine ⟨⟨by rw [← dvs.len]; exact c, ws, w, SqL.of q2, ew⟩, fun x H'' y => ?_⟩
                obtain ⟨rfl, y⟩ := y
                have z := y ws (SqL.of q2)
                rw [ew] at z; cases z
                exact ⟨.refl, r2, dw⟩
            · cases e
          · simp only [if_neg c] at e; cases e
      | _ => cases e
  | _ => cases e
end
/-! M8: statements. -/
open PySem PySem.Spec PyProof.Rows L2

abbrev Sf := Env → Hs → Fl
def Fl.nxt (f : Fl) (g : Sf) : Fl := match f with
  | .nx env h => g env h
  | f => f
def Res.fl {α : Type} (r : Res α) (env : Env) (f : α → Hs → Fl) : Fl := match r with
  | .ok a h => f a h
  | .exc e h => .exc e env h
  | .bad => .bad
section
variable {α : Type}
@[simp] theorem Res.fl_ok (a : α) (h : Hs) (env : Env) (f : α → Hs → Fl) : (Res.ok a h).fl env f = f a h := rfl
@[simp] theorem Res.fl_exc (e : Ex) (h : Hs) (env : Env) (f : α → Hs → Fl) : (Res.exc e h : Res α).fl env f = .exc e env h := rfl
@[simp] theorem Res.fl_bad (env : Env) (f : α → Hs → Fl) : (Res.bad : Res α).fl env f = .bad := rfl
@[simp] theorem Fl.nxt_nx (env : Env) (h : Hs) (g : Sf) : (Fl.nx env h).nxt g = g env h := rfl
@[simp] theorem Fl.nxt_rt (d : D) (h : Hs) (g : Sf) : (Fl.rt d h).nxt g = .rt d h := rfl
@[simp] theorem Fl.nxt_bk (env : Env) (h : Hs) (g : Sf) : (Fl.bk env h).nxt g = .bk env h := rfl
@[simp] theorem Fl.nxt_ct (env : Env) (h : Hs) (g : Sf) : (Fl.ct env h).nxt g = .ct env h := rfl
@[simp] theorem Fl.nxt_exc (e : Ex) (env : Env) (h : Hs) (g : Sf) : (Fl.exc e env h).nxt g = .exc e env h := rfl
@[simp] theorem Fl.nxt_bad (g : Sf) : Fl.bad.nxt g = .bad := rfl
end
def nextF : Sf := fun env h => .nx env h
def seqF (s t : Sf) : Sf := fun env h => (s env h).nxt t
def dropF (a : Ev) : Sf := fun env h => (a env h).fl env fun _ h1 => .nx env h1
def retF (a : Ev) : Sf := fun env h => (a env h).fl env fun d h1 => .rt d h1
def retNF : Sf := fun _ h => .rt .non h
def bkF : Sf := fun env h => .bk env h
def ctF : Sf := fun env h => .ct env h
def ifF (c : Ev) (s t : Sf) : Sf := fun env h => (tst c env h).fl env fun b h1 => if b then s env h1 else t env h1
def asgF (a : Ev) (g : Gv) : Sf := fun env h => (a env h).fl env fun d h1 => (g d env h1).fl env fun env' h2 => .nx env' h2
def parSet : List Nat → List D → Env → Option Env
  | [], [], env => some env
  | i :: is, d :: ds, env => parSet is ds (env.set i (some d))
  | _, _, _ => none
/-- a, b = x, y of plain locals -/
def parF (is : List Nat) (as : Av) : Sf := fun env h => (as env h).fl env fun ds h1 => match parSet is ds env with
  | some env' => .nx env' h1
  | none => .bad
def augF (i : Nat) (a : Ev) (g : Hs → D → D → Res D) : Sf := fun env h => match env[i]? with
  | some (some x) => (a env h).fl env fun y h1 => (g h1 x y).fl env fun z h2 => .nx (env.set i (some z)) h2
  | _ => .bad
section
variable {X : Cx} {k : Kx} {W : WX} {pos : Pos} {e : Expr} {fa : Ev} {st : Stmt} {rest : List Stmt} {fs ft : Sf}
/-- a statement's end by a part's -/
theorem fl_post {α : Type} {F H h σ env} {N : Ends} {r : Res α} {f : α → Hs → Fl} (sr : SR k F H h σ env) (p : PostF k F H N W (r.fl env f)) : Post k F H (fun a F' h' H' => Step k.K F H F' H' ∧ RelH k F' H' h' ∧ PostF k F' H' N W (f a h')) (fun c d H' => W c d σ H') r := by
  cases r with
  | ok a h1 => exact fun F' H' s r => ⟨s, r, PostF.step (fl := f a h1) p s⟩
  | exc x h1 => exact fun F' H' cls dx s r xr => p F' H' σ cls dx s r (sr.er.mono s) xr
  | bad => exact p
theorem ms_nil : PSs X [] (tS k W nextF) := PSs.imp pss_nil fun N σ H p => by
  obtain ⟨F, h, env, sr, p⟩ := p
  exact p F H σ .refl sr.rel sr.er
theorem ms_cons (h1 : PS X st (tS k W fs)) (h2 : PSs X rest (tS k W ft)) : PSs X (st :: rest) (tS k W (seqF fs ft)) := by
  refine PSs.imp (pss_cons h1 h2) fun N σ H p => ?_
  obtain ⟨F, h, env, sr, p⟩ := p
  refine ⟨F, h, env, sr, ?_⟩
  have p : PostF k F H N W ((fs env h).nxt ft) := p
  cases e : fs env h with
  | nx env' h' =>
    rw [e] at p
    exact fun F' H' σ' s r er => ⟨F', h', env', ⟨r, er, sr.xd.mono s⟩, PostF.step (fl := ft env' h') p s⟩
  | rt d h' => rw [e] at p; exact p
  | bk env' h' => rw [e] at p; exact p
  | ct env' h' => rw [e] at p; exact p
  | exc x env' h' => rw [e] at p; exact p
  | bad => rw [e] at p; exact p
theorem ms_one (h1 : PS X st (tS k W fs)) : PSs X [st] (tS k W fs) := pss_one h1
theorem ms_pass : PS X (.Pass pos) (tS k W nextF) := PS.imp ps_pass fun N σ H p => by
  obtain ⟨F, h, env, sr, p⟩ := p
  exact p F H σ .refl sr.rel sr.er
theorem ms_break : PS X (.Break pos) (tS k W bkF) := PS.imp ps_break fun N σ H p => by
  obtain ⟨F, h, env, sr, p⟩ := p
  exact p F H σ .refl sr.rel sr.er
theorem ms_continue : PS X (.Continue pos) (tS k W ctF) := PS.imp ps_continue fun N σ H p => by
  obtain ⟨F, h, env, sr, p⟩ := p
  exact p F H σ .refl sr.rel sr.er
theorem ms_expr (he : PE X e (tE k W fa)) (hs : swapsWith e none pos.line X.env = pure false) : PS X (.Expr e pos) (tS k W (dropF fa)) := PS.imp (ps_expr he hs) fun N σ H p => by
  obtain ⟨F, h, env, sr, p⟩ := p
  exact ⟨F, h, env, sr, (fl_post sr p).imp (fun d F' h' H' _ _ q v dv => q.2.2 F' H' σ .refl q.2.1 (sr.er.mono q.1)) fun _ _ _ x => x⟩
theorem ms_ret (he : PE X e (tE k W fa)) : PS X (.Return (some e) pos) (tS k W (retF fa)) := PS.imp (ps_ret he) fun N σ H p => by
  obtain ⟨F, h, env, sr, p⟩ := p
  exact ⟨F, h, env, sr, (fl_post sr p).imp (fun d F' h' H' _ _ q v dv => q.2.2 F' H' v .refl q.2.1 dv) fun _ _ _ x => x⟩
theorem ms_retN : PS X (.Return none pos) (tS k W retNF) := PS.imp ps_retN fun N σ H p => by
  obtain ⟨F, h, env, sr, p⟩ := p
  exact p F H .non .refl sr.rel (by unfold DV; rfl)
theorem ms_if {c : Expr} {fc : Ev} {a b : List Stmt} (hc : PT X c (tT k W (tst fc))) (ha : PSs X a (tS k W fs)) (hb : PSs X b (tS k W ft)) : PS X (.If c a b pos) (tS k W (ifF fc fs ft)) := PS.imp (ps_if hc ha hb) fun N σ H p => by
  obtain ⟨F, h, env, sr, p⟩ := p
  refine ⟨F, h, env, sr, (fl_post sr p).imp (fun b F' h' H' _ _ q => ?_) fun _ _ _ x => x⟩
  obtain ⟨s, r, q⟩ := q
  cases b with
  | true => exact ⟨F', h', env, sr.step s r, q⟩
  | false => exact ⟨F', h', env, sr.step s r, q⟩
theorem ms_asg {tg : Expr} {g : Gv} (he : PE X e (tE k W fa)) (hg : PG X tg (tG k W g)) (hs : swapsWithSole [tg] e pos.line X.env = pure false) (hw : swappedStores [tg] e X.env = pure none)
    (h1 : (assignEach [tg] X.env).map (·.2) = [assign tg X.env]) : PS X (.Assign [tg] e pos) (tS k W (asgF fa g)) := PS.imp (ps_asg he hg hs hw h1) fun N σ H p => by
  obtain ⟨F, h, env, sr, p⟩ := p
  refine ⟨F, h, env, sr, (fl_post sr p).imp (fun d F' h' H' _ _ q v dv => ?_) fun _ _ _ x => x⟩
  obtain ⟨s, r, q⟩ := q
  have sr' := sr.step s r
  exact ⟨F', h', env, d, sr', dv, (fl_post sr' q).imp (fun env' F2 h2 H2 _ _ q σ' er => q.2.2 F2 H2 σ' .refl q.2.1 er) fun _ _ _ x => x⟩
theorem ms_par {i j : Nat} {x y : Str} {a b : Expr} {fr : Av} {px py pt : Pos} {kt k2 pt2} (hc : X.calm = true) (hN : X.N.Nodup) (hi : X.N[i]? = some x) (hj : X.N[j]? = some y) (hij : i ≠ j)
    (hx : X.env.scope.names.lookup x = some .local) (hy : X.env.scope.names.lookup y = some .local) (ha : PA X [a, b] (tA k W fr))
    (hw : swappedStores [.Tuple [.Name x px, .Name y py] kt pt] (.Tuple [a, b] k2 pt2) X.env = pure (some [x, y]))
    (hs : swapsWithSole [.Tuple [.Name x px, .Name y py] kt pt] (.Tuple [a, b] k2 pt2) pos.line X.env = pure false) :
    PS X (.Assign [.Tuple [.Name x px, .Name y py] kt pt] (.Tuple [a, b] k2 pt2) pos) (tS k W (parF [i, j] fr)) := PS.imp (ps_par hc hN hi hj hij hx hy ha hw hs) fun N σ H p => by
  obtain ⟨F, h, env, sr, p⟩ := p
  refine ⟨F, h, env, sr, (fl_post sr p).imp (fun ds F' h' H' _ _ q vs dvs => ?_) fun _ _ _ x => x⟩
  obtain ⟨s, r, q⟩ := q
  have sr' := sr.step s r
  match ds, q with
  | [d, e], q =>
    unfold DVs at dvs
    obtain ⟨v, w, rfl, d1, d2⟩ := dvs
    unfold DVs at d2
    obtain ⟨v', w', rfl, d3, d4⟩ := d2
    unfold DVs at d4
    subst d4
    exact ⟨v, v', rfl, q F' H' _ .refl r ((sr'.er.set i d1).set j d3)⟩
  | [], q => exact q.elim
  | [_], q => exact q.elim
  | _ :: _ :: _ :: _, q => exact q.elim
theorem ms_par3 {i j l : Nat} {x y z : Str} {a b c : Expr} {fr : Av} {px py pz pt pos : Pos} {kt k2 pt2} (hc : X.calm = true) (hN : X.N.Nodup) (hi : X.N[i]? = some x) (hj : X.N[j]? = some y) (hl : X.N[l]? = some z) (hij : i ≠ j) (hil : i ≠ l) (hjl : j ≠ l)
    (hx : X.env.scope.names.lookup x = some .local) (hy : X.env.scope.names.lookup y = some .local) (hz : X.env.scope.names.lookup z = some .local) (ha : PA X [a, b, c] (tA k W fr))
    (hw : swappedStores [.Tuple [.Name x px, .Name y py, .Name z pz] kt pt] (.Tuple [a, b, c] k2 pt2) X.env = pure (some [x, y, z]))
    (hs : swapsWithSole [.Tuple [.Name x px, .Name y py, .Name z pz] kt pt] (.Tuple [a, b, c] k2 pt2) pos.line X.env = pure false) :
    PS X (.Assign [.Tuple [.Name x px, .Name y py, .Name z pz] kt pt] (.Tuple [a, b, c] k2 pt2) pos) (tS k W (parF [i, j, l] fr)) := PS.imp (ps_par3 hc hN hi hj hl hij hil hjl hx hy hz ha hw hs) fun N σ H p => by
  obtain ⟨F, h, env, sr, p⟩ := p
  refine ⟨F, h, env, sr, (fl_post sr p).imp (fun ds F' h' H' _ _ q vs dvs => ?_) fun _ _ _ x => x⟩
  obtain ⟨s, r, q⟩ := q
  have sr' := sr.step s r
  match ds, q with
  | [d, e, f], q =>
    unfold DVs at dvs
    obtain ⟨v, w, rfl, d1, d2⟩ := dvs
    unfold DVs at d2
    obtain ⟨v', w', rfl, d3, d4⟩ := d2
    unfold DVs at d4
    obtain ⟨v2, w2, rfl, d5, d6⟩ := d4
    unfold DVs at d6
    subst d6
    exact ⟨v, v', v2, rfl, q F' H' _ .refl r (((sr'.er.set i d1).set j d3).set l d5)⟩
  | [], q => exact q.elim
  | [_], q => exact q.elim
  | [_, _], q => exact q.elim
  | _ :: _ :: _ :: _ :: _, q => exact q.elim
end

/-! ### loops -/
def forStep (src : Src) (t : Tg) (b els : Sf) : Nat × Env × Hs → (Nat × Env × Hs) ⊕ Fl := fun s => match src.nxt s.1 s.2.2 with
  | none => .inr .bad
  | some none => .inr (els s.2.1 s.2.2)
  | some (some d) => match asgT t d s.2.1 s.2.2 with
    | .ok env1 h1 => match b env1 h1 with
      | .nx env2 h2 => .inl (s.1 + 1, env2, h2)
      | .ct env2 h2 => .inl (s.1 + 1, env2, h2)
      | .bk env2 h2 => .inr (.nx env2 h2)
      | .rt d h2 => .inr (.rt d h2)
      | .exc e env2 h2 => .inr (.exc e env2 h2)
      | .bad => .inr .bad
    | _ => .inr .bad
noncomputable def forF (s : Sv) (t : Tg) (b els : Sf) : Sf := fun env h => (s env h).fl env fun src h1 => iter (forStep src t b els) .bad (0, env, h1)
def whStep (c : Ev) (b els : Sf) : Env × Hs → (Env × Hs) ⊕ Fl := fun s => match tst c s.1 s.2 with
  | .ok true h1 => match b s.1 h1 with
    | .nx env2 h2 => .inl (env2, h2)
    | .ct env2 h2 => .inl (env2, h2)
    | .bk env2 h2 => .inr (.nx env2 h2)
    | .rt d h2 => .inr (.rt d h2)
    | .exc e env2 h2 => .inr (.exc e env2 h2)
    | .bad => .inr .bad
  | .ok false h1 => .inr (els s.1 h1)
  | .exc e h1 => .inr (.exc e s.1 h1)
  | .bad => .inr .bad
noncomputable def whF (c : Ev) (b els : Sf) : Sf := fun env h => iter (whStep c b els) .bad (env, h)
section
variable {X : Cx} {k : Kx} {W : WX} {pos : Pos}
theorem PostF.good {F H N fl} (p : PostF k F H N W fl) : fl ≠ .bad := fun e => by rw [e] at p; exact p
theorem ms_for {tg ite : Expr} {body orelse : List Stmt} {fi : Sv} {t : Tg} {fb fo : Sf} {W0 : WX} (hp : PassesOwn (model X.prog X.w) X.A X.env X.xe) (hc : X.calm = true) (hi : PI X tg ite (tI k W fi)) (hg : PG X tg (tG k W (asgT t))) (hb : PSs X body (tS k W fb)) (ho : PSs X orelse (tS k W fo))
    (hs : ∀ x, foldedSetIterable ite X.env x = pure x) : PS X (.For tg ite body orelse pos) (tS k W (forF fi t fb fo)) := PS.imp (ps_forE hp hc hi hg hb ho hs) fun N σ H p => by
  obtain ⟨F, h, env, sr, p⟩ := p
  refine ⟨F, h, env, sr, (fl_post sr p).imp (fun src F' h' H' _ _ q J jr => ?_) fun _ _ _ x => x⟩
  obtain ⟨s, r, q⟩ := q
  obtain ⟨m, hm⟩ := iter_good q.good
  generalize iter (forStep src t fb fo) .bad (0, env, h') = fl at q hm
  refine ⟨fun i m σ2 H2 => ∃ F2 h2 env2, Step k.K F' H' F2 H2 ∧ SR k F2 H2 h2 σ2 env2 ∧ iterN (forStep src t fb fo) m (i, env2, h2) = some fl, ⟨m, F', h', env, .refl, sr.step s r, hm⟩, ?_⟩
  rintro i m σ2 H2 ⟨F2, h2, env2, s2, sr2, hm⟩
  cases m with
  | zero => cases hm
  | succ m =>
    unfold iterN at hm
    have jr2 := jr F2 h2 H2 i s2 sr2.rel
    cases e : src.nxt i h2 with
    | none =>
      have : forStep src t fb fo (i, env2, h2) = .inr .bad := by unfold forStep; rw [e]
      rw [this] at hm; cases hm
      exact q.elim
    | some o =>
      cases o with
      | none =>
        have : forStep src t fb fo (i, env2, h2) = .inr (fo env2 h2) := by unfold forStep; rw [e]
        rw [this] at hm; cases hm
        exact .inl ⟨jr2.1 e, F2, h2, env2, sr2, q.step s2⟩
      | some d =>
        obtain ⟨jg, jy⟩ := jr2.2 d e
        refine .inr ⟨jg, fun σ' H' => ∃ F3 h3 env3, Step k.K F' _ F3 H' ∧ SR k F3 H' h3 σ' env3 ∧ iterN (forStep src t fb fo) m (i + 1, env3, h3) = some fl, fun σ' H' z => ⟨m, Nat.lt_succ_self m, z⟩, fun x H3 y => ?_⟩
        obtain ⟨s3, r3, dv⟩ := jy x H3 y
        have sr3 := sr2.step s3 r3
        refine ⟨F2, h2, env2, d, sr3, dv, ?_⟩
        cases ea : asgT t d env2 h2 with
        | bad =>
          have : forStep src t fb fo (i, env2, h2) = .inr .bad := by unfold forStep; rw [e]; show (match asgT t d env2 h2 with | .ok env1 h1 => _ | _ => _) = _; rw [ea]
          rw [this] at hm; cases hm
          exact q.elim
        | exc x h4 => exact absurd ea (asgT_ne _ _ _ _ _ _)
        | ok env4 h4 =>
          intro F4 H4 s4 r4 σ4 er4
          refine ⟨F4, h4, env4, ⟨r4, er4, sr3.xd.mono s4⟩, ?_⟩
          have st4 : Step k.K F' H' F4 H4 := (s2.trans s3).trans s4
          have ef : forStep src t fb fo (i, env2, h2) = match fb env4 h4 with
              | .nx env2 h2 => .inl (i + 1, env2, h2)
              | .ct env2 h2 => .inl (i + 1, env2, h2)
              | .bk env2 h2 => .inr (.nx env2 h2)
              | .rt d h2 => .inr (.rt d h2)
              | .exc e env2 h2 => .inr (.exc e env2 h2)
              | .bad => .inr .bad := by unfold forStep; rw [e]; show (match asgT t d env2 h2 with | .ok env1 h1 => _ | _ => _) = _; rw [ea]
          rw [ef] at hm
          have xd4 := sr3.xd.mono s4
          cases eb : fb env4 h4 with
          | nx env5 h5 => rw [eb] at hm; exact fun F5 H5 σ5 s5 r5 er5 => ⟨F5, h5, env5, st4.trans s5, ⟨r5, er5, xd4.mono s5⟩, hm⟩
          | ct env5 h5 => rw [eb] at hm; exact fun F5 H5 σ5 s5 r5 er5 => ⟨F5, h5, env5, st4.trans s5, ⟨r5, er5, xd4.mono s5⟩, hm⟩
          | bk env5 h5 => rw [eb] at hm; cases hm; exact fun F5 H5 σ5 s5 => q F5 H5 σ5 (st4.trans s5)
          | rt d h5 => rw [eb] at hm; cases hm; exact fun F5 H5 v s5 => q F5 H5 v (st4.trans s5)
          | exc x env5 h5 => rw [eb] at hm; cases hm; exact fun F5 H5 σ5 cls dx s5 => q F5 H5 σ5 cls dx (st4.trans s5)
          | bad => rw [eb] at hm; cases hm; exact q.elim
theorem ms_while {c : Expr} {body orelse : List Stmt} {fc : Ev} {fb fo : Sf} (hp : PassesOwn (model X.prog X.w) X.A X.env X.xe) (hc : PT X c (tT k W (tst fc))) (hb : PSs X body (tS k W fb)) (ho : PSs X orelse (tS k W fo)) : PS X (.While c body orelse pos) (tS k W (whF fc fb fo)) := PS.imp (ps_whileE hp hc hb ho) fun N σ H p => by
  obtain ⟨F, h, env, sr, q⟩ := p
  have q : PostF k F H N W (iter (whStep fc fb fo) .bad (env, h)) := q
  obtain ⟨m, hm⟩ := iter_good q.good
  generalize iter (whStep fc fb fo) .bad (env, h) = fl at q hm
  refine ⟨fun m σ2 H2 => ∃ F2 h2 env2, Step k.K F H F2 H2 ∧ SR k F2 H2 h2 σ2 env2 ∧ iterN (whStep fc fb fo) m (env2, h2) = some fl, ⟨m, F, h, env, .refl, sr, hm⟩, ?_⟩
  rintro m σ2 H2 ⟨F2, h2, env2, s2, sr2, hm⟩
  cases m with
  | zero => cases hm
  | succ m =>
    unfold iterN at hm
    refine ⟨F2, h2, env2, sr2, ?_⟩
    cases e : tst fc env2 h2 with
    | bad =>
      have : whStep fc fb fo (env2, h2) = .inr .bad := by unfold whStep; rw [e]
      rw [this] at hm; cases hm
      exact q.elim
    | exc x h3 =>
      have : whStep fc fb fo (env2, h2) = .inr (.exc x env2 h3) := by unfold whStep; rw [e]
      rw [this] at hm; cases hm
      exact fun F' H' cls dx s r xr => q F' H' σ2 cls dx (s2.trans s) r (sr2.er.mono s) xr
    | ok b h3 =>
      intro F3 H3 s3 r3
      have sr3 := sr2.step s3 r3
      cases b with
      | false =>
        have : whStep fc fb fo (env2, h2) = .inr (fo env2 h3) := by unfold whStep; rw [e]
        rw [this] at hm; cases hm
        exact ⟨F3, h3, env2, sr3, q.step (s2.trans s3)⟩
      | true =>
        refine ⟨fun σ' H' => ∃ F4 h4 env4, Step k.K F H F4 H' ∧ SR k F4 H' h4 σ' env4 ∧ iterN (whStep fc fb fo) m (env4, h4) = some fl, fun σ' H' z => ⟨m, Nat.lt_succ_self m, z⟩, F3, h3, env2, sr3, ?_⟩
        have st3 := s2.trans s3
        have ef : whStep fc fb fo (env2, h2) = match fb env2 h3 with
            | .nx env2 h2 => .inl (env2, h2)
            | .ct env2 h2 => .inl (env2, h2)
            | .bk env2 h2 => .inr (.nx env2 h2)
            | .rt d h2 => .inr (.rt d h2)
            | .exc e env2 h2 => .inr (.exc e env2 h2)
            | .bad => .inr .bad := by unfold whStep; rw [e]
        rw [ef] at hm
        cases eb : fb env2 h3 with
        | nx env5 h5 => rw [eb] at hm; exact fun F5 H5 σ5 s5 r5 er5 => ⟨F5, h5, env5, st3.trans s5, ⟨r5, er5, sr3.xd.mono s5⟩, hm⟩
        | ct env5 h5 => rw [eb] at hm; exact fun F5 H5 σ5 s5 r5 er5 => ⟨F5, h5, env5, st3.trans s5, ⟨r5, er5, sr3.xd.mono s5⟩, hm⟩
        | bk env5 h5 => rw [eb] at hm; cases hm; exact fun F5 H5 σ5 s5 => q F5 H5 σ5 (st3.trans s5)
        | rt d h5 => rw [eb] at hm; cases hm; exact fun F5 H5 v s5 => q F5 H5 v (st3.trans s5)
        | exc x env5 h5 => rw [eb] at hm; cases hm; exact fun F5 H5 σ5 cls dx s5 => q F5 H5 σ5 cls dx (st3.trans s5)
        | bad => rw [eb] at hm; cases hm; exact q.elim
end
/-! M9: list comprehensions. -/
open PySem PySem.Spec PyProof.Rows L2

/-! ### a list that nobody knows grows -/
section
variable {K : PySem.W.Frag} {F : List Addr} {H H' : Hp}
mutual
theorem DV.grow (ht : ∀ a xs, H a = some (.tup xs) → H' a = some (.tup xs)) (hl : ∀ a xs, SqR K H a xs → SqR K H' a xs) : ∀ (d : D) (v : V), DV K F H d v → DV K F H' d v
  | .non, _, h => by unfold DV at h ⊢; exact h
  | .bl _, _, h => by unfold DV at h ⊢; exact h
  | .int _, _, h => by unfold DV at h ⊢; exact h
  | .str _, _, h => by unfold DV at h ⊢; exact h
  | .tup ds, v, h => by
    unfold DV at h ⊢
    obtain ⟨a, vs, e, q, r⟩ := h
    exact ⟨a, vs, e, ht _ _ q, DVs.grow ht hl ds vs r⟩
  | .ls ds, v, h => by
    unfold DV at h ⊢
    obtain ⟨a, vs, e, q, r⟩ := h
    exact ⟨a, vs, e, hl _ _ q, DVs.grow ht hl ds vs r⟩
  | .ref n, v, h => by
    unfold DV at h ⊢
    exact h
theorem DVs.grow (ht : ∀ a xs, H a = some (.tup xs) → H' a = some (.tup xs)) (hl : ∀ a xs, SqR K H a xs → SqR K H' a xs) : ∀ (ds : List D) (vs : List V), DVs K F H ds vs → DVs K F H' ds vs
  | [], _, h => by unfold DVs at h ⊢; exact h
  | d :: ds, vs, h => by
    unfold DVs at h ⊢
    obtain ⟨v, r, e, h1, h2⟩ := h
    exact ⟨v, r, e, DV.grow ht hl d v h1, DVs.grow ht hl ds r h2⟩
end
theorem DFs.grow (ht : ∀ a xs, H a = some (.tup xs) → H' a = some (.tup xs)) (hl : ∀ a xs, SqR K H a xs → SqR K H' a xs) : ∀ (ds : List (Str × D)) (vs : List (Str × V)), DFs K F H ds vs → DFs K F H' ds vs
  | [], _, h => h
  | (n, d) :: ds, vs, h => by
    obtain ⟨v, r, e, h1, h2⟩ := h
    exact ⟨v, r, e, DV.grow ht hl d v h1, DFs.grow ht hl ds r h2⟩
end
/-- what can be written by one who alone knows it -/
def Soft (o : HO) : Prop := (∀ ys, o ≠ .tup ys) ∧ ∀ ob ys, o ≠ .frz ob (.lst ys)
theorem soft_lst {xs : List V} : Soft (.lst xs) := ⟨fun _ z => (nomatch z), fun _ _ z => (nomatch z)⟩
theorem soft_dK {xs : List (Key × V)} : Soft (.dK xs) := ⟨fun _ z => (nomatch z), fun _ _ z => (nomatch z)⟩
section
variable {k : Kx} {F : List Addr} {H : Hp} {h : Hs} {p : Addr} {o o' : HO}
theorem grow_t (e : H p = some o) (sf : Soft o) : ∀ a zs, H a = some (.tup zs) → upd H p o' a = some (.tup zs) := fun a zs => Tp.upd fun u e' => by
  rw [e] at e'; cases e'
  exact sf.1
theorem grow_l (e : H p = some o) (sf : Soft o) : ∀ a zs, SqR k.K H a zs → SqR k.K (upd H p o') a zs := fun a zs => SqR.upd fun u e' => by
  rw [e] at e'; cases e'
  exact sf.2
theorem RelH.grow (r : RelH k F H h) (hp : p ∉ F) (e : H p = some o) (sf : Soft o) : RelH k F (upd H p o') h := by
  refine ⟨r.len, r.nd, fun i c a e1 e2 => ?_⟩
  have c0 := r.cell i c a e1 e2
  have ne : a ≠ p := fun q => hp (q ▸ List.mem_of_getElem? e2)
  have hu : (upd H p o') a = H a := upd_ne ne
  cases c with
  | lst zs => obtain ⟨vs, q, d⟩ := c0; exact ⟨vs, hu.trans q, DVs.grow (grow_t e sf) (grow_l e sf) _ _ d⟩
  | dic t lk kvs =>
    obtain ⟨ob, d, q⟩ := c0
    refine ⟨ob, ?_, by rw [hu]; exact q⟩
    cases t with
    | false => obtain ⟨l, eo, p⟩ := d; exact ⟨l, eo, Paired.mapP p fun _ _ q => ⟨q.1, q.2.1, DV.grow (grow_t e sf) (grow_l e sf) _ _ q.2.2⟩⟩
    | true => obtain ⟨l, eo, p⟩ := d; exact ⟨l, eo, Paired.mapP p fun _ _ q => ⟨q.1, q.2.1, DV.grow (grow_t e sf) (grow_l e sf) _ _ q.2.2⟩⟩
  | ins c fs => obtain ⟨C, dx, vs, m, q, d⟩ := c0; exact ⟨C, dx, vs, m, hu.trans q, DFs.grow (grow_t e sf) (grow_l e sf) _ _ d⟩
/-- behind the start H0, where nobody knew p -/
theorem Step.grow {F0 : List Addr} {H0 : Hp} (s : Step k.K F0 H0 F H) (h0 : H0 p = none) (e : H p = some o) (sf : Soft o) : Step k.K F0 H0 F (upd H p o') where
  pre := s.pre
  old := fun a o q n => by rw [upd_ne (ne_of_none q h0)]; exact s.old a o q n
  new := s.new
  tup := fun a zs q => grow_t e sf a zs (s.tup a zs q)
  lsr := fun a zs q => grow_l e sf a zs (s.lsr a zs q)
/-- the list comes to light -/
theorem Step.known {F0 : List Addr} {H0 : Hp} (s : Step k.K F0 H0 F H) (h0 : H0 p = none) : Step k.K F0 H0 (F ++ [p]) H where
  pre := let ⟨G, e⟩ := s.pre; ⟨G ++ [p], by rw [e, List.append_assoc]⟩
  old := s.old
  new := fun a m n => by
    rcases List.mem_append.mp m with m | m
    · exact s.new a m n
    · rw [List.mem_singleton.mp m]; exact h0
  tup := s.tup
  lsr := s.lsr
mutual
theorem DV.more {K : PySem.W.Frag} {F G : List Addr} {H : Hp} : ∀ (d : D) (v : V), DV K F H d v → DV K (F ++ G) H d v
  | .non, _, h => by unfold DV at h ⊢; exact h
  | .bl _, _, h => by unfold DV at h ⊢; exact h
  | .int _, _, h => by unfold DV at h ⊢; exact h
  | .str _, _, h => by unfold DV at h ⊢; exact h
  | .tup ds, v, h => by
    unfold DV at h ⊢
    obtain ⟨a, vs, e, q, r⟩ := h
    exact ⟨a, vs, e, q, DVs.more ds vs r⟩
  | .ls ds, v, h => by
    unfold DV at h ⊢
    obtain ⟨a, vs, e, q, r⟩ := h
    exact ⟨a, vs, e, q, DVs.more ds vs r⟩
  | .ref n, v, h => by
    unfold DV at h ⊢
    obtain ⟨a, e, q⟩ := h
    exact ⟨a, e, by rw [List.getElem?_append_left (List.getElem?_eq_some_iff.mp q).1]; exact q⟩
theorem DVs.more {K : PySem.W.Frag} {F G : List Addr} {H : Hp} : ∀ (ds : List D) (vs : List V), DVs K F H ds vs → DVs K (F ++ G) H ds vs
  | [], _, h => by unfold DVs at h ⊢; exact h
  | d :: ds, vs, h => by
    unfold DVs at h ⊢
    obtain ⟨v, r, e, h1, h2⟩ := h
    exact ⟨v, r, e, DV.more d v h1, DVs.more ds r h2⟩
end
theorem DFs.more {K : PySem.W.Frag} {F G : List Addr} {H : Hp} : ∀ (ds : List (Str × D)) (vs : List (Str × V)), DFs K F H ds vs → DFs K (F ++ G) H ds vs
  | [], _, h => h
  | (n, d) :: ds, vs, h => by
    obtain ⟨v, r, e, h1, h2⟩ := h
    exact ⟨v, r, e, DV.more d v h1, DFs.more ds r h2⟩
theorem CellR.more {k : Kx} {F G : List Addr} {H : Hp} {a : Addr} : ∀ {c : Cell}, CellR k F H a c → CellR k (F ++ G) H a c
  | .lst xs, ⟨vs, q, d⟩ => ⟨vs, q, DVs.more _ _ d⟩
  | .dic t lk kvs, ⟨o, d, q⟩ => by
    refine ⟨o, ?_, q⟩
    cases t with
    | false => obtain ⟨l, eo, p⟩ := d; exact ⟨l, eo, Paired.mapP p fun _ _ q => ⟨q.1, q.2.1, DV.more _ _ q.2.2⟩⟩
    | true => obtain ⟨l, eo, p⟩ := d; exact ⟨l, eo, Paired.mapP p fun _ _ q => ⟨q.1, q.2.1, DV.more _ _ q.2.2⟩⟩
  | .ins c fs, ⟨C, dx, vs, m, q, d⟩ => ⟨C, dx, vs, m, q, DFs.more _ _ d⟩
theorem RelH.known {c : Cell} (r : RelH k F H h) (hp : p ∉ F) (hc : CellR k (F ++ [p]) H p c) : RelH k (F ++ [p]) H (h ++ [c]) := by
  refine ⟨by simp [r.len], ?_, fun i c' a e1 e2 => ?_⟩
  · refine List.nodup_append.mpr ⟨r.nd, by simp, fun a ha b hb => ?_⟩
    rw [List.mem_singleton.mp hb]
    exact fun e => hp (e ▸ ha)
  · by_cases hi : i < h.length
    · rw [List.getElem?_append_left hi] at e1
      rw [List.getElem?_append_left (by rw [r.len]; exact hi)] at e2
      exact (r.cell i c' a e1 e2).more
    · have hn : h.length ≤ i := Nat.le_of_not_lt hi
      rw [List.getElem?_append_right hn] at e1
      rw [List.getElem?_append_right (by rw [r.len]; exact hn), r.len] at e2
      cases hj : i - h.length with
      | zero =>
        rw [hj] at e1 e2
        have z1 : c = c' := by simpa using e1
        have z2 : p = a := by simpa using e2
        rw [← z1, ← z2]; exact hc
      | succ j => rw [hj] at e1; simp at e1
end

/-! ### targets of a comprehension -/
def tGw (k : Kx) (vs : List Nat) (g : D → Env → Hs → Res Env) : TG := fun v σ H Q => ∃ F h env d, SR k F H h σ env ∧ DV k.K F H d v ∧ Post k F H (fun env' F' _ H' => ∀ σ', ER k F' H' σ' env' → wipe σ' vs = wipe σ vs → Q σ' H') (fun _ _ _ => False) (g d env h)
def tGsw (k : Kx) (vs : List Nat) (g : List D → Env → Hs → Res Env) : TGs := fun us σ H Q => ∃ F h env ds, SR k F H h σ env ∧ DVs k.K F H ds us ∧ Post k F H (fun env' F' _ H' => ∀ σ', ER k F' H' σ' env' → wipe σ' vs = wipe σ vs → Q σ' H') (fun _ _ _ => False) (g ds env h)
theorem wipe_set (σ : L2.St) (i : Nat) (o : Option V) : ∀ vs : List Nat, i ∈ vs → wipe (σ.set i o) vs = wipe σ vs := by
  have key : ∀ vs : List Nat, i ∉ vs → wipe (σ.set i o) vs = (wipe σ vs).set i o := by
    intro vs
    induction vs with
    | nil => intro _; rfl
    | cons v vs ih =>
      intro hn
      unfold wipe
      rw [ih (fun h => hn (List.mem_cons_of_mem _ h)), List.set_comm _ _ (fun e => hn (by rw [e]; exact List.mem_cons_self))]
  intro vs
  induction vs with
  | nil => intro h; cases h
  | cons v vs ih =>
    intro hm
    unfold wipe
    by_cases hv : i ∈ vs
    · rw [ih hv]
    · rw [key vs hv]
      rcases List.mem_cons.mp hm with e | e
      · subst e; rw [List.set_set]
      · exact absurd e hv
section
variable {X : Cx} {k : Kx} {vs : List Nat} {pos : Pos}
theorem mgw_name {i : Nat} {x : Str} (hN : X.N.Nodup) (hi : X.N[i]? = some x) (hx : Loc X.env.scope x) (hf : X.fn x = true ∨ X.env.scope.names.lookup x = some .local) (hv : i ∈ vs) : PG X (.Name x pos) (tGw k vs (asgT (.nm i))) :=
  PG.imp (pg_name hN hi hx hf) fun v σ H Q ⟨F, h, env, d, sr, dv, p⟩ => by
    unfold asgT at p
    exact p F H .refl sr.rel _ (sr.er.set i dv) (wipe_set σ i _ vs hv)
theorem mgsw_nil : PGs X [] (tGsw k vs (asgTs [])) := PGs.imp pgs_nil fun us σ H Q ⟨F, h, env, ds, sr, dv, p⟩ => by
  cases ds with
  | nil =>
    unfold DVs at dv
    unfold asgTs at p
    exact ⟨dv, p F H .refl sr.rel σ sr.er rfl⟩
  | cons d ds => unfold asgTs at p; exact p.elim
theorem mgsw_cons {e : Expr} {es : List Expr} {t : Tg} {ts : List Tg} (h1 : PG X e (tGw k vs (asgT t))) (h2 : PGs X es (tGsw k vs (asgTs ts)))
    (hs : (assignEach (e :: es) X.env).map (·.2) = assign e X.env :: (assignEach es X.env).map (·.2)) : PGs X (e :: es) (tGsw k vs (asgTs (t :: ts))) := by
  refine PGs.imp (pgs_cons h1 h2 hs) fun us σ H Q ⟨F, h, env, ds, sr, dv, p⟩ => ?_
  cases ds with
  | nil => unfold asgTs at p; exact p.elim
  | cons d ds =>
    unfold DVs at dv
    obtain ⟨v, r, rfl, d1, d2⟩ := dv
    unfold asgTs at p
    exact ⟨v, r, rfl, F, h, env, d, sr, d1, p.bind.imp (fun env' F' h' H' st rl q σ' er w => ⟨F', h', env', ds, ⟨rl, er, sr.xd.mono st⟩, DVs.mono st _ _ d2, q.imp (fun _ _ _ _ _ _ q σ'' er' w' => q σ'' er' (w'.trans w)) fun _ _ _ x => x⟩) fun _ _ _ x => x⟩
theorem mgw_tup {es : List Expr} {x1 : Nat} {ts : List Tg} (hK : X.K = k.K) (hc : X.calm = true) (h : PGs X es (tGsw k vs (asgTs ts))) (hn : (assignEach es X.env).length = ts.length) (hst : (assignEach es X.env).findIdx? (·.1) = none) :
    PG X (.Tuple es x1 pos) (tGw k vs (asgT (.tp ts))) := by
  refine PG.imp (PG.or (pg_tup hc h hn hst) (pg_unl hc h hn hst)) fun v σ H Q p0 => ?_
  obtain ⟨F, h, env, d, sr, dv, p1⟩ := p0
  unfold asgT at p1
  cases q : seqH h d with
  | none => rw [q] at p1; exact p1.elim
  | some xs =>
    rw [q] at p1
    obtain ⟨c, p⟩ := Post.cond (c := xs.length = ts.length) (r := asgTs ts xs env h) p1
    obtain ⟨a, us, rfl, _, dvs, sT, sL⟩ := sr.rel.seq dv q
    rcases seqH_tup q with z | z
    · exact .inl ⟨a, us, rfl, by rw [hK]; exact SqT.of (sT xs z), by rw [← dvs.len]; exact c, F, h, env, xs, sr, dvs, p⟩
    · exact .inr ⟨a, us, rfl, by rw [hK]; exact sL z, by rw [← dvs.len]; exact c, F, h, env, xs, sr, dvs, p⟩
end

/-! ### the comprehension -/
def wipeE (env : Env) : List Nat → Env
  | [] => env
  | v :: vs => (wipeE env vs).set v none
theorem ER.wipe {k F H σ env} (e : ER k F H σ env) : ∀ vs, ER k F H (L2.wipe σ vs) (wipeE env vs)
  | [] => e
  | v :: vs => by unfold L2.wipe wipeE; exact (ER.wipe e vs).clear v
def lcC (c : Option Ev) : Tv := match c with
  | none => fun _ h => .ok true h
  | some c => tst c
def lcTurn (c : Option Ev) (e : Ev) (i : Nat) (acc : List D) (env : Env) (h : Hs) : Nat × List D × Hs ⊕ Res (List D) := match lcC c env h with
  | .ok true h2 => match e env h2 with
    | .ok y h3 => if acc.length < lim then .inl (i + 1, acc ++ [y], h3) else .inr .bad
    | _ => .inr .bad
  | .ok false h2 => .inl (i + 1, acc, h2)
  | _ => .inr .bad
theorem wipe_wipe (σ : L2.St) (vs : List Nat) : L2.wipe (L2.wipe σ vs) vs = L2.wipe σ vs := by
  have key : ∀ us : List Nat, (∀ u ∈ us, u ∈ vs) → L2.wipe (L2.wipe σ us) vs = L2.wipe σ vs := by
    intro us
    induction us with
    | nil => intro _; rfl
    | cons u us ih =>
      intro h
      show L2.wipe ((L2.wipe σ us).set u none) vs = _
      rw [wipe_set _ _ _ _ (h u List.mem_cons_self)]
      exact ih fun w hw => h w (List.mem_cons_of_mem _ hw)
  exact key vs fun _ h => h
def lcStep (src : Src) (t : Tg) (c : Option Ev) (e : Ev) (env : Env) : Nat × List D × Hs → (Nat × List D × Hs) ⊕ Res (List D) := fun s => match src.nxt s.1 s.2.2 with
  | none => .inr .bad
  | some none => .inr (.ok s.2.1 s.2.2)
  | some (some d) => match asgT t d env s.2.2 with
    | .ok env1 h1 => lcTurn c e s.1 s.2.1 env1 h1
    | _ => .inr .bad
noncomputable def lcE (s : Sv) (t : Tg) (c : Option Ev) (e : Ev) (vs : List Nat) : Ev := fun env h => (s env h).bind fun src h1 =>
  (iter (lcStep src t c e (wipeE env vs)) .bad (0, [], h1)).bind fun xs h2 => .ok (.ref h2.length) (h2 ++ [.lst xs])
/-- the tests -/
def tTc (k : Kx) (c : Option Ev) : TT := match c with
  | none => tYes
  | some c => tT k (fun _ _ _ _ => False) (tst c)
section
variable {k : Kx} {W : WX}
theorem lc_read {fi : Sv} {t : Tg} {c : Option Ev} {e : Ev} {vs : List Nat} {σ H Q} (p : tE k W (lcE fi t c e vs) σ H Q) : tLc (tI k W fi) (tGw k vs (asgT t)) (tTc k c) (tE k (fun _ _ _ _ => False) e) vs σ H Q := by
  obtain ⟨F, h, env, sr, p⟩ := p
  refine ⟨F, h, env, sr, p.bind.imp (fun src F' h' H' s r q J jr L0 hD => ?_) fun _ _ _ x => x⟩
  have sr' := sr.step s r
  have hne : iter (lcStep src t c e (wipeE env vs)) .bad (0, [], h') ≠ .bad := fun z => by rw [z] at q; exact q
  obtain ⟨m, hm⟩ := iter_good hne
  generalize iter (lcStep src t c e (wipeE env vs)) .bad (0, [], h') = fl at q hm hne
  have hDF : L0 ∉ F' := r.fresh hD
  refine ⟨fun i m H2 => ∃ F2 h2 acc vs, Step k.K F' H' F2 H2 ∧ RelH k F2 H2 h2 ∧ L0 ∉ F2 ∧ H2 L0 = some (.lst vs) ∧ DVs k.K F2 H2 acc vs ∧ iterN (lcStep src t c e (wipeE env _)) m (i, acc, h2) = some fl, ⟨m, F', h', [], [], r.stepNew hD, r.addNew hD, hDF, upd_same, DVs.nil, hm⟩, ?_⟩
  rintro i m H2 ⟨F2, h2, acc, us, s2, r2, n2, e2, dv2, hm⟩
  cases m with
  | zero => cases hm
  | succ m =>
    unfold iterN at hm
    have jr2 := jr F2 h2 H2 i s2 r2
    cases en : src.nxt i h2 with
    | none =>
      have : lcStep src t c e (wipeE env vs) (i, acc, h2) = .inr .bad := by unfold lcStep; rw [en]
      rw [this] at hm; cases hm
      exact absurd rfl hne
    | some o =>
      cases o with
      | none =>
        have : lcStep src t c e (wipeE env vs) (i, acc, h2) = .inr (.ok acc h2) := by unfold lcStep; rw [en]
        rw [this] at hm; cases hm
        refine .inl ⟨jr2.1 en, ?_⟩
        have q : ∀ F'' H'', Step k.K F' H' F'' H'' → RelH k F'' H'' (h2 ++ [.lst acc]) → PV k Q (.ref h2.length) F'' (h2 ++ [.lst acc]) H'' := q
        refine q (F2 ++ [L0]) H2 (s2.known hD) (r2.known n2 ⟨us, e2, DVs.more _ _ dv2⟩) _ ?_
        unfold DV
        exact ⟨L0, rfl, by rw [← r2.len, List.getElem?_append_right (Nat.le_refl _), Nat.sub_self]; rfl⟩
      | some d =>
        obtain ⟨jg, jy⟩ := jr2.2 d en
        refine .inr ⟨jg, fun H' => ∃ F3 h3 acc vs', Step k.K F' _ F3 H' ∧ RelH k F3 H' h3 ∧ L0 ∉ F3 ∧ H' L0 = some (.lst vs') ∧ DVs k.K F3 H' acc vs' ∧ iterN (lcStep src t c e (wipeE env vs)) m (i + 1, acc, h3) = some fl, fun H' z => ⟨m, Nat.lt_succ_self m, z⟩, fun x H3 y => ?_⟩
        obtain ⟨s3, r3, dv⟩ := jy x H3 y
        have st3 := s2.trans s3
        have sr3 : SR k F2 H3 h2 (wipe σ vs) (wipeE env vs) := ⟨r3, (sr'.er.mono st3).wipe vs, sr'.xd.mono st3⟩
        have e3 : H3 L0 = some (.lst us) := s3.old L0 _ e2 n2
        refine ⟨F2, h2, wipeE env vs, d, sr3, dv, ?_⟩
        cases ea : asgT t d (wipeE env vs) h2 with
        | bad =>
          have : lcStep src t c e (wipeE env vs) (i, acc, h2) = .inr .bad := by unfold lcStep; rw [en]; show (match asgT t d (wipeE env vs) h2 with | .ok env1 h1 => _ | _ => _) = _; rw [ea]
          rw [this] at hm; cases hm
          exact absurd rfl hne
        | exc x h4 => exact absurd ea (asgT_ne _ _ _ _ _ _)
        | ok env4 h4 =>
          intro F4 H4 s4 r4 σ4 er4 w4
          have ef : lcStep src t c e (wipeE env vs) (i, acc, h2) = lcTurn c e i acc env4 h4 := by unfold lcStep; rw [en]; show (match asgT t d (wipeE env vs) h2 with | .ok env1 h1 => _ | _ => _) = _; rw [ea]
          rw [ef] at hm
          have n4 : L0 ∉ F4 := fun mm => by have := s4.new L0 mm n2; rw [e3] at this; cases this
          have e4 : H4 L0 = some (.lst us) := s4.old L0 _ e3 n2
          have sr4 : SR k F4 H4 h4 σ4 env4 := ⟨r4, er4, sr3.xd.mono s4⟩
          have st4 := st3.trans s4
          have dv4 := DVs.mono (s3.trans s4) _ _ dv2
          refine ⟨by rw [w4]; exact wipe_wipe σ vs, ?_⟩
          -- behind the tests
          have last : ∀ (b : Bool) (h5 : Hs), lcC c env4 h4 = .ok b h5 → ∀ F5 H5, Step k.K F4 H4 F5 H5 → RelH k F5 H5 h5 →
              if b = true then tE k (fun _ _ _ _ => False) e σ4 H5 (fun y H4 => ∃ acc, H4 L0 = some (.lst acc) ∧ acc.length < sizeLine ∧ ∃ F3 h3 acc_1 vs', Step k.K F' H' F3 (upd H4 L0 (.lst (acc ++ [y]))) ∧ RelH k F3 (upd H4 L0 (.lst (acc ++ [y]))) h3 ∧ L0 ∉ F3 ∧ upd H4 L0 (.lst (acc ++ [y])) L0 = some (.lst vs') ∧ DVs k.K F3 (upd H4 L0 (.lst (acc ++ [y]))) acc_1 vs' ∧ iterN (lcStep src t c e (wipeE env vs)) m (i + 1, acc_1, h3) = some fl)
              else ∃ F3 h3 acc vs', Step k.K F' H' F3 H5 ∧ RelH k F3 H5 h3 ∧ L0 ∉ F3 ∧ H5 L0 = some (.lst vs') ∧ DVs k.K F3 H5 acc vs' ∧ iterN (lcStep src t c e (wipeE env vs)) m (i + 1, acc, h3) = some fl := by
            intro b h5 eb F5 H5 s5 r5
            have n5 : L0 ∉ F5 := fun mm => by have := s5.new L0 mm n4; rw [e4] at this; cases this
            have e5 : H5 L0 = some (.lst us) := s5.old L0 _ e4 n4
            have sr5 := sr4.step s5 r5
            have st5 := st4.trans s5
            have dv5 := DVs.mono s5 _ _ dv4
            unfold lcTurn at hm
            rw [eb] at hm
            cases b with
            | false => exact ⟨F5, h5, acc, us, st5, r5, n5, e5, dv5, hm⟩
            | true =>
              rw [if_pos rfl]
              refine ⟨F5, h5, env4, sr5, ?_⟩
              cases ee : e env4 h5 with
              | bad => simp only [ee] at hm; cases hm; exact absurd rfl hne
              | exc x h6 => simp only [ee] at hm; cases hm; exact absurd rfl hne
              | ok y h6 =>
                simp only [ee] at hm
                by_cases hl : acc.length < lim
                · rw [if_pos hl] at hm
                  intro F6 H6 s6 r6 v dv6
                  have n6 : L0 ∉ F6 := fun mm => by have := s6.new L0 mm n5; rw [e5] at this; cases this
                  have e6 : H6 L0 = some (.lst us) := s6.old L0 _ e5 n5
                  have hz : us.length < sizeLine := by
                    rw [← dv2.len]
                    exact Nat.lt_of_lt_of_le hl (le_lim (Nat.le_refl _))
                  exact ⟨us, e6, hz, F6, h6, acc ++ [y], us ++ [v], (st5.trans s6).grow hD e6 soft_lst, r6.grow n6 e6 soft_lst, n6, upd_same, DVs.grow (grow_t e6 soft_lst) (grow_l (k := k) e6 soft_lst) _ _ ((DVs.mono s6 _ _ dv5).app (DVs.cons dv6 DVs.nil)), hm⟩
                · rw [if_neg hl] at hm; cases hm; exact absurd rfl hne
          cases c with
          | none => exact last true h4 rfl F4 H4 .refl r4
          | some c =>
            refine ⟨F4, h4, env4, sr4, ?_⟩
            have ecc : lcC (some c) env4 h4 = tst c env4 h4 := rfl
            cases ec : tst c env4 h4 with
            | bad => unfold lcTurn at hm; rw [ecc, ec] at hm; cases hm; exact absurd rfl hne
            | exc x h6 => unfold lcTurn at hm; rw [ecc, ec] at hm; cases hm; exact absurd rfl hne
            | ok b h5 => exact fun F5 H5 s5 r5 => last b h5 (ecc.trans ec) F5 H5 s5 r5
end
/-! M10: methods of what is built in; comprehensions as rules; in-place steps. -/
open PySem PySem.Spec PyProof.Rows L2

/-! ### methods of lists -/
def lstAt (h : Hs) : D → Option (Nat × List D)
  | .ref n => match h[n]? with
    | some (.lst xs) => some (n, xs)
    | _ => none
  | _ => none
theorem lstAt_ref {h : Hs} {d : D} {n : Nat} {xs : List D} (e : lstAt h d = some (n, xs)) : d = .ref n ∧ h[n]? = some (.lst xs) := by
  unfold lstAt at e
  cases d with
  | ref m =>
    have e : (match h[m]? with | some (.lst xs) => some (m, xs) | _ => none) = some (n, xs) := e
    cases e1 : h[m]? with
    | none => rw [e1] at e; cases e
    | some c =>
      rw [e1] at e
      cases c with
      | lst ys => cases e; exact ⟨rfl, e1⟩
      | _ => cases e
  | _ => cases e
def isL (h : Hs) (d : D) : Bool := (lstAt h d).isSome
def isS (_ : Hs) : D → Bool
  | .str _ => true
  | _ => false
/-- a method that turns a list -/
def lmet (f : List D → List D → Option (List D × D)) : MF := ⟨isL, fun h d ds => match lstAt h d with
  | some (n, xs) => match f xs ds with
    | some (ys, r) => .ok r (h.set n (.lst ys))
    | none => .bad
  | none => .bad⟩
def appM : MF := lmet fun xs ds => match ds with
  | [y] => if xs.length < lim then some (xs ++ [y], .non) else none
  | _ => none
def popM : MF := lmet fun xs ds => match ds with
  | [] => match xs[xs.length - 1]? with
    | some y => some (xs.dropLast, y)
    | none => none
  | _ => none
def revM : MF := lmet fun xs ds => match ds with
  | [] => some (xs.reverse, .non)
  | _ => none
/-- xs.extend(ys), xs += ys: ys another list -/
def extGo (h : Hs) (d : D) : List D → Res D
  | [e] => match lstAt h d with
    | some (n, xs) => match lstAt h e with
      | some (_, ys) => if xs.length + ys.length ≤ lim then .ok .non (h.set n (.lst (xs ++ ys))) else .bad
      | none => .bad
    | none => .bad
  | _ => .bad
def extM : MF := ⟨isL, extGo⟩
def strOf : D → Option (List Nat)
  | .str x => some x
  | _ => none
theorem strOf_eq {d : D} {x : List Nat} (h : strOf d = some x) : d = .str x := by
  cases d <;> cases h <;> rfl
def joinGo (h : Hs) (d : D) : List D → Res D
  | [e] => match strOf d with
    | some a => match (seqH h e).bind strsD with
      | some ys => if (ys.map (·.length)).sum + ys.length * a.length ≤ lim then .ok (.str (TL.joinL a ys)) h else .bad
      | none => .bad
    | none => .bad
  | _ => .bad
def joinM : MF := ⟨isS, joinGo⟩
def splitGo (h : Hs) (d : D) : List D → Res D
  | [e] => match strOf d with
    | some a => match strOf e with
      | some b => if a.length + 2 ≤ lim ∧ b ≠ [] ∧ b.all (· < 256) = true then .ok (.ref h.length) (h ++ [.lst ((TL.spl b 0 [] a).map .str)]) else .bad
      | none => .bad
    | none => .bad
  | _ => .bad
def splitM : MF := ⟨isS, splitGo⟩
section
variable {X : Cx} {k : Kx}
theorem isL_ty (hK : X.K = k.K) : ∀ F H h d v, RelH k F H h → DV k.K F H d v → isL h d = true → tyV X.K "list" v H := fun F H h d v r dv e => by
  unfold isL at e
  cases q : lstAt h d with
  | none => rw [q] at e; cases e
  | some p =>
    obtain ⟨rfl, e1⟩ := lstAt_ref (n := p.1) (xs := p.2) q
    obtain ⟨a, vs, rfl, hf, hl, dvs⟩ := r.lst e1 dv
    exact .inl ⟨rfl, vs, SqL.of hl⟩
theorem isS_ty : ∀ F H h d v, RelH k F H h → DV k.K F H d v → isS h d = true → tyV X.K "str" v H := fun F H h d v r dv e => by
  cases d with
  | str x => rw [dv.strV.1]; exact rfl
  | _ => cases e
theorem lmet_inv {f : List D → List D → Option (List D × D)} {F H h d ds Q} {W0 : Value → Option Addr → Hp → Prop} (p : Post k F H (PV k Q) W0 ((lmet f).go h d ds)) : ∃ n xs ys r, d = .ref n ∧ h[n]? = some (.lst xs) ∧ f xs ds = some (ys, r) ∧ Post k F H (PV k Q) W0 (.ok r (h.set n (.lst ys))) := by
  have p : Post k F H (PV k Q) W0 (match lstAt h d with | some (n, xs) => (match f xs ds with | some (ys, r) => .ok r (h.set n (.lst ys)) | none => .bad) | none => .bad) := p
  cases q : lstAt h d with
  | none => rw [q] at p; exact p.elim
  | some z =>
    obtain ⟨n, xs⟩ := z
    obtain ⟨rfl, e1⟩ := lstAt_ref q
    rw [q] at p
    have p : Post k F H (PV k Q) W0 (match f xs ds with | some (ys, r) => .ok r (h.set n (.lst ys)) | none => .bad) := p
    cases e : f xs ds with
    | none => rw [e] at p; exact p.elim
    | some z => obtain ⟨ys, r⟩ := z; rw [e] at p; exact ⟨n, xs, ys, r, rfl, e1, e, p⟩
/-- a written list -/
theorem Post.wr {F H h n a ys r v Q} {us : List V} {W0 : Value → Option Addr → Hp → Prop} (p : Post k F H (PV k Q) W0 (.ok r (h.set n (.lst ys)))) (rl : RelH k F H h) (hf : F[n]? = some a) (dvs : DVs k.K F H ys us) (dv : DV k.K F H r v) : Q v (upd H a (.lst us)) := by
  have st := rl.stepSet (o := .lst us) hf
  exact p F _ st (rl.setCell hf ⟨us, upd_same, DVs.mono st _ _ dvs⟩) v (DV.mono st _ _ dv)
theorem m_append (hK : X.K = k.K) : MtD X k "list" "list.append" appM := ⟨isL_ty hK, fun pins s σ H x vs v us Q I rx rv q => by
  obtain ⟨W0, F, h, d, ds, rl, dx, dvs, p⟩ := q
  obtain ⟨n, xs, ys, r, rfl, e1, e2, p⟩ := lmet_inv p
  obtain ⟨a, ws, rfl, hf, hl, dw⟩ := rl.lst e1 dx
  match ds, e2 with
  | [y], e2 =>
    have e2 : (if xs.length < lim then some (xs ++ [y], D.non) else none) = some (ys, r) := e2
    by_cases c : xs.length < lim
    · rw [if_pos c] at e2; cases e2
      unfold DVs at dvs
      obtain ⟨w, w', rfl, d1, d2⟩ := dvs
      unfold DVs at d2
      subst d2
      exact mt_append pins s σ H _ _ v us Q I rx rv ⟨a, ws, w, rfl, rfl, hl, by rw [← dw.len]; exact Nat.lt_of_lt_of_le c (le_lim (Nat.le_refl _)), p.wr rl hf (dw.app (DVs.cons d1 DVs.nil)) (by unfold DV; rfl)⟩
    · rw [if_neg c] at e2; cases e2
  | [], e2 => cases e2
  | _ :: _ :: _, e2 => cases e2⟩
theorem DVs.dropLast {K F H} {ds : List D} {vs : List V} (h : DVs K F H ds vs) : DVs K F H ds.dropLast vs.dropLast := by
  rw [List.dropLast_eq_take, List.dropLast_eq_take, ← h.len]; exact h.take _
theorem m_pop (hK : X.K = k.K) : MtD X k "list" "list.pop" popM := ⟨isL_ty hK, fun pins s σ H x vs v us Q I rx rv q => by
  obtain ⟨W0, F, h, d, ds, rl, dx, dvs, p⟩ := q
  obtain ⟨n, xs, ys, r, rfl, e1, e2, p⟩ := lmet_inv p
  obtain ⟨a, ws, rfl, hf, hl, dw⟩ := rl.lst e1 dx
  match ds, e2 with
  | [], e2 =>
    have e2 : (match xs[xs.length - 1]? with | some y => some (xs.dropLast, y) | none => none) = some (ys, r) := e2
    cases e3 : xs[xs.length - 1]? with
    | none => rw [e3] at e2; cases e2
    | some y =>
      rw [e3] at e2; cases e2
      unfold DVs at dvs
      subst dvs
      obtain ⟨w, ew, d1⟩ := dw.get e3
      rw [dw.len] at ew
      exact mt_pop pins s σ H _ _ v us Q I rx rv ⟨a, ws, w, rfl, rfl, hl, ew, p.wr rl hf dw.dropLast d1⟩
  | _ :: _, e2 => cases e2⟩
theorem m_reverse (hK : X.K = k.K) : MtD X k "list" "list.reverse" revM := ⟨isL_ty hK, fun pins s σ H x vs v us Q I rx rv q => by
  obtain ⟨W0, F, h, d, ds, rl, dx, dvs, p⟩ := q
  obtain ⟨n, xs, ys, r, rfl, e1, e2, p⟩ := lmet_inv p
  obtain ⟨a, ws, rfl, hf, hl, dw⟩ := rl.lst e1 dx
  match ds, e2 with
  | [], e2 =>
    cases e2
    unfold DVs at dvs
    subst dvs
    exact mt_reverse pins s σ H _ _ v us Q I rx rv ⟨a, ws, rfl, rfl, hl, p.wr rl hf dw.rev (by unfold DV; rfl)⟩
  | _ :: _, e2 => cases e2⟩
theorem m_extend (hK : X.K = k.K) : MtD X k "list" "list.extend" extM := ⟨isL_ty hK, fun pins s σ H x vs v us Q I rx rv q => by
  obtain ⟨W0, F, h, d, ds, rl, dx, dvs, p⟩ := q
  have p : Post k F H (PV k Q) W0 (extGo h d ds) := p
  unfold extGo at p
  split at p
  · rename_i e
    split at p
    · rename_i n xs e0
      split at p
      · rename_i m ys e3
        obtain ⟨c, p⟩ := p.cond
        obtain ⟨rfl, e1⟩ := lstAt_ref e0
        obtain ⟨rfl, e2⟩ := lstAt_ref e3
        obtain ⟨a, ws, rfl, hf, hl, dw⟩ := rl.lst e1 dx
        unfold DVs at dvs
        obtain ⟨w, w', rfl, d1, d2⟩ := dvs
        unfold DVs at d2
        subst d2
        obtain ⟨b, zs, rfl, hf2, hl2, dz⟩ := rl.lst e2 d1
        exact mt_extend pins s σ H _ _ v us Q I rx rv ⟨a, b, ws, zs, rfl, rfl, hl, hl2, by rw [← dw.len, ← dz.len]; exact le_lim c, p.wr rl hf (dw.app dz) (by unfold DV; rfl)⟩
      · exact p.elim
    · exact p.elim
  · exact p.elim⟩
theorem joinL_len (a : List Nat) : ∀ ys : List (List Nat), (TL.joinL a ys).length ≤ (ys.map (·.length)).sum + ys.length * a.length
  | [] => Nat.zero_le _
  | [x] => by show x.length ≤ _; simp only [List.map_cons, List.map_nil, List.sum_cons, List.sum_nil]; omega
  | x :: y :: r => by
    have h := joinL_len a (y :: r)
    show (x ++ (a ++ TL.joinL a (y :: r))).length ≤ _
    rw [List.length_append, List.length_append]
    simp only [List.map_cons, List.sum_cons, List.length_cons, Nat.succ_mul] at h ⊢
    omega
theorem m_join (hK : X.K = k.K) : MtD X k "str" "str.join" joinM := ⟨isS_ty, fun pins s σ H x vs v us Q I rx rv q => by
  obtain ⟨W0, F, h, d, ds, rl, dx, dvs, p⟩ := q
  have p : Post k F H (PV k Q) W0 (joinGo h d ds) := p
  unfold joinGo at p
  split at p
  · rename_i e
    split at p
    · rename_i a e0
      split at p
      · rename_i ys e2
        obtain ⟨c, p⟩ := p.cond
        have := strOf_eq e0
        subst this
        obtain ⟨rfl, _⟩ := dx.strV
        unfold DVs at dvs
        obtain ⟨w, w', rfl, d1, d2⟩ := dvs
        unfold DVs at d2
        subst d2
        obtain ⟨xs, e1, e2⟩ := Option.bind_eq_some_iff.mp e2
        obtain ⟨b, zs, rfl, hs, dz, _, _⟩ := rl.seq d1 e1
        have := strsD_eq e2
        subst this
        obtain ⟨rfl, hz⟩ := dz.strs
        refine mt_join pins s σ H _ _ v us Q I rx rv ⟨_, b, ys.map SX.S, rfl, rfl, ?_, ?_, ?_⟩
        · rw [hK, List.map_map]; exact hs
        · rw [SX.lens, List.length_map, SX.S_len]; exact c
        · rw [SX.join_S]
          exact Post.here p rl (DV.mkStr (Nat.le_trans (joinL_len a ys) c))
      · exact p.elim
    · exact p.elim
  · exact p.elim⟩
theorem spl_len (b : List Nat) : ∀ (a : List Nat) (n : Nat) (acc : List Nat), ∀ x ∈ TL.spl b n acc a, x.length ≤ acc.length + a.length
  | [], n, acc, x, h => by
    rw [TL.spl_nil] at h
    rw [List.mem_singleton.mp h]; exact Nat.le_add_right _ _
  | c :: r, 0, acc, x, h => by
    have h : x ∈ (if TL.pre b (c :: r) = true then acc :: TL.spl b (b.length - 1) [] r else TL.spl b 0 (acc ++ [c]) r) := h
    by_cases q : TL.pre b (c :: r) = true
    · rw [if_pos q] at h
      rcases List.mem_cons.mp h with e | e
      · rw [e]; exact Nat.le_add_right _ _
      · have := spl_len b r _ _ x e
        simp only [List.length_nil, List.length_cons] at this ⊢
        omega
    · rw [if_neg q] at h
      have := spl_len b r _ _ x h
      simp only [List.length_append, List.length_cons, List.length_nil] at this ⊢
      omega
  | c :: r, n + 1, acc, x, h => by
    have := spl_len b r n acc x h
    rw [List.length_cons]
    omega
theorem m_split (hK : X.K = k.K) : MtD X k "str" "str.split" splitM := ⟨isS_ty, fun pins s σ H x vs v us Q I rx rv q => by
  obtain ⟨W0, F, h, d, ds, rl, dx, dvs, p⟩ := q
  have p : Post k F H (PV k Q) W0 (splitGo h d ds) := p
  unfold splitGo at p
  split at p
  · rename_i e
    split at p
    · rename_i a e0
      split at p
      · rename_i b e2
        obtain ⟨c, p⟩ := p.cond
        have := strOf_eq e0
        subst this
        have := strOf_eq e2
        subst this
        obtain ⟨rfl, ha⟩ := dx.strV
        unfold DVs at dvs
        obtain ⟨w, w', rfl, d1, d2⟩ := dvs
        unfold DVs at d2
        subst d2
        obtain ⟨rfl, _⟩ := d1.strV
        refine mt_split pins s σ H _ _ v us Q I rx rv ⟨_, _, rfl, rfl, ?_, ?_, ?_⟩
        · have hb : (SX.S b).length = b.length := SX.S_len b
          show ((SX.S b).length == 0) = false
          rw [hb]
          cases b with
          | nil => exact absurd rfl c.2.1
          | cons x y => rfl
        · show (SX.S a).length + 2 ≤ sizeLine
          rw [SX.S_len]; exact le_lim c.1
        · show rNewStrs (Txt.split (SX.S a) (SX.S b)) H Q
          rw [SX.split_S c.2.1 c.2.2]
          intro q hq
          rw [List.map_map]
          refine Post.lst p rl ?_ hq
          have : ∀ l : List (List Nat), (∀ x ∈ l, x.length ≤ lim) → DVs k.K F H (l.map .str) (l.map (V.str ∘ SX.S)) := by
            intro l
            induction l with
            | nil => intro _; exact DVs.nil
            | cons x l ih => exact fun hx => DVs.cons (DV.mkStr (hx x List.mem_cons_self)) (ih fun y hy => hx y (List.mem_cons_of_mem _ hy))
          exact this _ fun x hx => Nat.le_trans (spl_len b a 0 [] x hx) (by simpa using ha)
      · exact p.elim
    · exact p.elim
  · exact p.elim⟩
end

/-! ### in-place steps -/
def iaddOp (h : Hs) (d e : D) : Res D := match d with
  | .int i => match e with
    | .int j => .ok (.int (i + j)) h
    | _ => .bad
  | .str a => match strOf e with
    | some b => if a.length + b.length ≤ lim then .ok (.str (a ++ b)) h else .bad
    | none => .bad
  | .ref n => match h[n]? with
    | some (.lst xs) => match lstAt h e with
      | some (_, ys) => if xs.length + ys.length ≤ lim then .ok (.ref n) (h.set n (.lst (xs ++ ys))) else .bad
      | none => .bad
    | _ => .bad
  | _ => .bad
def iaugOp : Operator → Hs → D → D → Res D
  | .Add => iaddOp
  | .Sub => subOp
  | _ => fun _ _ _ => .bad
section
variable {X : Cx} {k : Kx} {W : WX} {pos : Pos}
theorem iop_addD (hK : X.K = k.K) : OpR X (inplaceOp .Add) (rD k iaddOp) := by
  intro pins s σ H x y v u Q I rx ry q
  obtain ⟨W0, F, h, d, e, rl, dx, dy, p⟩ := q
  unfold iaddOp at p
  cases d with
  | int i =>
    cases e with
    | int j => cases dx.intV; cases dy.intV; exact iop_add pins s σ H _ _ v u Q I rx ry ⟨i, j, rfl, rfl, Post.here p rl DV.mkInt⟩
    | _ => exact p.elim
  | str a =>
    dsimp only at p
    split at p
    · rename_i b e0
      obtain ⟨c, p⟩ := p.cond
      have := strOf_eq e0
      subst this
      obtain ⟨rfl, _⟩ := dx.strV
      obtain ⟨rfl, _⟩ := dy.strV
      refine iop_add_str pins s σ H _ _ v u Q I rx ry ⟨_, _, rfl, rfl, ?_, ?_⟩
      · show (SX.S a).length + (SX.S b).length ≤ sizeLine
        rw [SX.S_len, SX.S_len]; exact le_lim c
      · show Q (.str (SX.S a ++ SX.S b)) H
        rw [SX.S_cat]
        exact Post.here p rl (DV.mkStr (by rw [List.length_append]; exact c))
    · exact p.elim
  | ref n =>
    dsimp only at p
    split at p
    · rename_i xs e1
      split at p
      · rename_i m ys e3
        obtain ⟨c, p⟩ := p.cond
        obtain ⟨rfl, e2⟩ := lstAt_ref e3
        obtain ⟨a, ws, rfl, hf, hl, dw⟩ := rl.lst e1 dx
        obtain ⟨b, zs, rfl, hf2, hl2, dz⟩ := rl.lst e2 dy
        exact iop_ext pins s σ H _ _ v u Q I rx ry ⟨a, b, ws, zs, rfl, rfl, hl, hl2, by rw [← dw.len, ← dz.len]; exact le_lim c, p.wr rl hf (dw.app dz) dx⟩
      · exact p.elim
    · exact p.elim
  | _ => exact p.elim
theorem iop_subD : OpR X (inplaceOp .Sub) (rD k subOp) := by
  intro pins s σ H x y v u Q I rx ry q
  obtain ⟨W0, F, h, d, e, rl, dx, dy, p⟩ := q
  cases d with
  | int i =>
    cases e with
    | int j => cases dx.intV; cases dy.intV; exact iop_sub pins s σ H _ _ v u Q I rx ry ⟨i, j, rfl, rfl, Post.here (d := .int (i - j)) p rl DV.mkInt⟩
    | _ => exact p.elim
  | _ => exact p.elim
theorem iop_D (hK : X.K = k.K) (op : Operator) : OpR X (inplaceOp op) (rD k (iaugOp op)) := by
  cases op with
  | Add => exact iop_addD hK
  | Sub => exact iop_subD
  | _ => exact fun _ _ _ _ _ _ _ _ _ _ _ _ ⟨_, _, _, _, _, _, _, _, p⟩ => p.elim
theorem ms_aug {i : Nat} {x : Str} {e : Expr} {fa : Ev} {op : Operator} {pos' : Pos} (hK : X.K = k.K) (hN : X.N.Nodup) (hi : X.N[i]? = some x) (hx : Loc X.env.scope x) (he : PE X e (tE k W fa)) (hf : X.fn x = true ∨ X.env.scope.names.lookup x = some .local) :
    PS X (.AugAssign (.Name x pos') op e pos) (tS k W (augF i fa (iaugOp op))) := PS.imp (ps_aug hN hi hx he (iop_D (k := k) hK op) hf) fun N σ H p => by
  obtain ⟨F, h, env, sr, p⟩ := p
  have p : PostF k F H N W (match env[i]? with
    | some (some x) => (fa env h).fl env fun y h1 => (iaugOp op h1 x y).fl env fun z h2 => .nx (env.set i (some z)) h2
    | _ => .bad) := p
  cases e1 : env[i]? with
  | none => rw [e1] at p; exact p.elim
  | some o =>
    rw [e1] at p
    cases o with
    | none => exact p.elim
    | some d =>
      obtain ⟨v, e2, dv⟩ := sr.er.2 i d e1
      refine ⟨v, e2, F, h, env, sr, (fl_post sr p).imp (fun y F' h' H' _ _ q w dw => ?_) fun _ _ _ x => x⟩
      obtain ⟨s, r, q⟩ := q
      have sr' := sr.step s r
      have q' := fl_post sr' q
      refine ⟨fun c d H' => W c d σ H', F', h', d, y, r, DV.mono s _ _ dv, dw, q'.imp (fun z F2 h2 H2 _ _ q2 u du => ?_) fun _ _ _ x => x⟩
      obtain ⟨s2, r2, q2⟩ := q2
      exact q2 F2 H2 _ .refl r2 ((sr'.er.mono s2).set i du)
/-! ### o[i] op= e: of lists -/
/-- xs[i], xs a list in the heap -/
def getL (h : Hs) (d e : D) : Res D := match lstAt h d with
  | some (_, xs) => match e with
    | .int i => Res.of (atI xs i) h
    | _ => .bad
  | none => .bad
/-- what is read ahead of o[i] op= .. -/
def getOp (h : Hs) (d e : D) : Res D := match dicRd h d with
  | some (t, kvs) => if kOk t e = true then Res.of (dfind kvs e) h else .bad
  | none => getL h d e
def augS (o i a : Ev) (op : Operator) : Sf := fun env h => (o env h).fl env fun x h1 => (i env h1).fl env fun y h2 => (getOp h2 x y).fl env fun z h3 => (a env h3).fl env fun w h4 => (iaugOp op h4 z w).fl env fun u h5 => match setOp h5 x y u with
  | some h6 => .nx env h6
  | none => .bad
theorem ix_getL (hK : X.K = k.K) : PGet X (rD k getL) := by
  intro pins s σ H x y v u Q I rx ry q
  obtain ⟨W0, F, h, d, e, rl, dx, dy, p⟩ := q
  unfold getL at p
  split at p
  · rename_i n xs e0
    obtain ⟨rfl, e1⟩ := lstAt_ref e0
    obtain ⟨a, ws, rfl, hf, hl, dw⟩ := rl.lst e1 dx
    cases e with
    | int i =>
      dsimp only at p
      cases dy.intV
      obtain ⟨z, ez, p⟩ := Post.ofOpt p rl
      obtain ⟨w, e3, dz⟩ := atI_dv dw ez
      cases rx
      obtain ⟨t, rfl⟩ := ry
      obtain ⟨its, r, pl, hz⟩ := I.list (SqL.of hl)
      obtain ⟨j, h1, h2, h3, h4, h5⟩ := atI_get e3
      obtain ⟨w', ew, rw'⟩ := r.get h2
      have hlen := r.length
      have hn := line63
      have fin : EP X pins σ Q w' s := ⟨w, H, I, rw', p w dz⟩
      by_cases h0 : 0 ≤ i
      · have hj : i.toNat = j := by
          rw [seqIndex_of h0 h5] at h1
          exact Option.some.inj h1
        exact wpAny_getItem_list pl.isList h0 (by omega) (by rw [hj]; simpa using ew) fin
      · have hj : (i + (its.toArray.size : Int)).toNat = j := by
          rw [seqIndex_neg (by omega) h4] at h1
          rw [List.size_toArray, ← hlen]
          exact Option.some.inj h1
        exact wpAny_getItem_list_neg pl.isList (by omega) (by rw [List.size_toArray] <;> omega) (by omega) (by rw [hj]; simpa using ew) fin
    | _ => exact p.elim
  · exact p.elim
theorem ix_get (hK : X.K = k.K) (hu : X.A.units + 1 < cLine) : PGet X (rD k getOp) := by
  intro pins s σ H x y v u Q I rx ry q
  obtain ⟨W0, F, h, d, e, rl, dx, dy, p⟩ := q
  unfold getOp at p
  cases e1 : dicRd h d with
  | none => rw [e1] at p; exact ix_getL hK pins s σ H x y v u Q I rx ry ⟨W0, F, h, d, e, rl, dx, dy, p⟩
  | some tk =>
    obtain ⟨t, kvs⟩ := tk
    rw [e1] at p
    obtain ⟨q, p⟩ := Post.cond (c := kOk t e = true) (r := Res.of (dfind kvs e) h) p
    obtain ⟨a, o, rfl, g, co⟩ := rl.dget e1 q dx dy
    rcases co with ⟨e3, rfl⟩ | ⟨z, w, e3, rfl, dz⟩
    · rw [e3] at p; exact p.elim
    · rw [e3] at p
      cases rx
      exact d_getItem hu I g ry fun w' s3 I3 rw' => ⟨w, H, I3, rw', Post.here p rl dz⟩
theorem ms_augS {o i e : Expr} {fo fi fa : Ev} {op : Operator} {tpos : Pos} (hK : X.K = k.K) (hu : X.A.units + 1 < cLine) (ho : PE X o (tE k W fo)) (hi : PE X i (tE k W fi)) (he : PE X e (tE k W fa))
    (ha : ∀ ov iv new, augStore i ov iv new = (do holding [new, ov, iv] (setItem ov iv new); release [new, ov, iv] []; pure .next)) : PS X (.AugAssign (.Subscript o i tpos) op e pos) (tS k W (augS fo fi fa op)) := PS.imp (ps_augS ho hi (ix_get (k := k) hK hu) he (iop_D (k := k) hK op) (set_D (k := k) hu) ha) fun N σ H p => by
  obtain ⟨F, h, env, sr, p⟩ := p
  refine ⟨F, h, env, sr, (fl_post sr p).imp (fun x F1 h1 H1 _ _ q xv dx => ?_) fun _ _ _ x => x⟩
  obtain ⟨s1, r1, q⟩ := q
  have sr1 := sr.step s1 r1
  refine ⟨F1, h1, env, sr1, (fl_post sr1 q).imp (fun y F2 h2 H2 _ _ q yv dy => ?_) fun _ _ _ x => x⟩
  obtain ⟨s2, r2, q⟩ := q
  have sr2 := sr1.step s2 r2
  refine ⟨_, F2, h2, x, y, r2, DV.mono s2 _ _ dx, dy, (fl_post sr2 q).imp (fun z F3 h3 H3 _ _ q zv dz => ?_) fun _ _ _ x => x⟩
  obtain ⟨s3, r3, q⟩ := q
  have sr3 := sr2.step s3 r3
  refine ⟨F3, h3, env, sr3, (fl_post sr3 q).imp (fun w F4 h4 H4 _ _ q wv dw => ?_) fun _ _ _ x => x⟩
  obtain ⟨s4, r4, q⟩ := q
  have sr4 := sr3.step s4 r4
  refine ⟨_, F4, h4, z, w, r4, DV.mono s4 _ _ dz, dw, (fl_post sr4 q).imp (fun u F5 h5 H5 _ _ q uv du => ?_) fun _ _ _ x => x⟩
  obtain ⟨s5, r5, q⟩ := q
  cases e6 : setOp h5 x y u with
  | none => rw [e6] at q; exact q.elim
  | some h6 =>
    rw [e6] at q
    have st := ((s2.trans s3).trans s4).trans s5
    exact ⟨F5, h5, x, y, u, h6, r5, DV.mono st _ _ dx, DV.mono ((s3.trans s4).trans s5) _ _ dy, du, e6, fun H6 s6 r6 => q F5 H6 σ s6 r6 (((sr4.step s5 r5).er).mono s6)⟩
/-! ### comprehensions, as rules -/
section
variable {elt tg ite : Expr} {scope : Scope} {own : List (Str × Nat)} {fi : Sv} {t : Tg} {fe : Ev}
theorem me_lc {ifs : List Expr} {c : Option Ev} (hc : X.calm = true) (hN : X.N.Nodup) (hi : PI X tg ite (tI k W fi)) (ok : BlkOk X.N X.env.scope scope own)
    (hg : ∀ (s : Shared) (H : Hp) (C : Addr) (cl : List (Str × Addr)) (fp : List Addr), PG (X.blk s H scope (compEnvC scope cl C X.env) fp) tg (tGw k (own.map (·.2)) (asgT t)))
    (ht : ∀ (s : Shared) (H : Hp) (C : Addr) (cl : List (Str × Addr)) (fp : List Addr), PTs (X.blk s H scope (compEnvC scope cl C X.env) fp) ifs (tTc k c))
    (he : ∀ (s : Shared) (H : Hp) (C : Addr) (cl : List (Str × Addr)) (fp : List Addr), PE (X.blk s H scope (compEnvC scope cl C X.env) fp) elt (tE k (fun _ _ _ _ => False) fe)) (hs : ∀ x, foldedSetIterable ite X.env x = pure x) :
    PE X (.ListComp elt [⟨tg, ite, ifs, 0⟩] scope pos) (tE k W (lcE fi t c fe (own.map (·.2)))) :=
  PE.imp (pe_lc hc hN hi ok hg ht he hs) fun σ H Q p => lc_read p
theorem ms_setLc {i : Nat} {y : Str} {py spos : Pos} {ifs : List Expr} {c : Option Ev} (hc : X.calm = true) (hN : X.N.Nodup) (hy : X.N[i]? = some y) (hyl : X.env.scope.names.lookup y = some .local)
    (hsw : swapsWith (.ListComp elt [⟨tg, ite, ifs, 0⟩] scope pos) (some (.Name y py)) spos.line X.env = pure true) (hi : PI X tg ite (tI k W fi)) (ok : BlkOk X.N X.env.scope scope own)
    (hg : ∀ (s : Shared) (H : Hp) (C : Addr) (cl : List (Str × Addr)) (fp : List Addr), PG (X.blk s H scope (compEnvC scope cl C X.env) fp) tg (tGw k (own.map (·.2)) (asgT t)))
    (ht : ∀ (s : Shared) (H : Hp) (C : Addr) (cl : List (Str × Addr)) (fp : List Addr), PTs (X.blk s H scope (compEnvC scope cl C X.env) fp) ifs (tTc k c))
    (he : ∀ (s : Shared) (H : Hp) (C : Addr) (cl : List (Str × Addr)) (fp : List Addr), PE (X.blk s H scope (compEnvC scope cl C X.env) fp) elt (tE k (fun _ _ _ _ => False) fe)) (hs : ∀ x, foldedSetIterable ite X.env x = pure x) :
    PS X (.Assign [.Name y py] (.ListComp elt [⟨tg, ite, ifs, 0⟩] scope pos) spos) (tS k W (asgF (lcE fi t c fe (own.map (·.2))) (asgT (.nm i)))) :=
  PS.imp (ps_setLc hc hN hy hyl hsw hi ok hg ht he hs) fun N σ H p => by
    obtain ⟨F, h, env, sr, p⟩ := p
    refine lc_read (W := W) ⟨F, h, env, sr, (fl_post sr p).imp (fun d F' h' H' _ _ q v dv => ?_) fun _ _ _ x => x⟩
    obtain ⟨s, r, q⟩ := q
    have q : PostF k F' H' N W ((asgT (.nm i) d env h').fl env fun env' h2 => .nx env' h2) := q
    unfold asgT at q
    exact q F' H' _ .refl r ((sr.er.mono s).set i dv)
end
end
/-! M10d: new dicts, dict comprehensions, methods of dicts, insert, starred displays. -/
open PySem PySem.Spec PyProof.Rows L2

/-! ### a dict that nobody knows as yet -/
def newD (t : Bool) : Ev := fun _ h => .ok (.ref h.length) (h ++ [.dic t false []])
def prsE : List (Ev × Ev) → Env → Hs → Res (List (D × D))
  | [], _, h => .ok [] h
  | (a, b) :: r, env, h => (a env h).bind fun x h1 => (b env h1).bind fun y h2 => (prsE r env h2).bind fun l h3 => .ok ((x, y) :: l) h3
def mergeD (kvs more : List (D × D)) : List (D × D) := more.foldl (fun acc kv => dput acc kv.1 kv.2) kvs
/-- {k: v, ..} -/
def dspE (fs : List (Ev × Ev)) : Ev := fun env h => (prsE fs env h).bind fun l h1 => if (l.all fun p => k1 p.1) = true then .ok (.ref h1.length) (h1 ++ [.dic false false (mergeD [] l)]) else .bad
section
variable {k : Kx} {W : WX} {X : Cx} {pos : Pos} {F : List Addr} {H : Hp} {h : Hs} {Q : VK} {W' : Value → Option Addr → Hp → Prop}
theorem Post.dicN {a : Addr} {t : Bool} {o : HO} {kvs : List (D × D)} (p : Post k F H (PV k Q) W' (.ok (.ref h.length) (h ++ [.dic t false kvs]))) (r : RelH k F H h) (dr : DicR k.K F H t kvs o) (ha : H a = none) : Q (.ref a) (upd H a o) := by
  have st := r.stepCell (o := o) ha
  refine p (F ++ [a]) _ st (r.addCell ha ⟨o, dr.mono st, upd_same⟩) _ ?_
  unfold DV
  exact ⟨a, rfl, by rw [← r.len, List.getElem?_append_right (Nat.le_refl _), Nat.sub_self]; rfl⟩
theorem me_dnew (t : Bool) : PE X (.Dict [] [] pos) (tE k W (newD t)) := by
  cases t with
  | false => exact PE.imp pe_dnewK fun σ H Q ⟨F, h, env, sr, p⟩ q hq => Post.dicN (t := false) (kvs := []) p sr.rel ⟨[], rfl, .nil⟩ hq
  | true => exact PE.imp pe_dnewT fun σ H Q ⟨F, h, env, sr, p⟩ q hq => Post.dicN (t := true) (kvs := []) p sr.rel ⟨[], rfl, .nil⟩ hq
abbrev PrR (k : Kx) (F : List Addr) (H : Hp) : List (D × D) → List (V × V) → Prop := Paired fun (p : D × D) (q : V × V) => DV k.K F H p.1 q.1 ∧ DV k.K F H p.2 q.2
theorem prs_imp {σ : L2.St} : ∀ (fs : List (Ev × Ev)) (F : List Addr) (H : Hp) (h : Hs) (env : Env) (Q : List (V × V) → Hp → Prop), SR k F H h σ env → Post k F H (fun l F' _ H' => ∀ ps, PrR k F' H' l ps → Q ps H') (fun c d H' => W c d σ H') (prsE fs env h) → tPairs (fs.map fun q => (tE k W q.1, tE k W q.2)) σ H Q
  | [], F, H, h, env, Q, sr, p => Post.ok (P := fun l F' _ H' => ∀ ps, PrR k F' H' l ps → Q ps H') p sr.rel [] .nil
  | (a, b) :: r, F, H, h, env, Q, sr, p => by
    refine ⟨F, h, env, sr, (Post.bind (r := a env h) p).imp (fun x F1 h1 H1 s1 r1 q xv dx => ?_) fun _ _ _ x => x⟩
    have sr1 := sr.step s1 r1
    refine ⟨F1, h1, env, sr1, q.bind.imp (fun y F2 h2 H2 s2 r2 q yv dy => ?_) fun _ _ _ x => x⟩
    have sr2 := sr1.step s2 r2
    exact prs_imp r F2 H2 h2 env _ sr2 (q.bind.imp (fun l F3 h3 H3 s3 r3 q ps pr => q F3 H3 .refl r3 _ (.cons ⟨DV.mono (s2.trans s3) _ _ dx, DV.mono s3 _ _ dy⟩ pr)) fun _ _ _ x => x)
theorem prs_keys {l : List (D × D)} {ps : List (V × V)} (pr : PrR k F H l ps) (hk : (l.all fun p => k1 p.1) = true) : ∃ kvs : List (Key × V), ps = kvs.map (fun kv => (kV kv.1, kv.2)) ∧ TabR (DV k.K F H) keyD keyOk l kvs := by
  induction pr with
  | nil => exact ⟨[], rfl, .nil⟩
  | @cons p q ps qs r _ ih =>
    rw [List.all_cons, Bool.and_eq_true] at hk
    obtain ⟨kvs, e, t⟩ := ih hk.2
    obtain ⟨ky, e1, e2, o⟩ := k1_key hk.1 r.1
    refine ⟨(ky, q.2) :: kvs, ?_, .cons ⟨e1, o, r.2⟩ t⟩
    rw [List.map_cons, ← e, ← e2]
theorem TabR.merge {R : D → V → Prop} : ∀ {l : List (D × D)} {kvs : List (Key × V)}, TabR R keyD keyOk l kvs → ∀ {m : List (D × D)} {ms : List (Key × V)}, TabR R keyD keyOk m ms → TabR R keyD keyOk (mergeD m l) (mergeK ms kvs)
  | _, _, .nil, _, _, t => t
  | _, _, .cons (a := p) (b := q) r t, _, _, t0 => by
    have z := TabR.put kEq_keyD t0 (k := q.1) r.2.1 r.2.2
    rw [← r.1] at z
    exact TabR.merge t z
theorem me_disp {keys : List (Option Expr)} {values : List Expr} {fs : List (Ev × Ev)} (hp : PPs X pos keys values (fs.map fun q => (tE k W q.1, tE k W q.2))) (hall : keys.all (·.isSome) = true) (hl : keys.length = values.length) (h0 : keys ≠ []) (h15 : keys.length ≤ 15) (hf : fs.length = keys.length) :
    PE X (.Dict keys values pos) (tE k W (dspE fs)) := by
  refine PE.imp (pe_disp hp hall hl h0 h15) fun σ H Q p q hq => ?_
  obtain ⟨F, h, env, sr, p⟩ := p
  have nq := sr.rel.fresh hq
  have s0 := sr.rel.stepNew (o := .dK []) hq
  have sr0 : SR k F (upd H q (.dK [])) h σ env := sr.step s0 (sr.rel.addNew hq)
  refine prs_imp fs F _ h env _ sr0 ?_
  cases e : prsE fs env h with
  | bad => have p : Post k F H (PV k Q) _ ((prsE fs env h).bind fun l h1 => if (l.all fun p => k1 p.1) = true then .ok (.ref h1.length) (h1 ++ [.dic false false (mergeD [] l)]) else .bad) := p; rw [e] at p; exact p.elim
  | exc x h1 =>
    have p : Post k F H (PV k Q) (fun c d H' => W c d σ H') ((prsE fs env h).bind fun l h1 => if (l.all fun p => k1 p.1) = true then .ok (.ref h1.length) (h1 ++ [.dic false false (mergeD [] l)]) else .bad) := p
    rw [e] at p
    exact fun F' H' cls dx s r xr => p F' H' cls dx (s0.trans s) r xr
  | ok l h1 =>
    have p : Post k F H (PV k Q) (fun c d H' => W c d σ H') ((prsE fs env h).bind fun l h1 => if (l.all fun p => k1 p.1) = true then .ok (.ref h1.length) (h1 ++ [.dic false false (mergeD [] l)]) else .bad) := p
    rw [e] at p
    obtain ⟨c, p⟩ := Post.cond (c := (l.all fun p => k1 p.1) = true) (r := (.ok (.ref h1.length) (h1 ++ [.dic false false (mergeD [] l)]) : Res D)) p
    intro F1 H1 s1 r1 ps pr
    have n1 : q ∉ F1 := fun mm => by have := s1.new q mm nq; rw [upd_same] at this; cases this
    have e1 : H1 q = some (.dK []) := s1.old q _ upd_same nq
    obtain ⟨kvs, rfl, t⟩ := prs_keys pr c
    have hlen : kvs.length ≤ 15 := by
      have a1 : l.length = kvs.length := t.length
      have a2 : l.length = fs.length := by
        clear p pr t c
        have key : ∀ (fs : List (Ev × Ev)) (h : Hs) (l : List (D × D)) (h1 : Hs), prsE fs env h = .ok l h1 → l.length = fs.length := by
          intro fs
          induction fs with
          | nil => intro h l h1 e; cases e; rfl
          | cons ab r ih =>
            intro h l h1 e
            obtain ⟨a, b⟩ := ab
            have e : ((a env h).bind fun x h1 => (b env h1).bind fun y h2 => (prsE r env h2).bind fun l h3 => .ok ((x, y) :: l) h3) = .ok l h1 := e
            cases ea : a env h with
            | bad => rw [ea] at e; cases e
            | exc => rw [ea] at e; cases e
            | ok x h2 =>
              rw [ea] at e
              have e : ((b env h2).bind fun y h2 => (prsE r env h2).bind fun l h3 => .ok ((x, y) :: l) h3) = .ok l h1 := e
              cases eb : b env h2 with
              | bad => rw [eb] at e; cases e
              | exc => rw [eb] at e; cases e
              | ok y h3 =>
                rw [eb] at e
                have e : ((prsE r env h3).bind fun l h3 => .ok ((x, y) :: l) h3) = .ok l h1 := e
                cases er : prsE r env h3 with
                | bad => rw [er] at e; cases e
                | exc => rw [er] at e; cases e
                | ok l' h4 => rw [er] at e; cases e; rw [List.length_cons, List.length_cons, ih _ _ _ er]
        exact key fs h l h1 e
      omega
    refine ⟨e1, kvs, rfl, hlen, ?_⟩
    have st : Step k.K F H F1 (upd H1 q (.dK (mergeK [] kvs))) := (s0.trans s1).grow hq e1 soft_dK
    have rl : RelH k F1 (upd H1 q (.dK (mergeK [] kvs))) h1 := r1.grow n1 e1 soft_dK
    have tm := TabR.merge t (m := []) (ms := []) .nil
    refine p (F1 ++ [q]) _ (st.known hq) (rl.known n1 ⟨.dK (mergeK [] kvs), ⟨_, rfl, Paired.mapP tm fun _ _ z => ⟨z.1, z.2.1, DV.more _ _ (DV.grow (grow_t e1 soft_dK) (grow_l (k := k) e1 soft_dK) _ _ z.2.2)⟩⟩, upd_same⟩) _ ?_
    unfold DV
    exact ⟨q, rfl, by rw [← r1.len, List.getElem?_append_right (Nat.le_refl _), Nat.sub_self]; rfl⟩
end

/-! ### dict comprehensions -/
def dcTurn (c : Option Ev) (ek ev : Ev) (i : Nat) (acc : List (D × D)) (env : Env) (h : Hs) : Nat × List (D × D) × Hs ⊕ Res (List (D × D)) := match lcC c env h with
  | .ok true h2 => match ek env h2 with
    | .ok y h3 => match ev env h3 with
      | .ok z h4 => if k1 y = true ∧ acc.length < lim then .inl (i + 1, dput acc y z, h4) else .inr .bad
      | _ => .inr .bad
    | _ => .inr .bad
  | .ok false h2 => .inl (i + 1, acc, h2)
  | _ => .inr .bad
def dcStep (src : Src) (t : Tg) (c : Option Ev) (ek ev : Ev) (env : Env) : Nat × List (D × D) × Hs → (Nat × List (D × D) × Hs) ⊕ Res (List (D × D)) := fun s => match src.nxt s.1 s.2.2 with
  | none => .inr .bad
  | some none => .inr (.ok s.2.1 s.2.2)
  | some (some d) => match asgT t d env s.2.2 with
    | .ok env1 h1 => dcTurn c ek ev s.1 s.2.1 env1 h1
    | _ => .inr .bad
noncomputable def dcE (s : Sv) (t : Tg) (c : Option Ev) (ek ev : Ev) (vs : List Nat) : Ev := fun env h => (s env h).bind fun src h1 =>
  (iter (dcStep src t c ek ev (wipeE env vs)) .bad (0, [], h1)).bind fun xs h2 => .ok (.ref h2.length) (h2 ++ [.dic false false xs])
section
variable {k : Kx} {W : WX}
theorem dc_read {fi : Sv} {t : Tg} {c : Option Ev} {ek ev : Ev} {vs : List Nat} {σ H Q} (p : tE k W (dcE fi t c ek ev vs) σ H Q) : tDc (tI k W fi) (tGw k vs (asgT t)) (tTc k c) (tE k (fun _ _ _ _ => False) ek) (tE k (fun _ _ _ _ => False) ev) vs σ H Q := by
  obtain ⟨F, h, env, sr, p⟩ := p
  refine ⟨F, h, env, sr, p.bind.imp (fun src F' h' H' s r q J jr L0 hD => ?_) fun _ _ _ x => x⟩
  have sr' := sr.step s r
  have hne : iter (dcStep src t c ek ev (wipeE env vs)) .bad (0, [], h') ≠ .bad := fun z => by rw [z] at q; exact q
  obtain ⟨m, hm⟩ := iter_good hne
  generalize iter (dcStep src t c ek ev (wipeE env vs)) .bad (0, [], h') = fl at q hm hne
  have hDF : L0 ∉ F' := r.fresh hD
  refine ⟨fun i m H2 => ∃ F2 h2 acc vs, Step k.K F' H' F2 H2 ∧ RelH k F2 H2 h2 ∧ L0 ∉ F2 ∧ H2 L0 = some (.dK vs) ∧ TabR (DV k.K F2 H2) keyD keyOk acc vs ∧ iterN (dcStep src t c ek ev (wipeE env _)) m (i, acc, h2) = some fl, ⟨m, F', h', [], [], r.stepNew hD, r.addNew hD, hDF, upd_same, .nil, hm⟩, ?_⟩
  rintro i m H2 ⟨F2, h2, acc, us, s2, r2, n2, e2, dv2, hm⟩
  cases m with
  | zero => cases hm
  | succ m =>
    unfold iterN at hm
    have jr2 := jr F2 h2 H2 i s2 r2
    cases en : src.nxt i h2 with
    | none =>
      have : dcStep src t c ek ev (wipeE env vs) (i, acc, h2) = .inr .bad := by unfold dcStep; rw [en]
      rw [this] at hm; cases hm
      exact absurd rfl hne
    | some o =>
      cases o with
      | none =>
        have : dcStep src t c ek ev (wipeE env vs) (i, acc, h2) = .inr (.ok acc h2) := by unfold dcStep; rw [en]
        rw [this] at hm; cases hm
        refine .inl ⟨jr2.1 en, ?_⟩
        have q : ∀ F'' H'', Step k.K F' H' F'' H'' → RelH k F'' H'' (h2 ++ [.dic false false acc]) → PV k Q (.ref h2.length) F'' (h2 ++ [.dic false false acc]) H'' := q
        refine q (F2 ++ [L0]) H2 (s2.known hD) (r2.known n2 ⟨.dK us, ⟨us, rfl, Paired.mapP dv2 fun _ _ z => ⟨z.1, z.2.1, DV.more _ _ z.2.2⟩⟩, e2⟩) _ ?_
        unfold DV
        exact ⟨L0, rfl, by rw [← r2.len, List.getElem?_append_right (Nat.le_refl _), Nat.sub_self]; rfl⟩
      | some d =>
        obtain ⟨jg, jy⟩ := jr2.2 d en
        refine .inr ⟨jg, fun H' => ∃ F3 h3 acc vs', Step k.K F' _ F3 H' ∧ RelH k F3 H' h3 ∧ L0 ∉ F3 ∧ H' L0 = some (.dK vs') ∧ TabR (DV k.K F3 H') keyD keyOk acc vs' ∧ iterN (dcStep src t c ek ev (wipeE env vs)) m (i + 1, acc, h3) = some fl, fun H' z => ⟨m, Nat.lt_succ_self m, z⟩, fun x H3 y => ?_⟩
        obtain ⟨s3, r3, dv⟩ := jy x H3 y
        have st3 := s2.trans s3
        have sr3 : SR k F2 H3 h2 (wipe σ vs) (wipeE env vs) := ⟨r3, (sr'.er.mono st3).wipe vs, sr'.xd.mono st3⟩
        have e3 : H3 L0 = some (.dK us) := s3.old L0 _ e2 n2
        refine ⟨F2, h2, wipeE env vs, d, sr3, dv, ?_⟩
        cases ea : asgT t d (wipeE env vs) h2 with
        | bad =>
          have : dcStep src t c ek ev (wipeE env vs) (i, acc, h2) = .inr .bad := by unfold dcStep; rw [en]; show (match asgT t d (wipeE env vs) h2 with | .ok env1 h1 => _ | _ => _) = _; rw [ea]
          rw [this] at hm; cases hm
          exact absurd rfl hne
        | exc x h4 => exact absurd ea (asgT_ne _ _ _ _ _ _)
        | ok env4 h4 =>
          intro F4 H4 s4 r4 σ4 er4 w4
          have ef : dcStep src t c ek ev (wipeE env vs) (i, acc, h2) = dcTurn c ek ev i acc env4 h4 := by unfold dcStep; rw [en]; show (match asgT t d (wipeE env vs) h2 with | .ok env1 h1 => _ | _ => _) = _; rw [ea]
          rw [ef] at hm
          have n4 : L0 ∉ F4 := fun mm => by have := s4.new L0 mm n2; rw [e3] at this; cases this
          have e4 : H4 L0 = some (.dK us) := s4.old L0 _ e3 n2
          have sr4 : SR k F4 H4 h4 σ4 env4 := ⟨r4, er4, sr3.xd.mono s4⟩
          have st4 := st3.trans s4
          have dv4 : TabR (DV k.K F4 H4) keyD keyOk acc us := Paired.mapP dv2 fun _ _ z => ⟨z.1, z.2.1, DV.mono (s3.trans s4) _ _ z.2.2⟩
          refine ⟨by rw [w4]; exact wipe_wipe σ vs, ?_⟩
          -- behind the tests
          have last : ∀ (b : Bool) (h5 : Hs), lcC c env4 h4 = .ok b h5 → ∀ F5 H5, Step k.K F4 H4 F5 H5 → RelH k F5 H5 h5 →
              if b = true then tE k (fun _ _ _ _ => False) ek σ4 H5 (fun y H6 => tE k (fun _ _ _ _ => False) ev σ4 H6 (fun z H7 => ∃ kvs ky, y = kV ky ∧ H7 L0 = some (.dK kvs) ∧ kvs.length < sizeLine ∧ ∃ F3 h3 acc_1 vs', Step k.K F' H' F3 (upd H7 L0 (.dK (putK kvs ky z))) ∧ RelH k F3 (upd H7 L0 (.dK (putK kvs ky z))) h3 ∧ L0 ∉ F3 ∧ upd H7 L0 (.dK (putK kvs ky z)) L0 = some (.dK vs') ∧ TabR (DV k.K F3 (upd H7 L0 (.dK (putK kvs ky z)))) keyD keyOk acc_1 vs' ∧ iterN (dcStep src t c ek ev (wipeE env vs)) m (i + 1, acc_1, h3) = some fl))
              else ∃ F3 h3 acc vs', Step k.K F' H' F3 H5 ∧ RelH k F3 H5 h3 ∧ L0 ∉ F3 ∧ H5 L0 = some (.dK vs') ∧ TabR (DV k.K F3 H5) keyD keyOk acc vs' ∧ iterN (dcStep src t c ek ev (wipeE env vs)) m (i + 1, acc, h3) = some fl := by
            intro b h5 eb F5 H5 s5 r5
            have n5 : L0 ∉ F5 := fun mm => by have := s5.new L0 mm n4; rw [e4] at this; cases this
            have e5 : H5 L0 = some (.dK us) := s5.old L0 _ e4 n4
            have sr5 := sr4.step s5 r5
            have st5 := st4.trans s5
            have dv5 : TabR (DV k.K F5 H5) keyD keyOk acc us := Paired.mapP dv4 fun _ _ z => ⟨z.1, z.2.1, DV.mono s5 _ _ z.2.2⟩
            unfold dcTurn at hm
            rw [eb] at hm
            cases b with
            | false => exact ⟨F5, h5, acc, us, st5, r5, n5, e5, dv5, hm⟩
            | true =>
              rw [if_pos rfl]
              refine ⟨F5, h5, env4, sr5, ?_⟩
              cases ee : ek env4 h5 with
              | bad => simp only [ee] at hm; cases hm; exact absurd rfl hne
              | exc x h6 => simp only [ee] at hm; cases hm; exact absurd rfl hne
              | ok y h6 =>
                simp only [ee] at hm
                intro F6 H6 s6 r6 yv dy
                have n6 : L0 ∉ F6 := fun mm => by have := s6.new L0 mm n5; rw [e5] at this; cases this
                have e6 : H6 L0 = some (.dK us) := s6.old L0 _ e5 n5
                refine ⟨F6, h6, env4, sr5.step s6 r6, ?_⟩
                cases ev' : ev env4 h6 with
                | bad => simp only [ev'] at hm; cases hm; exact absurd rfl hne
                | exc x h7 => simp only [ev'] at hm; cases hm; exact absurd rfl hne
                | ok z h7 =>
                  simp only [ev'] at hm
                  by_cases hl : k1 y = true ∧ acc.length < lim
                  · rw [if_pos hl] at hm
                    intro F7 H7 s7 r7 zv dz
                    have n7 : L0 ∉ F7 := fun mm => by have := s7.new L0 mm n6; rw [e6] at this; cases this
                    have e7 : H7 L0 = some (.dK us) := s7.old L0 _ e6 n6
                    have hz : us.length < sizeLine := by
                      have a1 : acc.length = us.length := dv2.length
                      rw [← a1]
                      exact Nat.lt_of_lt_of_le hl.2 (le_lim (Nat.le_refl _))
                    obtain ⟨ky, rfl, rfl, ok⟩ := k1_key hl.1 dy
                    have dv7 : TabR (DV k.K F7 H7) keyD keyOk acc us := Paired.mapP dv5 fun _ _ z => ⟨z.1, z.2.1, DV.mono (s6.trans s7) _ _ z.2.2⟩
                    have dp := TabR.put kEq_keyD dv7 (k := ky) ok dz
                    exact ⟨us, ky, rfl, e7, hz, F7, h7, dput acc (keyD ky) z, putK us ky zv, ((st5.trans s6).trans s7).grow hD e7 soft_dK, r7.grow n7 e7 soft_dK, n7, upd_same, Paired.mapP dp fun _ _ z => ⟨z.1, z.2.1, DV.grow (grow_t e7 soft_dK) (grow_l (k := k) e7 soft_dK) _ _ z.2.2⟩, hm⟩
                  · rw [if_neg hl] at hm; cases hm; exact absurd rfl hne
          cases c with
          | none => exact last true h4 rfl F4 H4 .refl r4
          | some c =>
            refine ⟨F4, h4, env4, sr4, ?_⟩
            have ecc : lcC (some c) env4 h4 = tst c env4 h4 := rfl
            cases ec : tst c env4 h4 with
            | bad => unfold dcTurn at hm; rw [ecc, ec] at hm; cases hm; exact absurd rfl hne
            | exc x h6 => unfold dcTurn at hm; rw [ecc, ec] at hm; cases hm; exact absurd rfl hne
            | ok b h5 => exact fun F5 H5 s5 r5 => last b h5 (ecc.trans ec) F5 H5 s5 r5
end
section
variable {X : Cx} {k : Kx} {W : WX} {pos : Pos} {kx vx tg ite : Expr} {scope : Scope} {own : List (Str × Nat)} {fi : Sv} {t : Tg} {fk fv : Ev}
theorem me_dc {ifs : List Expr} {c : Option Ev} (hc : X.calm = true) (hN : X.N.Nodup) (hi : PI X tg ite (tI k W fi)) (ok : BlkOk X.N X.env.scope scope own)
    (hg : ∀ (s : Shared) (H : Hp) (C : Addr) (cl : List (Str × Addr)) (fp : List Addr), PG (X.blk s H scope (compEnvC scope cl C X.env) fp) tg (tGw k (own.map (·.2)) (asgT t)))
    (ht : ∀ (s : Shared) (H : Hp) (C : Addr) (cl : List (Str × Addr)) (fp : List Addr), PTs (X.blk s H scope (compEnvC scope cl C X.env) fp) ifs (tTc k c))
    (hk : ∀ (s : Shared) (H : Hp) (C : Addr) (cl : List (Str × Addr)) (fp : List Addr), PE (X.blk s H scope (compEnvC scope cl C X.env) fp) kx (tE k (fun _ _ _ _ => False) fk))
    (he : ∀ (s : Shared) (H : Hp) (C : Addr) (cl : List (Str × Addr)) (fp : List Addr), PE (X.blk s H scope (compEnvC scope cl C X.env) fp) vx (tE k (fun _ _ _ _ => False) fv)) (hs : ∀ x, foldedSetIterable ite X.env x = pure x) :
    PE X (.DictComp kx vx [⟨tg, ite, ifs, 0⟩] scope pos) (tE k W (dcE fi t c fk fv (own.map (·.2)))) :=
  PE.imp (pe_dc hc hN hi ok hg ht hk he hs) fun σ H Q p => dc_read p
end

section
variable {X : Cx}
/-- name = {..} on one line, the name a local -/
theorem ps_setDc {i : Nat} {y : Str} {py : Pos} {kx vx tg iter : Expr} {ifs : List Expr} {scope : Scope} {own : List (Str × Nat)} {pos spos : Pos} {wi : TI} {g : TG} {tt : TT} {tk tv : TE} (hc : X.calm = true) (hN : X.N.Nodup) (hy : X.N[i]? = some y) (hyl : X.env.scope.names.lookup y = some .local)
    (hsw : swapsWith (.DictComp kx vx [⟨tg, iter, ifs, 0⟩] scope pos) (some (.Name y py)) spos.line X.env = pure true) (hi : PI X tg iter wi) (ok : BlkOk X.N X.env.scope scope own)
    (hg : ∀ (s : Shared) (H : Hp) (C : Addr) (cl : List (Str × Addr)) (fp : List Addr), PG (X.blk s H scope (compEnvC scope cl C X.env) fp) tg g) (ht : ∀ (s : Shared) (H : Hp) (C : Addr) (cl : List (Str × Addr)) (fp : List Addr), PTs (X.blk s H scope (compEnvC scope cl C X.env) fp) ifs tt)
    (hk : ∀ (s : Shared) (H : Hp) (C : Addr) (cl : List (Str × Addr)) (fp : List Addr), PE (X.blk s H scope (compEnvC scope cl C X.env) fp) kx tk)
    (he : ∀ (s : Shared) (H : Hp) (C : Addr) (cl : List (Str × Addr)) (fp : List Addr), PE (X.blk s H scope (compEnvC scope cl C X.env) fp) vx tv) (hs : ∀ x, foldedSetIterable iter X.env x = pure x) :
    PS X (.Assign [.Name y py] (.DictComp kx vx [⟨tg, iter, ifs, 0⟩] scope pos) spos) (tAsg (tDc wi g tt tk tv (own.map (·.2))) (gName i)) := by
  refine ⟨fun pins s σ H D I h => ?_⟩
  rw [exec_Assign_Name_used _ _ _ _ hsw]
  refine wpAny_bind (wpAny_standAt (wpAny_bind ?_))
  show wpAny _ X.A (do let _ ← comprehension (.DictComp kx vx [⟨tg, iter, ifs, 0⟩] scope pos) scope X.env (firstIterPos [⟨tg, iter, ifs, 0⟩] pos) newDict false (eval iter X.env) (some (assign (.Name y py) X.env))) _ _ s
  have h : tDc wi g tt tk tv (own.map (·.2)) σ H (fun x H1 => gName i x σ H1 D.nx) := h
  refine wpAny_bind (thn (dc_core (Qf := fun _ s' => SP X pins D .next s') hc hN I hi ok hg ht hk he hs h fun L C s' m H' I' q hn f => ?_) fun _ s' hq => wpAny_pure (wpAny_pure hq))
  show wpAny _ _ (assign (.Name y py) X.env (.ref L)) _ _ _
  refine wpAny_assign_Name (store_ok2 (v := V.ref L) I' hN hy (.inl hyl) rfl (fun s2 I2 ⟨a, sb, ha⟩ => ?_) (.inr hyl))
  obtain ⟨f0, f1, f2, f3, f4, f5⟩ := f
  have haC : C ≠ a := by
    rcases ha with z | z
    · rw [z]; exact f1
    · exact fun e => f4 y a z e.symm
  refine ⟨m, hn.sameBut sb haC, fun h3 sb3 => ?_⟩
  exact ⟨_, H', I2.turned (t' := s2.toks) (fun b o hb e => (sb3.2 b hb).trans e) f0 f1 f3 f4 f5, q⟩
theorem sw_trueD {kx vx : Expr} {gs : List Comprehension} {scope : Scope} {pos py : Pos} {y : Str} {l : Nat} {env : PySem.Env} (hk : env.scope.kind = .function) (hy : env.scope.names.lookup y = some .local) (hl : (py.line == pos.line) = true)
    (ha : (scope.names.any fun (n, k) => n == y && (k == .local || k == .cell)) = false) : swapsWith (.DictComp kx vx gs scope pos) (some (.Name y py)) l env = pure true := by
  have ky : env.kindOf y = some .local := hy
  have hb : env.blockKind = .function := by unfold Env.blockKind; rw [hk]; rfl
  unfold swapsWith
  simp only [hb, ky, ha, Expr.pos, hl]
  rfl
end
section
variable {X : Cx} {k : Kx} {W : WX} {pos : Pos} {kx vx tg ite : Expr} {scope : Scope} {own : List (Str × Nat)} {fi : Sv} {t : Tg} {fk fv : Ev}
theorem ms_setDc {i : Nat} {y : Str} {py spos : Pos} {ifs : List Expr} {c : Option Ev} (hc : X.calm = true) (hN : X.N.Nodup) (hy : X.N[i]? = some y) (hyl : X.env.scope.names.lookup y = some .local)
    (hsw : swapsWith (.DictComp kx vx [⟨tg, ite, ifs, 0⟩] scope pos) (some (.Name y py)) spos.line X.env = pure true) (hi : PI X tg ite (tI k W fi)) (ok : BlkOk X.N X.env.scope scope own)
    (hg : ∀ (s : Shared) (H : Hp) (C : Addr) (cl : List (Str × Addr)) (fp : List Addr), PG (X.blk s H scope (compEnvC scope cl C X.env) fp) tg (tGw k (own.map (·.2)) (asgT t)))
    (ht : ∀ (s : Shared) (H : Hp) (C : Addr) (cl : List (Str × Addr)) (fp : List Addr), PTs (X.blk s H scope (compEnvC scope cl C X.env) fp) ifs (tTc k c))
    (hk : ∀ (s : Shared) (H : Hp) (C : Addr) (cl : List (Str × Addr)) (fp : List Addr), PE (X.blk s H scope (compEnvC scope cl C X.env) fp) kx (tE k (fun _ _ _ _ => False) fk))
    (he : ∀ (s : Shared) (H : Hp) (C : Addr) (cl : List (Str × Addr)) (fp : List Addr), PE (X.blk s H scope (compEnvC scope cl C X.env) fp) vx (tE k (fun _ _ _ _ => False) fv)) (hs : ∀ x, foldedSetIterable ite X.env x = pure x) :
    PS X (.Assign [.Name y py] (.DictComp kx vx [⟨tg, ite, ifs, 0⟩] scope pos) spos) (tS k W (asgF (dcE fi t c fk fv (own.map (·.2))) (asgT (.nm i)))) :=
  PS.imp (ps_setDc hc hN hy hyl hsw hi ok hg ht hk he hs) fun N σ H p => by
    obtain ⟨F, h, env, sr, p⟩ := p
    refine dc_read (W := W) ⟨F, h, env, sr, (fl_post sr p).imp (fun d F' h' H' _ _ q v dv => ?_) fun _ _ _ x => x⟩
    obtain ⟨s, r, q⟩ := q
    have q : PostF k F' H' N W ((asgT (.nm i) d env h').fl env fun env' h2 => .nx env' h2) := q
    unfold asgT at q
    exact q F' H' _ .refl r ((sr.er.mono s).set i dv)
end
/-! ### d.get, xs.insert -/
def isDc (h : Hs) (d : D) : Bool := (dicAt h d).isSome
def getGo (h : Hs) (d : D) : List D → Res D
  | [e] => match dicRd h d with
    | some (t, kvs) => if kOk t e = true then .ok ((dfind kvs e).getD .non) h else .bad
    | none => .bad
  | [e, z] => match dicRd h d with
    | some (t, kvs) => if kOk t e = true then .ok ((dfind kvs e).getD z) h else .bad
    | none => .bad
  | _ => .bad
def getM : MF := ⟨isDc, getGo⟩
def insGo (h : Hs) (d : D) : List D → Res D
  | [e, z] => match lstAt h d with
    | some (n, xs) => match e with
      | .int i => if 0 ≤ i ∧ i < 2 ^ 63 ∧ xs.length < lim then .ok .non (h.set n (.lst (xs.take i.toNat ++ [z] ++ xs.drop i.toNat))) else .bad
      | _ => .bad
    | none => .bad
  | _ => .bad
def insM : MF := ⟨isL, insGo⟩
section
variable {X : Cx} {k : Kx}
theorem isDc_ty : ∀ F H h d v, RelH k F H h → DV k.K F H d v → isDc h d = true → tyV X.K "dict" v H := fun F H h d v r dv e => by
  unfold isDc at e
  cases q : dicAt h d with
  | none => rw [q] at e; cases e
  | some p =>
    obtain ⟨n, t, kvs⟩ := p
    obtain ⟨rfl, e1⟩ := dicAt_ref q
    unfold DV at dv
    obtain ⟨a, rfl, hf⟩ := dv
    obtain ⟨u, dr, hu⟩ := r.cell n _ a e1 hf
    have hu : H a = some u := hu
    refine .inr (.inr (.inl ⟨rfl, ?_⟩))
    rcases dr.is with ⟨l, rfl⟩ | ⟨l, rfl⟩
    · exact .inl ⟨l, hu⟩
    · exact .inr ⟨l, hu⟩
theorem m_get (hu : X.A.units + 1 < cLine) : MtD X k "dict" "dict.get" getM := ⟨isDc_ty, fun pins s σ H x vs v us Q I rx rv q => by
  obtain ⟨W0, F, h, d, ds, rl, dx, dvs, p⟩ := q
  have p : Post k F H (PV k Q) W0 (getGo h d ds) := p
  unfold getGo at p
  split at p
  · rename_i e
    split at p
    · rename_i t kvs e1
      obtain ⟨c, p⟩ := p.cond
      unfold DVs at dvs
      obtain ⟨w, w', rfl, d1, d2⟩ := dvs
      unfold DVs at d2
      subst d2
      obtain ⟨a, o, rfl, g, co⟩ := rl.dget e1 c dx d1
      obtain ⟨u, rfl, ru⟩ := rv.one
      cases rx
      refine d_get1 hu I g ru fun w' s' I' rw' => ⟨_, H, I', rw', ?_⟩
      rcases co with ⟨e3, rfl⟩ | ⟨z, v, e3, rfl, dz⟩
      · rw [e3] at p; exact Post.here (d := .non) p rl (by unfold DV; rfl)
      · rw [e3] at p; exact Post.here (d := z) p rl dz
    · exact p.elim
  · rename_i e z0 _
    split at p
    · rename_i t kvs e1
      obtain ⟨c, p⟩ := p.cond
      unfold DVs at dvs
      obtain ⟨w, w', rfl, d1, d2⟩ := dvs
      unfold DVs at d2
      obtain ⟨w2, w3, rfl, d3, d4⟩ := d2
      unfold DVs at d4
      subst d4
      obtain ⟨a, o, rfl, g, co⟩ := rl.dget e1 c dx d1
      obtain ⟨u, u2, rfl, ru, ru2⟩ := rv.two
      cases rx
      refine d_get2 hu I g ru ru2 fun w' s' I' rw' => ⟨_, H, I', rw', ?_⟩
      rcases co with ⟨e3, rfl⟩ | ⟨z, v, e3, rfl, dz⟩
      · rw [e3] at p; exact Post.here (d := z0) p rl d3
      · rw [e3] at p; exact Post.here (d := z) p rl dz
    · exact p.elim
  · exact p.elim⟩
theorem m_insert (hK : X.K = k.K) : MtD X k "list" "list.insert" insM := ⟨isL_ty hK, fun pins s σ H x vs v us Q I rx rv q => by
  obtain ⟨W0, F, h, d, ds, rl, dx, dvs, p⟩ := q
  have p : Post k F H (PV k Q) W0 (insGo h d ds) := p
  unfold insGo at p
  split at p
  · rename_i e z
    split at p
    · rename_i n xs e0
      split at p
      · rename_i i
        obtain ⟨c, p⟩ := p.cond
        obtain ⟨rfl, e1⟩ := lstAt_ref e0
        obtain ⟨a, ws, rfl, hf, hl, dw⟩ := rl.lst e1 dx
        unfold DVs at dvs
        obtain ⟨w, w', rfl, d1, d2⟩ := dvs
        unfold DVs at d2
        obtain ⟨w2, w3, rfl, d3, d4⟩ := d2
        unfold DVs at d4
        subst d4
        cases d1.intV
        refine mt_insert pins s σ H _ _ v us Q I rx rv ⟨a, ws, i, w2, rfl, rfl, hl, by rw [← dw.len]; exact Nat.lt_of_lt_of_le c.2.2 (le_lim (Nat.le_refl _)), c.1, c.2.1, ?_⟩
        exact p.wr rl hf (((dw.take _).app (DVs.cons d3 DVs.nil)).app (dw.drop _)) (by unfold DV; rfl)
      · exact p.elim
    · exact p.elim
  · exact p.elim⟩
/-! ### starred displays -/
def aStar (a : Ev) (r : Av) : Av := fun env h => (a env h).bind fun x h1 => match seqH h1 x with
  | some xs => (r env h1).bind fun ys h2 => .ok (xs ++ ys) h2
  | none => .bad
theorem ma_star {W : WX} {e : Expr} {es : List Expr} {fa : Ev} {fr : Av} {p : Pos} (hK : X.K = k.K) (ha : PE X e (tE k W fa)) (hr : PA X es (tA k W fr)) : PA X (.Starred e p :: es) (tA k W (aStar fa fr)) := by
  refine PA.imp (StX.pa_star ha hr rfl) fun σ H Q p => ?_
  obtain ⟨F, h, env, sr, p⟩ := p
  refine ⟨F, h, env, sr, p.bind.imp (fun x F1 h1 H1 s1 r1 q v dv => ?_) fun _ _ _ x => x⟩
  cases e1 : seqH h1 x with
  | none => rw [e1] at q; exact q.elim
  | some xs =>
    rw [e1] at q
    obtain ⟨a, vs, rfl, sq, dvs, _, _⟩ := r1.seq dv e1
    refine ⟨a, vs, rfl, by rw [hK]; exact sq.symm, F1, h1, env, sr.step s1 r1, (Post.bind (r := fr env h1) q).imp (fun ys F2 h2 H2 s2 r2 q ws dws => ?_) fun _ _ _ x => x⟩
    exact q F2 H2 .refl r2 _ ((DVs.mono s2 _ _ dvs).app dws)
end
/-! DT: dict comprehensions whose keys are tuples. -/
open PySem PySem.Spec PyProof.Rows L2

section
variable {X : Cx}
/-- one pair more, the key a tuple -/
theorem dset_t {pn : List (Addr × Obj)} {ν : L2.St} {G : Hp} {t : Shared} {E : Value → Shared → Prop} {d b : Addr} {kvs : List (List Key × V)} {ks : List Key} {z : V} {zv : Value} {Q : Unit → Shared → Prop} (hu : X.A.units + 1 < cLine) (J : Inv X pn ν G t) (hd : G d = some (.dT kvs)) (hb : G b = some (.tup (ks.map kV))) (hl : kvs.length < sizeLine)
    (rz : RelV z zv) (h : ∀ t', Inv X pn ν (upd G d (.dT (putK kvs ks z))) t' → Q () t') : wpAny (model X.prog X.w) X.A (dictSet d (.ref b) zv) Q E t := by
  obtain ⟨m1, m2, xs, rel, dd⟩ := dt_of J.hok hd
  have l1 : xs.length ≤ sizeLine := by (rw [← Paired.length rel]; exact m1)
  have l2 : (putK kvs ks z).length ≤ sizeLine := by (have := length_putK kvs ks z; omega)
  refine wpAny_dictSet_heap (hsz := l1) (show X.A.units < cLine by omega) (key_of J.hok hb) dd fun g' dd' sb => h _ ?_
  obtain ⟨o, es, ep, w1, w2, w3, w4, _, w5⟩ := dd'
  refine d_write J (by (rw [hd]; exact True.intro)) sb ⟨o, w1⟩ ⟨l2, m2, _, (rel.put ks hb rz).keeps fun c ys ec => ?_, o, es, ep, w1, w2, w3, w4, w5⟩
  rw [upd_ne (ne_of ec hd (fun q => nomatch q))]; exact ec
/-- {k: v for tg in ..}, the keys tuples of ints and texts: d the new dict -/
def tDcT (wi : TI) (g : TG) (tt : TT) (tk tv : TE) (vs : List Nat) : TE := fun ν G Q => wi ν G fun J G1 => ∀ d, G1 d = none → ∃ R : Nat → Nat → Hp → Prop, (∃ m, R 0 m (upd G1 d (.dT []))) ∧ ∀ i m G, R i m G →
  (J.stop i G ∧ Q (.ref d) G) ∨ (J.go i G ∧ ∃ N : Hp → Prop, (∀ G', N G' → ∃ m', m' < m ∧ R (i + 1) m' G') ∧ ∀ x G', J.yld i G x G' → g x (wipe ν vs) G' fun ν2 G2 => wipe ν2 vs = wipe ν vs ∧ tt ν2 G2 fun b G3 =>
    if b = true then tk ν2 G3 fun y G4 => tv ν2 G4 fun z G5 => ∃ kvs ks b, y = .ref b ∧ G5 b = some (.tup (ks.map kV)) ∧ G5 d = some (.dT kvs) ∧ kvs.length < sizeLine ∧ N (upd G5 d (.dT (putK kvs ks z))) else N G3)
abbrev dTree (kx vx tg it : Expr) (ifs : List Expr) (sc : Scope) (p : Pos) : Expr := .DictComp kx vx [⟨tg, it, ifs, 0⟩] sc p
abbrev BlkP (X : Cx) (sc : Scope) (f : Cx → Prop) : Prop := ∀ (s : Shared) (H : Hp) (C : Addr) (cl : List (Str × Addr)) (fp : List Addr), f (X.blk s H sc (compEnvC sc cl C X.env) fp)
theorem dct_core {pn : List (Addr × Obj)} {t0 : Shared} {ν : L2.St} {G : Hp} {Q : VK} {kx vx tg it : Expr} {ifs : List Expr} {sc : Scope} {own : List (Str × Nat)} {p p' : Pos} {wi : TI} {g : TG} {tt : TT} {tk tv : TE} {use : Option (Value → Sem Unit)} {Qf : Value → Shared → Prop}
    (hu : X.A.units + 1 < cLine) (calm : X.calm = true) (nd : X.N.Nodup) (I : Inv X pn ν G t0) (hi : PI X tg it wi) (ok : BlkOk X.N X.env.scope sc own) (hg : BlkP X sc fun Y => PG Y tg g) (ht : BlkP X sc fun Y => PTs Y ifs tt) (hk : BlkP X sc fun Y => PE Y kx tk) (he : BlkP X sc fun Y => PE Y vx tv) (fld : ∀ x, foldedSetIterable it X.env x = pure x)
    (q0 : tDcT wi g tt tk tv (own.map (·.2)) ν G Q)
    (fin : ∀ D C t m G', Inv X pn ν G' t → Q (.ref D) G' → t.heap.Ns C m → FpOk X pn G' C → compPost (model X.prog X.w) X.A X.xe use Qf (.ref D) C (.ok .next) t) :
    wpAny (model X.prog X.w) X.A (comprehension (dTree kx vx tg it ifs sc p) sc X.env p' newDict false (eval it X.env) use) Qf X.xe t0 := by
  have fr : ∀ y ∈ sc.names, y.2 = .free → ∃ c, X.env.cells.lookup y.1 = some c := fun y hy e => (ok.free y hy e).elim (fun k => I.ok.has _ (.inl k)) (fun k => I.ok.has _ (.inr k))
  refine wpAny_comprehension_free (use := use) rfl fld (closure_ok fr) ok.kind (fun y hy e => by (rw [ok.uniq y hy, e])) ?_
  refine thn (hi.run pn t0 ν G _ I q0) fun xv t1 hx => thn hx fun itv t2 h2 => ?_
  obtain ⟨iv, fp, tn, J, G2, e, I2, T, n2, f2, q⟩ := h2
  (subst e; refine wpAny_newObj_type (newEnv_comp ?_))
  generalize hD : t2.heap.objs.size = D
  have free2 : G2 D = none := I2.hok.fresh (Nat.le_of_eq hD)
  obtain ⟨R, ⟨m0, r0⟩, turn⟩ := q D free2
  let nw : Obj := { cls := .type "dict", data := .dict #[] }
  generalize ht3 : ({ t2 with heap := t2.heap.push nw } : Shared) = t3
  have I3 : Inv X pn ν (upd G2 D (.dT [])) t3 := by
    (rw [← ht3]; refine I2.laid (t' := t2.toks) (fun b o e => Heap.get?_push_of_some _ e) (Nat.le_of_eq hD) ?_)
    (rw [← hD]; exact dt_empty t2.heap I2.big)
  have e3 : t3.heap = t2.heap.push nw := by (rw [← ht3])
  have below : ∀ b ∈ fp, b < t2.heap.objs.size := fun b hb => (let ⟨o, e, _⟩ := T.obj _ _ n2 b hb; Heap.lt_size e)
  have f3 : ∀ b ∈ fp, FpOk X pn (upd G2 D (.dT [])) b ∧ b < t3.heap.objs.size := fun b hb => ⟨⟨by (rw [upd_ne (by (rw [← hD]; exact Nat.ne_of_lt (below b hb)))]; exact (f2 b hb).1), (f2 b hb).2⟩, by (rw [e3, Heap.size_push]; exact Nat.lt_succ_of_lt (below b hb))⟩
  have n3 : tn 0 t3.heap := T.keep _ _ _ n2 fun b _ o e => by (rw [e3]; exact Heap.get?_push_of_some _ e)
  have I4 := block_start I3 ok nd f3
  let cl4 := cellsFrom (t3.heap.objs.size + 1) sc.names (cloFrom X.env.cells sc.names [])
  have pg := hg t3 (upd G2 D (.dT [])) t3.heap.objs.size cl4 fp
  have pt := ht t3 (upd G2 D (.dT [])) t3.heap.objs.size cl4 fp
  have pk := hk t3 (upd G2 D (.dT [])) t3.heap.objs.size cl4 fp
  have pe := he t3 (upd G2 D (.dT [])) t3.heap.objs.size cl4 fp
  show codeAny _ _ (.compStart (dTree kx vx tg it ifs sc p) 0 (.ref iv) (.ref D) (compEnvC sc cl4 t3.heap.objs.size X.env)) (compPost (model X.prog X.w) X.A X.xe use Qf (.ref D) t3.heap.objs.size) { t3 with heap := pushCells (t3.heap.push nw) sc.names }
  have none3 : ∀ b ∈ fp, (upd G2 D (.dT [])) b = none := fun b hb => (f3 b hb).1.1
  generalize hce : compEnvC sc cl4 t3.heap.objs.size X.env = ce at I4 pg pt pk pe ⊢
  have loc : ce.locals = t3.heap.objs.size := by (subst hce; rfl)
  generalize hG3 : upd G2 D (.dT []) = G3 at I3 I4 pg pt pk pe r0 none3 f3
  generalize ht4 : ({ t3 with heap := pushCells (t3.heap.push nw) sc.names } : Shared) = t4 at I4 ⊢
  have n4 : tn 0 t4.heap := T.keep _ _ _ n3 fun b _ o e => by (rw [← ht4]; exact pushCells_keeps _ _ _ _ (Heap.get?_push_of_some _ e))
  have still : ∀ {ν' : L2.St} {G' : Hp} {t' : Shared}, Inv (X.blk t3 G3 sc ce fp) [] ν' G' t' → (∀ b ∈ fp, G' b = none) → ∀ b ∈ fp, FpOk (X.blk t3 G3 sc ce fp) [] G' b := fun {ν' G' t'} I' z b hb =>
    ⟨z b hb, (I'.ok.exf b hb).1, I'.ok.exfs b hb, .inl hb, fun x c e => (I'.ok.exf b hb).2 x c e, fun pp hp => absurd (show pp ∈ ([] : List (Addr × Obj)) ++ [] from hp) (by simp)⟩
  have loop : codeAny (model X.prog X.w) X.A (.compLoop (dTree kx vx tg it ifs sc p) 0 (.ref iv) (.ref D) ce) (compPost (model X.prog X.w) X.A X.xe use Qf (.ref D) t3.heap.objs.size) t4 := by
    refine compLoop_anyD (fun n t => ∃ i G', Inv (X.blk t3 G3 sc ce fp) [] (wipe ν (own.map (·.2))) G' t ∧ tn i t.heap ∧ (∀ b ∈ fp, G' b = none) ∧ R i n G') ?_ m0 ⟨0, G3, I4, n4, none3, r0⟩
    rintro n t5 ⟨i, G5, I5, n5, z5, r5⟩
    rcases turn i n G5 r5 with ⟨stop, qq⟩ | ⟨go, N, hN, step⟩
    · refine thnF (T.done (X.blk t3 G3 sc ce fp) rfl rfl rfl calm i [] t5 _ G5 (fun _ _ => False) I5 (still I5 z5) n5 stop) fun r t6 ⟨hr, I6⟩ => ?_
      subst hr
      have I7 : Inv X pn ν G5 t6 := I3.call' (ch := fp) I6.os I6.base I6.hok I6.bare fun b hb => (let ⟨_, a1, a2, a3, a4, a5⟩ := (f3 b hb).1; ⟨a3, a1, a4, a5⟩)
      have noC : G5 t3.heap.objs.size = none := by (rw [← loc]; exact I6.free)
      obtain ⟨m, hm, _⟩ := I6.loc
      have hm : t6.heap.Ns ce.locals m := hm
      (rw [loc] at hm; exact fin D t3.heap.objs.size t6 m G5 I7 qq hm (I3.fpOk (Nat.le_refl _) noC))
    · refine thnF (T.item (X.blk t3 G3 sc ce fp) rfl rfl rfl calm i [] t5 _ G5 (fun _ _ => False) I5 (still I5 z5) n5 go) fun r t6 ⟨u, hr, h6⟩ => ?_
      (subst hr; refine thnF h6 fun _ t7 ⟨x, G7, I7, r7, y7, n7, z7⟩ => ?_)
      have I7p := I7.pinned (still I7 z7) (T.obj _ _ n7)
      refine thnF (pg.run _ t7 _ G7 x u _ I7p r7 (step x G7 y7)) fun _ t8 ⟨ν8, G8, I8, w8, q8⟩ => ?_
      refine thnF (pt.run _ t8 ν8 G8 _ I8 q8) fun b t9 ⟨G9, I9, q9⟩ => ?_
      have back : ∀ {t' : Shared} {G' : Hp}, Inv (X.blk t3 G3 sc ce fp) ([] ++ pinsAt fp t7.heap) ν8 G' t' → N G' → ∃ m, m < n ∧ ∃ i G', Inv (X.blk t3 G3 sc ce fp) [] (wipe ν (own.map (·.2))) G' t' ∧ tn i t'.heap ∧ (∀ b ∈ fp, G' b = none) ∧ R i m G' := fun {t' G'} I' nx => by
        obtain ⟨m', hm, r'⟩ := hN G' nx
        have pin : ∀ b ∈ fp, ∀ o, t7.heap.get? b = some o → t'.heap.get? b = some o ∧ G' b = none := fun b hb o e => (let z := I'.pin (b, o) (List.mem_append_right _ (List.mem_append_right _ (mem_pinsAt hb e))); ⟨z.1, z.2.1⟩)
        have wl : (wipe ν (own.map (·.2))).length = ν8.length := by (rw [← w8, wipe_length])
        refine ⟨m', hm, i + 1, G', (I'.unpinned (pins := [])).weak wl (fun j v e => by (rw [← w8] at e; exact (wipe_some e).1)), T.keep _ _ _ n7 fun b hb o e => (pin b hb o e).1, fun b hb => ?_, r'⟩
        obtain ⟨o, e, _⟩ := T.obj _ _ n7 b hb
        exact (pin b hb o e).2
      cases b with
      | false => (simp only [Bool.false_eq_true, if_false] at q9 ⊢; exact back I9 q9)
      | true =>
        simp only [if_true] at q9 ⊢
        refine thnF (pk.run _ t9 ν8 G9 _ I9 q9) fun z t10 ⟨yk, G10, I10, rk, q10⟩ => ?_
        refine thnF (pe.run _ t10 ν8 G10 _ I10 q10) fun z2 t11 ⟨yv, G11, I11, rv, kvs, ks, bk, ek, eb, ed, ez, nx⟩ => ?_
        (subst ek; cases rk)
        exact dset_t (X := X.blk t3 G3 sc ce fp) hu I11 ed eb ez rv fun t12 I12 => back I12 nx
  exact codeAny_compStart_dict loop (T.self X.A 0 _ _ _ n4 loop)
theorem pe_dcT {kx vx tg it : Expr} {ifs : List Expr} {sc : Scope} {own : List (Str × Nat)} {p : Pos} {wi : TI} {g : TG} {tt : TT} {tk tv : TE} (hu : X.A.units + 1 < cLine) (calm : X.calm = true) (nd : X.N.Nodup) (hi : PI X tg it wi) (ok : BlkOk X.N X.env.scope sc own) (hg : BlkP X sc fun Y => PG Y tg g) (ht : BlkP X sc fun Y => PTs Y ifs tt)
    (hk : BlkP X sc fun Y => PE Y kx tk) (he : BlkP X sc fun Y => PE Y vx tv) (fld : ∀ x, foldedSetIterable it X.env x = pure x) : PE X (dTree kx vx tg it ifs sc p) (tDcT wi g tt tk tv (own.map (·.2))) := by
  refine ⟨fun pn t0 ν G Q I h => ?_⟩
  rw [arm_eval_DictComp]
  refine dct_core hu calm nd I hi ok hg ht hk he fld h fun D C t' m G' I' q hn f => ⟨m, hn, fun g2 sb => ?_⟩
  obtain ⟨f0, f1, f2, f3, f4, f5⟩ := f
  exact ⟨.ref D, G', I'.turned (t' := t'.toks) (fun b o hb e => (sb.2 b hb).trans e) f0 f1 f3 f4 f5, rfl, q⟩
end
/-! M10t: dict comprehensions, the keys tuples (printed by gen10t.py from M10d). -/
open PySem PySem.Spec PyProof.Rows L2
abbrev keyT (q : List Key) : D := .tup (q.map keyD)
abbrev keysOk (q : List Key) : Prop := ∀ z ∈ q, keyOk z
theorem soft_dT {xs : List (List Key × V)} : Soft (.dT xs) := ⟨fun _ z => (nomatch z), fun _ _ z => (nomatch z)⟩
theorem kT_key {K : PySem.W.Frag} {F : List Addr} {H : Hp} {d : D} {y : V} (h : kOk true d = true) (dv : DV K F H d y) : ∃ ks b, d = keyT ks ∧ y = .ref b ∧ H b = some (.tup (ks.map kV)) ∧ keysOk ks := by
  cases d with
  | tup ds =>
    unfold DV at dv
    obtain ⟨b, vs, rfl, hb, dvs⟩ := dv
    obtain ⟨ks, rfl, rfl, o⟩ := ks_keys h dvs
    exact ⟨ks, b, rfl, rfl, hb, o⟩
  | _ => cases h
/-! ### dict comprehensions -/
def dtTurn (c : Option Ev) (ek ev : Ev) (i : Nat) (acc : List (D × D)) (env : Env) (h : Hs) : Nat × List (D × D) × Hs ⊕ Res (List (D × D)) := match lcC c env h with
  | .ok true h2 => match ek env h2 with
    | .ok y h3 => match ev env h3 with
      | .ok z h4 => if kOk true y = true ∧ acc.length < lim then .inl (i + 1, dput acc y z, h4) else .inr .bad
      | _ => .inr .bad
    | _ => .inr .bad
  | .ok false h2 => .inl (i + 1, acc, h2)
  | _ => .inr .bad
def dtStep (src : Src) (t : Tg) (c : Option Ev) (ek ev : Ev) (env : Env) : Nat × List (D × D) × Hs → (Nat × List (D × D) × Hs) ⊕ Res (List (D × D)) := fun s => match src.nxt s.1 s.2.2 with
  | none => .inr .bad
  | some none => .inr (.ok s.2.1 s.2.2)
  | some (some d) => match asgT t d env s.2.2 with
    | .ok env1 h1 => dtTurn c ek ev s.1 s.2.1 env1 h1
    | _ => .inr .bad
noncomputable def dtE (s : Sv) (t : Tg) (c : Option Ev) (ek ev : Ev) (vs : List Nat) : Ev := fun env h => (s env h).bind fun src h1 =>
  (iter (dtStep src t c ek ev (wipeE env vs)) .bad (0, [], h1)).bind fun xs h2 => .ok (.ref h2.length) (h2 ++ [.dic true false xs])
section
variable {k : Kx} {W : WX}
theorem dt_read {fi : Sv} {t : Tg} {c : Option Ev} {ek ev : Ev} {vs : List Nat} {σ H Q} (p : tE k W (dtE fi t c ek ev vs) σ H Q) : tDcT (tI k W fi) (tGw k vs (asgT t)) (tTc k c) (tE k (fun _ _ _ _ => False) ek) (tE k (fun _ _ _ _ => False) ev) vs σ H Q := by
  obtain ⟨F, h, env, sr, p⟩ := p
  refine ⟨F, h, env, sr, p.bind.imp (fun src F' h' H' s r q J jr L0 hD => ?_) fun _ _ _ x => x⟩
  have sr' := sr.step s r
  have hne : iter (dtStep src t c ek ev (wipeE env vs)) .bad (0, [], h') ≠ .bad := fun z => by rw [z] at q; exact q
  obtain ⟨m, hm⟩ := iter_good hne
  generalize iter (dtStep src t c ek ev (wipeE env vs)) .bad (0, [], h') = fl at q hm hne
  have hDF : L0 ∉ F' := r.fresh hD
  refine ⟨fun i m H2 => ∃ F2 h2 acc vs, Step k.K F' H' F2 H2 ∧ RelH k F2 H2 h2 ∧ L0 ∉ F2 ∧ H2 L0 = some (.dT vs) ∧ TabR (DV k.K F2 H2) keyT keysOk acc vs ∧ iterN (dtStep src t c ek ev (wipeE env _)) m (i, acc, h2) = some fl, ⟨m, F', h', [], [], r.stepNew hD, r.addNew hD, hDF, upd_same, .nil, hm⟩, ?_⟩
  rintro i m H2 ⟨F2, h2, acc, us, s2, r2, n2, e2, dv2, hm⟩
  cases m with
  | zero => cases hm
  | succ m =>
    unfold iterN at hm
    have jr2 := jr F2 h2 H2 i s2 r2
    cases en : src.nxt i h2 with
    | none =>
      have : dtStep src t c ek ev (wipeE env vs) (i, acc, h2) = .inr .bad := by unfold dtStep; rw [en]
      rw [this] at hm; cases hm
      exact absurd rfl hne
    | some o =>
      cases o with
      | none =>
        have : dtStep src t c ek ev (wipeE env vs) (i, acc, h2) = .inr (.ok acc h2) := by unfold dtStep; rw [en]
        rw [this] at hm; cases hm
        refine .inl ⟨jr2.1 en, ?_⟩
        have q : ∀ F'' H'', Step k.K F' H' F'' H'' → RelH k F'' H'' (h2 ++ [.dic true false acc]) → PV k Q (.ref h2.length) F'' (h2 ++ [.dic true false acc]) H'' := q
        refine q (F2 ++ [L0]) H2 (s2.known hD) (r2.known n2 ⟨.dT us, ⟨us, rfl, Paired.mapP dv2 fun _ _ z => ⟨z.1, z.2.1, DV.more _ _ z.2.2⟩⟩, e2⟩) _ ?_
        unfold DV
        exact ⟨L0, rfl, by rw [← r2.len, List.getElem?_append_right (Nat.le_refl _), Nat.sub_self]; rfl⟩
      | some d =>
        obtain ⟨jg, jy⟩ := jr2.2 d en
        refine .inr ⟨jg, fun H' => ∃ F3 h3 acc vs', Step k.K F' _ F3 H' ∧ RelH k F3 H' h3 ∧ L0 ∉ F3 ∧ H' L0 = some (.dT vs') ∧ TabR (DV k.K F3 H') keyT keysOk acc vs' ∧ iterN (dtStep src t c ek ev (wipeE env vs)) m (i + 1, acc, h3) = some fl, fun H' z => ⟨m, Nat.lt_succ_self m, z⟩, fun x H3 y => ?_⟩
        obtain ⟨s3, r3, dv⟩ := jy x H3 y
        have st3 := s2.trans s3
        have sr3 : SR k F2 H3 h2 (wipe σ vs) (wipeE env vs) := ⟨r3, (sr'.er.mono st3).wipe vs, sr'.xd.mono st3⟩
        have e3 : H3 L0 = some (.dT us) := s3.old L0 _ e2 n2
        refine ⟨F2, h2, wipeE env vs, d, sr3, dv, ?_⟩
        cases ea : asgT t d (wipeE env vs) h2 with
        | bad =>
          have : dtStep src t c ek ev (wipeE env vs) (i, acc, h2) = .inr .bad := by unfold dtStep; rw [en]; show (match asgT t d (wipeE env vs) h2 with | .ok env1 h1 => _ | _ => _) = _; rw [ea]
          rw [this] at hm; cases hm
          exact absurd rfl hne
        | exc x h4 => exact absurd ea (asgT_ne _ _ _ _ _ _)
        | ok env4 h4 =>
          intro F4 H4 s4 r4 σ4 er4 w4
          have ef : dtStep src t c ek ev (wipeE env vs) (i, acc, h2) = dtTurn c ek ev i acc env4 h4 := by unfold dtStep; rw [en]; show (match asgT t d (wipeE env vs) h2 with | .ok env1 h1 => _ | _ => _) = _; rw [ea]
          rw [ef] at hm
          have n4 : L0 ∉ F4 := fun mm => by have := s4.new L0 mm n2; rw [e3] at this; cases this
          have e4 : H4 L0 = some (.dT us) := s4.old L0 _ e3 n2
          have sr4 : SR k F4 H4 h4 σ4 env4 := ⟨r4, er4, sr3.xd.mono s4⟩
          have st4 := st3.trans s4
          have dv4 : TabR (DV k.K F4 H4) keyT keysOk acc us := Paired.mapP dv2 fun _ _ z => ⟨z.1, z.2.1, DV.mono (s3.trans s4) _ _ z.2.2⟩
          refine ⟨by rw [w4]; exact wipe_wipe σ vs, ?_⟩
          -- behind the tests
          have last : ∀ (b : Bool) (h5 : Hs), lcC c env4 h4 = .ok b h5 → ∀ F5 H5, Step k.K F4 H4 F5 H5 → RelH k F5 H5 h5 →
              if b = true then tE k (fun _ _ _ _ => False) ek σ4 H5 (fun y H6 => tE k (fun _ _ _ _ => False) ev σ4 H6 (fun z H7 => ∃ kvs ks b, y = .ref b ∧ H7 b = some (.tup (ks.map kV)) ∧ H7 L0 = some (.dT kvs) ∧ kvs.length < sizeLine ∧ ∃ F3 h3 acc_1 vs', Step k.K F' H' F3 (upd H7 L0 (.dT (putK kvs ks z))) ∧ RelH k F3 (upd H7 L0 (.dT (putK kvs ks z))) h3 ∧ L0 ∉ F3 ∧ upd H7 L0 (.dT (putK kvs ks z)) L0 = some (.dT vs') ∧ TabR (DV k.K F3 (upd H7 L0 (.dT (putK kvs ks z)))) keyT keysOk acc_1 vs' ∧ iterN (dtStep src t c ek ev (wipeE env vs)) m (i + 1, acc_1, h3) = some fl))
              else ∃ F3 h3 acc vs', Step k.K F' H' F3 H5 ∧ RelH k F3 H5 h3 ∧ L0 ∉ F3 ∧ H5 L0 = some (.dT vs') ∧ TabR (DV k.K F3 H5) keyT keysOk acc vs' ∧ iterN (dtStep src t c ek ev (wipeE env vs)) m (i + 1, acc, h3) = some fl := by
            intro b h5 eb F5 H5 s5 r5
            have n5 : L0 ∉ F5 := fun mm => by have := s5.new L0 mm n4; rw [e4] at this; cases this
            have e5 : H5 L0 = some (.dT us) := s5.old L0 _ e4 n4
            have sr5 := sr4.step s5 r5
            have st5 := st4.trans s5
            have dv5 : TabR (DV k.K F5 H5) keyT keysOk acc us := Paired.mapP dv4 fun _ _ z => ⟨z.1, z.2.1, DV.mono s5 _ _ z.2.2⟩
            unfold dtTurn at hm
            rw [eb] at hm
            cases b with
            | false => exact ⟨F5, h5, acc, us, st5, r5, n5, e5, dv5, hm⟩
            | true =>
              rw [if_pos rfl]
              refine ⟨F5, h5, env4, sr5, ?_⟩
              cases ee : ek env4 h5 with
              | bad => simp only [ee] at hm; cases hm; exact absurd rfl hne
              | exc x h6 => simp only [ee] at hm; cases hm; exact absurd rfl hne
              | ok y h6 =>
                simp only [ee] at hm
                intro F6 H6 s6 r6 yv dy
                have n6 : L0 ∉ F6 := fun mm => by have := s6.new L0 mm n5; rw [e5] at this; cases this
                have e6 : H6 L0 = some (.dT us) := s6.old L0 _ e5 n5
                refine ⟨F6, h6, env4, sr5.step s6 r6, ?_⟩
                cases ev' : ev env4 h6 with
                | bad => simp only [ev'] at hm; cases hm; exact absurd rfl hne
                | exc x h7 => simp only [ev'] at hm; cases hm; exact absurd rfl hne
                | ok z h7 =>
                  simp only [ev'] at hm
                  by_cases hl : kOk true y = true ∧ acc.length < lim
                  · rw [if_pos hl] at hm
                    intro F7 H7 s7 r7 zv dz
                    have n7 : L0 ∉ F7 := fun mm => by have := s7.new L0 mm n6; rw [e6] at this; cases this
                    have e7 : H7 L0 = some (.dT us) := s7.old L0 _ e6 n6
                    have hz : us.length < sizeLine := by
                      have a1 : acc.length = us.length := dv2.length
                      rw [← a1]
                      exact Nat.lt_of_lt_of_le hl.2 (le_lim (Nat.le_refl _))
                    obtain ⟨ks, b, rfl, rfl, hb, ok⟩ := kT_key hl.1 dy
                    have hb7 : H7 b = some (.tup (ks.map kV)) := s7.tup _ _ hb
                    have dv7 : TabR (DV k.K F7 H7) keyT keysOk acc us := Paired.mapP dv5 fun _ _ z => ⟨z.1, z.2.1, DV.mono (s6.trans s7) _ _ z.2.2⟩
                    have dp := TabR.put (f := keyT) kEqT_keyD dv7 (k := ks) ok dz
                    exact ⟨us, ks, b, rfl, hb7, e7, hz, F7, h7, dput acc (keyT ks) z, putK us ks zv, ((st5.trans s6).trans s7).grow hD e7 soft_dT, r7.grow n7 e7 soft_dT, n7, upd_same, Paired.mapP dp fun _ _ z => ⟨z.1, z.2.1, DV.grow (grow_t e7 soft_dT) (grow_l (k := k) e7 soft_dT) _ _ z.2.2⟩, hm⟩
                  · rw [if_neg hl] at hm; cases hm; exact absurd rfl hne
          cases c with
          | none => exact last true h4 rfl F4 H4 .refl r4
          | some c =>
            refine ⟨F4, h4, env4, sr4, ?_⟩
            have ecc : lcC (some c) env4 h4 = tst c env4 h4 := rfl
            cases ec : tst c env4 h4 with
            | bad => unfold dtTurn at hm; rw [ecc, ec] at hm; cases hm; exact absurd rfl hne
            | exc x h6 => unfold dtTurn at hm; rw [ecc, ec] at hm; cases hm; exact absurd rfl hne
            | ok b h5 => exact fun F5 H5 s5 r5 => last b h5 (ecc.trans ec) F5 H5 s5 r5
end
section
variable {X : Cx} {k : Kx} {W : WX} {pos : Pos} {kx vx tg ite : Expr} {scope : Scope} {own : List (Str × Nat)} {fi : Sv} {t : Tg} {fk fv : Ev}
theorem me_dt {ifs : List Expr} {c : Option Ev} (hu : X.A.units + 1 < cLine) (hc : X.calm = true) (hN : X.N.Nodup) (hi : PI X tg ite (tI k W fi)) (ok : BlkOk X.N X.env.scope scope own)
    (hg : ∀ (s : Shared) (H : Hp) (C : Addr) (cl : List (Str × Addr)) (fp : List Addr), PG (X.blk s H scope (compEnvC scope cl C X.env) fp) tg (tGw k (own.map (·.2)) (asgT t)))
    (ht : ∀ (s : Shared) (H : Hp) (C : Addr) (cl : List (Str × Addr)) (fp : List Addr), PTs (X.blk s H scope (compEnvC scope cl C X.env) fp) ifs (tTc k c))
    (hk : ∀ (s : Shared) (H : Hp) (C : Addr) (cl : List (Str × Addr)) (fp : List Addr), PE (X.blk s H scope (compEnvC scope cl C X.env) fp) kx (tE k (fun _ _ _ _ => False) fk))
    (he : ∀ (s : Shared) (H : Hp) (C : Addr) (cl : List (Str × Addr)) (fp : List Addr), PE (X.blk s H scope (compEnvC scope cl C X.env) fp) vx (tE k (fun _ _ _ _ => False) fv)) (hs : ∀ x, foldedSetIterable ite X.env x = pure x) :
    PE X (.DictComp kx vx [⟨tg, ite, ifs, 0⟩] scope pos) (tE k W (dtE fi t c fk fv (own.map (·.2)))) :=
  PE.imp (pe_dcT hu hc hN hi ok hg ht hk he hs) fun σ H Q p => dt_read p
end

section
variable {X : Cx}
/-- name = {..} on one line, the name a local -/
theorem ps_setDt {i : Nat} {y : Str} {py : Pos} {kx vx tg iter : Expr} {ifs : List Expr} {scope : Scope} {own : List (Str × Nat)} {pos spos : Pos} {wi : TI} {g : TG} {tt : TT} {tk tv : TE} (hu : X.A.units + 1 < cLine) (hc : X.calm = true) (hN : X.N.Nodup) (hy : X.N[i]? = some y) (hyl : X.env.scope.names.lookup y = some .local)
    (hsw : swapsWith (.DictComp kx vx [⟨tg, iter, ifs, 0⟩] scope pos) (some (.Name y py)) spos.line X.env = pure true) (hi : PI X tg iter wi) (ok : BlkOk X.N X.env.scope scope own)
    (hg : ∀ (s : Shared) (H : Hp) (C : Addr) (cl : List (Str × Addr)) (fp : List Addr), PG (X.blk s H scope (compEnvC scope cl C X.env) fp) tg g) (ht : ∀ (s : Shared) (H : Hp) (C : Addr) (cl : List (Str × Addr)) (fp : List Addr), PTs (X.blk s H scope (compEnvC scope cl C X.env) fp) ifs tt)
    (hk : ∀ (s : Shared) (H : Hp) (C : Addr) (cl : List (Str × Addr)) (fp : List Addr), PE (X.blk s H scope (compEnvC scope cl C X.env) fp) kx tk)
    (he : ∀ (s : Shared) (H : Hp) (C : Addr) (cl : List (Str × Addr)) (fp : List Addr), PE (X.blk s H scope (compEnvC scope cl C X.env) fp) vx tv) (hs : ∀ x, foldedSetIterable iter X.env x = pure x) :
    PS X (.Assign [.Name y py] (.DictComp kx vx [⟨tg, iter, ifs, 0⟩] scope pos) spos) (tAsg (tDcT wi g tt tk tv (own.map (·.2))) (gName i)) := by
  refine ⟨fun pins s σ H D I h => ?_⟩
  rw [exec_Assign_Name_used _ _ _ _ hsw]
  refine wpAny_bind (wpAny_standAt (wpAny_bind ?_))
  show wpAny _ X.A (do let _ ← comprehension (.DictComp kx vx [⟨tg, iter, ifs, 0⟩] scope pos) scope X.env (firstIterPos [⟨tg, iter, ifs, 0⟩] pos) newDict false (eval iter X.env) (some (assign (.Name y py) X.env))) _ _ s
  have h : tDcT wi g tt tk tv (own.map (·.2)) σ H (fun x H1 => gName i x σ H1 D.nx) := h
  refine wpAny_bind (thn (dct_core (Qf := fun _ s' => SP X pins D .next s') hu hc hN I hi ok hg ht hk he hs h fun L C s' m H' I' q hn f => ?_) fun _ s' hq => wpAny_pure (wpAny_pure hq))
  show wpAny _ _ (assign (.Name y py) X.env (.ref L)) _ _ _
  refine wpAny_assign_Name (store_ok2 (v := V.ref L) I' hN hy (.inl hyl) rfl (fun s2 I2 ⟨a, sb, ha⟩ => ?_) (.inr hyl))
  obtain ⟨f0, f1, f2, f3, f4, f5⟩ := f
  have haC : C ≠ a := by
    rcases ha with z | z
    · rw [z]; exact f1
    · exact fun e => f4 y a z e.symm
  refine ⟨m, hn.sameBut sb haC, fun h3 sb3 => ?_⟩
  exact ⟨_, H', I2.turned (t' := s2.toks) (fun b o hb e => (sb3.2 b hb).trans e) f0 f1 f3 f4 f5, q⟩
end
section
variable {X : Cx} {k : Kx} {W : WX} {pos : Pos} {kx vx tg ite : Expr} {scope : Scope} {own : List (Str × Nat)} {fi : Sv} {t : Tg} {fk fv : Ev}
theorem ms_setDt {i : Nat} {y : Str} {py spos : Pos} {ifs : List Expr} {c : Option Ev} (hu : X.A.units + 1 < cLine) (hc : X.calm = true) (hN : X.N.Nodup) (hy : X.N[i]? = some y) (hyl : X.env.scope.names.lookup y = some .local)
    (hsw : swapsWith (.DictComp kx vx [⟨tg, ite, ifs, 0⟩] scope pos) (some (.Name y py)) spos.line X.env = pure true) (hi : PI X tg ite (tI k W fi)) (ok : BlkOk X.N X.env.scope scope own)
    (hg : ∀ (s : Shared) (H : Hp) (C : Addr) (cl : List (Str × Addr)) (fp : List Addr), PG (X.blk s H scope (compEnvC scope cl C X.env) fp) tg (tGw k (own.map (·.2)) (asgT t)))
    (ht : ∀ (s : Shared) (H : Hp) (C : Addr) (cl : List (Str × Addr)) (fp : List Addr), PTs (X.blk s H scope (compEnvC scope cl C X.env) fp) ifs (tTc k c))
    (hk : ∀ (s : Shared) (H : Hp) (C : Addr) (cl : List (Str × Addr)) (fp : List Addr), PE (X.blk s H scope (compEnvC scope cl C X.env) fp) kx (tE k (fun _ _ _ _ => False) fk))
    (he : ∀ (s : Shared) (H : Hp) (C : Addr) (cl : List (Str × Addr)) (fp : List Addr), PE (X.blk s H scope (compEnvC scope cl C X.env) fp) vx (tE k (fun _ _ _ _ => False) fv)) (hs : ∀ x, foldedSetIterable ite X.env x = pure x) :
    PS X (.Assign [.Name y py] (.DictComp kx vx [⟨tg, ite, ifs, 0⟩] scope pos) spos) (tS k W (asgF (dtE fi t c fk fv (own.map (·.2))) (asgT (.nm i)))) :=
  PS.imp (ps_setDt hu hc hN hy hyl hsw hi ok hg ht hk he hs) fun N σ H p => by
    obtain ⟨F, h, env, sr, p⟩ := p
    refine dt_read (W := W) ⟨F, h, env, sr, (fl_post sr p).imp (fun d F' h' H' _ _ q v dv => ?_) fun _ _ _ x => x⟩
    obtain ⟨s, r, q⟩ := q
    have q : PostF k F' H' N W ((asgT (.nm i) d env h').fl env fun env' h2 => .nx env' h2) := q
    unfold asgT at q
    exact q F' H' _ .refl r ((sr.er.mono s).set i dv)
end
/-! S0: the set of a list of texts, of any number. -/
open PySem PySem.Spec PyProof.Rows
/-- one text more -/
def dst (σ : List Str) (v : Str) : List Str := if σ.any (· == v) then σ else σ ++ [v]
/-- the texts of the first i, each once -/
def dd (xs : List Str) : Nat → List Str
  | 0 => []
  | i + 1 => dst (dd xs i) (xs.getD i Str.empty)
theorem dd_le (xs : List Str) : ∀ i, (dd xs i).length ≤ i
  | 0 => Nat.le_refl _
  | i + 1 => by have := dd_le xs i; unfold dd dst; split <;> simp <;> omega
theorem dst_any (σ : List Str) (v k : Str) : (dst σ v).any (· == k) = (σ.any (· == k) || decide (k = v)) := by
  unfold dst
  by_cases e : k = v
  · subst e
    by_cases h : σ.any (· == k) = true
    · rw [if_pos h, h]; rfl
    · rw [if_neg h, List.any_append]; simp
  · have q : (v == k) = false := by simpa using fun z : v = k => e z.symm
    split
    · simp [e]
    · rw [List.any_append]; simp [q, e]
theorem dst_len (σ : List Str) (v : Str) : (dst σ v).length = if σ.any (· == v) then σ.length else σ.length + 1 := by unfold dst; split <;> simp
abbrev SetD (prog : Program) (w : World) (xs : List Str) (h : Heap) (S : Addr) (i : Nat) : Prop := h.SetOf (PySem.strKind prog w) S (fun k => (dd xs i).any (· == k)) (dd xs i).length
theorem SetD.up {prog : Program} {w : World} {xs : List Str} {h h' : Heap} {S : Addr} {i : Nat} (d : SetD prog w xs h S i) (k : ∀ o, h.get? S = some o → h'.get? S = some o) : SetD prog w xs h' S i := by
  obtain ⟨o, es, ep, tb, ho, r⟩ := d
  exact ⟨o, es, ep, tb, k o ho, r⟩
section
variable {prog : Program} {w : World} {A : Around} {R : Result → Shared → Prop} {I : Addr} {fp wr : List Addr} {G : Array GenState → Array GenState → Prop} {n : Nat} {P : Nat → Value → Prop} {St : Nat → Shared → Prop}
theorem set_loop (W : WalksS prog w A.in1 I fp wr G n P St) (S : Addr) (no : S ∉ fp) (xs : List Str) (big : n + 1 < scanBound)
    (hv : ∀ i v, P i v → ∃ t, v = .str (xs.getD i Str.empty) t) : ∀ (k i : Nat) (s : Shared), n - i = k → i ≤ n → St i s → SetD prog w xs s.heap S i →
      (∀ t, Moved (S :: wr) G s t → SetD prog w xs t.heap S n → R (.ok (.ret .none)) t) → codeAny (model prog w) A (.builtin "set.update.loop" ⟨[.ref S, .ref I], []⟩) R s := by
  have nw : S ∉ wr := fun z => no (W.sub _ z)
  have sb : ∀ b ∈ wr, b ∈ S :: wr := fun b z => List.mem_cons_of_mem S z
  intro k
  induction k with
  | zero =>
    intro i s ek ei st d r
    have e : i = n := by omega
    subst e
    (refine codeAny_builtin PyProof.Rows.F.entry_set_update_loop ?_; rw [Around.under_plainId PyProof.Rows.F.plain_set_update_loop _])
    (show wpAny _ A.in1 (pyNext (.ref I) >>= _) _ _ s; refine wpAny_bind (W.done s _ _ st fun t m => ?_); show wpAny _ A.in1 (ret Value.none) _ _ t)
    exact wpAny_pure (r t (m.mono sb) (d.up fun o z => m.heap S o nw z))
  | succ k ih =>
    intro i s ek ei st d r
    have lt : i < n := by omega
    (refine codeAny_builtin PyProof.Rows.F.entry_set_update_loop ?_; rw [Around.under_plainId PyProof.Rows.F.plain_set_update_loop _])
    (show wpAny _ A.in1 (pyNext (.ref I) >>= _) _ _ s; refine wpAny_bind (W.item i s _ _ lt st fun v t pv st2 m => ?_); obtain ⟨tok, rfl⟩ := hv i v pv)
    have d2 : SetD prog w xs t.heap S i := d.up fun o z => m.heap S o nw z
    generalize ex : xs.getD i Str.empty = x
    (show wpAny _ A.in1 (holding [Value.str x tok] (setAdd S (.str x tok)) >>= _) _ _ t; refine wpAny_bind (wpAny_holding ?_); unfold setAdd; refine wpAny_holding ?_)
    refine wpAny_bind ((PySem.strKind prog w).pyHash (k := x) (strKind_is _ _ _ _) ?_)
    have room : (dd xs i).length + 1 < scanBound := by have := dd_le xs i; omega
    refine wpAny_setAddHashed_of (knd := PySem.strKind prog w) (s := { t with toks := t.toks + 1 }) (strKind_is _ _ _ _) rfl d2 room fun g gs g2 => ?_
    have d3 : SetD prog w xs g S (i + 1) := by
      have e1 : dd xs (i + 1) = dst (dd xs i) x := by rw [← ex]; rfl
      exact SetOf_congr g2 (fun k' => by rw [e1, dst_any]) (by rw [e1, dst_len])
    refine wpAny_pure ⟨plainId_quiet PyProof.Rows.F.plain_set_update_loop _, ih (i + 1) _ (by omega) lt (W.frame _ t _ _ st2 (Nat.le_succ _) fun b hb o e => ?_) d3 fun u mu du => ?_⟩
    · rw [gs.2 b fun z : b = S => no (z ▸ hb)]; exact e
    · refine r u (Moved.trans W.gtrans ((m.mono sb).then_heap (Nat.le_succ _) fun b o hb e => ?_) mu) du
      rw [gs.2 b fun z : b = S => hb (z ▸ List.mem_cons_self)]; exact e
end
section
variable {prog : Program} {w : World} {A : Around} {E : Value → Shared → Prop} {s : Shared}
abbrev newSet (led : Bool) : Obj := { cls := .type "set", dict := none, data := .set #[] 0 (.fresh 0 0 led) }
set_option maxHeartbeats 3200000 in
theorem set_list {l : Addr} {its : Array Value} {xs : List Str} {Q : Value → Shared → Prop} (calm : A.handled = none) (hl : s.heap.IsList l its) (hi : PyProof.Rows.StrsAre its.toList xs) (big : its.size + 1 < scanBound)
    (h : ∀ (g : Heap) (tk : Nat), SetD prog w xs g s.heap.objs.size its.size → (∀ b o, b < s.heap.objs.size → s.heap.get? b = some o → g.get? b = some o) → Q (.ref s.heap.objs.size) { s with heap := g, toks := tk }) : wpAny (model prog w) A (call (.type "set") [.ref l]) Q E s := by
  have ⟨c, tl, mro⟩ := PySem.F.called_set.mro
  have made := PySem.F.called_set.made
  have sub := PySem.F.called_set.sub
  refine wpAny_call (codeAny_of_tree ?_)
  (show wpAny _ _ (callAny (.type "set") _) _ _ _; refine wpAny_pure ⟨Code.quiet_builtin _ (by decide +kernel), codeAny_builtin PySem.F.entry_type_call ?_⟩; rw [Around.under_plain (weight_type_call_type "set" [.ref l] []) rfl])
  have k1 := PySem.F.called_set.notType
  have k2 := PySem.F.called_set.canCreate
  have k3 := PySem.F.typeCall_set_1 (.ref l)
  repeat (any_goals (first | assumption | wp_step))
  refine codeAny_mono (code_set_new_1 (.ref l) (E := E) (Q₁ := fun obj t => ∃ led : Bool, obj = .ref s.heap.objs.size ∧ t = { s with heap := s.heap.push (newSet led) }) fun led => ⟨led, rfl, rfl⟩) fun r t hr => ?_
  cases r with
  | error e => exact hr
  | ok fl =>
    cases fl with
    | ret obj =>
      obtain ⟨led, rfl, rfl⟩ := hr
      have gS : (s.heap.push (newSet led)).get? s.heap.objs.size = some (newSet led) := Heap.get?_push_size _ rfl
      have tS : Shared.TypeIs { s with heap := s.heap.push (newSet led) } (.ref s.heap.objs.size) "set" := ⟨_, gS, rfl⟩
      have k4 := PySem.F.called_set.init.lookup
      have k5 := PySem.F.called_set.init.bind (.ref s.heap.objs.size)
      repeat (any_goals (first | assumption | wp_step))
      refine codeAny_mono (codeAny_call_builtin (R := wants (fun r t => r = .none ∧ ∃ g tk, t = { s with heap := g, toks := tk } ∧ SetD prog w xs g s.heap.objs.size its.size ∧ (∀ b o, b < s.heap.objs.size → s.heap.get? b = some o → g.get? b = some o)) E) PySem.F.called_set.init.plain PySem.F.entry_set_init (check_set_init_1 tS ?_)) fun r2 t2 hr2 => ?_
      · obtain ⟨⟨oc, od, oa, osl⟩, ho, hc, nl, hd⟩ := hl
        (simp only at hc hd; subst hc; subst hd)
        have ho2 : (s.heap.push (newSet led)).get? l = some { cls := .type "list", dict := od, data := .seq its nl, slots := osl } := Heap.get?_push_of_some _ ho
        have k6 := PySem.F.sub_list_set
        have k7 := PySem.F.sub_list_frozenset
        have k8 : (Value.type "list" == Value.type "dict") = false := by decide
        have hl1 : (s.heap.push (newSet led)).IsList l its := ⟨_, ho2, rfl, nl, rfl⟩
        unfold Builtin.«set.__init__» noKeywords Builtin.Frozenset.updateFrom
        generalize hPI : pyIter = PI
        wp_walk
        subst hPI
        refine wpAny_pyIter_list hl1 ?_
        refine wpAny_bind (wpAny_runValue ?_)
        have lS : l < s.heap.objs.size := Heap.lt_size ho
        have calm3 : A.in1.in1.in1.handled = none := by simp [calm]
        have sz1 : (s.heap.push (newSet led)).objs.size = s.heap.objs.size + 1 := Heap.size_push ..
        have ne1 : l ≠ (s.heap.push (newSet led)).objs.size := by rw [sz1]; exact Nat.ne_of_lt (Nat.lt_succ_of_lt lS)
        have no1 : s.heap.objs.size ∉ [(s.heap.push (newSet led)).objs.size, l] := by
          (rw [sz1]; simp only [List.mem_cons, List.not_mem_nil, or_false, not_or])
          exact ⟨Nat.ne_of_lt (Nat.lt_succ_self _), Nat.ne_of_gt lS⟩
        have hv : ∀ (i : Nat) (v : Value), its[i]? = some v → ∃ t, v = .str (xs.getD i Str.empty) t := fun i v e => SS.strs_at hi i v (by rw [Array.getElem?_toList]; exact e)
        refine set_loop ((Walks.list calm3 _ l ne1 its).toS) s.heap.objs.size no1 xs big hv (its.size - 0) 0 _ (by omega) (Nat.zero_le _) ⟨⟨_, Heap.get?_push_size _ rfl, rfl, rfl⟩, (hl1.push _)⟩ ?hFresh ?hThen
        case hFresh =>
          have g2 : ((s.heap.push (newSet led)).push { cls := .type "list_iterator", data := .fields #[.ref l, .int 0 0] }).get? s.heap.objs.size = some (newSet led) := Heap.get?_push_of_some _ gS
          exact PyProof.Rows.SetOf_congr ((PyProof.Rows.setObjOf_fresh (knd := PySem.strKind prog w) led).setOf g2 (by unfold scanBound; omega)) (fun _ => rfl) rfl
        case hThen =>
          intro t m d
          obtain ⟨g, gg, dd', tk, oo⟩ := t
          have q1 : gg = s.gens := m.gens
          have q2 : dd' = s.drawn := m.drawn
          have q3 : oo = s.os := m.os
          (subst q1; subst q2; subst q3)
          (show wpAny _ _ _ _ _ _; refine wpAny_pure ?_)
          (show wpAny _ _ (ret Value.none) _ _ _; refine wpAny_pure ⟨rfl, g, tk, rfl, d, fun b o lb e => ?_⟩)
          exact m.heap b o (by (rw [sz1]; simp only [List.mem_cons, List.not_mem_nil, or_false, not_or]); exact ⟨Nat.ne_of_lt lb, Nat.ne_of_lt (Nat.lt_succ_of_lt lb)⟩) (Heap.get?_push_of_some _ (Heap.get?_push_of_some _ e))
      · cases r2 with
        | error e => exact hr2
        | ok fl2 =>
          cases fl2 with
          | ret r =>
            obtain ⟨rfl, g, tk, rfl, d, k⟩ := hr2
            repeat (any_goals (first | assumption | wp_step))
            exact h _ _ d k
          | _ => exact hr2.elim
    | _ => exact hr.elim
end
open PySem PySem.Spec PyProof.Rows L2
/-- len(set(a)), a a list of texts -/
def tLenSetT (K : PySem.W.Frag) (ta : TE) : TE := fun σ H Q => ta σ H fun x H1 => ∃ (l : Addr) (xs : List Str), x = .ref l ∧ SqL K H1 l (xs.map V.str) ∧ xs.length ≤ 4000 ∧ Q (.int ((dd xs xs.length).length : Nat)) H1
theorem pe_lenSetT {X : Cx} {a : Expr} {ta : TE} {p p2 q pos : Pos} (hg : Gl X "len") (hm : X.mg "len" = none) (hg2 : Gl X "set") (hm2 : X.mg "set" = none) (ha : PE X a ta) (hc : X.calm = true)
    (na : starEach [a] X.env = (false, eval a X.env) :: starEach [] X.env := by rfl) : PE X (.Call (.Name "len" p) [.Call (.Name "set" p2) [a] [] q] [] pos) (tLenSetT X.K ta) := ⟨fun pins s σ H Q I h => by
  (refine Call_ (ld_blt I hg hm boot_len ?_); refine PyProof.Rows.callWith_builtin1 (PyProof.Rows.args_cons ?_ rfl) rfl rfl)
  (refine Call_ (ld_blt I hg2 hm2 boot_set ?_); refine PyProof.Rows.callWith_type1 (PyProof.Rows.args_cons (thn (ha.run pins s σ H _ I h) fun v t ⟨x, H1, I1, r1, z⟩ => PyProof.Rows.args_nil ?_) na) na rfl)
  obtain ⟨l, xs, rfl, hq, hl, z⟩ := z
  cases r1
  obtain ⟨its, r, pl, hz⟩ := I1.list hq
  have e : its.toArray.size = xs.length := by rw [List.size_toArray, ← r.length, List.length_map]
  refine set_list (xs := xs) (I1.ok.hd hc) pl.isList (by simpa using strsAre_of r) (by rw [e]; unfold scanBound; omega) fun g tk d k => ?_
  refine PyProof.Rows.args_nil ?_
  rw [e] at d
  have le := dd_le xs xs.length
  obtain ⟨o, es, ep, tb, ho, hx, hd, _, _, _, hf, hn⟩ := d
  have I2 : Inv X pins σ H1 { t with heap := g, toks := tk } := I1.kept fun b o z => k b o (Heap.lt_size z) z
  exact call_len_set ho hx hd hf (by rw [hn] <;> omega) ⟨.int ((dd xs xs.length).length : Nat), H1, I2.tok _, ⟨_, by rw [hn]⟩, z⟩⟩
/-! SL: len(set(a)) over data. -/
open PySem PySem.Spec PyProof.Rows L2
def dsN (σ : List (List Nat)) (v : List Nat) : List (List Nat) := if v ∈ σ then σ else σ ++ [v]
/-- the texts, each once -/
def ddN (xs : List (List Nat)) : List (List Nat) := xs.foldl dsN []
def lsR (h : Hs) : Option (List (List Nat)) → Res D
  | some ys => if ys.length ≤ 4000 then .ok (.int ((ddN ys).length : Nat)) h else .bad
  | none => .bad
def refL (h : Hs) : D → Option (List (List Nat))
  | .ref n => (seqH h (.ref n)).bind strsD
  | _ => none
def lsE (a : Ev) : Ev := fun env h => (a env h).bind fun x h1 => lsR h1 (refL h1 x)
abbrev toS (x : List Nat) : Str := ⟨x.toArray⟩
theorem toS_inj {x y : List Nat} (h : toS x = toS y) : x = y := by
  have := congrArg (fun s : Str => s.cps.toList) h
  simpa using this
theorem dsN_map (σ : List (List Nat)) (v : List Nat) : (dsN σ v).map toS = dst (σ.map toS) (toS v) := by
  have e : (σ.map toS).any (· == toS v) = decide (v ∈ σ) := by
    rw [Bool.eq_iff_iff, List.any_eq_true, decide_eq_true_eq]
    constructor
    · rintro ⟨y, m, q⟩
      obtain ⟨x, hx, rfl⟩ := List.mem_map.mp m
      have := toS_inj (eq_of_beq q)
      exact this ▸ hx
    · exact fun m => ⟨toS v, List.mem_map_of_mem m, beq_self_eq_true _⟩
  unfold dsN dst
  rw [e]
  by_cases c : v ∈ σ
  · rw [if_pos c, decide_eq_true c, if_pos rfl]
  · rw [if_neg c, decide_eq_false c, if_neg (by decide)]; simp
theorem ddN_map (xs : List (List Nat)) : ∀ i, i ≤ xs.length → (ddN (xs.take i)).map toS = dd (xs.map toS) i
  | 0, _ => rfl
  | i + 1, hi => by
    have h1 : xs[i]? = some xs[i] := List.getElem?_eq_getElem hi
    have e : ddN (xs.take (i + 1)) = dsN (ddN (xs.take i)) xs[i] := by
      unfold ddN
      rw [List.take_add_one, h1, List.foldl_append]; rfl
    rw [e, dsN_map, ddN_map xs i (by omega)]
    show _ = dst (dd (xs.map toS) i) ((xs.map toS).getD i Str.empty)
    rw [List.getD_eq_getElem?_getD, List.getElem?_map, h1]; rfl
theorem ddN_len (xs : List (List Nat)) : (dd (xs.map toS) (xs.map toS).length).length = (ddN xs).length := by
  have := ddN_map xs xs.length (Nat.le_refl _)
  rw [List.take_length] at this
  rw [List.length_map, ← this, List.length_map]
theorem me_lenSet {X : Cx} {k : Kx} {W : WX} {a : Expr} {fa : Ev} {p p2 q pos : Pos} (hK : X.K = k.K) (hg : Gl X "len") (hm : X.mg "len" = none) (hg2 : Gl X "set") (hm2 : X.mg "set" = none) (ha : PE X a (tE k W fa)) (hc : X.calm = true)
    (na : starEach [a] X.env = (false, eval a X.env) :: starEach [] X.env := by rfl) : PE X (.Call (.Name "len" p) [.Call (.Name "set" p2) [a] [] q] [] pos) (tE k W (lsE fa)) := by
  refine PE.imp (pe_lenSetT hg hm hg2 hm2 ha hc na) fun σ H Q z => ?_
  obtain ⟨F, h, env, sr, z⟩ := z
  refine ⟨F, h, env, sr, z.bind.imp (fun d F' h' H' st rl q v dv => ?_) fun _ _ _ x => x⟩
  cases e : refL h' d with
  | none => rw [e] at q; exact q.elim
  | some ys =>
    rw [e] at q
    unfold lsR at q
    dsimp only at q
    cases d with
    | ref n =>
      obtain ⟨xs, e1, e2⟩ := Option.bind_eq_some_iff.mp (show (seqH h' (.ref n)).bind strsD = some ys from e)
      have e2 := strsD_eq e2
      subst e2
      obtain ⟨b, vs, rfl, sq, dvs, _, nt⟩ := rl.seq dv e1
      obtain ⟨rfl, _⟩ := DVs.strs dvs
      by_cases c : ys.length ≤ 4000
      · rw [if_pos c] at q
        refine ⟨b, ys.map toS, rfl, ?_, by rw [List.length_map]; exact c, ?_⟩
        · rw [hK, List.map_map]
          exact nt fun _ z => nomatch z
        · rw [ddN_len]
          exact Post.here q rl (DV.mkInt)
      · rw [if_neg c] at q; exact q.elim
    | _ => cases e
/-! M11: the meaning of a text, by its tree. -/
open PySem PySem.Spec PyProof.Rows L2

/-- what a text knows of its names -/
structure Cn where
  N : List Str
  sc : Scope
  st : Str → Bool
  fns : List (Str × Fn)
  kst : List (Str × D)
  bl : List Str
  tk : List Nat
def badE : Ev := fun _ _ => .bad
def badA : Av := fun _ _ => .bad
def badS : Sf := fun _ _ => .bad
def badI : Sv := fun _ _ => .bad
def slotOf : List Str → Str → Option Nat
  | [], _ => none
  | y :: l, x => if x = y then some 0 else (slotOf l x).map (· + 1)
theorem slotOf_ok : ∀ {l : List Str} {x : Str} {i : Nat}, slotOf l x = some i → l[i]? = some x
  | [], _, _, h => by cases h
  | y :: l, x, i, h => by
    unfold slotOf at h
    by_cases c : x = y
    · rw [if_pos c] at h; cases h; rw [c]; rfl
    · rw [if_neg c] at h
      obtain ⟨j, e, rfl⟩ := Option.map_eq_some_iff.mp h
      show l[j]? = some x
      exact slotOf_ok e
def visB (sc : Scope) (x : Str) : Bool := match sc.names.lookup x with
  | some .local => true
  | some .cell => true
  | some .free => true
  | _ => false
theorem visB_ok {sc : Scope} {x : Str} (h : visB sc x = true) : Vis sc x := by
  unfold visB at h
  split at h
  · exact .inl ‹_›
  · exact .inr (.inl ‹_›)
  · exact .inr (.inr ‹_›)
  · cases h
/-- a name that can be stored -/
def locB (C : Cn) (x : Str) : Bool := match C.sc.names.lookup x with
  | some .local => true
  | some .cell => C.st x
  | _ => false
def glB (C : Cn) (x : Str) : Bool := match C.sc.names.lookup x with
  | some .globalImplicit => true
  | _ => false
abbrev dbg : Str := "__debug__"
abbrev cdi : Str := "__classdict__"
abbrev nme : Str := "__name__"
/-- the table of calls -/
def btOf (x : Str) : Option (Bool × String × BF) :=
  if x = "len" then some (true, "len", on1 len1) else
  if x = "str" then some (false, "str", on1 str1) else
  if x = "int" then some (false, "int", on1 int1) else
  if x = "all" then some (true, "all", on1 all1) else
  if x = "any" then some (true, "any", on1 any1) else
  if x = "sum" then some (true, "sum", on1 sum1) else
  if x = "max" then some (true, "max", on2 max2) else
  if x = "min" then some (true, "min", on2 min2) else
  if x = "abs" then some (true, "abs", on1 abs1) else
  if x = "list" then some (false, "list", on1 list1) else
  if x = "tuple" then some (false, "tuple", on1 tuple1) else
  if x = "bool" then some (false, "bool", on1 bool1) else none
def tyNm (x : Str) : Option String :=
  if x = "str" then some "str" else
  if x = "int" then some "int" else
  if x = "bool" then some "bool" else
  if x = "tuple" then some "tuple" else
  if x = "list" then some "list" else
  if x = "dict" then some "dict" else none
def mtOf (x : Str) : Option MF :=
  if x = "append" then some appM else
  if x = "join" then some joinM else
  if x = "split" then some splitM else
  if x = "pop" then some popM else
  if x = "reverse" then some revM else
  if x = "extend" then some extM else
  if x = "get" then some getM else
  if x = "insert" then some insM else none
def isStar : Expr → Bool
  | .Starred .. => true
  | _ => false
def isSlice : Expr → Bool
  | .Slice .. => true
  | _ => false
def isSet : Expr → Bool
  | .Set .. => true
  | _ => false
def isComp : Expr → Bool
  | .ListComp .. => true
  | .SetComp .. => true
  | .DictComp .. => true
  | _ => false
/-- a receiver that is no call (super().. is) -/
def isCall : Expr → Bool
  | .Call (.Name ..) [] [] _ => true
  | _ => false
/-- a test that is one of its own form -/
def ownT : Expr → Bool
  | .UnaryOp .Not _ _ => true
  | .BoolOp .. => true
  | .IfExp .. => true
  | .Compare .. => true
  | _ => false
def dAs (f : Expr → Ev) : List Expr → Av
  | [] => aNil
  | e :: es => if isStar e then badA else aCons (f e) (dAs f es)
/-- the parts of a display -/
def dAx (f : Expr → Ev) : List Expr → Av
  | [] => aNil
  | e :: es => match e with
    | .Starred e _ => aStar (f e) (dAx f es)
    | e => aCons (f e) (dAx f es)
def dPrs (f : Expr → Ev) : List (Option Expr) → List Expr → Option (List (Ev × Ev))
  | [], [] => some []
  | some k :: ks, v :: vs => (dPrs f ks vs).map fun r => (f k, f v) :: r
  | _, _ => none
def dDict (f : Expr → Ev) (C : Cn) (ks : List (Option Expr)) (vs : List Expr) (pos : Pos) : Ev := match ks with
  | [] => match vs with
    | [] => newD (C.tk.contains pos.line)
    | _ => badE
  | k :: ks => if (k :: ks).length ≤ 15 then match dPrs f (k :: ks) vs with
      | some fs => dspE fs
      | none => badE
    else badE
def dBool (f : Expr → Ev) (op : BoolOp) : List Expr → Ev
  | [] => badE
  | [e] => f e
  | e :: e' :: es => match op with
    | .And => andE (f e) (dBool f op (e' :: es))
    | .Or => orE (f e) (dBool f op (e' :: es))
def dO (f : Expr → Ev) : Option Expr → Option Ev
  | none => none
  | some e => some (f e)
mutual
def dT (C : Cn) : Expr → Option Tg
  | .Name x _ => if locB C x = true then (slotOf C.N x).map .nm else none
  | .Tuple es _ _ => (dTs C es).map .tp
  | _ => none
def dTs (C : Cn) : List Expr → Option (List Tg)
  | [] => some []
  | e :: es => match dT C e with
    | some t => match dTs C es with
      | some ts => some (t :: ts)
      | none => none
    | none => none
end
mutual
/-- the slots of a target -/
def tgV : Tg → List Nat
  | .nm i => [i]
  | .tp ts => tgVs ts
def tgVs : List Tg → List Nat
  | [] => []
  | t :: ts => tgV t ++ tgVs ts
end
def ownOf (N : List Str) (names : List (Str × NameKind)) : List (Str × Nat) := names.filterMap fun y => match y.2 with
  | .local => (slotOf N y.1).map fun i => (y.1, i)
  | .cell => (slotOf N y.1).map fun i => (y.1, i)
  | _ => none
def Cn.blk (C : Cn) (scope : Scope) : Cn := { C with sc := relS scope C.sc, st := fun x => scope.names.lookup x == some .cell }
def fnOfN (C : Cn) (x : Str) : Option Fn := C.fns.lookup x
/-- walks, by what is walked -/
def dI (f : Expr → Ev) (C : Cn) (tg it : Expr) : Sv := if isSet it then badI else match it with
  | .Call (.Name x _) args [] _ =>
    if glB C x && C.bl.contains x then
      if x = "range" then match args with
        | [a] => if isStar a then badI else rS (dAs f [a]) rng1Of
        | [a, b] => if isStar a || isStar b then badI else rS (dAs f [a, b]) rng2Of
        | [a, b, c] => if isStar a || isStar b || isStar c then badI else rS (dAs f [a, b, c]) rng3Of
        | _ => badI
      else if x = "enumerate" then match tg, args with
        | .Tuple .., [a] => if isStar a then badI else eS (f a)
        | _, _ => badI
      else if x = "zip" then match tg, args with
        | .Tuple .., [a, b] => if isStar a || isStar b then badI else zS (f a) (f b)
        | _, _ => badI
      else if x = "reversed" then match args with
        | [a] => if isStar a then badI else revS (f a)
        | _ => badI
      else vS (f it)
    else vS (f it)
  | _ => vS (f it)
def dCmp (f : Expr → Ev) (a : Expr) (ops : List CmpOp) (bs : List Expr) : Ev := match ops, bs with
  | [op], [b] => if behindInMarks op b = true then badE else bE (f a) (f b) (cmpR op)
  | [op, op'], [b, c] => if lastMarks [op, op'] [b, c] = true then badE else chE (f a) (f b) (f c) op op'
  | [o1, o2, o3], [b, c, d] => if lastMarks [o1, o2, o3] [b, c, d] = true then badE else ch3E (f a) (f b) (f c) (f d) o1 o2 o3
  | _, _ => badE
def dSub (f : Expr → Ev) (a s : Expr) : Ev := match s with
  | .Slice lo hi none _ => slE (f a) (dO f lo) (dO f hi)
  | s => if isSlice s = true then badE else bE (f a) (f s) ixOp
/-- len(set(b)) -/
def lenSetOf (x : Str) (a : Expr) (as : List Expr) : Option Expr := match as with
  | [] => match a with
    | .Call (.Name y _) [b] [] _ => if x = "len" ∧ y = "set" then some b else none
    | _ => none
  | _ => none
theorem lenSetOf_some {x : Str} {a : Expr} {as : List Expr} {b : Expr} (h : lenSetOf x a as = some b) : x = "len" ∧ as = [] ∧ ∃ p q, a = .Call (.Name "set" p) [b] [] q := by
  unfold lenSetOf at h
  split at h
  · split at h
    · split at h
      · rename_i c
        cases h
        rw [c.2]
        exact ⟨c.1, rfl, _, _, rfl⟩
      · cases h
    · cases h
  · cases h
/-- a builtin called by its name -/
def dBlt (f : Expr → Ev) (C : Cn) (x : Str) (a : Expr) (as : List Expr) : Ev :=
  if x = "isinstance" then match as with
    | [.Name y _] => if (glB C y && C.bl.contains y) = true then match tyNm y with
        | some T => isiE (f a) T
        | none => badE
      else badE
    | _ => badE
  else match lenSetOf x a as with
    | some b => if (glB C "set" && C.bl.contains ("set" : Str) && !isStar b) = true then lsE (f b) else badE
    | none => match btOf x with
      | some (_, _, h) => cE (dAs f (a :: as)) h
      | none => badE
def dNam (f : Expr → Ev) (C : Cn) (x : Str) (a : Expr) (as : List Expr) : Ev :=
  if x = dbg ∨ isStar a = true ∨ as.any isStar = true ∨ glB C x = false then badE else
  match fnOfN C x with
  | some g => fE (dAs f (a :: as)) g
  | none => if C.bl.contains x = true then dBlt f C x a as else badE
def dMet (f : Expr → Ev) (o : Expr) (name : Str) (args : List Expr) : Ev := match mtOf name with
  | some m => match args with
    | [] => mE (f o) aNil m
    | a :: as => if isStar a = true ∨ as.any isStar = true ∨ ¬ (a :: as).length < 30 then badE else mE (f o) (dAs f (a :: as)) m
  | none => badE
def dCall (f : Expr → Ev) (C : Cn) (g : Expr) (args : List Expr) (kws : List Keyword) (pos : Pos) : Ev := match kws with
  | [] => match g with
    | .Name x _ => match args with
      | [] => badE
      | a :: as => dNam f C x a as
    | .Attribute o name apos => if isCall o = true ∨ (apos.endLine == pos.line) = false then badE else dMet f o name args
    | _ => badE
  | _ => badE
noncomputable def dLc (f : Cn → Expr → Ev) (C : Cn) (elt : Expr) (gs : List Comprehension) (scope : Scope) : Ev := match gs with
  | [⟨tg, it, ifs, 0⟩] => if blkC C.N C.sc scope (ownOf C.N scope.names) = true then
      match dT (C.blk scope) tg with
      | some t => if (tgV t).all (fun i => ((ownOf C.N scope.names).map (·.2)).contains i) = true then match ifs with
          | [] => lcE (dI (f C) C tg it) t none (f (C.blk scope) elt) ((ownOf C.N scope.names).map (·.2))
          | [c] => lcE (dI (f C) C tg it) t (some (f (C.blk scope) c)) (f (C.blk scope) elt) ((ownOf C.N scope.names).map (·.2))
          | _ => badE
        else badE
      | none => badE
    else badE
  | _ => badE
noncomputable def dDc (f : Cn → Expr → Ev) (C : Cn) (kx vx : Expr) (gs : List Comprehension) (scope : Scope) : Ev := match gs with
  | [⟨tg, it, ifs, 0⟩] => if blkC C.N C.sc scope (ownOf C.N scope.names) = true then
      match dT (C.blk scope) tg with
      | some t => if (tgV t).all (fun i => ((ownOf C.N scope.names).map (·.2)).contains i) = true then match ifs with
          | [] => dcE (dI (f C) C tg it) t none (f (C.blk scope) kx) (f (C.blk scope) vx) ((ownOf C.N scope.names).map (·.2))
          | [c] => dcE (dI (f C) C tg it) t (some (f (C.blk scope) c)) (f (C.blk scope) kx) (f (C.blk scope) vx) ((ownOf C.N scope.names).map (·.2))
          | _ => badE
        else badE
      | none => badE
    else badE
  | _ => badE
noncomputable def dDt (f : Cn → Expr → Ev) (C : Cn) (kx vx : Expr) (gs : List Comprehension) (scope : Scope) : Ev := match gs with
  | [⟨tg, it, ifs, 0⟩] => if blkC C.N C.sc scope (ownOf C.N scope.names) = true then
      match dT (C.blk scope) tg with
      | some t => if (tgV t).all (fun i => ((ownOf C.N scope.names).map (·.2)).contains i) = true then match ifs with
          | [] => dtE (dI (f C) C tg it) t none (f (C.blk scope) kx) (f (C.blk scope) vx) ((ownOf C.N scope.names).map (·.2))
          | [c] => dtE (dI (f C) C tg it) t (some (f (C.blk scope) c)) (f (C.blk scope) kx) (f (C.blk scope) vx) ((ownOf C.N scope.names).map (·.2))
          | _ => badE
        else badE
      | none => badE
    else badE
  | _ => badE
noncomputable def dE : Nat → Cn → Expr → Ev
  | 0, _, _ => badE
  | n + 1, C, e => match e with
    | .Name x _ => if x = dbg ∨ x = cdi then badE else
        if visB C.sc x then match slotOf C.N x with
          | some i => vE i
          | none => badE
        else if glB C x then match C.kst.lookup x with
          | some d => kE d
          | none => badE
        else badE
    | .Constant c _ _ => match c with
      | .int i => kE (.int i)
      | .bool b => kE (.bl b)
      | .none => kE .non
      | .str s => if s.cps.toList.length ≤ lim then kE (.str s.cps.toList) else badE
      | _ => badE
    | .BinOp a op b _ => bE (dE n C a) (dE n C b) (binOp op)
    | .UnaryOp op a _ => match op with
      | .Not => notE (dE n C a)
      | .USub => uE (dE n C a) negD
      | _ => badE
    | .BoolOp op vs _ => dBool (dE n C) op vs
    | .IfExp t a b _ => ifE (dE n C t) (dE n C a) (dE n C b)
    | .Compare a ops bs _ => dCmp (dE n C) a ops bs
    | .Tuple es _ _ => tupE (dAx (dE n C) es)
    | .List es _ => lstE (dAx (dE n C) es)
    | .Dict ks vs pos => dDict (dE n C) C ks vs pos
    | .DictComp kx vx gs scope pos => if C.tk.contains pos.line = true then dDt (dE n) C kx vx gs scope else dDc (dE n) C kx vx gs scope
    | .Subscript a s _ => dSub (dE n C) a s
    | .Call g args kws pos => dCall (dE n C) C g args kws pos
    | .ListComp elt gs scope _ => dLc (dE n) C elt gs scope
    | _ => badE

/-! ### what stars and forms mean -/
theorem star_cons {e : Expr} (h : isStar e = false) (es : List Expr) (env : PySem.Env) : starEach (e :: es) env = (false, eval e env) :: starEach es env := by
  cases e <;> first | rfl | cases h
theorem star_none : ∀ {es : List Expr} {env : PySem.Env} {pos : Pos}, es.any isStar = false → (backTo pos (starEach es env)).any (·.1) = false
  | [], _, _, _ => rfl
  | e :: es, env, pos, h => by
    rw [List.any_cons, Bool.or_eq_false_iff] at h
    rw [star_cons h.1]
    show (false || (backTo pos (starEach es env)).any (·.1)) = false
    rw [star_none h.2]; rfl
theorem star_all : ∀ {es : List Expr} {env : PySem.Env} {pos : Pos}, es.any isStar = false → (backTo pos (starEach es env)).all (fun x => !x.1) = true
  | [], _, _, _ => rfl
  | e :: es, env, pos, h => by
    rw [List.any_cons, Bool.or_eq_false_iff] at h
    rw [star_cons h.1]
    show (true && (backTo pos (starEach es env)).all (fun x => !x.1)) = true
    rw [star_all h.2]; rfl
theorem set_folded {e : Expr} (h : isSet e = false) (env : PySem.Env) (x : Value) : foldedSetIterable e env x = pure x := by
  cases e <;> first | rfl | cases h
theorem base_plain {e : Expr} (h : isCall e = false) (a : Str) (env : PySem.Env) : attributeBase e a env (eval e env) = eval e env := by
  cases e with
  | Call f args kws pos =>
    cases f with
    | Name id p =>
      cases args with
      | nil =>
        cases kws with
        | nil => cases h
        | cons => rfl
      | cons => rfl
    | _ => rfl
  | _ => rfl
theorem slice_plain {e : Expr} (h : isSlice e = false) : PlainIx e := fun o i => by
  cases e <;> first | rfl | cases h
theorem true_plain {e : Expr} (h : ownT e = false) (env : PySem.Env) (whole : Sem Value) : isTrue e env whole = (do let v ← whole; standAt e.pos; holding [v] (truthy v)) := by
  cases e with
  | UnaryOp op a p => cases op <;> first | rfl | cases h
  | BoolOp => cases h
  | IfExp => cases h
  | Compare => cases h
  | _ => rfl
theorem few_ok {b : Expr} {es : List Expr} {env : PySem.Env} {pos : Pos} (h : isStar b = false) (h2 : es.any isStar = false) (hl : (b :: es).length < 30) : ((backTo pos (starEach (b :: es) env)).all (fun x => !x.1) && (backToKw pos (keywordEach [] env)).all (fun x => x.1.isSome)
      && decide ((b :: es).length + ([] : List Keyword).length + (if ([] : List Keyword).isEmpty then 0 else 1) < 30)) = true := by
  have e : (b :: es).any isStar = false := by rw [List.any_cons, h, h2]; rfl
  exact (Bool.and_eq_true _ _).mpr ⟨(Bool.and_eq_true _ _).mpr ⟨star_all e, rfl⟩, decide_eq_true hl⟩
/-! ### the world of a text -/
/-- the defs, the constants, the names that are free -/
structure GOk (P : Program) (w : World) (K : PySem.W.Frag) (mg : Str → Option Value) (base : Heap) (k : Kx) (j : Nat) (fns : List (Str × Fn)) (kst : List (Str × D)) (bl : List Str) : Prop where
  fns : ∀ x f, fns.lookup x = some f → ∃ ad fd ps, FnOk P w K mg base (L2N.CX P w) j ad fd ps (spOf k f) ∧ mg x = some (.ref ad) ∧ PySem.W.keepIn K (.ref ad) = true ∧ Binds K fd ps []
  kst : ∀ x d, kst.lookup x = some d → ∃ u v, mg x = some u ∧ RelV v u ∧ ∀ F H, DV k.K F H d v
  bl : ∀ x, bl.contains x = true → mg x = none
structure CtxOk (X : Cx) (k : Kx) (C : Cn) (W : WX) : Prop where
  K : X.K = k.K
  un : X.A.units + 64 < cLine
  calm : X.calm = true
  nd : X.N.Nodup
  N : X.N = C.N
  sc : X.env.scope = C.sc
  st : ∀ x, C.st x = true → X.fn x = true
  tk : L2N.Takes X W
  g : ∃ j, Room j X.A ∧ GOk X.prog X.w X.K X.mg X.base k j C.fns C.kst C.bl
section
variable {X : Cx} {k : Kx} {C : Cn} {W : WX}
theorem CtxOk.gl (c : CtxOk X k C W) {x : Str} (h : glB C x = true) : Gl X x := by
  unfold glB at h
  show X.env.scope.names.lookup x = _
  rw [c.sc]
  split at h
  · assumption
  · cases h
theorem CtxOk.loc (c : CtxOk X k C W) {x : Str} (h : locB C x = true) : Loc X.env.scope x ∧ (X.fn x = true ∨ X.env.scope.names.lookup x = some .local) := by
  unfold locB at h
  rw [c.sc]
  split at h
  · rename_i e; exact ⟨.inl e, .inr e⟩
  · rename_i e; exact ⟨.inr e, .inl (c.st x h)⟩
  · cases h
theorem CtxOk.free (c : CtxOk X k C W) {x : Str} (h : C.bl.contains x = true) : X.mg x = none := let ⟨_, _, g⟩ := c.g; g.bl x h
theorem CtxOk.blk (c : CtxOk X k C W) (s : Shared) (H : Hp) (scope : Scope) (A : Addr) (cl : List (Str × Addr)) (fp : List Addr) : CtxOk (X.blk s H scope (compEnvC scope cl A X.env) fp) k (C.blk scope) (fun _ _ _ _ => False) where
  K := c.K
  un := c.un
  calm := c.calm
  nd := c.nd
  N := c.N
  sc := by
    show relS scope X.env.scope = relS scope C.sc
    rw [c.sc]
  st := fun x h => h
  tk := fun u s' ⟨_, _, _, _, _, _, _, _, _, _, _, _, _, _, _, _, w⟩ => w
  g := c.g
end
theorem bt_ok {x : Str} {b : Bool} {id : String} {h : BF} (e : btOf x = some (b, id, h)) : bootBuiltins x = some (if b = true then .builtin id else .type id) ∧ x ≠ "__name__" ∧ ∀ (X : Cx) (k : Kx), X.K = k.K → X.calm = true → CallR X (if b = true then .builtin id else .type id) (rC k h) := by
  unfold btOf at e
  by_cases q : x = "len"
  · rw [if_pos q] at e; subst q; cases e
    exact ⟨by decide +kernel, by decide, fun X k hK hc => c_len hK⟩
  rw [if_neg q] at e
  by_cases q : x = "str"
  · rw [if_pos q] at e; subst q; cases e
    exact ⟨by decide +kernel, by decide, fun X k hK hc => c_str hK⟩
  rw [if_neg q] at e
  by_cases q : x = "int"
  · rw [if_pos q] at e; subst q; cases e
    exact ⟨by decide +kernel, by decide, fun X k hK hc => c_int hK⟩
  rw [if_neg q] at e
  by_cases q : x = "all"
  · rw [if_pos q] at e; subst q; cases e
    exact ⟨by decide +kernel, by decide, fun X k hK hc => c_all hK hc⟩
  rw [if_neg q] at e
  by_cases q : x = "any"
  · rw [if_pos q] at e; subst q; cases e
    exact ⟨by decide +kernel, by decide, fun X k hK hc => c_any hK hc⟩
  rw [if_neg q] at e
  by_cases q : x = "sum"
  · rw [if_pos q] at e; subst q; cases e
    exact ⟨by decide +kernel, by decide, fun X k hK hc => c_sum hK hc⟩
  rw [if_neg q] at e
  by_cases q : x = "max"
  · rw [if_pos q] at e; subst q; cases e
    exact ⟨by decide +kernel, by decide, fun X k hK hc => c_max hc⟩
  rw [if_neg q] at e
  by_cases q : x = "min"
  · rw [if_pos q] at e; subst q; cases e
    exact ⟨by decide +kernel, by decide, fun X k hK hc => c_min hc⟩
  rw [if_neg q] at e
  by_cases q : x = "abs"
  · rw [if_pos q] at e; subst q; cases e
    exact ⟨by decide +kernel, by decide, fun X k hK hc => c_abs⟩
  rw [if_neg q] at e
  by_cases q : x = "list"
  · rw [if_pos q] at e; subst q; cases e
    exact ⟨by decide +kernel, by decide, fun X k hK hc => c_list hK⟩
  rw [if_neg q] at e
  by_cases q : x = "tuple"
  · rw [if_pos q] at e; subst q; cases e
    exact ⟨by decide +kernel, by decide, fun X k hK hc => c_tuple hK⟩
  rw [if_neg q] at e
  by_cases q : x = "bool"
  · rw [if_pos q] at e; subst q; cases e
    exact ⟨by decide +kernel, by decide, fun X k hK hc => c_bool hK⟩
  rw [if_neg q] at e
  cases e
theorem ty_ok {x : Str} {T : String} (e : tyNm x = some T) : bootBuiltins x = some (.type T) ∧ x ≠ "__name__" ∧ (x == ("__debug__" : Str)) = false := by
  unfold tyNm at e
  by_cases q : x = "str"
  · rw [if_pos q] at e; subst q; cases e; exact ⟨by decide +kernel, by decide, by decide⟩
  rw [if_neg q] at e
  by_cases q : x = "int"
  · rw [if_pos q] at e; subst q; cases e; exact ⟨by decide +kernel, by decide, by decide⟩
  rw [if_neg q] at e
  by_cases q : x = "bool"
  · rw [if_pos q] at e; subst q; cases e; exact ⟨by decide +kernel, by decide, by decide⟩
  rw [if_neg q] at e
  by_cases q : x = "tuple"
  · rw [if_pos q] at e; subst q; cases e; exact ⟨by decide +kernel, by decide, by decide⟩
  rw [if_neg q] at e
  by_cases q : x = "list"
  · rw [if_pos q] at e; subst q; cases e; exact ⟨by decide +kernel, by decide, by decide⟩
  rw [if_neg q] at e
  by_cases q : x = "dict"
  · rw [if_pos q] at e; subst q; cases e; exact ⟨by decide +kernel, by decide, by decide⟩
  rw [if_neg q] at e
  cases e
/-- a method's rule, whatever the type -/
structure MtOk (X : Cx) (k : Kx) (name : Str) (m : MF) : Prop where
  ex : ∃ (T id : String), PlainAttrs T ∧ Slot T name id ∧ typeOf (.builtin id) = pure (.type "method_descriptor") ∧ MtD X k T id m
theorem mt_ok {X : Cx} {k : Kx} (hK : X.K = k.K) (hu : X.A.units + 1 < cLine) {x : Str} {m : MF} (e : mtOf x = some m) : MtOk X k x m := by
  unfold mtOf at e
  by_cases q : x = "append"
  · rw [if_pos q] at e; subst q; cases e; exact ⟨"list", "list.append", F.plainAttrs_list, F.slot_list_append, F.type_list_append, m_append hK⟩
  rw [if_neg q] at e
  by_cases q : x = "join"
  · rw [if_pos q] at e; subst q; cases e; exact ⟨"str", "str.join", F.plainAttrs_str, F.slot_str_join, F.type_str_join, m_join hK⟩
  rw [if_neg q] at e
  by_cases q : x = "split"
  · rw [if_pos q] at e; subst q; cases e; exact ⟨"str", "str.split", F.plainAttrs_str, F.slot_str_split, F.type_str_split, m_split hK⟩
  rw [if_neg q] at e
  by_cases q : x = "pop"
  · rw [if_pos q] at e; subst q; cases e; exact ⟨"list", "list.pop", F.plainAttrs_list, F.slot_list_pop, F.type_list_pop, m_pop hK⟩
  rw [if_neg q] at e
  by_cases q : x = "reverse"
  · rw [if_pos q] at e; subst q; cases e; exact ⟨"list", "list.reverse", F.plainAttrs_list, F.slot_list_reverse, F.type_list_reverse, m_reverse hK⟩
  rw [if_neg q] at e
  by_cases q : x = "extend"
  · rw [if_pos q] at e; subst q; cases e; exact ⟨"list", "list.extend", F.plainAttrs_list, F.slot_list_extend, F.type_list_extend, m_extend hK⟩
  rw [if_neg q] at e
  by_cases q : x = "get"
  · rw [if_pos q] at e; subst q; cases e; exact ⟨"dict", "dict.get", F.plainAttrs_dict, F.slot_dict_get, F.type_dict_get, m_get hu⟩
  rw [if_neg q] at e
  by_cases q : x = "insert"
  · rw [if_pos q] at e; subst q; cases e; exact ⟨"list", "list.insert", F.plainAttrs_list, F.slot_list_insert, F.type_list_insert, m_insert hK⟩
  rw [if_neg q] at e
  cases e
/-! M12: the meaning of expressions is right. -/
open PySem PySem.Spec PyProof.Rows L2
/-! ### targets -/
section
variable {X : Cx} {k : Kx} {C : Cn} {W : WX}
theorem dT_nm {e : Expr} {i : Nat} (h : dT C e = some (.nm i)) : ∃ x p, e = .Name x p ∧ locB C x = true ∧ slotOf C.N x = some i := by
  unfold dT at h
  cases e with
  | Name x p =>
    dsimp only at h
    by_cases q : locB C x = true
    · rw [if_pos q] at h
      obtain ⟨j, e, e2⟩ := Option.map_eq_some_iff.mp h
      cases e2
      exact ⟨x, p, rfl, q, e⟩
    · rw [if_neg q] at h; cases h
  | Tuple es a p =>
    dsimp only at h
    obtain ⟨j, e, e2⟩ := Option.map_eq_some_iff.mp h
    cases e2
  | _ => cases h
theorem dT_tp {e : Expr} {ts : List Tg} (h : dT C e = some (.tp ts)) : ∃ es a p, e = .Tuple es a p ∧ dTs C es = some ts := by
  unfold dT at h
  cases e with
  | Name x p =>
    dsimp only at h
    by_cases q : locB C x = true
    · rw [if_pos q] at h
      obtain ⟨j, e, e2⟩ := Option.map_eq_some_iff.mp h
      cases e2
    · rw [if_neg q] at h; cases h
  | Tuple es a p =>
    dsimp only at h
    obtain ⟨j, e, e2⟩ := Option.map_eq_some_iff.mp h
    cases e2
    exact ⟨es, a, p, rfl, e⟩
  | _ => cases h
theorem dTs_nil {es : List Expr} (h : dTs C es = some []) : es = [] := by
  unfold dTs at h
  cases es with
  | nil => rfl
  | cons e es =>
    dsimp only at h
    split at h
    · split at h
      · cases h
      · cases h
    · cases h
theorem dTs_cons {es : List Expr} {t : Tg} {ts : List Tg} (h : dTs C es = some (t :: ts)) : ∃ e r, es = e :: r ∧ dT C e = some t ∧ dTs C r = some ts := by
  unfold dTs at h
  cases es with
  | nil => cases h
  | cons e es =>
    dsimp only at h
    split at h
    · rename_i t' e1
      split at h
      · rename_i ts' e2
        cases h
        exact ⟨e, es, rfl, e1, e2⟩
      · cases h
    · cases h
theorem dT_star {e : Expr} {t : Tg} (h : dT C e = some t) (es : List Expr) (env : PySem.Env) : assignEach (e :: es) env = (false, assign e env) :: assignEach es env := by
  cases e <;> first | rfl | (unfold dT at h; cases h)
theorem dTs_len : ∀ {ts : List Tg} {es : List Expr} {env : PySem.Env}, dTs C es = some ts → (assignEach es env).length = ts.length ∧ (assignEach es env).findIdx? (·.1) = none
  | [], es, env, h => by rw [dTs_nil h]; exact ⟨rfl, rfl⟩
  | t :: ts, es, env, h => by
    obtain ⟨e, r, rfl, h1, h2⟩ := dTs_cons h
    obtain ⟨q1, q2⟩ := dTs_len (env := env) h2
    rw [dT_star h1]
    refine ⟨by rw [List.length_cons, List.length_cons, q1], ?_⟩
    rw [List.findIdx?_cons]
    simp [q2]
mutual
theorem dT_ok (c : CtxOk X k C W) {W' : WX} : ∀ (t : Tg) (e : Expr), dT C e = some t → PG X e (tG k W' (asgT t))
  | .nm i, e, h => by
    obtain ⟨x, p, rfl, l, s⟩ := dT_nm h
    exact mg_name c.nd (by rw [c.N]; exact slotOf_ok s) (c.loc l).1 (c.loc l).2
  | .tp ts, e, h => by
    obtain ⟨es, a, p, rfl, h2⟩ := dT_tp h
    exact mg_tup c.K c.calm (dTs_ok c ts es h2) (dTs_len h2).1 (dTs_len h2).2
theorem dTs_ok (c : CtxOk X k C W) : ∀ (ts : List Tg) (es : List Expr), dTs C es = some ts → PGs X es (tGs k (fun _ _ _ _ => False) (asgTs ts))
  | [], es, h => by rw [dTs_nil h]; exact mgs_nil
  | t :: ts, es, h => by
    obtain ⟨e, r, rfl, h1, h2⟩ := dTs_cons h
    exact mgs_cons (dT_ok c t e h1) (dTs_ok c ts r h2) (by rw [dT_star h1]; rfl)
end
mutual
theorem dTw_ok (c : CtxOk X k C W) (vs : List Nat) : ∀ (t : Tg) (e : Expr), dT C e = some t → (∀ i ∈ tgV t, i ∈ vs) → PG X e (tGw k vs (asgT t))
  | .nm i, e, h, hv => by
    obtain ⟨x, p, rfl, l, s⟩ := dT_nm h
    exact mgw_name c.nd (by rw [c.N]; exact slotOf_ok s) (c.loc l).1 (c.loc l).2 (hv i (by unfold tgV; exact List.mem_cons_self))
  | .tp ts, e, h, hv => by
    obtain ⟨es, a, p, rfl, h2⟩ := dT_tp h
    exact mgw_tup c.K c.calm (dTsw_ok c vs ts es h2 (fun i hi => hv i (by unfold tgV; exact hi))) (dTs_len h2).1 (dTs_len h2).2
theorem dTsw_ok (c : CtxOk X k C W) (vs : List Nat) : ∀ (ts : List Tg) (es : List Expr), dTs C es = some ts → (∀ i ∈ tgVs ts, i ∈ vs) → PGs X es (tGsw k vs (asgTs ts))
  | [], es, h, _ => by rw [dTs_nil h]; exact mgsw_nil
  | t :: ts, es, h, hv => by
    obtain ⟨e, r, rfl, h1, h2⟩ := dTs_cons h
    exact mgsw_cons (dTw_ok c vs t e h1 fun i hi => hv i (by unfold tgVs; exact List.mem_append_left _ hi)) (dTsw_ok c vs ts r h2 fun i hi => hv i (by unfold tgVs; exact List.mem_append_right _ hi)) (by rw [dT_star h1]; rfl)
end
/-! ### what is never said -/
theorem me_bad {e : Expr} : PE X e (tE k W badE) := ⟨fun pins s σ H Q I ⟨F, h, env, sr, p⟩ => p.elim⟩
theorem mt_bad {e : Expr} : PT X e (tT k W (tst badE)) := ⟨fun pins s σ H Q I ⟨F, h, env, sr, p⟩ => p.elim⟩
theorem ma_bad {e : List Expr} : PA X e (tA k W badA) := ⟨fun pos pins s σ H Q I ⟨F, h, env, sr, p⟩ => p.elim⟩
theorem mi_bad {tg e : Expr} : PI X tg e (tI k W badI) := ⟨fun pins s σ H Q I ⟨F, h, env, sr, p⟩ => p.elim⟩
theorem ms_bad {e : Stmt} : PS X e (tS k W badS) := ⟨fun pins s σ H N I ⟨F, h, env, sr, p⟩ => p.elim⟩
/-! ### parts, given what f says of each -/
section
variable {f : Expr → Ev} (hf : ∀ e, PE X e (tE k W (f e)))
include hf
theorem dAs_ok : ∀ es : List Expr, PA X es (tA k W (dAs f es))
  | [] => ma_nil
  | e :: es => by
    unfold dAs
    cases q : isStar e with
    | true => rw [if_pos rfl]; exact ma_bad
    | false => rw [if_neg (by decide)]; exact ma_cons (hf e) (dAs_ok es) (star_cons q es _)
theorem dAx_ok (hK : X.K = k.K) : ∀ es : List Expr, PA X es (tA k W (dAx f es))
  | [] => ma_nil
  | e :: es => by
    cases e with
    | Starred a p => exact ma_star hK (hf a) (dAx_ok hK es)
    | _ => exact ma_cons (hf _) (dAx_ok hK es) rfl
theorem dPrs_ok {pos : Pos} : ∀ (ks : List (Option Expr)) (vs : List Expr) (fs : List (Ev × Ev)), dPrs f ks vs = some fs → PPs X pos ks vs (fs.map fun q => (tE k W q.1, tE k W q.2)) ∧ ks.all (·.isSome) = true ∧ ks.length = vs.length ∧ fs.length = ks.length
  | [], [], fs, h => by cases h; exact ⟨pps_nil, rfl, rfl, rfl⟩
  | some a :: ks, v :: vs, fs, h => by
    unfold dPrs at h
    obtain ⟨r, e, rfl⟩ := Option.map_eq_some_iff.mp h
    obtain ⟨h1, h2, h3, h4⟩ := dPrs_ok ks vs r e
    exact ⟨pps_cons (hf a) (hf v) h1, by simpa using h2, by simpa using h3, by simpa using h4⟩
  | [], _ :: _, _, h => by cases h
  | none :: _, _, _, h => by unfold dPrs at h; cases h
  | some _ :: _, [], _, h => by cases h
theorem dDict_ok (ks : List (Option Expr)) (vs : List Expr) (pos : Pos) : PE X (.Dict ks vs pos) (tE k W (dDict f C ks vs pos)) := by
  unfold dDict
  split
  · split
    · exact me_dnew _
    · exact me_bad
  · rename_i a ks
    by_cases q : (a :: ks).length ≤ 15
    · rw [if_pos q]
      split
      · rename_i fs e
        obtain ⟨h1, h2, h3, h4⟩ := dPrs_ok hf (pos := pos) _ _ _ e
        exact me_disp h1 h2 h3 (by simp) q h4
      · exact me_bad
    · rw [if_neg q]; exact me_bad
theorem dO_ok : ∀ o : Option Expr, PO X o (tO k W (ptE (dO f o)))
  | none => mo_none
  | some e => mo_some (hf e)
theorem dBool_ok (hK : X.K = k.K) {op : BoolOp} {pos : Pos} : ∀ es : List Expr, PE X (.BoolOp op es pos) (tE k W (dBool f op es))
  | [] => me_bad
  | [e] => by
    cases op with
    | And => exact pe_one (hf e)
    | Or => exact pe_one (hf e)
  | e :: e' :: es => by
    cases op with
    | And => exact me_and hK (hf e) (dBool_ok hK (e' :: es))
    | Or => exact me_or hK (hf e) (dBool_ok hK (e' :: es))
theorem dI_ok (c : CtxOk X k C W) (tg it : Expr) : PI X tg it (tI k W (dI f C tg it)) := by
  unfold dI
  by_cases q : isSet it = true
  · rw [if_pos q]; exact mi_bad
  rw [if_neg q]
  have val : PI X tg it (tI k W (vS (f it))) := mi_val c.K (hf it)
  split
  · rename_i x p args pos
    by_cases q1 : (glB C x && C.bl.contains x) = true
    · rw [if_pos q1]
      have q1' := (Bool.and_eq_true _ _).mp q1
      have hg := c.gl q1'.1
      have hm := c.free q1'.2
      by_cases e1 : x = "range"
      · rw [if_pos e1]; subst e1
        split
        · rename_i a
          cases s1 : isStar a with
          | true => rw [if_pos rfl]; exact mi_bad
          | false => rw [if_neg (by decide)]; exact mi_rng1 hg hm (dAs_ok hf _) (star_cons s1 [] _)
        · rename_i a b
          cases s1 : isStar a with
          | true => rw [Bool.true_or, if_pos rfl]; exact mi_bad
          | false =>
            cases s2 : isStar b with
            | true => rw [Bool.or_true, if_pos rfl]; exact mi_bad
            | false => rw [Bool.or_false, if_neg (by decide)]; exact mi_rng2 hg hm (dAs_ok hf _) (by rw [star_cons s1, star_cons s2]; rfl) (star_cons s2 [] _)
        · rename_i a b d
          by_cases s : (isStar a || isStar b || isStar d) = true
          · rw [if_pos s]; exact mi_bad
          · rw [if_neg s]
            simp only [Bool.or_eq_true, not_or, Bool.not_eq_true] at s
            exact mi_rng3 hg hm (dAs_ok hf _) (star_cons s.1.1 _ _) (star_none (by simp [s.1.2, s.2]))
        · exact mi_bad
      · rw [if_neg e1]
        by_cases e2 : x = "enumerate"
        · rw [if_pos e2]; subst e2
          split
          · rename_i a
            cases s1 : isStar a with
            | true => rw [if_pos rfl]; exact mi_bad
            | false => rw [if_neg (by decide)]; exact mi_enu c.K hg hm (ma_cons (hf a) ma_nil (star_cons s1 [] _)) (star_cons s1 [] _)
          · exact mi_bad
        · rw [if_neg e2]
          by_cases e3 : x = "zip"
          · rw [if_pos e3]; subst e3
            split
            · rename_i a b
              by_cases s : (isStar a || isStar b) = true
              · rw [if_pos s]; exact mi_bad
              · rw [if_neg s]
                simp only [Bool.or_eq_true, not_or, Bool.not_eq_true] at s
                exact mi_zip c.K hg hm (ma_cons (hf a) (ma_cons (hf b) ma_nil (star_cons s.2 [] _)) (star_cons s.1 _ _)) (star_cons s.1 _ _) (star_none (by simp [s.2]))
            · exact mi_bad
          · rw [if_neg e3]
            by_cases e4 : x = "reversed"
            · rw [if_pos e4]; subst e4
              split
              · rename_i a
                cases s1 : isStar a with
                | true => rw [if_pos rfl]; exact mi_bad
                | false => rw [if_neg (by decide)]; exact mi_rev c.K hg hm (hf a) (star_cons s1 [] _)
              · exact mi_bad
            · rw [if_neg e4]; exact val
    · rw [if_neg q1]; exact val
  · exact val
end
theorem mw_bad {e : Expr} : PW X e (tT k W (tst badE)) := ⟨fun w pins s σ H Q I ⟨F, h, env, sr, p⟩ => p.elim⟩
theorem dBoolT_ok {f : Expr → Ev} (hf : ∀ e, PT X e (tT k W (tst (f e)))) {op : BoolOp} {pos : Pos} : ∀ es : List Expr, PW X (.BoolOp op es pos) (tT k W (tst (dBool f op es)))
  | [] => mw_bad
  | [e] => by
    cases op with
    | And => exact pw_and1 (hf e)
    | Or => exact pw_or1 (hf e)
  | e :: e' :: es => by
    cases op with
    | And => exact mw_and (hf e) (dBoolT_ok hf (e' :: es))
    | Or => exact mw_or (hf e) (dBoolT_ok hf (e' :: es))
end
/-! ### calls -/
section
variable {X : Cx} {k : Kx} {C : Cn} {W : WX}
theorem mt_if {t a b : Expr} {ft fa fb : Ev} {pos : Pos} (ht : PT X t (tT k W (tst ft))) (ha : PT X a (tT k W (tst fa))) (hb : PT X b (tT k W (tst fb))) : PT X (.IfExp t a b pos) (tT k W (tst (ifE ft fa fb))) := by
  refine ⟨fun pins s σ H Q I p => ?_⟩
  rw [PySem.arm_isTrue_IfExp]
  have q : tT k W (tst ft) σ H (fun d H1 => if d = true then tT k W (tst fa) σ H1 Q else tT k W (tst fb) σ H1 Q) := by
    obtain ⟨F, h, env, sr, p⟩ := p
    refine ⟨F, h, env, sr, ?_⟩
    have p : Post k F H (PB Q) (fun c d H' => W c d σ H') (((tst ft env h).bind fun c h1 => if c = true then fa env h1 else fb env h1).bind fun x h1 => Res.of (truth h1 x) h1) := p
    cases e : tst ft env h with
    | bad => rw [e] at p; exact p.elim
    | exc x h1 => rw [e] at p; exact p
    | ok d h1 =>
      rw [e] at p
      intro F' H' st rl
      cases d with
      | true => exact ⟨F', h1, env, sr.step st rl, Post.step (r := tst fa env h1) p st⟩
      | false => exact ⟨F', h1, env, sr.step st rl, Post.step (r := tst fb env h1) p st⟩
  refine wpAny_bind (thn (ht.run pins s σ H _ I q) fun d s1 ⟨H1, I1, q1⟩ => ?_)
  cases d with
  | true => exact ha.run pins s1 σ H1 Q I1 q1
  | false => exact hb.run pins s1 σ H1 Q I1 q1
section
variable {f : Expr → Ev} (hf : ∀ e, PE X e (tE k W (f e)))
include hf
theorem dCmp_ok (c : CtxOk X k C W) {a : Expr} {p : Pos} (ops : List CmpOp) (bs : List Expr) : PE X (.Compare a ops bs p) (tE k W (dCmp f a ops bs)) := by
  unfold dCmp
  split
  · rename_i op b
    by_cases q : behindInMarks op b = true
    · rw [if_pos q]; exact me_bad
    · rw [if_neg q]; exact me_cmp c.K c.un (hf a) (hf b) (Bool.eq_false_iff.mpr q)
  · rename_i op op' b d
    by_cases q : lastMarks [op, op'] [b, d] = true
    · rw [if_pos q]; exact me_bad
    · rw [if_neg q]; exact me_chain c.K c.un (hf a) (hf b) (hf d) (Bool.eq_false_iff.mpr q)
  · rename_i o1 o2 o3 b d e
    by_cases q : lastMarks [o1, o2, o3] [b, d, e] = true
    · rw [if_pos q]; exact me_bad
    · rw [if_neg q]; exact me_chain3 c.K c.un (hf a) (hf b) (hf d) (hf e) (Bool.eq_false_iff.mpr q)
  · exact me_bad
theorem dCmpT_ok (c : CtxOk X k C W) {a : Expr} {p : Pos} (ops : List CmpOp) (bs : List Expr) : PT X (.Compare a ops bs p) (tT k W (tst (dCmp f a ops bs))) := by
  unfold dCmp
  split
  · rename_i op b
    by_cases q : behindInMarks op b = true
    · rw [if_pos q]; exact mt_bad
    · rw [if_neg q]; exact mt_cmp c.K c.un (hf a) (hf b) (Bool.eq_false_iff.mpr q)
  · rename_i op op' b d
    by_cases q : lastMarks [op, op'] [b, d] = true
    · rw [if_pos q]; exact mt_bad
    · rw [if_neg q]; exact mt_chain c.K c.un (hf a) (hf b) (hf d) (Bool.eq_false_iff.mpr q)
  · rename_i o1 o2 o3 b d e
    by_cases q : lastMarks [o1, o2, o3] [b, d, e] = true
    · rw [if_pos q]; exact mt_bad
    · rw [if_neg q]; exact mt_chain3 c.K c.un (hf a) (hf b) (hf d) (hf e) (Bool.eq_false_iff.mpr q)
  · exact mt_bad
theorem dSub_ok (c : CtxOk X k C W) (a s : Expr) {p : Pos} : PE X (.Subscript a s p) (tE k W (dSub f a s)) := by
  unfold dSub
  split
  · exact me_sl c.K (hf a) (dO_ok hf _) (dO_ok hf _)
  · by_cases q : isSlice s = true
    · rw [if_pos q]; exact me_bad
    · rw [if_neg q]; exact me_ix c.K (by have := c.un; omega) (hf a) (hf s) (slice_plain (Bool.eq_false_iff.mpr q))
theorem dCall_ok (c : CtxOk X k C W) (g : Expr) (args : List Expr) (kws : List Keyword) (pos : Pos) : PE X (.Call g args kws pos) (tE k W (dCall f C g args kws pos)) := by
  unfold dCall
  split
  · split
    · rename_i x p
      split
      · exact me_bad
      · rename_i a as
        unfold dNam
        by_cases q : x = dbg ∨ isStar a = true ∨ as.any isStar = true ∨ glB C x = false
        · rw [if_pos q]; exact me_bad
        rw [if_neg q]
        simp only [not_or, Bool.not_eq_true, Bool.not_eq_false] at q
        obtain ⟨q1, q2, q3, q4⟩ := q
        have hd : (x == ("__debug__" : Str)) = false := by simpa using q1
        have hs := star_cons q2 as X.env
        have hp := star_none (env := X.env) (pos := pos) q3
        have hg := c.gl q4
        split
        · rename_i h e
          obtain ⟨j, rm, g⟩ := c.g
          obtain ⟨ad, fd, ps, F, hm, hk, hb⟩ := g.fns x h e
          exact me_fn F rm hg hm hk hb c.tk (dAs_ok hf _) hd hs hp
        · by_cases q5 : C.bl.contains x = true
          · rw [if_pos q5]
            have hm := c.free q5
            unfold dBlt
            by_cases q6 : x = "isinstance"
            · rw [if_pos q6]; subst q6
              split
              · rename_i y p2
                by_cases q7 : (glB C y && C.bl.contains y) = true
                · rw [if_pos q7]
                  have q8 := (Bool.and_eq_true _ _).mp q7
                  split
                  · rename_i T eT
                    obtain ⟨b1, b2, b3⟩ := ty_ok eT
                    exact me_isi c.K hg hm (hf a) hs (c.gl q8.1) (c.free q8.2) b1 b2 b3
                  · exact me_bad
                · rw [if_neg q7]; exact me_bad
              · exact me_bad
            · rw [if_neg q6]
              split
              · rename_i b e
                obtain ⟨rfl, rfl, p0, p9, rfl⟩ := lenSetOf_some e
                by_cases q7 : (glB C "set" && C.bl.contains ("set" : Str) && !isStar b) = true
                · rw [if_pos q7]
                  simp only [Bool.and_eq_true, Bool.not_eq_true'] at q7
                  exact me_lenSet c.K hg hm (c.gl q7.1.1) (c.free q7.1.2) (hf b) c.calm (star_cons q7.2 [] X.env)
                · rw [if_neg q7]; exact me_bad
              split
              · rename_i b id h e
                obtain ⟨b1, b2, b3⟩ := bt_ok e
                have b4 := b3 X k c.K c.calm
                cases b with
                | true => exact me_callB b4 hg hm b1 (dAs_ok hf _) b2 hd hs hp
                | false => exact me_callTy b4 hg hm b1 (dAs_ok hf _) b2 hd hs hp
              · exact me_bad
          · rw [if_neg q5]; exact me_bad
    · rename_i o name apos
      by_cases q : isCall o = true ∨ (apos.endLine == pos.line) = false
      · rw [if_pos q]; exact me_bad
      rw [if_neg q]
      simp only [not_or, Bool.not_eq_true, Bool.not_eq_false] at q
      unfold dMet
      split
      · rename_i m e
        obtain ⟨T, id, pa, sl, ty, md⟩ := (mt_ok (X := X) (k := k) c.K (by have := c.un; omega) e).ex
        have hbase := base_plain q.1 name X.env
        split
        · exact me_bm0 pa sl ty md (hf o) hbase q.2
        · rename_i a as
          by_cases q2 : isStar a = true ∨ as.any isStar = true ∨ ¬ (a :: as).length < 30
          · rw [if_pos q2]; exact me_bad
          rw [if_neg q2]
          simp only [not_or, Bool.not_eq_true, Decidable.not_not] at q2
          exact me_bm pa sl ty md (hf o) (dAs_ok hf _) hbase (few_ok q2.1 q2.2.1 q2.2.2) q.2 (star_cons q2.1 as _) (star_none q2.2.1)
      · exact me_bad
    · exact me_bad
  · exact me_bad
end
theorem contains_mem {l : List Nat} {i : Nat} (h : l.contains i = true) : i ∈ l := by simpa using h
theorem dLc_ok {f : Cn → Expr → Ev} (hf : ∀ X C W, CtxOk X k C W → ∀ e, PE X e (tE k W (f C e)) ∧ PT X e (tT k W (tst (f C e)))) (c : CtxOk X k C W) (elt : Expr) (gs : List Comprehension) (scope : Scope) (p : Pos) :
    PE X (.ListComp elt gs scope p) (tE k W (dLc f C elt gs scope)) ∧ ∀ (y : Str) (py spos : Pos) (i : Nat), X.N[i]? = some y → X.env.scope.names.lookup y = some .local → swapsWith (.ListComp elt gs scope p) (some (.Name y py)) spos.line X.env = pure true →
      PS X (.Assign [.Name y py] (.ListComp elt gs scope p) spos) (tS k W (asgF (dLc f C elt gs scope) (asgT (.nm i)))) := by
  have he := fun e => (hf X C W c e).1
  have bad : PE X (.ListComp elt gs scope p) (tE k W badE) ∧ ∀ (y : Str) (py spos : Pos) (i : Nat), X.N[i]? = some y → X.env.scope.names.lookup y = some .local → swapsWith (.ListComp elt gs scope p) (some (.Name y py)) spos.line X.env = pure true →
      PS X (.Assign [.Name y py] (.ListComp elt gs scope p) spos) (tS k W (asgF badE (asgT (.nm i)))) := ⟨me_bad, fun _ _ _ _ _ _ _ => ⟨fun pins s σ H N I ⟨F, h, env, sr, p⟩ => p.elim⟩⟩
  unfold dLc
  split
  · rename_i tg it ifs
    by_cases q1 : blkC C.N C.sc scope (ownOf C.N scope.names) = true
    · rw [if_pos q1]
      split
      · rename_i t et
        by_cases q2 : (tgV t).all (fun i => ((ownOf C.N scope.names).map (·.2)).contains i) = true
        · rw [if_pos q2]
          have hv : ∀ i ∈ tgV t, i ∈ (ownOf C.N scope.names).map (·.2) := fun i hi => contains_mem (List.all_eq_true.mp q2 i hi)
          by_cases q3 : isSet it = true
          · have e3 : dI (f C) C tg it = badI := by unfold dI; rw [if_pos q3]
            have b2 : ∀ t c fe vs, PE X (.ListComp elt [⟨tg, it, ifs, 0⟩] scope p) (tE k W (lcE badI t c fe vs)) ∧ ∀ (y : Str) (py spos : Pos) (i : Nat), X.N[i]? = some y → X.env.scope.names.lookup y = some .local → swapsWith (.ListComp elt [⟨tg, it, ifs, 0⟩] scope p) (some (.Name y py)) spos.line X.env = pure true →
              PS X (.Assign [.Name y py] (.ListComp elt [⟨tg, it, ifs, 0⟩] scope p) spos) (tS k W (asgF (lcE badI t c fe vs) (asgT (.nm i)))) := fun t c fe vs => ⟨⟨fun pins s σ H Q I ⟨F, h, env, sr, p⟩ => p.elim⟩, fun _ _ _ _ _ _ _ => ⟨fun pins s σ H N I ⟨F, h, env, sr, p⟩ => p.elim⟩⟩
            split
            · rw [e3]; exact b2 _ _ _ _
            · rw [e3]; exact b2 _ _ _ _
            · exact bad
          have hs := fun v => set_folded (Bool.eq_false_iff.mpr q3) X.env v
          have bk : BlkOk X.N X.env.scope scope (ownOf C.N scope.names) := by rw [c.N, c.sc]; exact blkOk_by q1
          have hg := fun (s : Shared) (H : Hp) (A : Addr) (cl : List (Str × Addr)) (fp : List Addr) => dTw_ok (c.blk s H scope A cl fp) ((ownOf C.N scope.names).map (·.2)) t tg et hv
          have hb := fun (e : Expr) (s : Shared) (H : Hp) (A : Addr) (cl : List (Str × Addr)) (fp : List Addr) => hf _ _ _ (c.blk s H scope A cl fp) e
          split
          · exact ⟨me_lc c.calm c.nd (dI_ok he c tg it) bk hg (fun _ _ _ _ _ => pts_nil) (fun s H A cl fp => (hb elt s H A cl fp).1) hs,
              fun y py spos i e1 e2 e3 => ms_setLc c.calm c.nd e1 e2 e3 (dI_ok he c tg it) bk hg (fun _ _ _ _ _ => pts_nil) (fun s H A cl fp => (hb elt s H A cl fp).1) hs⟩
          · rename_i d
            exact ⟨me_lc c.calm c.nd (dI_ok he c tg it) bk hg (fun s H A cl fp => pts_one (hb d s H A cl fp).2) (fun s H A cl fp => (hb elt s H A cl fp).1) hs,
              fun y py spos i e1 e2 e3 => ms_setLc c.calm c.nd e1 e2 e3 (dI_ok he c tg it) bk hg (fun s H A cl fp => pts_one (hb d s H A cl fp).2) (fun s H A cl fp => (hb elt s H A cl fp).1) hs⟩
          · exact bad
        · rw [if_neg q2]; exact bad
      · exact bad
    · rw [if_neg q1]; exact bad
  · exact bad
theorem dDc_ok {f : Cn → Expr → Ev} (hf : ∀ X C W, CtxOk X k C W → ∀ e, PE X e (tE k W (f C e)) ∧ PT X e (tT k W (tst (f C e)))) (c : CtxOk X k C W) (kx vx : Expr) (gs : List Comprehension) (scope : Scope) (p : Pos) :
    PE X (.DictComp kx vx gs scope p) (tE k W (dDc f C kx vx gs scope)) ∧ ∀ (y : Str) (py spos : Pos) (i : Nat), X.N[i]? = some y → X.env.scope.names.lookup y = some .local → swapsWith (.DictComp kx vx gs scope p) (some (.Name y py)) spos.line X.env = pure true →
      PS X (.Assign [.Name y py] (.DictComp kx vx gs scope p) spos) (tS k W (asgF (dDc f C kx vx gs scope) (asgT (.nm i)))) := by
  have he := fun e => (hf X C W c e).1
  have bad : PE X (.DictComp kx vx gs scope p) (tE k W badE) ∧ ∀ (y : Str) (py spos : Pos) (i : Nat), X.N[i]? = some y → X.env.scope.names.lookup y = some .local → swapsWith (.DictComp kx vx gs scope p) (some (.Name y py)) spos.line X.env = pure true →
      PS X (.Assign [.Name y py] (.DictComp kx vx gs scope p) spos) (tS k W (asgF badE (asgT (.nm i)))) := ⟨me_bad, fun _ _ _ _ _ _ _ => ⟨fun pins s σ H N I ⟨F, h, env, sr, p⟩ => p.elim⟩⟩
  unfold dDc
  split
  · rename_i tg it ifs
    by_cases q1 : blkC C.N C.sc scope (ownOf C.N scope.names) = true
    · rw [if_pos q1]
      split
      · rename_i t et
        by_cases q2 : (tgV t).all (fun i => ((ownOf C.N scope.names).map (·.2)).contains i) = true
        · rw [if_pos q2]
          have hv : ∀ i ∈ tgV t, i ∈ (ownOf C.N scope.names).map (·.2) := fun i hi => contains_mem (List.all_eq_true.mp q2 i hi)
          by_cases q3 : isSet it = true
          · have e3 : dI (f C) C tg it = badI := by unfold dI; rw [if_pos q3]
            have b2 : ∀ t c fk fv vs, PE X (.DictComp kx vx [⟨tg, it, ifs, 0⟩] scope p) (tE k W (dcE badI t c fk fv vs)) ∧ ∀ (y : Str) (py spos : Pos) (i : Nat), X.N[i]? = some y → X.env.scope.names.lookup y = some .local → swapsWith (.DictComp kx vx [⟨tg, it, ifs, 0⟩] scope p) (some (.Name y py)) spos.line X.env = pure true →
              PS X (.Assign [.Name y py] (.DictComp kx vx [⟨tg, it, ifs, 0⟩] scope p) spos) (tS k W (asgF (dcE badI t c fk fv vs) (asgT (.nm i)))) := fun t c fk fv vs => ⟨⟨fun pins s σ H Q I ⟨F, h, env, sr, p⟩ => p.elim⟩, fun _ _ _ _ _ _ _ => ⟨fun pins s σ H N I ⟨F, h, env, sr, p⟩ => p.elim⟩⟩
            split
            · rw [e3]; exact b2 _ _ _ _ _
            · rw [e3]; exact b2 _ _ _ _ _
            · exact bad
          have hs := fun v => set_folded (Bool.eq_false_iff.mpr q3) X.env v
          have bk : BlkOk X.N X.env.scope scope (ownOf C.N scope.names) := by rw [c.N, c.sc]; exact blkOk_by q1
          have hg := fun (s : Shared) (H : Hp) (A : Addr) (cl : List (Str × Addr)) (fp : List Addr) => dTw_ok (c.blk s H scope A cl fp) ((ownOf C.N scope.names).map (·.2)) t tg et hv
          have hb := fun (e : Expr) (s : Shared) (H : Hp) (A : Addr) (cl : List (Str × Addr)) (fp : List Addr) => hf _ _ _ (c.blk s H scope A cl fp) e
          split
          · exact ⟨me_dc c.calm c.nd (dI_ok he c tg it) bk hg (fun _ _ _ _ _ => pts_nil) (fun s H A cl fp => (hb kx s H A cl fp).1) (fun s H A cl fp => (hb vx s H A cl fp).1) hs,
              fun y py spos i e1 e2 e3 => ms_setDc c.calm c.nd e1 e2 e3 (dI_ok he c tg it) bk hg (fun _ _ _ _ _ => pts_nil) (fun s H A cl fp => (hb kx s H A cl fp).1) (fun s H A cl fp => (hb vx s H A cl fp).1) hs⟩
          · rename_i d
            exact ⟨me_dc c.calm c.nd (dI_ok he c tg it) bk hg (fun s H A cl fp => pts_one (hb d s H A cl fp).2) (fun s H A cl fp => (hb kx s H A cl fp).1) (fun s H A cl fp => (hb vx s H A cl fp).1) hs,
              fun y py spos i e1 e2 e3 => ms_setDc c.calm c.nd e1 e2 e3 (dI_ok he c tg it) bk hg (fun s H A cl fp => pts_one (hb d s H A cl fp).2) (fun s H A cl fp => (hb kx s H A cl fp).1) (fun s H A cl fp => (hb vx s H A cl fp).1) hs⟩
          · exact bad
        · rw [if_neg q2]; exact bad
      · exact bad
    · rw [if_neg q1]; exact bad
  · exact bad
theorem dDt_ok {f : Cn → Expr → Ev} (hf : ∀ X C W, CtxOk X k C W → ∀ e, PE X e (tE k W (f C e)) ∧ PT X e (tT k W (tst (f C e)))) (c : CtxOk X k C W) (kx vx : Expr) (gs : List Comprehension) (scope : Scope) (p : Pos) :
    PE X (.DictComp kx vx gs scope p) (tE k W (dDt f C kx vx gs scope)) ∧ ∀ (y : Str) (py spos : Pos) (i : Nat), X.N[i]? = some y → X.env.scope.names.lookup y = some .local → swapsWith (.DictComp kx vx gs scope p) (some (.Name y py)) spos.line X.env = pure true →
      PS X (.Assign [.Name y py] (.DictComp kx vx gs scope p) spos) (tS k W (asgF (dDt f C kx vx gs scope) (asgT (.nm i)))) := by
  have he := fun e => (hf X C W c e).1
  have bad : PE X (.DictComp kx vx gs scope p) (tE k W badE) ∧ ∀ (y : Str) (py spos : Pos) (i : Nat), X.N[i]? = some y → X.env.scope.names.lookup y = some .local → swapsWith (.DictComp kx vx gs scope p) (some (.Name y py)) spos.line X.env = pure true →
      PS X (.Assign [.Name y py] (.DictComp kx vx gs scope p) spos) (tS k W (asgF badE (asgT (.nm i)))) := ⟨me_bad, fun _ _ _ _ _ _ _ => ⟨fun pins s σ H N I ⟨F, h, env, sr, p⟩ => p.elim⟩⟩
  unfold dDt
  split
  · rename_i tg it ifs
    by_cases q1 : blkC C.N C.sc scope (ownOf C.N scope.names) = true
    · rw [if_pos q1]
      split
      · rename_i t et
        by_cases q2 : (tgV t).all (fun i => ((ownOf C.N scope.names).map (·.2)).contains i) = true
        · rw [if_pos q2]
          have hv : ∀ i ∈ tgV t, i ∈ (ownOf C.N scope.names).map (·.2) := fun i hi => contains_mem (List.all_eq_true.mp q2 i hi)
          by_cases q3 : isSet it = true
          · have e3 : dI (f C) C tg it = badI := by unfold dI; rw [if_pos q3]
            have b2 : ∀ t c fk fv vs, PE X (.DictComp kx vx [⟨tg, it, ifs, 0⟩] scope p) (tE k W (dtE badI t c fk fv vs)) ∧ ∀ (y : Str) (py spos : Pos) (i : Nat), X.N[i]? = some y → X.env.scope.names.lookup y = some .local → swapsWith (.DictComp kx vx [⟨tg, it, ifs, 0⟩] scope p) (some (.Name y py)) spos.line X.env = pure true →
              PS X (.Assign [.Name y py] (.DictComp kx vx [⟨tg, it, ifs, 0⟩] scope p) spos) (tS k W (asgF (dtE badI t c fk fv vs) (asgT (.nm i)))) := fun t c fk fv vs => ⟨⟨fun pins s σ H Q I ⟨F, h, env, sr, p⟩ => p.elim⟩, fun _ _ _ _ _ _ _ => ⟨fun pins s σ H N I ⟨F, h, env, sr, p⟩ => p.elim⟩⟩
            split
            · rw [e3]; exact b2 _ _ _ _ _
            · rw [e3]; exact b2 _ _ _ _ _
            · exact bad
          have hs := fun v => set_folded (Bool.eq_false_iff.mpr q3) X.env v
          have bk : BlkOk X.N X.env.scope scope (ownOf C.N scope.names) := by rw [c.N, c.sc]; exact blkOk_by q1
          have hg := fun (s : Shared) (H : Hp) (A : Addr) (cl : List (Str × Addr)) (fp : List Addr) => dTw_ok (c.blk s H scope A cl fp) ((ownOf C.N scope.names).map (·.2)) t tg et hv
          have hb := fun (e : Expr) (s : Shared) (H : Hp) (A : Addr) (cl : List (Str × Addr)) (fp : List Addr) => hf _ _ _ (c.blk s H scope A cl fp) e
          split
          · exact ⟨me_dt (by have := c.un; omega) c.calm c.nd (dI_ok he c tg it) bk hg (fun _ _ _ _ _ => pts_nil) (fun s H A cl fp => (hb kx s H A cl fp).1) (fun s H A cl fp => (hb vx s H A cl fp).1) hs,
              fun y py spos i e1 e2 e3 => ms_setDt (by have := c.un; omega) c.calm c.nd e1 e2 e3 (dI_ok he c tg it) bk hg (fun _ _ _ _ _ => pts_nil) (fun s H A cl fp => (hb kx s H A cl fp).1) (fun s H A cl fp => (hb vx s H A cl fp).1) hs⟩
          · rename_i d
            exact ⟨me_dt (by have := c.un; omega) c.calm c.nd (dI_ok he c tg it) bk hg (fun s H A cl fp => pts_one (hb d s H A cl fp).2) (fun s H A cl fp => (hb kx s H A cl fp).1) (fun s H A cl fp => (hb vx s H A cl fp).1) hs,
              fun y py spos i e1 e2 e3 => ms_setDt (by have := c.un; omega) c.calm c.nd e1 e2 e3 (dI_ok he c tg it) bk hg (fun s H A cl fp => pts_one (hb d s H A cl fp).2) (fun s H A cl fp => (hb kx s H A cl fp).1) (fun s H A cl fp => (hb vx s H A cl fp).1) hs⟩
          · exact bad
        · rw [if_neg q2]; exact bad
      · exact bad
    · rw [if_neg q1]; exact bad
  · exact bad
/-- expressions: values and tests -/
theorem dE_ok : ∀ (n : Nat) (X : Cx) (k : Kx) (C : Cn) (W : WX), CtxOk X k C W → ∀ e : Expr, PE X e (tE k W (dE n C e)) ∧ PT X e (tT k W (tst (dE n C e)))
  | 0, X, k, C, W, c, e => ⟨me_bad, mt_bad⟩
  | n + 1, X, k, C, W, c, e => by
    have ih := fun C' X' W' (c' : CtxOk X' k C' W') => dE_ok n X' k C' W' c'
    have he := fun e => (ih C X W c e).1
    have ht := fun e => (ih C X W c e).2
    have val : ownT e = false → PE X e (tE k W (dE (n + 1) C e)) → PE X e (tE k W (dE (n + 1) C e)) ∧ PT X e (tT k W (tst (dE (n + 1) C e))) := fun o p => ⟨p, mt_any c.K p (true_plain o X.env)⟩
    have bad : dE (n + 1) C e = badE → PE X e (tE k W (dE (n + 1) C e)) ∧ PT X e (tT k W (tst (dE (n + 1) C e))) := fun q => by rw [q]; exact ⟨me_bad, mt_bad⟩
    cases e with
    | Name x p =>
      refine val rfl ?_
      unfold dE
      dsimp only
      by_cases q0 : x = dbg ∨ x = cdi
      · rw [if_pos q0]; exact me_bad
      rw [if_neg q0]
      have n1 : (x == ("__debug__" : Str)) = false := by simpa using fun z => q0 (.inl z)
      have n2 : (x == ("__classdict__" : Str)) = false := by simpa using fun z => q0 (.inr z)
      cases q : visB C.sc x with
      | true =>
        rw [if_pos rfl]
        cases e : slotOf C.N x with
        | none => exact me_bad
        | some i => exact me_var (by rw [c.N]; exact slotOf_ok e) (by rw [c.sc]; exact visB_ok q) n1 n2
      | false =>
        rw [if_neg (by decide)]
        cases q2 : glB C x with
        | false => rw [if_neg (by decide)]; exact me_bad
        | true =>
          rw [if_pos rfl]
          cases e : C.kst.lookup x with
          | none => exact me_bad
          | some d =>
            obtain ⟨j, _, g⟩ := c.g
            obtain ⟨u, v, hm, r, dv⟩ := g.kst x d e
            exact me_con (pe_glob (c.gl q2) hm r n1) dv
    | Constant cst a p =>
      refine val rfl ?_
      unfold dE
      dsimp only
      cases cst with
      | int i => exact me_con pe_int fun F H => DV.mkInt
      | bool b => exact me_con pe_bl fun F H => DV.mkBl
      | none => exact me_con pe_non fun F H => by unfold DV; rfl
      | str s =>
        dsimp only
        by_cases q : s.cps.toList.length ≤ lim
        · rw [if_pos q]
          exact me_con pe_str fun F H => by
            have := DV.mkStr (K := k.K) (F := F) (H := H) q
            rwa [show (⟨s.cps.toList.toArray⟩ : Str) = s from SX.S_tl s] at this
        · rw [if_neg q]; exact me_bad
      | _ => exact me_bad
    | BinOp a op b p =>
      refine val rfl ?_
      unfold dE
      exact me_bin (op_binD c.K op) (he a) (he b)
    | UnaryOp op a p =>
      cases op with
      | Not => exact ⟨me_not c.K (he a), mt_not (ht a)⟩
      | USub => exact val rfl (me_un un_negD (he a))
      | _ => exact bad rfl
    | BoolOp op vs p =>
      exact ⟨dBool_ok he c.K vs, (dBoolT_ok ht vs).pt⟩
    | IfExp t a b p =>
      exact ⟨me_if (ht t) (he a) (he b), mt_if (ht t) (ht a) (ht b)⟩
    | Compare a ops bs p => exact ⟨dCmp_ok he c ops bs, dCmpT_ok he c ops bs⟩
    | Tuple es a p => exact val rfl (me_tup (dAx_ok he c.K es))
    | List es p => exact val rfl (me_lst (dAx_ok he c.K es))
    | Dict ks vs pos => exact val rfl (dDict_ok he ks vs pos)
    | DictComp kx vx gs scope p =>
      refine val rfl ?_
      show PE X _ (tE k W (if C.tk.contains p.line = true then dDt (dE n) C kx vx gs scope else dDc (dE n) C kx vx gs scope))
      by_cases q : C.tk.contains p.line = true
      · rw [if_pos q]; exact (dDt_ok (fun X C W c e => dE_ok n X k C W c e) c kx vx gs scope p).1
      · rw [if_neg q]; exact (dDc_ok (fun X C W c e => dE_ok n X k C W c e) c kx vx gs scope p).1
    | Subscript a s p => exact val rfl (dSub_ok he c a s)
    | Call g args kws pos => exact val rfl (dCall_ok he c g args kws pos)
    | ListComp elt gs scope p => exact val rfl (dLc_ok (fun X C W c e => dE_ok n X k C W c e) c elt gs scope p).1
    | _ => exact bad rfl
end
/-! M13: the meaning of statements. -/
open PySem PySem.Spec PyProof.Rows L2

/-- a, b = x, y: the names whose stores are exchanged; none: not told -/
def swP (C : Cn) (ts vs : List Expr) : Option (Option (List Str)) :=
  if (!(ts.length == 2 || ts.length == 3) || vs.length != ts.length) = true then some none else
  if (vs.any fun | .Starred .. => true | _ => false) = true then some none else
  let line := (ts.head?.map (·.pos.line)).getD 0
  let names := ts.filterMap fun
    | .Name id pos => if (C.sc.names.lookup id == some .local && pos.line == line) = true then some id else none
    | _ => none
  if (names.length != ts.length || names.eraseDups.length != names.length) = true then some none else
  if vs.all (foldedForSure 8) = true then some none else
  if vs.all (constantsAlone 8) = true then none else some (some names)
def isTup : Expr → Bool
  | .Tuple .. => true
  | .List .. => true
  | _ => false
def isTup2 : Expr → Bool
  | .Tuple .. => true
  | _ => false
def swC (C : Cn) (y : Str) (py : Pos) (e : Expr) : Bool := match e with
  | .ListComp _ _ s p => C.sc.names.lookup y == some .local && py.line == p.line && !(s.names.any fun (n, k) => n == y && (k == .local || k == .cell))
  | .DictComp _ _ _ s p => C.sc.names.lookup y == some .local && py.line == p.line && !(s.names.any fun (n, k) => n == y && (k == .local || k == .cell))
  | _ => false
def dSet (f : Expr → Ev) (C : Cn) (tg e : Expr) : Sf := match dT C tg with
  | some t => asgF (f e) (asgT t)
  | none => match tg with
    | .Subscript o i _ => if isSlice i = true then badS else asgF (f e) (gS (f o) (f i))
    | _ => badS
def dPar (f : Expr → Ev) (C : Cn) (names : List Str) (ts vs : List Expr) : Sf := match ts, vs with
  | [.Name x _, .Name y _], [_, _] => match slotOf C.N x, slotOf C.N y with
    | some i, some j => if names = [x, y] ∧ i ≠ j ∧ C.sc.names.lookup x = some .local ∧ C.sc.names.lookup y = some .local then parF [i, j] (dAs f vs) else badS
    | _, _ => badS
  | [.Name x _, .Name y _, .Name z _], [_, _, _] => match slotOf C.N x, slotOf C.N y, slotOf C.N z with
    | some i, some j, some l => if names = [x, y, z] ∧ i ≠ j ∧ i ≠ l ∧ j ≠ l ∧ C.sc.names.lookup x = some .local ∧ C.sc.names.lookup y = some .local ∧ C.sc.names.lookup z = some .local then parF [i, j, l] (dAs f vs) else badS
    | _, _, _ => badS
  | _, _ => badS
def dAsg (f : Expr → Ev) (C : Cn) (tg e : Expr) : Sf := match tg, e with
  | .Tuple ts _ _, .Tuple vs _ _ => match swP C ts vs with
    | some (some names) => dPar f C names ts vs
    | some none => dSet f C tg e
    | none => badS
  | .List .., _ => badS
  | _, _ => dSet f C tg e
def dAug (f : Expr → Ev) (C : Cn) (tg : Expr) (op : Operator) (e : Expr) : Sf := match tg with
  | .Name x _ => if locB C x = true then match slotOf C.N x with
      | some i => augF i (f e) (iaugOp op)
      | none => badS
    else badS
  | .Subscript o i _ => if isSlice i = true then badS else augS (f o) (f i) (f e) op
  | _ => badS
def dSs (f : Stmt → Sf) : List Stmt → Sf
  | [] => nextF
  | [s] => f s
  | s :: t :: r => seqF (f s) (dSs f (t :: r))
noncomputable def dS : Nat → Cn → Stmt → Sf
  | 0, _, _ => badS
  | n + 1, C, st => match st with
    | .Pass _ => nextF
    | .Break _ => bkF
    | .Continue _ => ctF
    | .Return o _ => match o with
      | some e => retF (dE n C e)
      | none => retNF
    | .Expr e _ => match e with
      | .Constant (.str _) _ _ => nextF
      | e => if isComp e = true then badS else dropF (dE n C e)
    | .If c a b _ => ifF (dE n C c) (dSs (dS n C) a) (dSs (dS n C) b)
    | .For tg it body els _ => match dT C tg with
      | some t => forF (dI (dE n C) C tg it) t (dSs (dS n C) body) (dSs (dS n C) els)
      | none => badS
    | .While c body els _ => whF (dE n C c) (dSs (dS n C) body) (dSs (dS n C) els)
    | .Assign ts e _ => match ts with
      | [tg] => dAsg (dE n C) C tg e
      | _ => badS
    | .AugAssign tg op e _ => dAug (dE n C) C tg op e
    | _ => badS
/-- a statement's world -/
structure StOk (X : Cx) (k : Kx) (C : Cn) (W : WX) : Prop extends CtxOk X k C W where
  pass : PassesOwn (model X.prog X.w) X.A X.env X.xe
  fnk : C.sc.kind = .function
section
variable {X : Cx} {k : Kx} {C : Cn} {W : WX}
theorem StOk.bk (c : StOk X k C W) : X.env.blockKind = .function := by
  unfold Env.blockKind
  rw [c.sc, c.fnk]
  rfl
theorem kind_eq (c : StOk X k C W) (x : Str) : X.env.kindOf x = C.sc.names.lookup x := by
  show X.env.scope.names.lookup x = _
  rw [c.sc]
theorem swP_ok (c : StOk X k C W) {ts vs : List Expr} {r : Option (List Str)} {a1 a2 : Nat} {p1 p2 : Pos} (h : swP C ts vs = some r) : swappedStores [.Tuple ts a1 p1] (.Tuple vs a2 p2) X.env = pure r := by
  have hk : (X.env.blockKind != .function) = false := by rw [c.bk]; rfl
  unfold swappedStores
  simp only [hk, kind_eq c, Bool.or_false]
  unfold swP at h
  by_cases q1 : (!(ts.length == 2 || ts.length == 3) || vs.length != ts.length) = true
  · rw [if_pos q1] at h; cases h
    rw [if_pos q1]
  rw [if_neg q1] at h
  rw [if_neg q1]
  by_cases q2 : (vs.any fun | .Starred .. => true | _ => false) = true
  · rw [if_pos q2] at h; cases h
    exact if_pos q2
  rw [if_neg q2] at h
  refine (if_neg q2).trans ?_
  dsimp only at h
  generalize (ts.filterMap fun
    | .Name id pos => if (C.sc.names.lookup id == some .local && pos.line == (ts.head?.map (·.pos.line)).getD 0) = true then some id else none
    | _ => none) = names at h ⊢
  by_cases q3 : (names.length != ts.length || names.eraseDups.length != names.length) = true
  · rw [if_pos q3] at h; cases h
    exact if_pos q3
  rw [if_neg q3] at h
  refine (if_neg q3).trans ?_
  by_cases q4 : vs.all (foldedForSure 8) = true
  · rw [if_pos q4] at h; cases h
    exact if_pos q4
  rw [if_neg q4] at h
  refine (if_neg q4).trans ?_
  by_cases q5 : vs.all (constantsAlone 8) = true
  · rw [if_pos q5] at h; cases h
  rw [if_neg q5] at h; cases h
  exact if_neg q5
theorem sw_none {tg e : Expr} (env : PySem.Env) (h : isTup tg = false ∨ isTup2 e = false) : swappedStores [tg] e env = pure none := by
  unfold swappedStores
  cases tg <;> first | rfl | (cases e <;> first | rfl | (rcases h with h | h <;> cases h))
theorem swS (c : StOk X k C W) {tg e : Expr} {l : Nat} (h : isComp e = false) : swapsWithSole [tg] e l X.env = pure false := by
  cases e <;> first | rfl | cases h
theorem asg_one {tg : Expr} {t : Tg} (h : dT C tg = some t) (env : PySem.Env) : (assignEach [tg] env).map (·.2) = [assign tg env] := by
  rw [dT_star h]; rfl
section
variable {n : Nat}
theorem dSet_ok (c : StOk X k C W) (tg e : Expr) (pos : Pos) (hw : swappedStores [tg] e X.env = pure none) : PS X (.Assign [tg] e pos) (tS k W (dSet (dE n C) C tg e)) := by
  have ce := c.toCtxOk
  have he := fun e => (dE_ok n X k C W ce e).1
  unfold dSet
  cases et : dT C tg with
  | some t =>
    dsimp only
    have gen : swapsWithSole [tg] e pos.line X.env = pure false → PS X (.Assign [tg] e pos) (tS k W (asgF (dE n C e) (asgT t))) := fun hs => ms_asg (he e) (dT_ok ce t tg et) hs hw (asg_one et X.env)
    cases q : isComp e with
    | false => exact gen (swS c q)
    | true =>
      cases e with
      | ListComp elt gs scope p =>
        cases t with
        | tp ts =>
          obtain ⟨es, a, p2, rfl, _⟩ := dT_tp et
          exact gen rfl
        | nm i =>
          obtain ⟨y, py, rfl, ly, sy⟩ := dT_nm et
          cases q : swC C y py (.ListComp elt gs scope p) with
          | true =>
            unfold swC at q
            dsimp only at q
            simp only [Bool.and_eq_true, Bool.not_eq_true', beq_iff_eq] at q
            obtain ⟨⟨q1, q2⟩, q3⟩ := q
            have q1' : X.env.scope.names.lookup y = some .local := by rw [c.sc]; exact q1
            cases n with
            | zero => exact ⟨fun pins s σ H N I ⟨F, h, env, sr, p⟩ => p.elim⟩
            | succ n =>
              refine (dLc_ok (fun X C W c e => dE_ok n X k C W c e) ce elt gs scope p).2 y py pos i (by rw [c.N]; exact slotOf_ok sy) q1' ?_
              exact sw_true (by rw [c.sc]; exact c.fnk) q1' (by rw [beq_iff_eq]; exact q2) q3
          | false =>
            refine gen ?_
            show swapsWith (.ListComp elt gs scope p) (some (.Name y py)) pos.line X.env = pure false
            unfold swapsWith
            unfold swC at q
            dsimp only at q
            simp only [c.bk, kind_eq c, Expr.pos]
            have q' : (ScopeKind.function == ScopeKind.function && C.sc.names.lookup y == some NameKind.local && py.line == p.line && !scope.names.any fun x => x.fst == y && (x.snd == NameKind.local || x.snd == NameKind.cell)) = false := by
              rw [← q]; rfl
            exact congrArg pure q'
      | DictComp kx vx gs scope p =>
        cases t with
        | tp ts =>
          obtain ⟨es, a, p2, rfl, _⟩ := dT_tp et
          exact gen rfl
        | nm i =>
          obtain ⟨y, py, rfl, ly, sy⟩ := dT_nm et
          cases q : swC C y py (.DictComp kx vx gs scope p) with
          | true =>
            unfold swC at q
            dsimp only at q
            simp only [Bool.and_eq_true, Bool.not_eq_true', beq_iff_eq] at q
            obtain ⟨⟨q1, q2⟩, q3⟩ := q
            have q1' : X.env.scope.names.lookup y = some .local := by rw [c.sc]; exact q1
            cases n with
            | zero => exact ⟨fun pins s σ H N I ⟨F, h, env, sr, p⟩ => p.elim⟩
            | succ n =>
              have sw := sw_trueD (kx := kx) (vx := vx) (gs := gs) (scope := scope) (pos := p) (py := py) (l := pos.line) (env := X.env) (by rw [c.sc]; exact c.fnk) q1' (by rw [beq_iff_eq]; exact q2) q3
              show PS X _ (tS k W (asgF (if C.tk.contains p.line = true then dDt (dE n) C kx vx gs scope else dDc (dE n) C kx vx gs scope) (asgT (.nm i))))
              by_cases qt : C.tk.contains p.line = true
              · rw [if_pos qt]; exact (dDt_ok (fun X C W c e => dE_ok n X k C W c e) ce kx vx gs scope p).2 y py pos i (by rw [c.N]; exact slotOf_ok sy) q1' sw
              · rw [if_neg qt]; exact (dDc_ok (fun X C W c e => dE_ok n X k C W c e) ce kx vx gs scope p).2 y py pos i (by rw [c.N]; exact slotOf_ok sy) q1' sw
          | false =>
            refine gen ?_
            show swapsWith (.DictComp kx vx gs scope p) (some (.Name y py)) pos.line X.env = pure false
            unfold swapsWith
            unfold swC at q
            dsimp only at q
            simp only [c.bk, kind_eq c, Expr.pos]
            have q' : (ScopeKind.function == ScopeKind.function && C.sc.names.lookup y == some NameKind.local && py.line == p.line && !scope.names.any fun x => x.fst == y && (x.snd == NameKind.local || x.snd == NameKind.cell)) = false := by
              rw [← q]; rfl
            exact congrArg pure q'
      | SetComp => exact ⟨fun pins s σ H N I ⟨F, h, env, sr, p⟩ => by cases n <;> exact p.elim⟩
      | _ => cases q
  | none =>
    dsimp only
    split
    · rename_i o i p
      by_cases q : isSlice i = true
      · rw [if_pos q]; exact ms_bad
      rw [if_neg q]
      have q := Bool.eq_false_iff.mpr q
      have gen : swapsWithSole [.Subscript o i p] e pos.line X.env = pure false → PS X (.Assign [.Subscript o i p] e pos) (tS k W (asgF (dE n C e) (gS (dE n C o) (dE n C i)))) := fun hs =>
        ms_asg (he e) (mg_sub (by have := c.un; omega) (he o) (he i) (fun v => by cases i <;> first | rfl | cases q)) hs hw rfl
      cases q2 : isComp e with
      | false => exact gen (swS c q2)
      | true =>
        cases e with
        | ListComp elt gs scope p => exact gen rfl
        | SetComp => exact ⟨fun pins s σ H N I ⟨F, h, env, sr, p⟩ => by cases n <;> exact p.elim⟩
        | DictComp kx vx gs scope p => exact gen rfl
        | _ => cases q2
    · exact ms_bad
theorem dPar_ok (c : StOk X k C W) (ts vs : List Expr) {names : List Str} {a1 a2 : Nat} {p1 p2 pos : Pos} (h : swP C ts vs = some (some names)) : PS X (.Assign [.Tuple ts a1 p1] (.Tuple vs a2 p2) pos) (tS k W (dPar (dE n C) C names ts vs)) := by
  have ce := c.toCtxOk
  have he := fun e => (dE_ok n X k C W ce e).1
  have hw := swP_ok c (a1 := a1) (a2 := a2) (p1 := p1) (p2 := p2) h
  unfold dPar
  split
  · rename_i x px y py a b
    split
    · rename_i i j e1 e2
      split
      · rename_i q
        obtain ⟨rfl, q1, q2, q3⟩ := q
        exact ms_par c.calm c.nd (by rw [c.N]; exact slotOf_ok e1) (by rw [c.N]; exact slotOf_ok e2) q1 (by rw [c.sc]; exact q2) (by rw [c.sc]; exact q3) (dAs_ok he _) hw rfl
      · exact ms_bad
    · exact ms_bad
  · rename_i x px y py z pz a b d
    split
    · rename_i i j l e1 e2 e3
      split
      · rename_i q
        obtain ⟨rfl, q1, q2, q3, q4, q5, q6⟩ := q
        exact ms_par3 c.calm c.nd (by rw [c.N]; exact slotOf_ok e1) (by rw [c.N]; exact slotOf_ok e2) (by rw [c.N]; exact slotOf_ok e3) q1 q2 q3 (by rw [c.sc]; exact q4) (by rw [c.sc]; exact q5) (by rw [c.sc]; exact q6) (dAs_ok he _) hw rfl
      · exact ms_bad
    · exact ms_bad
  · exact ms_bad
theorem dAsg_ok (c : StOk X k C W) (tg e : Expr) (pos : Pos) : PS X (.Assign [tg] e pos) (tS k W (dAsg (dE n C) C tg e)) := by
  unfold dAsg
  split
  · rename_i ts a1 p1 vs a2 p2
    split
    · rename_i names h
      exact dPar_ok c ts vs h
    · rename_i h
      exact dSet_ok c _ _ pos (swP_ok c h)
    · exact ms_bad
  · exact ms_bad
  · rename_i h1 h2
    refine dSet_ok c tg e pos (sw_none X.env ?_)
    cases tg with
    | List => exact (h1 _ _ rfl).elim
    | Tuple ts a p =>
      right
      cases e with
      | Tuple => exact (h2 _ _ _ _ _ _ rfl rfl).elim
      | _ => rfl
    | _ => exact .inl rfl
theorem dAug_ok (c : StOk X k C W) (tg : Expr) (op : Operator) (e : Expr) (pos : Pos) : PS X (.AugAssign tg op e pos) (tS k W (dAug (dE n C) C tg op e)) := by
  have ce := c.toCtxOk
  have he := fun e => (dE_ok n X k C W ce e).1
  unfold dAug
  split
  · rename_i x p
    by_cases q : locB C x = true
    · rw [if_pos q]
      split
      · rename_i i e1
        exact ms_aug c.K c.nd (by rw [c.N]; exact slotOf_ok e1) (ce.loc q).1 (he e) (ce.loc q).2
      · exact ms_bad
    · rw [if_neg q]; exact ms_bad
  · rename_i o i p
    by_cases q : isSlice i = true
    · rw [if_pos q]; exact ms_bad
    rw [if_neg q]
    have q := Bool.eq_false_iff.mpr q
    exact ms_augS c.K (by have := c.un; omega) (he o) (he i) (he e) (fun ov iv new => by cases i <;> first | rfl | cases q)
  · exact ms_bad
theorem dSs_ok {f : Stmt → Sf} (hf : ∀ st, PS X st (tS k W (f st))) : ∀ l : List Stmt, PSs X l (tS k W (dSs f l))
  | [] => ms_nil
  | [s] => ms_one (hf s)
  | s :: t :: r => ms_cons (hf s) (dSs_ok hf (t :: r))
theorem dS_ok (c : StOk X k C W) : ∀ (n : Nat) (st : Stmt), PS X st (tS k W (dS n C st))
  | 0, st => ms_bad
  | n + 1, st => by
    have ce := c.toCtxOk
    have he := fun e => (dE_ok n X k C W ce e).1
    have ht := fun e => (dE_ok n X k C W ce e).2
    have ih := dSs_ok (dS_ok c n)
    cases st with
    | Pass p => exact ms_pass
    | Break p => exact ms_break
    | Continue p => exact ms_continue
    | Return o p =>
      cases o with
      | none => exact ms_retN
      | some e => exact ms_ret (he e)
    | Expr e p =>
      show PS X _ (tS k W (match e with | .Constant (.str _) _ _ => nextF | e => if isComp e = true then badS else dropF (dE n C e)))
      split
      · exact PS.imp ps_doc fun N σ H ⟨F, h, env, sr, p⟩ => p F H σ .refl sr.rel sr.er
      · by_cases q : isComp e = true
        · rw [if_pos q]; exact ms_bad
        · rw [if_neg q]
          exact ms_expr (he e) (by cases e <;> first | rfl | exact absurd rfl q)
    | If t a b p => exact ms_if (ht t) (ih a) (ih b)
    | For tg it body els p =>
      show PS X _ (tS k W (match dT C tg with | some t => forF (dI (dE n C) C tg it) t (dSs (dS n C) body) (dSs (dS n C) els) | none => badS))
      split
      · rename_i t et
        by_cases q3 : isSet it = true
        · have e3 : dI (dE n C) C tg it = badI := by unfold dI; rw [if_pos q3]
          rw [e3]; exact ⟨fun pins s σ H N I ⟨F, h, env, sr, p⟩ => p.elim⟩
        exact ms_for (W0 := W) c.pass c.calm (dI_ok he ce tg it) (dT_ok ce t tg et) (ih body) (ih els) (fun v => set_folded (Bool.eq_false_iff.mpr q3) X.env v)
      · exact ms_bad
    | While t body els p => exact ms_while c.pass (ht t) (ih body) (ih els)
    | Assign ts e p =>
      show PS X _ (tS k W (match ts with | [tg] => dAsg (dE n C) C tg e | _ => badS))
      split
      · exact dAsg_ok c _ e p
      · exact ms_bad
    | AugAssign tg op e p => exact dAug_ok c tg op e p
    | _ => exact ms_bad
end
end
/-! M14: a def keeps its promise. -/
open PySem PySem.Spec PyProof.Rows L2
def runF : Fl → Res D
  | .nx _ h => .ok .non h
  | .rt d h => .ok d h
  | .exc e _ h => .exc e h
  | _ => .bad
@[simp] theorem runF_nx (env : Env) (h : Hs) : runF (.nx env h) = .ok .non h := rfl
@[simp] theorem runF_rt (d : D) (h : Hs) : runF (.rt d h) = .ok d h := rfl
@[simp] theorem runF_exc (e : Ex) (env : Env) (h : Hs) : runF (.exc e env h) = .exc e h := rfl
@[simp] theorem runF_bad : runF .bad = .bad := rfl
def callF (m : Nat) (s : Sf) (ds : List D) (h : Hs) : Res D := runF (s (ds.map some ++ List.replicate (m - ds.length) none) h)
theorem ER.begin {k : Kx} {F : List Addr} {H : Hp} {ds : List D} {vs : List V} (N : List Str) (d : DVs k.K F H ds vs) : ER k F H (L2.start N vs) (ds.map some ++ List.replicate (N.length - ds.length) none) := by
  have hl := d.len
  refine ⟨by unfold L2.start; simp [hl], fun i x e => ?_⟩
  by_cases hi : i < ds.length
  · rw [List.getElem?_append_left (by simpa using hi), List.getElem?_map] at e
    obtain ⟨y, ey, e⟩ := Option.map_eq_some_iff.mp e
    cases e
    obtain ⟨v, ev, dv⟩ := d.get ey
    refine ⟨v, ?_, dv⟩
    unfold L2.start
    rw [List.getElem?_append_left (by rw [List.length_map, ← hl]; exact hi), List.getElem?_map, ev]
    rfl
  · rw [List.getElem?_append_right (by simpa using hi), List.getElem?_replicate] at e
    split at e <;> cases e
section
variable {P : Program} {w : World} {K : PySem.W.Frag} {mg : Str → Option Value} {base : Heap} {k : Kx} {f : Addr} {fd : FuncData} {x qual : Str} {params : Arguments} {body : List Stmt} {scope : Scope} {dvs : List V} {kws : List (Str × V)} {j : Nat}
theorem fn_sound {C : Cn} {ps : List Str} {g : Fn} {sf : Sf} (F : FunD K x qual params body scope dvs kws f fd) (S : FnScope C.N ps scope) (hK : K = k.K) (hsc : C.sc = scope) (G : GOk P w K mg base k j C.fns C.kst C.bl) (fuel : Nat) (hs : dSs (dS fuel C) body = sf) (hn : g.n = ps.length)
    (gc : ∀ ds h, clos h.length ds → ds.length = g.n → Gc h (callF C.N.length sf ds h) (g.go ds h)) : FnOk P w K mg base (L2N.CX P w) (j + 1) f fd ps (spOf k g) := by
  refine F.ok S (fun vs H Q E q => q.1.trans hn) fun cdv A outer s H vs Q E hr q => ?_
  obtain ⟨hv, F0, h, ds, rl, dv, xd, p⟩ := q
  let X := cxOf (L2N.CX P w) P w K mg base C.N qual scope f cdv A outer s H E
  have ctx : StOk X k C (fun cls d _ H => E cls d H) := {
    K := hK
    un := by have := hr.un; show (A.deeper (envOfC qual scope s.heap.objs.size f cdv)).units + 64 < cLine; omega
    calm := rfl
    nd := S.nd
    N := rfl
    sc := hsc.symm
    st := fun _ _ => rfl
    tk := L2N.takes_of rfl rfl rfl rfl
    g := ⟨j, hr, G⟩
    pass := passes_of rfl
    fnk := by rw [hsc]; exact S.kind }
  refine ⟨tS k (fun cls d _ H => E cls d H) sf, by rw [← hs]; exact dSs_ok (dS_ok ctx fuel) body, F0, h, _, ⟨rl, ER.begin C.N dv, xd⟩, ?_⟩
  have cl := DVs.clo ds vs dv
  rw [rl.len] at cl
  have p2 := (gc ds h cl (by rw [dv.len]; exact hv)).post rl p
  unfold callF at p2
  cases e : sf (ds.map some ++ List.replicate (C.N.length - ds.length) none) h with
  | nx env' h' => rw [e] at p2; exact fun F' H' σ' s r er => p2 F' H' s r .non (by unfold DV; rfl)
  | rt d h' => rw [e] at p2; exact fun F' H' v s r dv => p2 F' H' s r v dv
  | exc y env' h' => rw [e] at p2; exact fun F' H' σ' cls dx s r er xr => p2 F' H' cls dx s r xr
  | bk env' h' => rw [e] at p2; exact p2.elim
  | ct env' h' => rw [e] at p2; exact p2.elim
  | bad => rw [e] at p2; exact p2.elim
theorem GOk.mono {i : Nat} {fns : List (Str × Fn)} {kst : List (Str × D)} {bl : List Str} (g : GOk P w K mg base k j fns kst bl) (h : j ≤ i) : GOk P w K mg base k i fns kst bl :=
  ⟨fun x f e => let ⟨ad, fd, ps, F, r⟩ := g.fns x f e; ⟨ad, fd, ps, F.mono h, r⟩, g.kst, g.bl⟩
theorem GOk.nil : GOk P w K mg base k j [] [] [] := ⟨fun _ _ e => (nomatch e), fun _ _ e => (nomatch e), fun _ e => Bool.noConfusion e⟩
theorem GOk.fn {fns : List (Str × Fn)} {kst : List (Str × D)} {bl : List Str} {ps : List Str} {y : Str} {g : Fn} (G : GOk P w K mg base k j fns kst bl) (F : FnOk P w K mg base (L2N.CX P w) j f fd ps (spOf k g)) (hm : mg y = some (.ref f)) (hk : PySem.W.keepIn K (.ref f) = true) (hb : Binds K fd ps []) :
    GOk P w K mg base k j ((y, g) :: fns) kst bl := by
  refine ⟨fun z u e => ?_, G.kst, G.bl⟩
  rw [List.lookup_cons] at e
  by_cases q : z = y
  · subst q
    rw [show (z == z) = true from beq_self_eq_true z] at e
    cases e
    exact ⟨f, fd, ps, F, hm, hk, hb⟩
  · rw [show (z == y) = false from by simpa using q] at e
    exact G.fns z u e
theorem GOk.cs {fns : List (Str × Fn)} {kst : List (Str × D)} {bl : List Str} {y : Str} {d : D} {u : Value} {v : V} (G : GOk P w K mg base k j fns kst bl) (hm : mg y = some u) (r : RelV v u) (dv : ∀ F H, DV k.K F H d v) :
    GOk P w K mg base k j fns ((y, d) :: kst) bl := by
  refine ⟨G.fns, fun z u' e => ?_, G.bl⟩
  rw [List.lookup_cons] at e
  by_cases q : z = y
  · subst q
    rw [show (z == z) = true from beq_self_eq_true z] at e
    cases e
    exact ⟨u, v, hm, r, dv⟩
  · rw [show (z == y) = false from by simpa using q] at e
    exact G.kst z u' e
theorem GOk.fr {fns : List (Str × Fn)} {kst : List (Str × D)} {bl : List Str} (G : GOk P w K mg base k j fns kst []) (h : ∀ x ∈ bl, mg x = none) : GOk P w K mg base k j fns kst bl :=
  ⟨G.fns, G.kst, fun x e => h x (by simpa using e)⟩
end
/-! M15: a text's defs, one by one, and the end. -/
open PySem PySem.Spec PyProof.Rows L2
/-- a def by its own meaning -/
noncomputable def defn (n m : Nat) (s : Sf) : Fn := ⟨n, callF m s⟩
noncomputable def badFn (n : Nat) : Fn := ⟨n, fun _ _ => .bad⟩
/-- a def that calls itself, so many deep -/
noncomputable def recn (n m : Nat) (s : Fn → Sf) : Nat → Fn
  | 0 => badFn n
  | d + 1 => defn n m (s (recn n m s d))
@[simp] theorem defn_n (n m : Nat) (s : Sf) : (defn n m s).n = n := rfl
@[simp] theorem recn_n (n m : Nat) (s : Fn → Sf) (d : Nat) : (recn n m s d).n = n := by cases d <;> rfl
section
variable (P : Program) (w : World) (K : PySem.W.Frag) (mg : Str → Option Value) (base : Heap) (k : Kx)
def DefOk (j : Nat) (x : Str) (g : Fn) : Prop := ∃ ad fd ps, FnOk P w K mg base (L2N.CX P w) j ad fd ps (spOf k g) ∧ mg x = some (.ref ad) ∧ PySem.W.keepIn K (.ref ad) = true ∧ Binds K fd ps []
/-- what the top has left -/
structure Wd (fa : List He.Fa) (fn : List He.DefD) : Prop where
  d : ∀ (i : Nat) (d : He.DefD), fn[i]? = some d → ∃ fd, FunD K d.name d.qual d.params d.body d.scope (d.dvs K) (d.kws K) (He.fAd K d.at_) fd
  glo : ∀ (i : Nat) (x : Str), fa[i]? = some (.glo x) → mg x = some (.ref (He.ga K x))
  free : ∀ (i : Nat) (x : Str), fa[i]? = some (.free x) → mg x = none
  int : ∀ (i : Nat) (x : Str) (v : Int), fa[i]? = some (.int x v) → ∃ t, mg x = some (.int v t)
  str : ∀ (i : Nat) (x z : Str), fa[i]? = some (.str x z) → ∃ t, mg x = some (.str z t)
end
section
variable {P : Program} {w : World} {K : PySem.W.Frag} {mg : Str → Option Value} {base : Heap} {k : Kx} {j : Nat}
theorem DefOk.mono {i : Nat} {x : Str} {g : Fn} (h : DefOk P w K mg base k j x g) (l : j ≤ i) : DefOk P w K mg base k i x g :=
  let ⟨ad, fd, ps, F, r⟩ := h
  ⟨ad, fd, ps, F.mono l, r⟩
theorem GOk.df {fns : List (Str × Fn)} {kst : List (Str × D)} {bl : List Str} {y : Str} {g : Fn} (G : GOk P w K mg base k j fns kst bl) (D : DefOk P w K mg base k j y g) : GOk P w K mg base k j ((y, g) :: fns) kst bl :=
  let ⟨_, _, _, F, hm, hk, hb⟩ := D
  G.fn F hm hk hb
theorem GOk.ci {fns : List (Str × Fn)} {kst : List (Str × D)} {bl : List Str} {y : Str} {i : Int} (G : GOk P w K mg base k j fns kst bl) (h : ∃ t, mg y = some (.int i t)) : GOk P w K mg base k j fns ((y, .int i) :: kst) bl :=
  let ⟨t, e⟩ := h
  G.cs e (v := .int i) ⟨t, rfl⟩ fun _ _ => DV.mkInt
theorem GOk.ct {fns : List (Str × Fn)} {kst : List (Str × D)} {bl : List Str} {y z : Str} (G : GOk P w K mg base k j fns kst bl) (h : ∃ t, mg y = some (.str z t)) (hl : z.cps.toList.length ≤ lim) : GOk P w K mg base k j fns ((y, .str z.cps.toList) :: kst) bl :=
  let ⟨t, e⟩ := h
  G.cs e (v := .str z) ⟨t, rfl⟩ fun _ _ => by
    have q : z = (⟨z.cps.toList.toArray⟩ : Str) := rfl
    have := DV.mkStr (K := k.K) (F := ‹List Addr›) (H := ‹Hp›) hl
    rw [← q] at this
    exact this
variable {f : Addr} {fd : FuncData} {x qual : Str} {params : Arguments} {body : List Stmt} {scope : Scope}
theorem def_ok {C : Cn} {ps : List Str} {m : Nat} {sf : Sf} (F : FunD K x qual params body scope [] [] f fd) (hm : mg x = some (.ref f)) (S : FnScope C.N ps scope) (hK : K = k.K) (hsc : C.sc = scope) (G : GOk P w K mg base k j C.fns C.kst C.bl) (hs : dSs (dS 60 C) body = sf)
    (hN : C.N.length = m) (hb : ∀ (kV doc pm : Value) (an : Option Addr) (cdv ct : Value) (us : List Value), us.length = ps.length → bindArgs (PySem.W.fnOf x qual params body scope .none kV doc pm an cdv ct) ⟨us, []⟩ = pure (ps.zip us)) : DefOk P w K mg base k (j + 1) x (defn ps.length m sf) := by
  subst hN
  exact ⟨f, fd, ps, fn_sound F S hK hsc G 60 hs rfl fun _ _ _ _ => .keep _, hm, F.kp, F.bindsN hb⟩
theorem def_bad {N ps : List Str} (F : FunD K x qual params body scope [] [] f fd) (hm : mg x = some (.ref f)) (S : FnScope N ps scope)
    (hb : ∀ (kV doc pm : Value) (an : Option Addr) (cdv ct : Value) (us : List Value), us.length = ps.length → bindArgs (PySem.W.fnOf x qual params body scope .none kV doc pm an cdv ct) ⟨us, []⟩ = pure (ps.zip us)) : DefOk P w K mg base k (j + 1) x (badFn ps.length) :=
  ⟨f, fd, ps, F.ok S (fun vs H Q E q => q.1) fun cdv A outer s H vs Q E hr q => let ⟨_, _, _, _, _, _, _, p⟩ := q; p.elim, hm, F.kp, F.bindsN hb⟩
/-- a def that calls itself -/
theorem def_rec {C : Fn → Cn} {ps N : List Str} {m : Nat} {sf : Fn → Sf} (F : FunD K x qual params body scope [] [] f fd) (hm : mg x = some (.ref f)) (S : FnScope N ps scope) (hK : K = k.K) (hsc : ∀ g, (C g).sc = scope)
    (G : ∀ (g : Fn) (i : Nat), j ≤ i → DefOk P w K mg base k i x g → GOk P w K mg base k i (C g).fns (C g).kst (C g).bl) (hs : ∀ g, dSs (dS 60 (C g)) body = sf g)
    (hN : ∀ g, (C g).N = N) (hl : N.length = m) (hb : ∀ (kV doc pm : Value) (an : Option Addr) (cdv ct : Value) (us : List Value), us.length = ps.length → bindArgs (PySem.W.fnOf x qual params body scope .none kV doc pm an cdv ct) ⟨us, []⟩ = pure (ps.zip us)) :
    ∀ d : Nat, DefOk P w K mg base k (j + d + 1) x (recn ps.length m sf d)
  | 0 => def_bad F hm S hb
  | d + 1 => by
    have ih := def_rec F hm S hK hsc G hs hN hl hb d
    have g0 := G _ (j + d + 1) (by omega) ih
    exact def_ok F hm (by rw [hN]; exact S) hK (hsc _) g0 (hs _) (by rw [hN]; exact hl) hb
theorem Wd.of {fa : List He.Fa} {fn : List He.DefD} {h : Heap} (X : K.In h) (G : h.Ns mainGlobals mg) (c : He.SaysD fa fn K) : Wd K mg fa fn :=
  ⟨fun i d e => c.def_ i e, fun i x e => He.glo_ok X G (c.fact i e), fun i x e => He.free_ok X G (c.fact i e), fun i x v e => He.int_ok X G (c.fact i e), fun i x z e => He.str_ok X G (c.fact i e)⟩
/-- the law's call: a script that is read only -/
theorem law_sp {g : Fn} {ns : List Int} {a : Addr} {H : Hp} (hn : g.n = 1) (ho : Only H) (hS : SqL k.K H a (ns.map V.int)) (hx : k.xd = none) (hl : ∃ h', g.go [.ls (ns.map .int)] [] = .ok (.bl true) h') : spOf k g [.ref a] H (fun v _ => v = .bl true) fun _ _ _ => False := by
  obtain ⟨h', e⟩ := hl
  have hR : SqR k.K H a (ns.map V.int) := by
    rcases hS with (hS | hS) | hS
    · rcases ho a with z | ⟨o, xs, z⟩
      · rw [hS] at z; cases z
      · rw [hS] at z; cases z
    · exact .inl hS
    · exact .inr hS
  have hd : ∀ l : List Int, DVs k.K [] H (l.map D.int) (l.map V.int) := fun l => by
    induction l with
    | nil => exact DVs.nil
    | cons i l ih => exact DVs.cons DV.mkInt ih
  refine ⟨hn.symm, [], [], [.ls (ns.map .int)], ⟨rfl, List.nodup_nil, fun i c a e _ => by simp at e⟩, ?_, ?_, ?_⟩
  · refine DVs.cons ?_ DVs.nil
    unfold DV
    exact ⟨a, _, rfl, hR, hd ns⟩
  · unfold XD; rw [hx]; trivial
  · rw [e]
    intro F' H' st r v dv
    unfold DV at dv
    exact dv
theorem FnOk.nox {j : Nat} {fd : FuncData} {ps : List Str} {sp : Sp} (F : FnOk P w K mg base (L2N.CX P w) j f fd ps sp) : FnOk P w K mg base CX0 j f fd ps (fun vs H Q _ => sp vs H Q fun _ _ _ => False) :=
  ⟨fun vs H Q E q => F.len vs H Q _ q, fun A outer s H args us vs Q E hr he hb hv hs => codeAny_mono (F.run A outer s H args us vs Q (fun _ _ _ => False) hr he hb hv hs) fun r s' c => by
    cases r with
    | ok fl => cases fl <;> exact c
    | error e => exact c.elim fun _ c => c.elim fun _ c => c.elim fun _ c => c.elim fun _ c => c.elim fun _ c => c.2.2.2.2.2.2.2⟩
/-- one builtin more -/
theorem GOk.f1 {fns : List (Str × Fn)} {kst : List (Str × D)} {bl : List Str} {y : Str} (G : GOk P w K mg base k j fns kst bl) (h : mg y = none) : GOk P w K mg base k j fns kst (y :: bl) :=
  ⟨G.fns, G.kst, fun x hx => by
    rw [List.contains_cons] at hx
    rcases Bool.or_eq_true_iff.mp hx with q | q
    · rw [eq_of_beq q]; exact h
    · exact G.bl x q⟩
theorem defOk_law {g : Fn} {x y : Str} (D : DefOk P w K mg base ⟨K, mg, none⟩ j x g) (hm : mg x = some (.ref f)) (hn : g.n = 1) (hl : ∀ ns : List Int, ns.length ≤ 63 → ∃ h', g.go [.ls (ns.map .int)] [] = .ok (.bl true) h') {fd : FuncData} (F : FunD K x qual params body scope [] [] f fd)
    (hb : ∀ (kV doc pm : Value) (an : Option Addr) (cdv ct : Value) (us : List Value), us.length = [y].length → bindArgs (PySem.W.fnOf x qual params body scope .none kV doc pm an cdv ct) ⟨us, []⟩ = pure ([y].zip us)) : True := trivial
end
/-! M16: what is wanted of a meaning, from behind to the front. -/
open PySem PySem.Spec PyProof.Rows L2
/-- a mark: what stands behind is not looked into -/
class KU : Type where
instance : KU := ⟨⟩
abbrev Kp {α : Sort u} {β : Sort v} (Q : α) (E : β) : Type := KU
def Res.wp {α : Type} (r : Res α) (Q : α → Hs → Prop) (E : Ex → Hs → Prop) [Kp Q E] : Prop := match r with
  | .ok a h => Q a h
  | .exc e h => E e h
  | .bad => False
structure Po where
  nx : Env → Hs → Prop
  bk : Env → Hs → Prop
  ct : Env → Hs → Prop
  rt : D → Hs → Prop
  ex : Ex → Env → Hs → Prop
def Fl.wp (f : Fl) (N : Po) [Kp N N] : Prop := match f with
  | .nx env h => N.nx env h
  | .bk env h => N.bk env h
  | .ct env h => N.ct env h
  | .rt d h => N.rt d h
  | .exc e env h => N.ex e env h
  | .bad => False
def wif (b : Bool) (A B : Prop) [Kp A B] : Prop := if b = true then A else B
theorem wp_ext {α : Type} {r : Res α} {Q Q' : α → Hs → Prop} {E : Ex → Hs → Prop} (h : ∀ a h, Q a h = Q' a h) : r.wp Q E = r.wp Q' E := by
  have e : Q = Q' := funext fun a => funext fun x => h a x
  subst e; rfl
theorem wif_t (A B : Prop) : wif true A B = A := id rfl
theorem wif_f (A B : Prop) : wif false A B = B := id rfl
theorem wif_i {b : Bool} {A B : Prop} (h1 : b = true → A) (h2 : b = false → B) : wif b A B := by
  cases b with
  | true => exact h1 rfl
  | false => exact h2 rfl
theorem wif_d {p : Prop} {_ : Decidable p} {A B : Prop} (h1 : p → A) (h2 : ¬ p → B) : wif (decide p) A B := wif_i (fun e => h1 (of_decide_eq_true e)) (fun e => h2 (of_decide_eq_false e))
/-- an answer that must be there -/
def wo {α : Type} (o : Option α) (Q : α → Prop) [Kp Q Q] : Prop := match o with
  | some a => Q a
  | none => False
theorem wo_ext {α : Type} {o : Option α} {Q Q' : α → Prop} (h : ∀ a, Q a = Q' a) : wo o Q = wo o Q' := by
  have e : Q = Q' := funext h
  subst e; rfl
theorem wo_some {α : Type} (a : α) (Q : α → Prop) : wo (some a) Q = Q a := id rfl
theorem wo_map {α β : Type} (o : Option α) (f : α → β) (Q : β → Prop) : wo (o.map f) Q = wo o (fun a => Q (f a)) := by cases o <;> rfl
theorem wo_i {α : Type} {o : Option α} {Q : α → Prop} {a : α} (e : o = some a) (h : Q a) : wo o Q := by rw [e]; exact h
def inD : D → Option Int
  | .int j => some j
  | _ => none
section
variable {α β : Type} {Q : α → Hs → Prop} {QD : D → Hs → Prop} {QL : List D → Hs → Prop} {QB : Bool → Hs → Prop} {E : Ex → Hs → Prop} {env : Env} {h : Hs} {N : Po}
theorem Res.wp_mono {r : Res α} {Q' : α → Hs → Prop} {E' : Ex → Hs → Prop} (p : r.wp Q E) (hq : ∀ a h, Q a h → Q' a h) (he : ∀ e h, E e h → E' e h) : r.wp Q' E' := by
  cases r with
  | ok a h => exact hq _ _ p
  | exc e h => exact he _ _ p
  | bad => exact p
theorem Res.wp_q {r : Res α} {Q' : α → Hs → Prop} (p : r.wp Q E) (hq : ∀ a h, Q a h → Q' a h) : r.wp Q' E := Res.wp_mono p hq fun _ _ x => x
theorem Fl.wp_mono {r : Fl} {N' : Po} (p : r.wp N) (h1 : ∀ env h, N.nx env h → N'.nx env h) (h2 : ∀ env h, N.bk env h → N'.bk env h) (h3 : ∀ env h, N.ct env h → N'.ct env h) (h4 : ∀ d h, N.rt d h → N'.rt d h) (h5 : ∀ e env h, N.ex e env h → N'.ex e env h) : r.wp N' := by
  cases r with
  | nx env h => exact h1 _ _ p
  | bk env h => exact h2 _ _ p
  | ct env h => exact h3 _ _ p
  | rt d h => exact h4 _ _ p
  | exc e env h => exact h5 _ _ _ p
  | bad => exact p
theorem w_ok (a : α) : (Res.ok a h).wp Q E = Q a h := id rfl
theorem w_exc (e : Ex) : (Res.exc e h : Res α).wp Q E = E e h := id rfl
theorem w_bind (r : Res β) (f : β → Hs → Res α) : (r.bind f).wp Q E = r.wp (fun a h1 => (f a h1).wp Q E) E := by cases r <;> rfl
theorem w_of (o : Option α) : (Res.of o h).wp Q E = wo o (fun a => Q a h) := by cases o <;> rfl
theorem w_cond {c : Prop} [Decidable c] {r : Res α} : (if c then r else Res.bad).wp Q E = (c ∧ r.wp Q E) := by
  by_cases hc : c
  · simp [hc]
  · simp [hc]; exact fun x => x
/-! expressions -/
theorem w_kE (d : D) : (kE d env h).wp QD E = QD d h := id rfl
theorem w_vE (i : Nat) : (vE i env h).wp QD E = wo (env[i]?.join) (fun d => QD d h) := by
  unfold vE
  cases e : env[i]? with
  | none => rfl
  | some o => cases o <;> rfl
theorem w_bE (a b : Ev) (g : Hs → D → D → Res D) : (bE a b g env h).wp QD E = (a env h).wp (fun x h1 => (b env h1).wp (fun y h2 => (g h2 x y).wp QD E) E) E := by
  unfold bE; rw [w_bind]; refine wp_ext fun x h1 => ?_; rw [w_bind]
theorem w_uE (a : Ev) (g : Hs → D → Res D) : (uE a g env h).wp QD E = (a env h).wp (fun x h1 => (g h1 x).wp QD E) E := by
  unfold uE; rw [w_bind]
theorem w_tst (a : Ev) : (tst a env h).wp QB E = (a env h).wp (fun x h1 => wo (truth h1 x) (fun b => QB b h1)) E := by
  unfold tst; rw [w_bind]; refine wp_ext fun x h1 => ?_; rw [w_of]
theorem w_andE (a b : Ev) : (andE a b env h).wp QD E = (a env h).wp (fun x h1 => wo (truth h1 x) (fun t => wif t ((b env h1).wp QD E) (QD x h1))) E := by
  unfold andE; rw [w_bind]; refine wp_ext fun x h1 => ?_; rw [w_bind, w_of]; refine wo_ext fun t => ?_; cases t <;> rfl
theorem w_orE (a b : Ev) : (orE a b env h).wp QD E = (a env h).wp (fun x h1 => wo (truth h1 x) (fun t => wif t (QD x h1) ((b env h1).wp QD E))) E := by
  unfold orE; rw [w_bind]; refine wp_ext fun x h1 => ?_; rw [w_bind, w_of]; refine wo_ext fun t => ?_; cases t <;> rfl
theorem w_notE (a : Ev) : (notE a env h).wp QD E = (tst a env h).wp (fun t h1 => QD (.bl (!t)) h1) E := by
  unfold notE; rw [w_bind]; rfl
theorem w_ifE (t a b : Ev) : (ifE t a b env h).wp QD E = (tst t env h).wp (fun c h1 => wif c ((a env h1).wp QD E) ((b env h1).wp QD E)) E := by
  unfold ifE; rw [w_bind]; refine wp_ext fun c h1 => ?_; cases c <;> rfl
theorem w_chE (a b c : Ev) (o o' : CmpOp) : (chE a b c o o' env h).wp QD E = (a env h).wp (fun x h1 => (b env h1).wp (fun y h2 => wo (cmpOp o h2 x y) (fun t => wif t ((c env h2).wp (fun z h4 => wo (cmpOp o' h4 y z) (fun t => QD (.bl t) h4)) E) (QD (.bl false) h2))) E) E := by
  unfold chE; rw [w_bind]; refine wp_ext fun x h1 => ?_; rw [w_bind]; refine wp_ext fun y h2 => ?_; rw [w_bind]; unfold cmpR; rw [w_of, wo_map]; refine wo_ext fun t => ?_
  cases t with
  | false => rfl
  | true => show ((c env h2).bind _).wp QD E = _; rw [w_bind, wif_t]; refine wp_ext fun z h4 => ?_; rw [w_of, wo_map]
theorem w_ch3E (a b c d : Ev) (o o' o'' : CmpOp) : (ch3E a b c d o o' o'' env h).wp QD E = (a env h).wp (fun x h1 => (b env h1).wp (fun y h2 => wo (cmpOp o h2 x y) (fun t => wif t ((c env h2).wp (fun z h4 => wo (cmpOp o' h4 y z) (fun t => wif t ((d env h4).wp (fun w h6 => wo (cmpOp o'' h6 z w) (fun t => QD (.bl t) h6)) E) (QD (.bl false) h4))) E) (QD (.bl false) h2))) E) E := by
  unfold ch3E; rw [w_bind]; refine wp_ext fun x h1 => ?_; rw [w_bind]; refine wp_ext fun y h2 => ?_; rw [w_bind]; unfold cmpR; rw [w_of, wo_map]; refine wo_ext fun t => ?_
  cases t with
  | false => rfl
  | true =>
    show ((c env h2).bind _).wp QD E = _
    rw [w_bind, wif_t]; refine wp_ext fun z h4 => ?_; rw [w_bind, w_of, wo_map]; refine wo_ext fun t => ?_
    cases t with
    | false => rfl
    | true => show ((d env h4).bind _).wp QD E = _; rw [w_bind, wif_t]; refine wp_ext fun w h6 => ?_; rw [w_of, wo_map]
theorem w_cmpR (o : CmpOp) (x y : D) : (cmpR o h x y).wp QD E = wo (cmpOp o h x y) (fun t => QD (.bl t) h) := by
  unfold cmpR; rw [w_of, wo_map]
theorem w_aNil : (aNil env h).wp QL E = QL [] h := id rfl
theorem w_aCons (a : Ev) (r : Av) : (aCons a r env h).wp QL E = (a env h).wp (fun x h1 => (r env h1).wp (fun xs h2 => QL (x :: xs) h2) E) E := by
  unfold aCons; rw [w_bind]; refine wp_ext fun x h1 => ?_; rw [w_bind]; rfl
theorem w_aStar (a : Ev) (r : Av) : (aStar a r env h).wp QL E = (a env h).wp (fun x h1 => wo (seqH h1 x) (fun xs => (r env h1).wp (fun ys h2 => QL (xs ++ ys) h2) E)) E := by
  unfold aStar; rw [w_bind]; refine wp_ext fun x h1 => ?_
  cases e : seqH h1 x with
  | none => rfl
  | some xs => show ((r env h1).bind _).wp QL E = _; rw [w_bind]; rfl
theorem w_tupE (a : Av) : (tupE a env h).wp QD E = (a env h).wp (fun xs h1 => xs.length ≤ lim ∧ QD (.tup xs) h1) E := by
  unfold tupE; rw [w_bind]; refine wp_ext fun x h1 => ?_; rw [w_cond, w_ok]
theorem w_lstE (a : Av) : (lstE a env h).wp QD E = (a env h).wp (fun xs h1 => xs.length ≤ lim ∧ QD (.ref h1.length) (h1 ++ [.lst xs])) E := by
  unfold lstE; rw [w_bind]; refine wp_ext fun x h1 => ?_; rw [w_cond, w_ok]
theorem w_cE (as : Av) (g : BF) : (cE as g env h).wp QD E = (as env h).wp (fun xs h1 => (g h1 xs).wp QD E) E := by
  unfold cE; rw [w_bind]
theorem w_isiE (a : Ev) (T : String) : (isiE a T env h).wp QD E = (a env h).wp (fun x h1 => wo (isiT T h1 x) (fun b => QD (.bl b) h1)) E := by
  unfold isiE; rw [w_bind]; refine wp_ext fun x h1 => ?_; rw [w_of, wo_map]
theorem w_lsE (a : Ev) : (lsE a env h).wp QD E = (a env h).wp (fun x h1 => (lsR h1 (refL h1 x)).wp QD E) E := by
  unfold lsE; rw [w_bind]
theorem w_fE (as : Av) (f : Fn) : (fE as f env h).wp QD E = (as env h).wp (fun xs h1 => xs.length = f.n ∧ (f.go xs h1).wp QD E) E := by
  unfold fE; rw [w_bind]; refine wp_ext fun x h1 => ?_; rw [w_cond]
theorem w_mE (a : Ev) (as : Av) (m : MF) : (mE a as m env h).wp QD E = (a env h).wp (fun x h1 => m.ty h1 x = true ∧ (as env h1).wp (fun xs h2 => (m.go h2 x xs).wp QD E) E) E := by
  unfold mE; rw [w_bind]; refine wp_ext fun x h1 => ?_
  by_cases c : m.ty h1 x = true
  · rw [if_pos c, w_bind]; simp [c]
  · rw [if_neg c]; simp [c]; exact fun x => x
/-- bounds of a slice -/
theorem w_slE (a : Ev) (lo hi : Option Ev) : (slE a lo hi env h).wp QD E = (a env h).wp (fun x h1 => (ptE lo env h1).wp (fun l h2 => (ptE hi env h2).wp (fun u h3 => (slOp h3 x l u).wp QD E) E) E) E := by
  unfold slE; rw [w_bind]; refine wp_ext fun x h1 => ?_; rw [w_bind]; refine wp_ext fun l h2 => ?_; rw [w_bind]
theorem w_ptN {Qp : Option Int → Hs → Prop} : (ptE none env h).wp Qp E = Qp none h := id rfl
theorem w_ptS {Qp : Option Int → Hs → Prop} (l : Ev) : (ptE (some l) env h).wp Qp E = (l env h).wp (fun i h2 => wo (inD i) (fun j => Qp (some j) h2)) E := by
  unfold ptE; rw [w_bind]; refine wp_ext fun i h2 => ?_
  cases i <;> rfl
theorem w_newD (t : Bool) : (newD t env h).wp QD E = QD (.ref h.length) (h ++ [.dic t false []]) := id rfl
/-! statements -/
theorem w_nextF : (nextF env h).wp N = N.nx env h := id rfl
theorem w_bkF : (bkF env h).wp N = N.bk env h := id rfl
theorem w_ctF : (ctF env h).wp N = N.ct env h := id rfl
theorem w_seqF (s t : Sf) : (seqF s t env h).wp N = (s env h).wp { N with nx := fun env1 h1 => (t env1 h1).wp N } := by
  unfold seqF
  cases s env h <;> rfl
theorem w_cut {s t : Sf} (M : Env → Hs → Prop) (h1 : (s env h).wp { N with nx := M }) (h2 : ∀ env h, M env h → (t env h).wp N) : (seqF s t env h).wp N := by
  rw [w_seqF]
  exact Fl.wp_mono h1 h2 (fun _ _ x => x) (fun _ _ x => x) (fun _ _ x => x) (fun _ _ _ x => x)
theorem w_fl (r : Res α) (f : α → Hs → Fl) : (r.fl env f).wp N = r.wp (fun a h1 => (f a h1).wp N) (fun e h1 => N.ex e env h1) := by cases r <;> rfl
theorem w_dropF (a : Ev) : (dropF a env h).wp N = (a env h).wp (fun _ h1 => N.nx env h1) (fun e h1 => N.ex e env h1) := by
  unfold dropF; rw [w_fl]; rfl
theorem w_retF (a : Ev) : (retF a env h).wp N = (a env h).wp (fun d h1 => N.rt d h1) (fun e h1 => N.ex e env h1) := by
  unfold retF; rw [w_fl]; rfl
theorem w_retNF : (retNF env h).wp N = N.rt .non h := id rfl
theorem w_ifF (c : Ev) (s t : Sf) : (ifF c s t env h).wp N = (tst c env h).wp (fun b h1 => wif b ((s env h1).wp N) ((t env h1).wp N)) (fun e h1 => N.ex e env h1) := by
  unfold ifF; rw [w_fl]; refine wp_ext fun b h1 => ?_; cases b <;> rfl
theorem w_asgF (a : Ev) (g : Gv) : (asgF a g env h).wp N = (a env h).wp (fun d h1 => (g d env h1).wp (fun env' h2 => N.nx env' h2) (fun e h1 => N.ex e env h1)) (fun e h1 => N.ex e env h1) := by
  unfold asgF; rw [w_fl]; refine wp_ext fun d h1 => ?_; rw [w_fl]; rfl
theorem w_nm {Qe : Env → Hs → Prop} (i : Nat) (d : D) : (asgT (.nm i) d env h).wp Qe E = Qe (env.set i (some d)) h := by unfold asgT; rfl
theorem w_tp {Qe : Env → Hs → Prop} (ts : List Tg) (d : D) : (asgT (.tp ts) d env h).wp Qe E = wo (seqH h d) (fun xs => xs.length = ts.length ∧ (asgTs ts xs env h).wp Qe E) := by
  unfold asgT
  cases seqH h d with
  | none => rfl
  | some xs => show (if xs.length = ts.length then asgTs ts xs env h else .bad).wp Qe E = _; rw [w_cond]; rfl
theorem w_ts0 {Qe : Env → Hs → Prop} : (asgTs [] [] env h).wp Qe E = Qe env h := by unfold asgTs; rfl
theorem w_ts1 {Qe : Env → Hs → Prop} (t : Tg) (ts : List Tg) (d : D) (ds : List D) : (asgTs (t :: ts) (d :: ds) env h).wp Qe E = (asgT t d env h).wp (fun env' h' => (asgTs ts ds env' h').wp Qe E) E := by
  conv => lhs; unfold asgTs
  rw [w_bind]
theorem w_gS {Qe : Env → Hs → Prop} (o i : Ev) (d : D) : (gS o i d env h).wp Qe E = (o env h).wp (fun x h1 => (i env h1).wp (fun y h2 => wo (setOp h2 x y d) (fun h3 => Qe env h3)) E) E := by
  unfold gS; rw [w_bind]; refine wp_ext fun x h1 => ?_; rw [w_bind]; refine wp_ext fun y h2 => ?_
  cases setOp h2 x y d <;> rfl
theorem w_augF (i : Nat) (a : Ev) (g : Hs → D → D → Res D) : (augF i a g env h).wp N = wo (env[i]?.join) (fun x => (a env h).wp (fun y h1 => (g h1 x y).wp (fun z h2 => N.nx (env.set i (some z)) h2) (fun e h1 => N.ex e env h1)) (fun e h1 => N.ex e env h1)) := by
  unfold augF
  cases e : env[i]? with
  | none => rfl
  | some o =>
    cases o with
    | none => rfl
    | some x =>
      rw [show (some (some x) : Option (Option D)).join = some x from rfl, wo_some]
      show ((a env h).fl env _).wp N = _
      rw [w_fl]; refine wp_ext fun y h1 => ?_; rw [w_fl]; rfl
theorem w_augS (o i a : Ev) (op : Operator) : (augS o i a op env h).wp N = (o env h).wp (fun x h1 => (i env h1).wp (fun y h2 => (getOp h2 x y).wp (fun z h3 => (a env h3).wp (fun w h4 => (iaugOp op h4 z w).wp (fun u h5 => wo (setOp h5 x y u) (fun h6 => N.nx env h6)) (fun e h1 => N.ex e env h1)) (fun e h1 => N.ex e env h1)) (fun e h1 => N.ex e env h1)) (fun e h1 => N.ex e env h1)) (fun e h1 => N.ex e env h1) := by
  unfold augS; rw [w_fl]; refine wp_ext fun x h1 => ?_; rw [w_fl]; refine wp_ext fun y h2 => ?_; rw [w_fl]; refine wp_ext fun z h3 => ?_; rw [w_fl]; refine wp_ext fun w h4 => ?_; rw [w_fl]; refine wp_ext fun u h5 => ?_
  cases setOp h5 x y u <;> rfl
theorem w_parF (is : List Nat) (as : Av) : (parF is as env h).wp N = (as env h).wp (fun ds h1 => wo (parSet is ds env) (fun env' => N.nx env' h1)) (fun e h1 => N.ex e env h1) := by
  unfold parF; rw [w_fl]; refine wp_ext fun ds h1 => ?_
  cases parSet is ds env <;> rfl
/-- a def's call -/
def poC (Q : D → Hs → Prop) (E : Ex → Hs → Prop) : Po := ⟨fun _ h => Q .non h, fun _ _ => False, fun _ _ => False, Q, fun e _ h => E e h⟩
theorem w_defn (n m : Nat) (s : Sf) (ds : List D) : ((defn n m s).go ds h).wp QD E = (s (ds.map some ++ List.replicate (m - ds.length) none) h).wp ⟨fun _ h => QD .non h, fun _ _ => False, fun _ _ => False, QD, fun e _ h => E e h⟩ := by
  show (callF m s ds h).wp QD E = _
  unfold callF
  cases s (ds.map some ++ List.replicate (m - ds.length) none) h <;> rfl
end
/-! ### loops -/
section
variable {Q : Fl → Prop} {N : Po} {E : Ex → Hs → Prop} {env : Env} {h : Hs}
theorem iter_wp {S R : Type} {f : S → S ⊕ R} {bad : R} (T : R → Prop) (I : Nat → S → Prop) (step : ∀ n s, I n s → match f s with
    | .inl s' => ∃ m, m < n ∧ I m s'
    | .inr r => T r) : ∀ (n : Nat) (s : S), I n s → T (iter f bad s) := by
  intro n
  induction n using Nat.strongRecOn with
  | _ n ih =>
    intro s hs
    rw [iter_eq]
    have z := step n s hs
    cases e : f s with
    | inl s' =>
      rw [e] at z
      obtain ⟨m, hm, hI⟩ := z
      exact ih m hm s' hI
    | inr r => rw [e] at z; exact z
/-- what a walk tells: xs, as long as J stands -/
def Tells (src : Src) (xs : List D) (J : Hs → Prop) : Prop := ∀ i h, J h → src.nxt i h = some xs[i]?
/-- for x in xs: I i behind i of them -/
theorem w_for {s : Sv} {t : Tg} {b els : Sf} (xs : List D) (J : Hs → Prop) (I : Nat → Env → Hs → Prop)
    (hs : (s env h).wp (fun src h1 => Tells src xs J ∧ I 0 env h1) (fun e h1 => N.ex e env h1)) (hJ : ∀ i env h, I i env h → J h)
    (hb : ∀ i x env h, xs[i]? = some x → I i env h → (asgT t x env h).wp (fun env1 h1 => (b env1 h1).wp ⟨I (i + 1), N.nx, I (i + 1), N.rt, N.ex⟩) (fun _ _ => False))
    (he : ∀ env h, I xs.length env h → (els env h).wp N) : (forF s t b els env h).wp N := by
  unfold forF
  rw [w_fl]
  refine Res.wp_q hs fun src h1 q => ?_
  refine iter_wp (fun fl : Fl => fl.wp N) (fun n s => ∃ i, s.1 = i ∧ n + i = xs.length ∧ I i s.2.1 s.2.2) (fun n s ⟨i, e1, e2, hI⟩ => ?_) xs.length (0, env, h1) ⟨0, rfl, by omega, q.2⟩
  obtain ⟨j, env1, h2⟩ := s
  subst e1
  unfold forStep
  have et := q.1 j h2 (hJ _ _ _ hI)
  dsimp only at et hI ⊢
  rw [et]
  cases ex : xs[j]? with
  | none =>
    have : j = xs.length := by
      have := List.getElem?_eq_none_iff.mp ex
      omega
    subst this
    exact he _ _ hI
  | some x =>
    have hl : j < xs.length := (List.getElem?_eq_some_iff.mp ex).1
    have z := hb j x env1 h2 ex hI
    dsimp only
    cases ea : asgT t x env1 h2 with
    | ok env3 h3 =>
      rw [ea] at z
      dsimp only
      have z : (b env3 h3).wp _ := z
      cases eb : b env3 h3 with
      | nx env4 h4 => rw [eb] at z; exact ⟨n - 1, by omega, j + 1, rfl, by omega, z⟩
      | ct env4 h4 => rw [eb] at z; exact ⟨n - 1, by omega, j + 1, rfl, by omega, z⟩
      | bk env4 h4 => rw [eb] at z; exact z
      | rt d h4 => rw [eb] at z; exact z
      | exc e env4 h4 => rw [eb] at z; exact z
      | bad => rw [eb] at z; exact z
    | exc e h3 => rw [ea] at z; exact z.elim
    | bad => rw [ea] at z; exact z.elim
/-- while c: I n, n falls -/
theorem w_while {c : Ev} {b els : Sf} (I : Nat → Env → Hs → Prop) (n : Nat) (h0 : I n env h)
    (hb : ∀ n env h, I n env h → (tst c env h).wp (fun t h1 => wif t ((b env h1).wp ⟨fun env h => ∃ m, m < n ∧ I m env h, N.nx, fun env h => ∃ m, m < n ∧ I m env h, N.rt, N.ex⟩) ((els env h1).wp N)) (fun e h1 => N.ex e env h1)) : (whF c b els env h).wp N := by
  unfold whF
  refine iter_wp (fun fl : Fl => fl.wp N) (fun n s => I n s.1 s.2) (fun n s hI => ?_) n (env, h) h0
  obtain ⟨env1, h1⟩ := s
  have z := hb n env1 h1 hI
  unfold whStep
  dsimp only
  cases e : tst c env1 h1 with
  | ok t h2 =>
    rw [e] at z
    cases t with
    | true =>
      have z : (b env1 h2).wp _ := z
      dsimp only
      cases eb : b env1 h2 with
      | nx env4 h4 => rw [eb] at z; exact z
      | ct env4 h4 => rw [eb] at z; exact z
      | bk env4 h4 => rw [eb] at z; exact z
      | rt d h4 => rw [eb] at z; exact z
      | exc e env4 h4 => rw [eb] at z; exact z
      | bad => rw [eb] at z; exact z
    | false => exact z
  | exc e' h2 => rw [e] at z; exact z
  | bad => rw [e] at z; exact z
/-- [e for t in xs if c] -/
theorem w_lc {QD : D → Hs → Prop} {s : Sv} {t : Tg} {c : Option Ev} {e : Ev} {vs : List Nat} (xs : List D) (J : Hs → Prop) (I : Nat → List D → Hs → Prop)
    (hs : (s env h).wp (fun src h1 => Tells src xs J ∧ I 0 [] h1) E) (hJ : ∀ i acc h, I i acc h → J h) (hl : ∀ i acc h, I i acc h → acc.length < lim + 1)
    (hb : ∀ i x acc h, xs[i]? = some x → I i acc h → (asgT t x (wipeE env vs) h).wp (fun env1 h1 => (lcC c env1 h1).wp (fun b h2 => wif b ((e env1 h2).wp (fun y h3 => acc.length < lim ∧ I (i + 1) (acc ++ [y]) h3) (fun _ _ => False)) (I (i + 1) acc h2)) (fun _ _ => False)) (fun _ _ => False))
    (he : ∀ acc h, I xs.length acc h → QD (.ref h.length) (h ++ [.lst acc])) : (lcE s t c e vs env h).wp QD E := by
  unfold lcE
  rw [w_bind]
  refine Res.wp_q hs fun src h1 q => ?_
  rw [w_bind]
  refine iter_wp (fun r : Res (List D) => Res.wp r (fun (a : List D) h1 => (Res.ok (D.ref h1.length) (h1 ++ [Cell.lst a])).wp QD E) E) (fun n s => ∃ i, s.1 = i ∧ n + i = xs.length ∧ I i s.2.1 s.2.2) (fun n s ⟨i, e1, e2, hI⟩ => ?_) xs.length (0, [], h1) ⟨0, rfl, by omega, q.2⟩
  obtain ⟨j, acc, h2⟩ := s
  subst e1
  unfold lcStep
  have et := q.1 j h2 (hJ _ _ _ hI)
  dsimp only at et hI ⊢
  rw [et]
  cases ex : xs[j]? with
  | none =>
    have : j = xs.length := by
      have := List.getElem?_eq_none_iff.mp ex
      omega
    subst this
    exact he _ _ hI
  | some x =>
    have hl : j < xs.length := (List.getElem?_eq_some_iff.mp ex).1
    have z := hb j x acc h2 ex hI
    dsimp only
    cases ea : asgT t x (wipeE env vs) h2 with
    | ok env3 h3 =>
      rw [ea] at z
      dsimp only
      have z : (lcC c env3 h3).wp _ _ := z
      unfold lcTurn
      cases eb : lcC c env3 h3 with
      | ok b h4 =>
        rw [eb] at z
        cases b with
        | false => exact ⟨n - 1, by omega, j + 1, rfl, by omega, z⟩
        | true =>
          have z : (e env3 h4).wp _ _ := z
          dsimp only
          cases ee : e env3 h4 with
          | ok y h5 =>
            rw [ee] at z
            obtain ⟨z1, z2⟩ := z
            dsimp only
            rw [if_pos z1]
            exact ⟨n - 1, by omega, j + 1, rfl, by omega, z2⟩
          | exc e h3 => rw [ee] at z; exact z.elim
          | bad => rw [ee] at z; exact z.elim
      | exc e h3 => rw [eb] at z; exact z.elim
      | bad => rw [eb] at z; exact z.elim
    | exc e h3 => rw [ea] at z; exact z.elim
    | bad => rw [ea] at z; exact z.elim
theorem w_lcN {QB : Bool → Hs → Prop} : (lcC none env h).wp QB E = QB true h := id rfl
theorem w_lcS {QB : Bool → Hs → Prop} (c : Ev) : (lcC (some c) env h).wp QB E = (tst c env h).wp QB E := id rfl
/-- {k: v for t in xs if c} -/
theorem w_dc {QD : D → Hs → Prop} {s : Sv} {t : Tg} {c : Option Ev} {ek ev : Ev} {vs : List Nat} (xs : List D) (J : Hs → Prop) (I : Nat → List (D × D) → Hs → Prop)
    (hs : (s env h).wp (fun src h1 => Tells src xs J ∧ I 0 [] h1) E) (hJ : ∀ i acc h, I i acc h → J h)
    (hb : ∀ i x acc h, xs[i]? = some x → I i acc h → (asgT t x (wipeE env vs) h).wp (fun env1 h1 => (lcC c env1 h1).wp (fun b h2 => wif b ((ek env1 h2).wp (fun y h3 => (ev env1 h3).wp (fun z h4 => (k1 y = true ∧ acc.length < lim) ∧ I (i + 1) (dput acc y z) h4) (fun _ _ => False)) (fun _ _ => False)) (I (i + 1) acc h2)) (fun _ _ => False)) (fun _ _ => False))
    (he : ∀ acc h, I xs.length acc h → QD (.ref h.length) (h ++ [.dic false false acc])) : (dcE s t c ek ev vs env h).wp QD E := by
  unfold dcE
  rw [w_bind]
  refine Res.wp_q hs fun src h1 q => ?_
  rw [w_bind]
  refine iter_wp (fun r : Res (List (D × D)) => Res.wp r (fun (a : List (D × D)) h1 => (Res.ok (D.ref h1.length) (h1 ++ [Cell.dic false false a])).wp QD E) E) (fun n s => ∃ i, s.1 = i ∧ n + i = xs.length ∧ I i s.2.1 s.2.2) (fun n s ⟨i, e1, e2, hI⟩ => ?_) xs.length (0, [], h1) ⟨0, rfl, by omega, q.2⟩
  obtain ⟨j, acc, h2⟩ := s
  subst e1
  unfold dcStep
  have et := q.1 j h2 (hJ _ _ _ hI)
  dsimp only at et hI ⊢
  rw [et]
  cases ex : xs[j]? with
  | none =>
    have : j = xs.length := by
      have := List.getElem?_eq_none_iff.mp ex
      omega
    subst this
    exact he _ _ hI
  | some x =>
    have hl : j < xs.length := (List.getElem?_eq_some_iff.mp ex).1
    have z := hb j x acc h2 ex hI
    dsimp only
    cases ea : asgT t x (wipeE env vs) h2 with
    | ok env3 h3 =>
      rw [ea] at z
      dsimp only
      have z : (lcC c env3 h3).wp _ _ := z
      unfold dcTurn
      cases eb : lcC c env3 h3 with
      | ok b h4 =>
        rw [eb] at z
        cases b with
        | false => exact ⟨n - 1, by omega, j + 1, rfl, by omega, z⟩
        | true =>
          have z : (ek env3 h4).wp _ _ := z
          dsimp only
          cases ee : ek env3 h4 with
          | ok y h5 =>
            rw [ee] at z
            have z : (ev env3 h5).wp _ _ := z
            dsimp only
            cases ef : ev env3 h5 with
            | ok z' h6 =>
              rw [ef] at z
              obtain ⟨z1, z2⟩ := z
              dsimp only
              rw [if_pos z1]
              exact ⟨n - 1, by omega, j + 1, rfl, by omega, z2⟩
            | exc e h3 => rw [ef] at z; exact z.elim
            | bad => rw [ef] at z; exact z.elim
          | exc e h3 => rw [ee] at z; exact z.elim
          | bad => rw [ee] at z; exact z.elim
      | exc e h3 => rw [eb] at z; exact z.elim
      | bad => rw [eb] at z; exact z.elim
    | exc e h3 => rw [ea] at z; exact z.elim
    | bad => rw [ea] at z; exact z.elim
/-- .. the keys tuples -/
theorem w_dt {QD : D → Hs → Prop} {s : Sv} {t : Tg} {c : Option Ev} {ek ev : Ev} {vs : List Nat} (xs : List D) (J : Hs → Prop) (I : Nat → List (D × D) → Hs → Prop)
    (hs : (s env h).wp (fun src h1 => Tells src xs J ∧ I 0 [] h1) E) (hJ : ∀ i acc h, I i acc h → J h)
    (hb : ∀ i x acc h, xs[i]? = some x → I i acc h → (asgT t x (wipeE env vs) h).wp (fun env1 h1 => (lcC c env1 h1).wp (fun b h2 => wif b ((ek env1 h2).wp (fun y h3 => (ev env1 h3).wp (fun z h4 => (kOk true y = true ∧ acc.length < lim) ∧ I (i + 1) (dput acc y z) h4) (fun _ _ => False)) (fun _ _ => False)) (I (i + 1) acc h2)) (fun _ _ => False)) (fun _ _ => False))
    (he : ∀ acc h, I xs.length acc h → QD (.ref h.length) (h ++ [.dic true false acc])) : (dtE s t c ek ev vs env h).wp QD E := by
  unfold dtE
  rw [w_bind]
  refine Res.wp_q hs fun src h1 q => ?_
  rw [w_bind]
  refine iter_wp (fun r : Res (List (D × D)) => Res.wp r (fun (a : List (D × D)) h1 => (Res.ok (D.ref h1.length) (h1 ++ [Cell.dic true false a])).wp QD E) E) (fun n s => ∃ i, s.1 = i ∧ n + i = xs.length ∧ I i s.2.1 s.2.2) (fun n s ⟨i, e1, e2, hI⟩ => ?_) xs.length (0, [], h1) ⟨0, rfl, by omega, q.2⟩
  obtain ⟨j, acc, h2⟩ := s
  subst e1
  unfold dtStep
  have et := q.1 j h2 (hJ _ _ _ hI)
  dsimp only at et hI ⊢
  rw [et]
  cases ex : xs[j]? with
  | none =>
    have : j = xs.length := by
      have := List.getElem?_eq_none_iff.mp ex
      omega
    subst this
    exact he _ _ hI
  | some x =>
    have hl : j < xs.length := (List.getElem?_eq_some_iff.mp ex).1
    have z := hb j x acc h2 ex hI
    dsimp only
    cases ea : asgT t x (wipeE env vs) h2 with
    | ok env3 h3 =>
      rw [ea] at z
      dsimp only
      have z : (lcC c env3 h3).wp _ _ := z
      unfold dtTurn
      cases eb : lcC c env3 h3 with
      | ok b h4 =>
        rw [eb] at z
        cases b with
        | false => exact ⟨n - 1, by omega, j + 1, rfl, by omega, z⟩
        | true =>
          have z : (ek env3 h4).wp _ _ := z
          dsimp only
          cases ee : ek env3 h4 with
          | ok y h5 =>
            rw [ee] at z
            have z : (ev env3 h5).wp _ _ := z
            dsimp only
            cases ef : ev env3 h5 with
            | ok z' h6 =>
              rw [ef] at z
              obtain ⟨z1, z2⟩ := z
              dsimp only
              rw [if_pos z1]
              exact ⟨n - 1, by omega, j + 1, rfl, by omega, z2⟩
            | exc e h3 => rw [ef] at z; exact z.elim
            | bad => rw [ef] at z; exact z.elim
          | exc e h3 => rw [ee] at z; exact z.elim
          | bad => rw [ee] at z; exact z.elim
      | exc e h3 => rw [eb] at z; exact z.elim
      | bad => rw [eb] at z; exact z.elim
    | exc e h3 => rw [ea] at z; exact z.elim
    | bad => rw [ea] at z; exact z.elim
end
/-! M17: sources, equality, the heap that stays, the tactic. -/
open PySem PySem.Spec PyProof.Rows L2
theorem kit_NoneType_str : kitB "NoneType" "str" = some false := by decide +kernel
theorem kit_NoneType_int : kitB "NoneType" "int" = some false := by decide +kernel
theorem kit_NoneType_bool : kitB "NoneType" "bool" = some false := by decide +kernel
theorem kit_NoneType_tuple : kitB "NoneType" "tuple" = some false := by decide +kernel
theorem kit_NoneType_list : kitB "NoneType" "list" = some false := by decide +kernel
theorem kit_NoneType_dict : kitB "NoneType" "dict" = some false := by decide +kernel
theorem kit_bool_str : kitB "bool" "str" = some false := by decide +kernel
theorem kit_bool_int : kitB "bool" "int" = some true := by decide +kernel
theorem kit_bool_bool : kitB "bool" "bool" = some true := by decide +kernel
theorem kit_bool_tuple : kitB "bool" "tuple" = some false := by decide +kernel
theorem kit_bool_list : kitB "bool" "list" = some false := by decide +kernel
theorem kit_bool_dict : kitB "bool" "dict" = some false := by decide +kernel
theorem kit_int_str : kitB "int" "str" = some false := by decide +kernel
theorem kit_int_int : kitB "int" "int" = some true := by decide +kernel
theorem kit_int_bool : kitB "int" "bool" = some false := by decide +kernel
theorem kit_int_tuple : kitB "int" "tuple" = some false := by decide +kernel
theorem kit_int_list : kitB "int" "list" = some false := by decide +kernel
theorem kit_int_dict : kitB "int" "dict" = some false := by decide +kernel
theorem kit_str_str : kitB "str" "str" = some true := by decide +kernel
theorem kit_str_int : kitB "str" "int" = some false := by decide +kernel
theorem kit_str_bool : kitB "str" "bool" = some false := by decide +kernel
theorem kit_str_tuple : kitB "str" "tuple" = some false := by decide +kernel
theorem kit_str_list : kitB "str" "list" = some false := by decide +kernel
theorem kit_str_dict : kitB "str" "dict" = some false := by decide +kernel
theorem kit_tuple_str : kitB "tuple" "str" = some false := by decide +kernel
theorem kit_tuple_int : kitB "tuple" "int" = some false := by decide +kernel
theorem kit_tuple_bool : kitB "tuple" "bool" = some false := by decide +kernel
theorem kit_tuple_tuple : kitB "tuple" "tuple" = some true := by decide +kernel
theorem kit_tuple_list : kitB "tuple" "list" = some false := by decide +kernel
theorem kit_tuple_dict : kitB "tuple" "dict" = some false := by decide +kernel
theorem kit_list_str : kitB "list" "str" = some false := by decide +kernel
theorem kit_list_int : kitB "list" "int" = some false := by decide +kernel
theorem kit_list_bool : kitB "list" "bool" = some false := by decide +kernel
theorem kit_list_tuple : kitB "list" "tuple" = some false := by decide +kernel
theorem kit_list_list : kitB "list" "list" = some true := by decide +kernel
theorem kit_list_dict : kitB "list" "dict" = some false := by decide +kernel
theorem kit_dict_str : kitB "dict" "str" = some false := by decide +kernel
theorem kit_dict_int : kitB "dict" "int" = some false := by decide +kernel
theorem kit_dict_bool : kitB "dict" "bool" = some false := by decide +kernel
theorem kit_dict_tuple : kitB "dict" "tuple" = some false := by decide +kernel
theorem kit_dict_list : kitB "dict" "list" = some false := by decide +kernel
theorem kit_dict_dict : kitB "dict" "dict" = some true := by decide +kernel
theorem rp0 : (List.replicate 0 none : Env) = [] := rfl
theorem rp1 : (List.replicate 1 none : Env) = [none] := rfl
theorem rp2 : (List.replicate 2 none : Env) = [none, none] := rfl
theorem rp3 : (List.replicate 3 none : Env) = [none, none, none] := rfl
theorem rp4 : (List.replicate 4 none : Env) = [none, none, none, none] := rfl
theorem rp5 : (List.replicate 5 none : Env) = [none, none, none, none, none] := rfl
theorem rp6 : (List.replicate 6 none : Env) = [none, none, none, none, none, none] := rfl
theorem rp7 : (List.replicate 7 none : Env) = [none, none, none, none, none, none, none] := rfl
theorem rp8 : (List.replicate 8 none : Env) = [none, none, none, none, none, none, none, none] := rfl
theorem rp9 : (List.replicate 9 none : Env) = [none, none, none, none, none, none, none, none, none] := rfl
theorem rp10 : (List.replicate 10 none : Env) = [none, none, none, none, none, none, none, none, none, none] := rfl
theorem rp11 : (List.replicate 11 none : Env) = [none, none, none, none, none, none, none, none, none, none, none] := rfl
theorem rp12 : (List.replicate 12 none : Env) = [none, none, none, none, none, none, none, none, none, none, none, none] := rfl
theorem rp13 : (List.replicate 13 none : Env) = [none, none, none, none, none, none, none, none, none, none, none, none, none] := rfl
theorem rp14 : (List.replicate 14 none : Env) = [none, none, none, none, none, none, none, none, none, none, none, none, none, none] := rfl
theorem rp15 : (List.replicate 15 none : Env) = [none, none, none, none, none, none, none, none, none, none, none, none, none, none, none] := rfl
theorem rp16 : (List.replicate 16 none : Env) = [none, none, none, none, none, none, none, none, none, none, none, none, none, none, none, none] := rfl
theorem rp17 : (List.replicate 17 none : Env) = [none, none, none, none, none, none, none, none, none, none, none, none, none, none, none, none, none] := rfl
theorem rp18 : (List.replicate 18 none : Env) = [none, none, none, none, none, none, none, none, none, none, none, none, none, none, none, none, none, none] := rfl
theorem rp19 : (List.replicate 19 none : Env) = [none, none, none, none, none, none, none, none, none, none, none, none, none, none, none, none, none, none, none] := rfl
theorem rp20 : (List.replicate 20 none : Env) = [none, none, none, none, none, none, none, none, none, none, none, none, none, none, none, none, none, none, none, none] := rfl
theorem rp21 : (List.replicate 21 none : Env) = [none, none, none, none, none, none, none, none, none, none, none, none, none, none, none, none, none, none, none, none, none] := rfl
theorem rp22 : (List.replicate 22 none : Env) = [none, none, none, none, none, none, none, none, none, none, none, none, none, none, none, none, none, none, none, none, none, none] := rfl
theorem rp23 : (List.replicate 23 none : Env) = [none, none, none, none, none, none, none, none, none, none, none, none, none, none, none, none, none, none, none, none, none, none, none] := rfl
theorem rp24 : (List.replicate 24 none : Env) = [none, none, none, none, none, none, none, none, none, none, none, none, none, none, none, none, none, none, none, none, none, none, none, none] := rfl
theorem rp25 : (List.replicate 25 none : Env) = [none, none, none, none, none, none, none, none, none, none, none, none, none, none, none, none, none, none, none, none, none, none, none, none, none] := rfl
theorem rp26 : (List.replicate 26 none : Env) = [none, none, none, none, none, none, none, none, none, none, none, none, none, none, none, none, none, none, none, none, none, none, none, none, none, none] := rfl
theorem rp27 : (List.replicate 27 none : Env) = [none, none, none, none, none, none, none, none, none, none, none, none, none, none, none, none, none, none, none, none, none, none, none, none, none, none, none] := rfl
theorem rp28 : (List.replicate 28 none : Env) = [none, none, none, none, none, none, none, none, none, none, none, none, none, none, none, none, none, none, none, none, none, none, none, none, none, none, none, none] := rfl
theorem rp29 : (List.replicate 29 none : Env) = [none, none, none, none, none, none, none, none, none, none, none, none, none, none, none, none, none, none, none, none, none, none, none, none, none, none, none, none, none] := rfl
theorem rp30 : (List.replicate 30 none : Env) = [none, none, none, none, none, none, none, none, none, none, none, none, none, none, none, none, none, none, none, none, none, none, none, none, none, none, none, none, none, none] := rfl
section
variable {Qs : Src → Hs → Prop} {E : Ex → Hs → Prop} {env : Env} {h : Hs}
theorem w_vS (a : Ev) : (vS a env h).wp Qs E = (a env h).wp (fun d h1 => wo (srcOf h1 d) (fun s => Qs s h1)) E := by
  unfold vS; rw [w_bind]; refine wp_ext fun d h1 => ?_; rw [w_of]
theorem w_rS (as : Av) (g : List D → Option Src) : (rS as g env h).wp Qs E = (as env h).wp (fun xs h1 => wo (g xs) (fun s => Qs s h1)) E := by
  unfold rS; rw [w_bind]; refine wp_ext fun d h1 => ?_; rw [w_of]
theorem w_eS (a : Ev) : (eS a env h).wp Qs E = (a env h).wp (fun d h1 => wo (srcL h1 d) (fun s => Qs (enuSrc s) h1)) E := by
  unfold eS; rw [w_bind]; refine wp_ext fun d h1 => ?_; rw [w_of, wo_map]
theorem w_zS (a b : Ev) : (zS a b env h).wp Qs E = (a env h).wp (fun x h1 => (b env h1).wp (fun y h2 => wo (zipOf h2 x y) (fun s => Qs s h2)) E) E := by
  unfold zS; rw [w_bind]; refine wp_ext fun x h1 => ?_; rw [w_bind]; refine wp_ext fun y h2 => ?_; rw [w_of]
theorem w_revS (a : Ev) : (revS a env h).wp Qs E = (a env h).wp (fun d h1 => wo (revOf h1 d) (fun s => Qs s h1)) E := by
  unfold revS; rw [w_bind]; refine wp_ext fun d h1 => ?_; rw [w_of]
theorem w_iteS {c : Prop} [Decidable c] {α : Type} (s : α) (Q : α → Prop) : wo (if c then some s else none) Q = (c ∧ Q s) := by
  by_cases hc : c
  · simp [hc, wo]
  · simp [hc, wo]
end
theorem t_seq (xs : List D) (J : Hs → Prop) : Tells (seqSrc xs) xs J := fun _ _ _ => rfl
theorem t_cel (n : Nat) (xs : List D) : Tells (celSrc n) xs (fun h => h[n]? = some (.lst xs)) := fun i h e => by
  show (match h[n]? with | some (.lst xs) => some xs[i]? | _ => none) = _
  rw [e]
theorem t_rng (lo : Int) (n : Nat) (J : Hs → Prop) : Tells (rngSrc lo 1 n) ((List.range n).map fun i => .int (lo + (i : Nat))) J := fun i h _ => by
  show some (if i < n then some (D.int (lo + (i : Nat) * 1)) else none) = _
  by_cases c : i < n
  · rw [if_pos c, List.getElem?_map, List.getElem?_range c, Int.mul_one]; rfl
  · rw [if_neg c, List.getElem?_eq_none (by simpa using c)]
theorem t_rng0 (n : Nat) (J : Hs → Prop) : Tells (rngSrc 0 1 n) ((List.range n).map fun i => .int ((i : Nat) : Int)) J := by
  have := t_rng 0 n J
  simpa using this
theorem t_enu {s : Src} {xs : List D} {J : Hs → Prop} (t : Tells s xs J) : Tells (enuSrc s) (xs.mapIdx fun i d => D.tup [.int (i : Nat), d]) J := fun i h j => by
  show (s.nxt i h).map _ = _
  rw [t i h j, List.getElem?_mapIdx]
  cases xs[i]? <;> rfl
theorem t_zip {s t : Src} {xs ys : List D} {J K : Hs → Prop} (hs : Tells s xs J) (ht : Tells t ys K) : Tells (zipSrc s t) ((xs.zip ys).map fun p => D.tup [p.1, p.2]) (fun h => J h ∧ K h) := fun i h j => by
  show (match s.nxt i h, t.nxt i h with
    | some (some x), some (some y) => some (some (D.tup [x, y]))
    | some _, some _ => some none
    | _, _ => none) = _
  rw [hs i h j.1, ht i h j.2, List.getElem?_map]
  cases e1 : xs[i]? with
  | none =>
    have : (xs.zip ys)[i]? = none := List.getElem?_eq_none_iff.mpr (by have := List.getElem?_eq_none_iff.mp e1; rw [List.length_zip]; omega)
    rw [this]; cases ys[i]? <;> rfl
  | some x =>
    cases e2 : ys[i]? with
    | none =>
      have : (xs.zip ys)[i]? = none := List.getElem?_eq_none_iff.mpr (by have := List.getElem?_eq_none_iff.mp e2; rw [List.length_zip]; omega)
      rw [this]; rfl
    | some y =>
      have q : (xs.zip ys)[i]? = some (x, y) := List.getElem?_zip_eq_some.mpr ⟨e1, e2⟩
      rw [q]; rfl
/-! ### equality of data -/
mutual
def deq : D → D → Bool
  | .non, .non => true
  | .bl a, .bl b => a == b
  | .bl a, .int j => (if a = true then 1 else 0) == j
  | .int i, .bl b => i == (if b = true then 1 else 0)
  | .int i, .int j => decide (i = j)
  | .str x, .str y => decide (x = y)
  | .tup xs, .tup ys => deqs xs ys
  | .ls xs, .ls ys => deqs xs ys
  | _, _ => false
def deqs : List D → List D → Bool
  | [], [] => true
  | x :: xs, y :: ys => deq x y && deqs xs ys
  | _, _ => false
end
mutual
/-- no reference, so deep -/
def flt : Nat → D → Bool
  | n + 1, .tup xs => flts n xs
  | 0, .tup _ => false
  | n + 1, .ls xs => flts n xs
  | 0, .ls _ => false
  | _, .ref _ => false
  | _, _ => true
def flts : Nat → List D → Bool
  | _, [] => true
  | n, x :: xs => flt n x && flts n xs
end
mutual
theorem flt_py : ∀ (d : D) (n : Nat), flt n d = true → ∃ p, py d = some p ∧ p.depth ≤ n
  | .non, n, _ => ⟨_, by unfold py; rfl, by simp [PyData.depth]⟩
  | .bl b, n, _ => ⟨_, by unfold py; rfl, by simp [PyData.depth]⟩
  | .int b, n, _ => ⟨_, by unfold py; rfl, by simp [PyData.depth]⟩
  | .str b, n, _ => ⟨_, by unfold py; rfl, by simp [PyData.depth]⟩
  | .tup xs, n, h => by
    cases n with
    | zero => simp [flt] at h
    | succ n =>
      obtain ⟨ps, e, q⟩ := flts_py xs n (by simpa [flt] using h)
      exact ⟨.tuple ps, by unfold py; rw [e]; rfl, by simp [PyData.depth]; exact q⟩
  | .ls xs, n, h => by
    cases n with
    | zero => simp [flt] at h
    | succ n =>
      obtain ⟨ps, e, q⟩ := flts_py xs n (by simpa [flt] using h)
      exact ⟨.list ps, by unfold py; rw [e]; rfl, by simp [PyData.depth]; exact q⟩
  | .ref _, n, h => by cases n <;> simp [flt] at h
theorem flts_py : ∀ (ds : List D) (n : Nat), flts n ds = true → ∃ ps, pys ds = some ps ∧ PyData.depthAll ps ≤ n
  | [], n, _ => ⟨[], by unfold pys; rfl, by simp [PyData.depthAll]⟩
  | d :: ds, n, h => by
    unfold flts at h
    rw [Bool.and_eq_true] at h
    obtain ⟨p, e1, q1⟩ := flt_py d n h.1
    obtain ⟨ps, e2, q2⟩ := flts_py ds n h.2
    exact ⟨p :: ps, by unfold pys; rw [e1, e2], by simp only [PyData.depthAll]; omega⟩
end
theorem str_beq (x y : List Nat) : ((⟨x.toArray⟩ : Str) == ⟨y.toArray⟩) = decide (x = y) := by
  by_cases c : x = y
  · subst c; simp
  · rw [decide_eq_false c]
    refine beq_false_of_ne fun e => c ?_
    have := congrArg Str.cps e
    simpa using this
mutual
theorem eqv_deq : ∀ (d e : D) (p q : PyData), py d = some p → py e = some q → PyData.eqv p q = deq d e
  | .non, e, p, q, h1, h2 => by
    unfold py at h1; cases h1
    cases e <;> (unfold py at h2) <;> first | (cases h2; done) | (cases h2; simp [PyData.eqv, deq]; done) | (obtain ⟨ps, _, rfl⟩ := Option.map_eq_some_iff.mp h2; simp [PyData.eqv, deq])
  | .bl b, e, p, q, h1, h2 => by
    unfold py at h1; cases h1
    cases e <;> (unfold py at h2) <;> first | (cases h2; done) | (cases h2; simp [PyData.eqv, deq]; done) | (obtain ⟨ps, _, rfl⟩ := Option.map_eq_some_iff.mp h2; simp [PyData.eqv, deq])
  | .int b, e, p, q, h1, h2 => by
    unfold py at h1; cases h1
    cases e <;> (unfold py at h2) <;> first | (cases h2; done) | (cases h2; simp [PyData.eqv, deq]; done) | (cases h2; simp [PyData.eqv, deq]; rfl) | (obtain ⟨ps, _, rfl⟩ := Option.map_eq_some_iff.mp h2; simp [PyData.eqv, deq])
  | .str b, e, p, q, h1, h2 => by
    unfold py at h1; cases h1
    cases e <;> (unfold py at h2) <;> first | (cases h2; done) | (cases h2; simp only [PyData.eqv, deq]; done) | (cases h2; simp only [PyData.eqv, deq]; exact str_beq _ _) | (obtain ⟨ps, _, rfl⟩ := Option.map_eq_some_iff.mp h2; simp [PyData.eqv, deq])
  | .tup xs, e, p, q, h1, h2 => by
    unfold py at h1
    obtain ⟨ps, e1, rfl⟩ := Option.map_eq_some_iff.mp h1
    cases e <;> (unfold py at h2) <;> first | (cases h2; done) | (cases h2; simp [PyData.eqv, deq]; done) | (obtain ⟨qs, e2, rfl⟩ := Option.map_eq_some_iff.mp h2; first | (simp only [PyData.eqv, deq]; exact eqvs_deqs _ _ _ _ e1 e2) | (simp [PyData.eqv, deq]; done))
  | .ls xs, e, p, q, h1, h2 => by
    unfold py at h1
    obtain ⟨ps, e1, rfl⟩ := Option.map_eq_some_iff.mp h1
    cases e <;> (unfold py at h2) <;> first | (cases h2; done) | (cases h2; simp [PyData.eqv, deq]; done) | (obtain ⟨qs, e2, rfl⟩ := Option.map_eq_some_iff.mp h2; first | (simp only [PyData.eqv, deq]; exact eqvs_deqs _ _ _ _ e1 e2) | (simp [PyData.eqv, deq]; done))
  | .ref _, e, p, q, h1, h2 => by unfold py at h1; cases h1
theorem eqvs_deqs : ∀ (ds es : List D) (ps qs : List PyData), pys ds = some ps → pys es = some qs → PyData.eqvAll ps qs = deqs ds es
  | [], es, ps, qs, h1, h2 => by
    unfold pys at h1; cases h1
    cases es with
    | nil => unfold pys at h2; cases h2; simp [PyData.eqvAll, deqs]
    | cons e es =>
      unfold pys at h2
      split at h2
      · cases h2; simp [PyData.eqvAll, deqs]
      · cases h2
  | d :: ds, es, ps, qs, h1, h2 => by
    unfold pys at h1
    split at h1
    · rename_i p ps' e1 e2
      cases h1
      cases es with
      | nil => unfold pys at h2; cases h2; simp [PyData.eqvAll, deqs]
      | cons e es =>
        unfold pys at h2
        split at h2
        · rename_i q qs' e3 e4
          cases h2
          simp only [PyData.eqvAll, deqs]
          rw [eqv_deq d e p q e1 e3, eqvs_deqs ds es ps' qs' e2 e4]
        · cases h2
    · cases h1
end
theorem pyH_flt {h : Hs} {d : D} {n : Nat} (f : flt n d = true) : pyH h d = py d := by
  cases d <;> first | rfl | (cases n <;> simp [flt] at f)
theorem eq_flat {h : Hs} {d e : D} (h1 : flt 50 d = true) (h2 : flt 50 e = true) : eqOp h d e = some (deq d e) := by
  obtain ⟨p, e1, q1⟩ := flt_py d 50 h1
  obtain ⟨q, e2, q2⟩ := flt_py e 50 h2
  unfold eqOp
  rw [pyH_flt h1, pyH_flt h2, e1, e2]
  show (if min p.depth q.depth ≤ 60 then _ else _) = _
  rw [if_pos (by omega), eqv_deq d e p q e1 e2]
theorem eq_refs {h : Hs} {n m : Nat} {xs ys : List D} (hx : h[n]? = some (.lst xs)) (hy : h[m]? = some (.lst ys)) (h1 : flts 50 xs = true) (h2 : flts 50 ys = true) : eqOp h (.ref n) (.ref m) = some (deqs xs ys) := by
  obtain ⟨p, e1, q1⟩ := flts_py xs 50 h1
  obtain ⟨q, e2, q2⟩ := flts_py ys 50 h2
  unfold eqOp
  have a : pyH h (.ref n) = some (.list p) := by show (match h[n]? with | some (.lst xs) => (pys xs).map PyData.list | _ => none) = _; rw [hx]; show (pys xs).map _ = _; rw [e1]; rfl
  have b : pyH h (.ref m) = some (.list q) := by show (match h[m]? with | some (.lst xs) => (pys xs).map PyData.list | _ => none) = _; rw [hy]; show (pys ys).map _ = _; rw [e2]; rfl
  rw [a, b]
  show (if min (PyData.list p).depth (PyData.list q).depth ≤ 60 then _ else _) = _
  rw [if_pos (by simp only [PyData.depth]; omega)]
  simp only [PyData.eqv]
  rw [eqvs_deqs xs ys p q e1 e2]
theorem in_flat {h : Hs} {x : D} {xs : List D} (h1 : flt 50 x = true) (h2 : flts 50 xs = true) : inSeq h x xs = some (xs.any fun y => deq y x) := by
  obtain ⟨p, e1, q1⟩ := flt_py x 50 h1
  obtain ⟨ps, e2, q2⟩ := flts_py xs 50 h2
  unfold inSeq
  rw [pyH_flt h1, e1, e2]
  show (if p.depth ≤ 60 then _ else _) = _
  rw [if_pos (by omega)]
  congr 1
  clear h2 q2
  induction xs generalizing ps with
  | nil => unfold pys at e2; cases e2; rfl
  | cons y ys ih =>
    unfold pys at e2
    split at e2
    · rename_i q qs e3 e4
      cases e2
      rw [List.any_cons, List.any_cons, ih qs e4, eqv_deq y x q p e3 e1]
    · cases e2
mutual
/-- no truth value, no reference -/
def pur : D → Bool
  | .tup xs => purs xs
  | .ls xs => purs xs
  | .ref _ => false
  | .bl _ => false
  | _ => true
def purs : List D → Bool
  | [] => true
  | x :: xs => pur x && purs xs
end
mutual
theorem deq_iff : ∀ (d e : D), pur d = true → pur e = true → (deq d e = true ↔ d = e)
  | .non, e, _, h => by cases e <;> simp [deq]
  | .bl _, e, h, _ => by simp [pur] at h
  | .int i, e, _, h => by cases e <;> simp [deq] <;> simp [pur] at h
  | .str i, e, _, h => by cases e <;> simp [deq]
  | .tup xs, e, h1, h2 => by
    cases e <;> simp [deq]
    exact deqs_iff _ _ (by simpa [pur] using h1) (by simpa [pur] using h2)
  | .ls xs, e, h1, h2 => by
    cases e <;> simp [deq]
    exact deqs_iff _ _ (by simpa [pur] using h1) (by simpa [pur] using h2)
  | .ref _, e, h, _ => by simp [pur] at h
theorem deqs_iff : ∀ (d e : List D), purs d = true → purs e = true → (deqs d e = true ↔ d = e)
  | [], e, _, h => by cases e <;> simp [deqs]
  | d :: ds, e, h1, h2 => by
    cases e with
    | nil => simp [deqs]
    | cons e es =>
      unfold purs at h1 h2
      rw [Bool.and_eq_true] at h1 h2
      simp only [deqs, Bool.and_eq_true, List.cons.injEq]
      rw [deq_iff d e h1.1 h2.1, deqs_iff ds es h1.2 h2.2]
end
/-! ### the heap that stays -/
/-- what is not of S stands as before -/
def Fr (S : List Nat) (h h' : Hs) : Prop := h.length ≤ h'.length ∧ ∀ n c, n ∉ S → h[n]? = some c → h'[n]? = some c
theorem Fr.refl {S : List Nat} {h : Hs} : Fr S h h := ⟨Nat.le_refl _, fun _ _ _ e => e⟩
theorem Fr.trans {S : List Nat} {h h1 h2 : Hs} (a : Fr S h h1) (b : Fr S h1 h2) : Fr S h h2 := ⟨Nat.le_trans a.1 b.1, fun n c m e => b.2 n c m (a.2 n c m e)⟩
theorem Fr.app {S : List Nat} {h g : Hs} : Fr S h (h ++ g) := ⟨by simp, fun n c _ e => by rw [List.getElem?_append_left (List.getElem?_eq_some_iff.mp e).1]; exact e⟩
theorem Fr.push {S : List Nat} {h h1 g : Hs} (a : Fr S h h1) : Fr S h (h1 ++ g) := a.trans .app
theorem Fr.mono {S T : List Nat} {h h' : Hs} (a : Fr S h h') (s : ∀ n, n ∈ S → n ∈ T) : Fr T h h' := ⟨a.1, fun n c m e => a.2 n c (fun q => m (s n q)) e⟩
theorem Fr.up {T : List Nat} {h h' : Hs} (a : Fr [] h h') : Fr T h h' := a.mono fun _ q => (nomatch q)
theorem Fr.get {S : List Nat} {h h' : Hs} (a : Fr S h h') {n : Nat} {c : Cell} (e : h[n]? = some c) (m : n ∉ S := by simp) : h'[n]? = some c := a.2 n c m e
theorem Fr.set {S : List Nat} {h : Hs} {n : Nat} {c : Cell} (m : n ∈ S) : Fr S h (h.set n c) := ⟨by simp, fun k d q e => by
  rw [List.getElem?_set_ne (fun z => q (by rw [← z]; exact m))]; exact e⟩
theorem get_lt {h : Hs} {n : Nat} {c : Cell} (e : h[n]? = some c) : n < h.length := (List.getElem?_eq_some_iff.mp e).1
theorem get_new {h g : Hs} {c : Cell} : (h ++ c :: g)[h.length]? = some c := by simp
theorem get_new1 {h : Hs} {c : Cell} : (h ++ [c])[h.length]? = some c := by simp
theorem get_old {h g : Hs} {n : Nat} {c : Cell} (e : h[n]? = some c) : (h ++ g)[n]? = some c := by
  rw [List.getElem?_append_left (get_lt e)]; exact e
theorem get_set {h : Hs} {n : Nat} {c d : Cell} (e : h[n]? = some d) : (h.set n c)[n]? = some c := List.getElem?_set_self (get_lt e)
theorem get_setne {h : Hs} {n m : Nat} {c d : Cell} (e : h[n]? = some d) (q : m ≠ n) : (h.set m c)[n]? = some d := by
  rw [List.getElem?_set_ne q]; exact e
/-! M18: the leaves. -/
open PySem PySem.Spec PyProof.Rows L2
theorem bo_add : binOp .Add = addOp := id rfl
theorem bo_sub : binOp .Sub = subOp := id rfl
theorem bo_mul : binOp .Mult = mulOp := id rfl
theorem bo_fd : binOp .FloorDiv = fdivOp := id rfl
theorem bo_mod : binOp .Mod = modOp := id rfl
theorem bo_pow : binOp .Pow = powOp := id rfl
theorem ia_add : iaugOp .Add = iaddOp := id rfl
theorem ia_sub : iaugOp .Sub = subOp := id rfl
theorem inD_i (j : Int) : inD (.int j) = some j := id rfl
theorem add_i (h : Hs) (i j : Int) : addOp h (.int i) (.int j) = .ok (.int (i + j)) h := id rfl
theorem iadd_i (h : Hs) (i j : Int) : iaddOp h (.int i) (.int j) = .ok (.int (i + j)) h := id rfl
theorem add_s (h : Hs) (x y : List Nat) : addOp h (.str x) (.str y) = (if x.length + y.length ≤ lim then .ok (.str (x ++ y)) h else .bad) := id rfl
theorem iadd_s (h : Hs) (x y : List Nat) : iaddOp h (.str x) (.str y) = (if x.length + y.length ≤ lim then .ok (.str (x ++ y)) h else .bad) := id rfl
theorem add_t (h : Hs) (x y : List D) : addOp h (.tup x) (.tup y) = (if x.length + y.length ≤ lim then .ok (.tup (x ++ y)) h else .bad) := id rfl
def adC (h : Hs) : Option Cell → Option Cell → Res D
  | some (.lst xs), some (.lst ys) => if xs.length + ys.length ≤ lim then .ok (.ref h.length) (h ++ [.lst (xs ++ ys)]) else .bad
  | _, _ => .bad
theorem add_r (h : Hs) (a b : Nat) : addOp h (.ref a) (.ref b) = adC h h[a]? h[b]? := by
  unfold addOp adC
  dsimp only <;> (generalize h[a]? = x; generalize h[b]? = y; rcases x with _ | c <;> rcases y with _ | d <;> (try rfl) <;> (try (cases c <;> rfl)) <;> (try (cases c <;> cases d <;> rfl)))
theorem adC_s (h : Hs) (xs ys : List D) : adC h (some (.lst xs)) (some (.lst ys)) = (if xs.length + ys.length ≤ lim then .ok (.ref h.length) (h ++ [.lst (xs ++ ys)]) else .bad) := id rfl
theorem sub_i (h : Hs) (i j : Int) : subOp h (.int i) (.int j) = .ok (.int (i - j)) h := id rfl
theorem mul_i (h : Hs) (i j : Int) : mulOp h (.int i) (.int j) = (if mulOk i j then .ok (.int (i * j)) h else .bad) := id rfl
theorem fd_i (h : Hs) (i j : Int) : fdivOp h (.int i) (.int j) = (if 0 < j ∧ j < 1073741824 then .ok (.int (i / j)) h else .bad) := id rfl
theorem mod_i (h : Hs) (i j : Int) : modOp h (.int i) (.int j) = (if 0 < j then .ok (.int (i % j)) h else .bad) := id rfl
theorem pow_i (h : Hs) (i j : Int) : powOp h (.int i) (.int j) = (if 0 ≤ j ∧ j ≤ 1000 ∧ i.natAbs < 18446744073709551616 then .ok (.int (i ^ j.toNat)) h else .bad) := id rfl
theorem neg_i (h : Hs) (i : Int) : negD h (.int i) = .ok (.int (-i)) h := id rfl
theorem co_eq (h : Hs) (d e : D) : cmpOp .Eq h d e = eqOp h d e := id rfl
theorem co_ne (h : Hs) (d e : D) : cmpOp .NotEq h d e = (eqOp h d e).map not := id rfl
theorem co_in (h : Hs) (d e : D) : cmpOp .In h d e = inOp h d e := id rfl
theorem co_ni (h : Hs) (d e : D) : cmpOp .NotIn h d e = (inOp h d e).map not := id rfl
theorem co_is (h : Hs) (d e : D) : cmpOp .Is h d e = isOp d e := id rfl
theorem co_isn (h : Hs) (d e : D) : cmpOp .IsNot h d e = (isOp d e).map not := id rfl
theorem oi_Lt (h : Hs) (i j : Int) : cmpOp .Lt h (.int i) (.int j) = some (decide (i < j)) := id rfl
theorem os_Lt (h : Hs) (x y : List Nat) : cmpOp .Lt h (.str x) (.str y) = some (decide (x < y)) := id rfl
theorem oi_LtE (h : Hs) (i j : Int) : cmpOp .LtE h (.int i) (.int j) = some (decide (i ≤ j)) := id rfl
theorem os_LtE (h : Hs) (x y : List Nat) : cmpOp .LtE h (.str x) (.str y) = some (!decide (y < x)) := id rfl
theorem oi_Gt (h : Hs) (i j : Int) : cmpOp .Gt h (.int i) (.int j) = some (decide (j < i)) := id rfl
theorem os_Gt (h : Hs) (x y : List Nat) : cmpOp .Gt h (.str x) (.str y) = some (decide (y < x)) := id rfl
theorem oi_GtE (h : Hs) (i j : Int) : cmpOp .GtE h (.int i) (.int j) = some (decide (j ≤ i)) := id rfl
theorem os_GtE (h : Hs) (x y : List Nat) : cmpOp .GtE h (.str x) (.str y) = some (!decide (x < y)) := id rfl
theorem is_non_non : isOp .non .non = some true := id rfl
theorem is_non_bl (a : Bool) : isOp (.bl a) .non = some false := id rfl
theorem is_non_int (a : Int) : isOp (.int a) .non = some false := id rfl
theorem is_non_str (a : List Nat) : isOp (.str a) .non = some false := id rfl
theorem is_non_tup (a : List D) : isOp (.tup a) .non = some false := id rfl
theorem is_non_ls (a : List D) : isOp (.ls a) .non = some false := id rfl
theorem is_non_ref (a : Nat) : isOp (.ref a) .non = some false := id rfl
theorem is_bl_non (b : Bool) : isOp .non (.bl b) = some false := id rfl
theorem is_bl_bl (a : Bool) (b : Bool) : isOp (.bl a) (.bl b) = some (a == b) := id rfl
theorem is_bl_int (a : Int) (b : Bool) : isOp (.int a) (.bl b) = some false := id rfl
theorem is_bl_str (a : List Nat) (b : Bool) : isOp (.str a) (.bl b) = some false := id rfl
theorem is_bl_tup (a : List D) (b : Bool) : isOp (.tup a) (.bl b) = some false := id rfl
theorem is_bl_ls (a : List D) (b : Bool) : isOp (.ls a) (.bl b) = some false := id rfl
theorem is_bl_ref (a : Nat) (b : Bool) : isOp (.ref a) (.bl b) = some false := id rfl
def trC : Option Cell → Option Bool
  | some (.lst xs) => some (!xs.isEmpty)
  | _ => none
def sqC : Option Cell → Option (List D)
  | some (.lst xs) => some xs
  | _ => none
def dcC : Option Cell → Option (Bool × List (D × D))
  | some (.dic t _ kvs) => some (t, kvs)
  | _ => none
def daC (n : Nat) : Option Cell → Option (Nat × Bool × List (D × D))
  | some (.dic t false kvs) => some (n, t, kvs)
  | _ => none
def srC (n : Nat) : Option Cell → Option Src
  | some (.lst _) => some (celSrc n)
  | _ => none
def laC (n : Nat) : Option Cell → Option (Nat × List D)
  | some (.lst xs) => some (n, xs)
  | _ => none
def tyC : Option Cell → Option String
  | some (.lst _) => some "list"
  | some (.dic _ false _) => some "dict"
  | _ => none
def rvC (n : Nat) : Option Cell → Option Src
  | some (.lst xs) => some (revCel n xs.length)
  | _ => none
theorem trC_l (xs : List D) : trC (some (.lst xs)) = some (!xs.isEmpty) := id rfl
theorem sqC_l (xs : List D) : sqC (some (.lst xs)) = some xs := id rfl
theorem sqC_d (t lk : Bool) (kvs : List (D × D)) : sqC (some (.dic t lk kvs)) = none := id rfl
theorem dcC_l (xs : List D) : dcC (some (.lst xs)) = none := id rfl
theorem dcC_d (t lk : Bool) (kvs : List (D × D)) : dcC (some (.dic t lk kvs)) = some (t, kvs) := id rfl
theorem daC_l (n : Nat) (xs : List D) : daC n (some (.lst xs)) = none := id rfl
theorem daC_d (n : Nat) (t : Bool) (kvs : List (D × D)) : daC n (some (.dic t false kvs)) = some (n, t, kvs) := id rfl
theorem srC_l (n : Nat) (xs : List D) : srC n (some (.lst xs)) = some (celSrc n) := id rfl
theorem laC_l (n : Nat) (xs : List D) : laC n (some (.lst xs)) = some (n, xs) := id rfl
theorem tyC_l (xs : List D) : tyC (some (.lst xs)) = some "list" := id rfl
theorem tyC_d (t : Bool) (kvs : List (D × D)) : tyC (some (.dic t false kvs)) = some "dict" := id rfl
theorem rvC_l (n : Nat) (xs : List D) : rvC n (some (.lst xs)) = some (revCel n xs.length) := id rfl
theorem tr_non (h : Hs) : truth h .non = some false := id rfl
theorem tr_bl (h : Hs) (b : Bool) : truth h (.bl b) = some b := id rfl
theorem tr_int (h : Hs) (i : Int) : truth h (.int i) = some (i != 0) := id rfl
theorem tr_str (h : Hs) (x : List Nat) : truth h (.str x) = some (!x.isEmpty) := id rfl
theorem tr_tup (h : Hs) (x : List D) : truth h (.tup x) = some (!x.isEmpty) := id rfl
theorem tr_ref (h : Hs) (n : Nat) : truth h (.ref n) = trC h[n]? := id rfl
theorem tr_ls (h : Hs) (x : List D) : truth h (.ls x) = some (!x.isEmpty) := id rfl
theorem sq_tup (h : Hs) (x : List D) : seqH h (.tup x) = some x := id rfl
theorem sq_ls (h : Hs) (x : List D) : seqH h (.ls x) = some x := id rfl
theorem sq_ref (h : Hs) (n : Nat) : seqH h (.ref n) = sqC h[n]? := id rfl
theorem dr_ref (h : Hs) (n : Nat) : dicRd h (.ref n) = dcC h[n]? := id rfl
theorem da_ref (h : Hs) (n : Nat) : dicAt h (.ref n) = daC n h[n]? := id rfl
theorem sr_tup (h : Hs) (x : List D) : srcOf h (.tup x) = some (seqSrc x) := id rfl
theorem sr_ls (h : Hs) (x : List D) : srcOf h (.ls x) = some (seqSrc x) := id rfl
theorem sr_str (h : Hs) (x : List Nat) : srcOf h (.str x) = some (seqSrc (x.map fun c => .str [c])) := id rfl
theorem sr_ref (h : Hs) (n : Nat) : srcOf h (.ref n) = srC n h[n]? := id rfl
theorem sl_ls (h : Hs) (x : List D) : srcL h (.ls x) = some (seqSrc x) := id rfl
theorem sl_ref (h : Hs) (n : Nat) : srcL h (.ref n) = srC n h[n]? := id rfl
theorem rv_tup (h : Hs) (x : List D) : revOf h (.tup x) = some (seqSrc x.reverse) := id rfl
theorem rv_ref (h : Hs) (n : Nat) : revOf h (.ref n) = rvC n h[n]? := id rfl
theorem la_ref (h : Hs) (n : Nat) : lstAt h (.ref n) = laC n h[n]? := id rfl
theorem it_non (T : String) (h : Hs) : isiT T h .non = kitB "NoneType" T := id rfl
theorem it_bl (T : String) (h : Hs) (a : Bool) : isiT T h (.bl a) = kitB "bool" T := id rfl
theorem it_int (T : String) (h : Hs) (a : Int) : isiT T h (.int a) = kitB "int" T := id rfl
theorem it_str (T : String) (h : Hs) (a : List Nat) : isiT T h (.str a) = kitB "str" T := id rfl
theorem it_tup (T : String) (h : Hs) (a : List D) : isiT T h (.tup a) = kitB "tuple" T := id rfl
theorem it_ls (T : String) (h : Hs) (a : List D) : isiT T h (.ls a) = kitB "list" T := id rfl
theorem it_ref (T : String) (h : Hs) (a : Nat) : isiT T h (.ref a) = (tyC h[a]?).bind (fun t => kitB t T) := id rfl
theorem ix_tup (h : Hs) (x : List D) (i : Int) : ixOp h (.tup x) (.int i) = Res.of (atI x i) h := id rfl
theorem ix_ls (h : Hs) (x : List D) (i : Int) : ixOp h (.ls x) (.int i) = Res.of (atI x i) h := id rfl
theorem ix_str (h : Hs) (x : List Nat) (i : Int) : ixOp h (.str x) (.int i) = Res.of ((atI x i).map fun c => .str [c]) h := id rfl
def ixC (h : Hs) (e : D) : Option Cell → Res D
  | some (.lst xs) => (match e with | .int i => Res.of (atI xs i) h | _ => .bad)
  | some (.dic t _ kvs) => if kOk t e = true then Res.of (dfind kvs e) h else .bad
  | _ => .bad
theorem ix_ref (h : Hs) (n : Nat) (e : D) : ixOp h (.ref n) e = ixC h e h[n]? := by
  unfold ixOp ixC ixSq
  simp only [dr_ref]
  cases q : h[n]? with
  | none => cases e <;> simp [dcC, seqH, q]
  | some c => cases c <;> cases e <;> simp [dcC, seqH, q]
theorem ixC_l (h : Hs) (i : Int) (xs : List D) : ixC h (.int i) (some (.lst xs)) = Res.of (atI xs i) h := id rfl
theorem ixC_d (h : Hs) (e : D) (t lk : Bool) (kvs : List (D × D)) : ixC h e (some (.dic t lk kvs)) = (if kOk t e = true then Res.of (dfind kvs e) h else .bad) := id rfl
theorem atN {α : Type} (xs : List α) (n : Nat) : atI xs (n : Int) = xs[n]? := by
  unfold atI ixN
  rw [if_pos (Int.natCast_nonneg n)]
  by_cases c : ((n : Int) < (xs.length : Int))
  · rw [if_pos c]; simp
  · rw [if_neg c]; exact (List.getElem?_eq_none (by omega)).symm
theorem at0 {α : Type} (xs : List α) : atI xs 0 = xs[0]? := atN xs 0
theorem at1 {α : Type} (xs : List α) : atI xs 1 = xs[1]? := atN xs 1
theorem at2 {α : Type} (xs : List α) : atI xs 2 = xs[2]? := atN xs 2
theorem at3 {α : Type} (xs : List α) : atI xs 3 = xs[3]? := atN xs 3
theorem at4 {α : Type} (xs : List α) : atI xs 4 = xs[4]? := atN xs 4
theorem at5 {α : Type} (xs : List α) : atI xs 5 = xs[5]? := atN xs 5
theorem at6 {α : Type} (xs : List α) : atI xs 6 = xs[6]? := atN xs 6
theorem at7 {α : Type} (xs : List α) : atI xs 7 = xs[7]? := atN xs 7
theorem at8 {α : Type} (xs : List α) : atI xs 8 = xs[8]? := atN xs 8
theorem at9 {α : Type} (xs : List α) : atI xs 9 = xs[9]? := atN xs 9
theorem at10 {α : Type} (xs : List α) : atI xs 10 = xs[10]? := atN xs 10
theorem at11 {α : Type} (xs : List α) : atI xs 11 = xs[11]? := atN xs 11
theorem at12 {α : Type} (xs : List α) : atI xs 12 = xs[12]? := atN xs 12
theorem at13 {α : Type} (xs : List α) : atI xs 13 = xs[13]? := atN xs 13
theorem at14 {α : Type} (xs : List α) : atI xs 14 = xs[14]? := atN xs 14
theorem atm1 {α : Type} (xs : List α) : atI xs (-1) = if xs.length < 1 then none else xs[xs.length - 1]? := by
  unfold atI ixN
  by_cases c : xs.length < 1
  · rw [if_neg (by omega), if_neg (by omega), if_pos c]; rfl
  · rw [if_neg (by omega), if_pos (by omega), if_neg c]
    show xs[(-1 + (xs.length : Int)).toNat]? = _
    congr 1; omega
theorem atm2 {α : Type} (xs : List α) : atI xs (-2) = if xs.length < 2 then none else xs[xs.length - 2]? := by
  unfold atI ixN
  by_cases c : xs.length < 2
  · rw [if_neg (by omega), if_neg (by omega), if_pos c]; rfl
  · rw [if_neg (by omega), if_pos (by omega), if_neg c]
    show xs[(-2 + (xs.length : Int)).toNat]? = _
    congr 1; omega
theorem on1_ (g : Hs → D → Res D) (h : Hs) (d : D) : on1 g h [d] = g h d := id rfl
theorem on2_ (g : Hs → D → D → Res D) (h : Hs) (d e : D) : on2 g h [d, e] = g h d e := id rfl
theorem len_str (h : Hs) (x : List Nat) : len1 h (.str x) = .ok (.int x.length) h := id rfl
theorem len_tup (h : Hs) (x : List D) : len1 h (.tup x) = .ok (.int x.length) h := id rfl
theorem len_ls (h : Hs) (x : List D) : len1 h (.ls x) = .ok (.int x.length) h := id rfl
def lnC (h : Hs) : Option Cell → Res D
  | some (.lst xs) => .ok (.int xs.length) h
  | some (.dic false _ kvs) => .ok (.int kvs.length) h
  | _ => .bad
theorem len_ref (h : Hs) (n : Nat) : len1 h (.ref n) = lnC h h[n]? := by
  unfold len1 lenD lnC
  simp only [sq_ref, dr_ref]
  cases q : h[n]? with
  | none => simp [sqC, dcC]
  | some c =>
    cases c with
    | lst xs => simp [sqC]
    | dic t lk kvs => cases t <;> simp [sqC, dcC]
    | ins => simp [sqC, dcC]
theorem lnC_l (h : Hs) (xs : List D) : lnC h (some (.lst xs)) = .ok (.int xs.length) h := id rfl
theorem lnC_d (h : Hs) (lk : Bool) (kvs : List (D × D)) : lnC h (some (.dic false lk kvs)) = .ok (.int kvs.length) h := id rfl
theorem int_i (h : Hs) (i : Int) : int1 h (.int i) = .ok (.int i) h := id rfl
theorem int_b (h : Hs) (b : Bool) : int1 h (.bl b) = .ok (.int (if b then 1 else 0)) h := id rfl
theorem int_s (h : Hs) (x : List Nat) : int1 h (.str x) = (if x.length ≤ 640 then Res.of ((PySem.intText? ⟨x.toArray⟩).map .int) h else .bad) := id rfl
theorem str_i (h : Hs) (i : Int) : str1 h (.int i) = (if i.natAbs.log2 < 1920 then .ok (.str (cs (toString i))) h else .bad) := id rfl
theorem str_s (h : Hs) (x : List Nat) : str1 h (.str x) = .ok (.str x) h := id rfl
theorem bool_i (h : Hs) (i : Int) : bool1 h (.int i) = .ok (.bl (i != 0)) h := id rfl
theorem bool_b (h : Hs) (b : Bool) : bool1 h (.bl b) = .ok (.bl b) h := id rfl
theorem abs_i (h : Hs) (i : Int) : abs1 h (.int i) = .ok (.int (if i < 0 then -i else i)) h := id rfl
theorem max_i (h : Hs) (i j : Int) : max2 h (.int i) (.int j) = .ok (.int (if j > i then j else i)) h := id rfl
theorem min_i (h : Hs) (i j : Int) : min2 h (.int i) (.int j) = .ok (.int (if j < i then j else i)) h := id rfl
def ofL (h : Hs) (f : List D → Res D) : Option (List D) → Res D
  | some xs => f xs
  | none => .bad
theorem ofL_s (h : Hs) (f : List D → Res D) (xs : List D) : ofL h f (some xs) = f xs := id rfl
theorem lst1 (h : Hs) (d : D) : list1 h d = ofL h (fun xs => .ok (.ref h.length) (h ++ [.lst xs])) (seqH h d) := id rfl
theorem tpl1 (h : Hs) (d : D) : tuple1 h d = ofL h (fun xs => .ok (.tup xs) h) (seqH h d) := id rfl
theorem all_r (h : Hs) (n : Nat) : all1 h (.ref n) = ofL h (fun xs => Res.of ((blsD xs).map fun bs => .bl (bs.all id)) h) (seqH h (.ref n)) := id rfl
theorem any_r (h : Hs) (n : Nat) : any1 h (.ref n) = ofL h (fun xs => Res.of ((blsD xs).map fun bs => .bl (bs.any id)) h) (seqH h (.ref n)) := id rfl
theorem sum_r (h : Hs) (n : Nat) : sum1 h (.ref n) = ofL h (fun xs => Res.of ((intsD xs).map fun bs => .int bs.sum) h) (seqH h (.ref n)) := id rfl
theorem sl_str (h : Hs) (x : List Nat) (lo hi : Option Int) : slOp h (.str x) lo hi = .ok (.str (cutD x lo hi)) h := id rfl
theorem sl_tup (h : Hs) (x : List D) (lo hi : Option Int) : slOp h (.tup x) lo hi = .ok (.tup (cutD x lo hi)) h := id rfl
theorem slo_ref (h : Hs) (n : Nat) (lo hi : Option Int) : slOp h (.ref n) lo hi = ofL h (fun xs => .ok (.ref h.length) (h ++ [.lst (cutD xs lo hi)])) (seqH h (.ref n)) := id rfl
theorem slo_ls (h : Hs) (x : List D) (lo hi : Option Int) : slOp h (.ls x) lo hi = .ok (.ref h.length) (h ++ [.lst (cutD x lo hi)]) := id rfl
theorem ty_l (h : Hs) (n : Nat) : isL h (.ref n) = (laC n h[n]?).isSome := id rfl
theorem ty_s (h : Hs) (x : List Nat) : isS h (.str x) = true := id rfl
theorem ty_d (h : Hs) (n : Nat) : isDc h (.ref n) = (daC n h[n]?).isSome := id rfl
theorem ty_appM : appM.ty = isL := id rfl
theorem ty_popM : popM.ty = isL := id rfl
theorem ty_revM : revM.ty = isL := id rfl
theorem ty_extM : extM.ty = isL := id rfl
theorem ty_joinM : joinM.ty = isS := id rfl
theorem ty_splitM : splitM.ty = isS := id rfl
theorem ty_getM : getM.ty = isDc := id rfl
theorem ty_insM : insM.ty = isL := id rfl
def lmC (h : Hs) (f : List D → List D → Option (List D × D)) (ds : List D) : Option (Nat × List D) → Res D
  | some (n, xs) => (match f xs ds with | some (ys, r) => .ok r (h.set n (.lst ys)) | none => .bad)
  | none => .bad
def apC (h : Hs) (y : D) : Option (Nat × List D) → Res D
  | some (n, xs) => (match (if xs.length < lim then some (xs ++ [y], D.non) else none) with | some (ys, r) => .ok r (h.set n (.lst ys)) | none => .bad)
  | none => .bad
theorem go_app (h : Hs) (n : Nat) (y : D) : appM.go h (.ref n) [y] = apC h y (laC n h[n]?) := id rfl
theorem apC_s (h : Hs) (y : D) (n : Nat) (xs : List D) : apC h y (some (n, xs)) = if xs.length < lim then .ok .non (h.set n (.lst (xs ++ [y]))) else .bad := by
  unfold apC
  by_cases c : xs.length < lim <;> simp [c]
def exC (h : Hs) : Option (Nat × List D) → Option (Nat × List D) → Res D
  | some (n, xs), some (_, ys) => if xs.length + ys.length ≤ lim then .ok .non (h.set n (.lst (xs ++ ys))) else .bad
  | _, _ => .bad
theorem go_ext (h : Hs) (n m : Nat) : extM.go h (.ref n) [.ref m] = exC h (laC n h[n]?) (laC m h[m]?) := by
  show extGo h (.ref n) [.ref m] = _
  unfold extGo exC
  simp only [la_ref]
  cases laC n h[n]? <;> cases laC m h[m]? <;> rfl
theorem exC_s (h : Hs) (n m : Nat) (xs ys : List D) : exC h (some (n, xs)) (some (m, ys)) = (if xs.length + ys.length ≤ lim then .ok .non (h.set n (.lst (xs ++ ys))) else .bad) := id rfl
def rvM (h : Hs) : Option (Nat × List D) → Res D
  | some (n, xs) => .ok .non (h.set n (.lst xs.reverse))
  | none => .bad
theorem go_rev (h : Hs) (n : Nat) : revM.go h (.ref n) [] = rvM h (laC n h[n]?) := id rfl
theorem rvM_s (h : Hs) (n : Nat) (xs : List D) : rvM h (some (n, xs)) = .ok .non (h.set n (.lst xs.reverse)) := id rfl
def gtC (h : Hs) (e z : D) : Option (Bool × List (D × D)) → Res D
  | some (t, kvs) => if kOk t e = true then .ok ((dfind kvs e).getD z) h else .bad
  | none => .bad
theorem go_get1 (h : Hs) (n : Nat) (e : D) : getM.go h (.ref n) [e] = gtC h e .non (dcC h[n]?) := id rfl
theorem go_get2 (h : Hs) (n : Nat) (e z : D) : getM.go h (.ref n) [e, z] = gtC h e z (dcC h[n]?) := id rfl
theorem gtC_s (h : Hs) (e z : D) (t : Bool) (kvs : List (D × D)) : gtC h e z (some (t, kvs)) = (if kOk t e = true then .ok ((dfind kvs e).getD z) h else .bad) := id rfl
def jnC (h : Hs) (a : List Nat) : Option (List (List Nat)) → Res D
  | some ys => if (ys.map (·.length)).sum + ys.length * a.length ≤ lim then .ok (.str (TL.joinL a ys)) h else .bad
  | none => .bad
theorem go_join (h : Hs) (a : List Nat) (e : D) : joinM.go h (.str a) [e] = jnC h a ((seqH h e).bind strsD) := id rfl
theorem jnC_s (h : Hs) (a : List Nat) (ys : List (List Nat)) : jnC h a (some ys) = (if (ys.map (·.length)).sum + ys.length * a.length ≤ lim then .ok (.str (TL.joinL a ys)) h else .bad) := id rfl
theorem go_split (h : Hs) (a b : List Nat) : splitM.go h (.str a) [.str b] = (if a.length + 2 ≤ lim ∧ b ≠ [] ∧ b.all (· < 256) = true then .ok (.ref h.length) (h ++ [.lst ((TL.spl b 0 [] a).map .str)]) else .bad) := id rfl
def inC (h : Hs) (i : Int) (z : D) : Option (Nat × List D) → Res D
  | some (n, xs) => if 0 ≤ i ∧ i < 2 ^ 63 ∧ xs.length < lim then .ok .non (h.set n (.lst (xs.take i.toNat ++ [z] ++ xs.drop i.toNat))) else .bad
  | none => .bad
theorem go_ins (h : Hs) (n : Nat) (i : Int) (z : D) : insM.go h (.ref n) [.int i, z] = inC h i z (laC n h[n]?) := id rfl
theorem inC_s (h : Hs) (i : Int) (z : D) (n : Nat) (xs : List D) : inC h i z (some (n, xs)) = (if 0 ≤ i ∧ i < 2 ^ 63 ∧ xs.length < lim then .ok .non (h.set n (.lst (xs.take i.toNat ++ [z] ++ xs.drop i.toNat))) else .bad) := id rfl
def ppC (h : Hs) : Option (Nat × List D) → Res D
  | some (n, xs) => (match (match xs[xs.length - 1]? with | some y => some (xs.dropLast, y) | none => none) with | some (ys, r) => .ok r (h.set n (.lst ys)) | none => .bad)
  | none => .bad
theorem go_pop (h : Hs) (n : Nat) : popM.go h (.ref n) [] = ppC h (laC n h[n]?) := id rfl
def stC (h : Hs) (i d : D) (n : Nat) : Option Cell → Option Hs
  | some (.dic t false kvs) => if kOk t i = true ∧ kvs.length < lim then some (h.set n (.dic t false (dput kvs i d))) else none
  | some (.lst xs) => (match i with | .int j => (ixN xs.length j).map fun m => h.set n (.lst (xs.set m d)) | _ => none)
  | _ => none
theorem so_ref (h : Hs) (n : Nat) (i d : D) : setOp h (.ref n) i d = stC h i d n h[n]? := by
  unfold setOp stC setL
  simp only [da_ref]
  cases q : h[n]? with
  | none => cases i <;> simp [daC, q]
  | some c =>
    cases c with
    | lst xs => cases i <;> simp [daC, q]
    | dic t lk kvs => cases lk <;> cases i <;> simp [daC, q]
    | ins => cases i <;> simp [daC, q]
theorem stC_d (h : Hs) (i d : D) (n : Nat) (t : Bool) (kvs : List (D × D)) : stC h i d n (some (.dic t false kvs)) = (if kOk t i = true ∧ kvs.length < lim then some (h.set n (.dic t false (dput kvs i d))) else none) := id rfl
theorem stC_l (h : Hs) (j : Int) (d : D) (n : Nat) (xs : List D) : stC h (.int j) d n (some (.lst xs)) = (ixN xs.length j).map (fun m => h.set n (.lst (xs.set m d))) := id rfl
def goC (h : Hs) (e : D) : Option Cell → Res D
  | some (.dic t _ kvs) => if kOk t e = true then Res.of (dfind kvs e) h else .bad
  | some (.lst xs) => (match e with | .int i => Res.of (atI xs i) h | _ => .bad)
  | _ => .bad
theorem go_dic (h : Hs) (n : Nat) (e : D) : getOp h (.ref n) e = goC h e h[n]? := by
  unfold getOp goC getL
  simp only [dr_ref, la_ref]
  cases q : h[n]? with
  | none => cases e <;> simp [dcC, laC]
  | some c => cases c <;> cases e <;> simp [dcC, laC]
theorem goC_d (h : Hs) (e : D) (t lk : Bool) (kvs : List (D × D)) : goC h e (some (.dic t lk kvs)) = (if kOk t e = true then Res.of (dfind kvs e) h else .bad) := id rfl
theorem goC_l (h : Hs) (i : Int) (xs : List D) : goC h (.int i) (some (.lst xs)) = Res.of (atI xs i) h := id rfl
theorem in_str1 (h : Hs) (a : Nat) (t : List Nat) : inOp h (.str [a]) (.str t) = some (decide (a ∈ t)) := id rfl
theorem in_tup (h : Hs) (d : D) (x : List D) : inOp h d (.tup x) = inSeq h d x := id rfl
theorem in_ls (h : Hs) (d : D) (x : List D) : inOp h d (.ls x) = inSeq h d x := id rfl
def ioC (h : Hs) (d : D) : Option Cell → Option Bool
  | some (.lst xs) => inSeq h d xs
  | some (.dic t _ kvs) => if kOk t d = true then some (dfind kvs d).isSome else none
  | _ => none
theorem in_ref (h : Hs) (d : D) (n : Nat) : inOp h d (.ref n) = ioC h d h[n]? := by
  unfold inOp ioC
  simp only [sq_ref, dr_ref]
  cases q : h[n]? with
  | none => simp [sqC, dcC]
  | some c => cases c <;> simp [sqC, dcC]
theorem ioC_l (h : Hs) (d : D) (xs : List D) : ioC h d (some (.lst xs)) = inSeq h d xs := id rfl
theorem ioC_d (h : Hs) (d : D) (t lk : Bool) (kvs : List (D × D)) : ioC h d (some (.dic t lk kvs)) = (if kOk t d = true then some (dfind kvs d).isSome else none) := id rfl
theorem kOk_s (x : List Nat) : kOk false (.str x) = true := id rfl
theorem kOk_i (x : Int) : kOk false (.int x) = true := id rfl
theorem kOk_t (xs : List D) : kOk true (.tup xs) = xs.all k1 := id rfl
theorem k1_s (x : List Nat) : k1 (.str x) = true := id rfl
theorem k1_i (x : Int) : k1 (.int x) = true := id rfl
theorem r1 (j : Int) : rng1Of [.int j] = (if small j = true then some (rngSrc 0 1 j.toNat) else none) := id rfl
theorem r2 (i j : Int) : rng2Of [.int i, .int j] = (if small i = true ∧ small j = true then some (rngSrc i 1 (j - i).toNat) else none) := id rfl
theorem eq_ss (h : Hs) (x y : List Nat) : eqOp h (.str x) (.str y) = some (decide (x = y)) := by
  rw [eq_flat rfl rfl]; simp [deq]
theorem eq_ii (h : Hs) (x y : Int) : eqOp h (.int x) (.int y) = some (decide (x = y)) := by
  rw [eq_flat rfl rfl]; simp [deq]
theorem eq_nbl (h : Hs) (a : Bool) : eqOp h .non (.bl a) = some false := by
  rw [eq_flat rfl rfl]; simp [deq]
theorem eq_bln (h : Hs) (a : Bool) : eqOp h (.bl a) .non = some false := by
  rw [eq_flat rfl rfl]; simp [deq]
theorem eq_nint (h : Hs) (a : Int) : eqOp h .non (.int a) = some false := by
  rw [eq_flat rfl rfl]; simp [deq]
theorem eq_intn (h : Hs) (a : Int) : eqOp h (.int a) .non = some false := by
  rw [eq_flat rfl rfl]; simp [deq]
theorem eq_nstr (h : Hs) (a : List Nat) : eqOp h .non (.str a) = some false := by
  rw [eq_flat rfl rfl]; simp [deq]
theorem eq_strn (h : Hs) (a : List Nat) : eqOp h (.str a) .non = some false := by
  rw [eq_flat rfl rfl]; simp [deq]
theorem eq_nn (h : Hs) : eqOp h .non .non = some true := by
  rw [eq_flat rfl rfl]; simp [deq]
theorem eq_is (h : Hs) (x : Int) (y : List Nat) : eqOp h (.int x) (.str y) = some false := by
  rw [eq_flat rfl rfl]; simp [deq]
theorem eq_si (h : Hs) (x : Int) (y : List Nat) : eqOp h (.str y) (.int x) = some false := by
  rw [eq_flat rfl rfl]; simp [deq]
theorem go_some {α : Type} {β : Type} (a : α) (f : α → Option β) : (some a).bind f = f a := id rfl
end M

namespace PH
open PySem PySem.Spec PyProof.Rows L2 M
/-- relaxed(dist, into, arcs): slots ['dist', 'into', 'arcs', 'fallen', 'arc', 'begin', 'end', 'length', '_'] -/
noncomputable def s_relaxed : Sf :=
  seqF (asgF (kE .non) (asgT (.nm 3))) (
  seqF (forF (vS (vE 2)) (.nm 4) (
    seqF (asgF (vE 4) (asgT (.tp [.nm 5, .nm 6, .nm 7, .nm 8]))) (
    ifF (andE (bE (vE 5) (vE 0) (cmpR .In)) (orE (bE (vE 6) (vE 0) (cmpR .NotIn)) (bE (bE (bE (vE 0) (vE 5) ixOp) (vE 7) (binOp .Add)) (bE (vE 0) (vE 6) ixOp) (cmpR .Lt)))) (seqF (asgF (bE (bE (vE 0) (vE 5) ixOp) (vE 7) (binOp .Add)) (gS (vE 0) (vE 6))) (
      seqF (asgF (vE 4) (gS (vE 1) (vE 6))) (
      asgF (vE 6) (asgT (.nm 3))))) (nextF))) (nextF)) (
  retF (vE 3)))
noncomputable def fn_relaxed : Fn := defn 3 9 s_relaxed
/-- ring_behind(into, node, many): slots ['into', 'node', 'many', '_', 'ring'] -/
noncomputable def s_ring_behind : Sf :=
  seqF (forF (rS (aCons (vE 2) aNil) rng1Of) (.nm 3) (
    asgF (bE (bE (vE 0) (vE 1) ixOp) (kE (.int 0)) ixOp) (asgT (.nm 1))) (nextF)) (
  seqF (asgF (lstE (aCons (bE (vE 0) (vE 1) ixOp) aNil)) (asgT (.nm 4))) (
  seqF (whF (bE (bE (bE (vE 4) (uE (kE (.int 1)) negD) ixOp) (kE (.int 0)) ixOp) (vE 1) (cmpR .NotEq)) (
    dropF (mE (vE 4) (aCons (bE (vE 0) (bE (bE (vE 4) (uE (kE (.int 1)) negD) ixOp) (kE (.int 0)) ixOp) ixOp) aNil) appM)) (nextF)) (
  seqF (dropF (mE (vE 4) aNil revM)) (
  retF (vE 4)))))
noncomputable def fn_ring_behind : Fn := defn 3 5 s_ring_behind
/-- distances(nodes, arcs, starts): slots ['nodes', 'arcs', 'starts', 'dist', 'into', 'fallen', '_', 'node'] -/
noncomputable def s_distances : Sf :=
  seqF (asgF (dcE (vS (vE 2)) (.nm 7) none (vE 7) (kE (.int 0)) [7]) (asgT (.nm 3))) (
  seqF (asgF (newD false) (asgT (.nm 4))) (
  seqF (asgF (kE .non) (asgT (.nm 5))) (
  seqF (forF (vS (vE 0)) (.nm 6) (
    seqF (asgF (fE (aCons (vE 3) (aCons (vE 4) (aCons (vE 1) aNil))) PH.fn_relaxed) (asgT (.nm 5))) (
    ifF (bE (vE 5) (kE .non) (cmpR .Is)) (retF (tupE (aCons (vE 3) (aCons (vE 4) (aCons (kE .non) aNil))))) (nextF))) (nextF)) (
  retF (tupE (aCons (vE 3) (aCons (vE 4) (aCons (fE (aCons (vE 4) (aCons (vE 5) (aCons (cE (aCons (vE 0) aNil) (on1 len1)) aNil))) PH.fn_ring_behind) aNil))))))))
noncomputable def fn_distances : Fn := defn 3 8 s_distances
/-- nodes_of(plan): slots ['plan'] -/
noncomputable def s_nodes_of : Sf :=
  retF (tupE (aCons (kE (.str (cs "zero"))) (aStar (bE (vE 0) (kE (.int 1)) ixOp) aNil)))
noncomputable def fn_nodes_of : Fn := defn 1 1 s_nodes_of
/-- steps_of(plan): slots ['plan', 'rows', '_', 'name', 'a', 'b', 'least', 'most'] -/
noncomputable def s_steps_of : Sf :=
  seqF (asgF (lstE aNil) (asgT (.nm 1))) (
  seqF (forF (vS (bE (vE 0) (kE (.int 2)) ixOp)) (.tp [.nm 2, .nm 3, .nm 4, .nm 5, .nm 6, .nm 7]) (
    seqF (ifF (bE (vE 6) (kE .non) (cmpR .IsNot)) (dropF (mE (vE 1) (aCons (tupE (aCons (vE 3) (aCons (kE (.str (cs "least"))) (aCons (vE 5) (aCons (vE 4) (aCons (bE (kE (.int 0)) (vE 6) (binOp .Sub)) aNil)))))) aNil) appM)) (nextF)) (
    ifF (bE (vE 7) (kE .non) (cmpR .IsNot)) (dropF (mE (vE 1) (aCons (tupE (aCons (vE 3) (aCons (kE (.str (cs "most"))) (aCons (vE 4) (aCons (vE 5) (aCons (vE 7) aNil)))))) aNil) appM)) (nextF))) (nextF)) (
  retF (cE (aCons (vE 1) aNil) (on1 tuple1))))
noncomputable def fn_steps_of : Fn := defn 1 8 s_steps_of
/-- arcs_of(steps): slots ['steps', 'name', 'side', 'begin', 'end', 'length'] -/
noncomputable def s_arcs_of : Sf :=
  retF (lcE (vS (vE 0)) (.tp [.nm 1, .nm 2, .nm 3, .nm 4, .nm 5]) none (tupE (aCons (vE 3) (aCons (vE 4) (aCons (vE 5) (aCons (tupE (aCons (vE 1) (aCons (vE 2) aNil))) aNil))))) [1, 2, 3, 4, 5])
noncomputable def fn_arcs_of : Fn := defn 1 6 s_arcs_of
/-- labels_of(arcs): slots ['arcs', 'arc'] -/
noncomputable def s_labels_of : Sf :=
  retF (cE (aCons (lcE (vS (vE 0)) (.nm 1) none (bE (vE 1) (kE (.int 3)) ixOp) [1]) aNil) (on1 tuple1))
noncomputable def fn_labels_of : Fn := defn 1 2 s_labels_of
/-- dates_from(plan, dist): slots ['plan', 'dist', 'mark'] -/
noncomputable def s_dates_from : Sf :=
  retF (cE (aCons (lcE (vS (bE (vE 0) (kE (.int 1)) ixOp)) (.nm 2) none (tupE (aCons (vE 2) (aCons (bE (bE (vE 1) (vE 2) ixOp) (bE (vE 1) (kE (.str (cs "zero"))) ixOp) (binOp .Sub)) aNil))) [2]) aNil) (on1 tuple1))
noncomputable def fn_dates_from : Fn := defn 2 3 s_dates_from
/-- paper(plan): slots ['plan', 'nodes', 'dist', '_', 'ring'] -/
noncomputable def s_paper : Sf :=
  seqF (asgF (fE (aCons (vE 0) aNil) PH.fn_nodes_of) (asgT (.nm 1))) (
  seqF (asgF (fE (aCons (vE 1) (aCons (fE (aCons (fE (aCons (vE 0) aNil) PH.fn_steps_of) aNil) PH.fn_arcs_of) (aCons (vE 1) aNil))) PH.fn_distances) (asgT (.tp [.nm 2, .nm 3, .nm 4]))) (
  seqF (ifF (bE (vE 4) (kE .non) (cmpR .IsNot)) (retF (tupE (aCons (kE (.str (cs "ring"))) (aCons (fE (aCons (vE 4) aNil) PH.fn_labels_of) aNil)))) (nextF)) (
  retF (tupE (aCons (kE (.str (cs "dates"))) (aCons (fE (aCons (vE 0) (aCons (vE 2) aNil)) PH.fn_dates_from) aNil))))))
noncomputable def fn_paper : Fn := defn 1 5 s_paper
/-- holds(plan): slots ['plan'] -/
noncomputable def s_holds : Sf :=
  retF (bE (bE (fE (aCons (vE 0) aNil) PH.fn_paper) (kE (.int 0)) ixOp) (kE (.str (cs "dates"))) (cmpR .Eq))
noncomputable def fn_holds : Fn := defn 1 1 s_holds
/-- distances_from(plan, x): slots ['plan', 'x'] -/
noncomputable def s_distances_from : Sf :=
  retF (bE (fE (aCons (fE (aCons (vE 0) aNil) PH.fn_nodes_of) (aCons (fE (aCons (fE (aCons (vE 0) aNil) PH.fn_steps_of) aNil) PH.fn_arcs_of) (aCons (tupE (aCons (vE 1) aNil)) aNil))) PH.fn_distances) (kE (.int 0)) ixOp)
noncomputable def fn_distances_from : Fn := defn 2 2 s_distances_from
/-- widest(plan, x, y): slots ['plan', 'x', 'y'] -/
noncomputable def s_widest : Sf :=
  retF (mE (fE (aCons (vE 0) (aCons (vE 1) aNil)) PH.fn_distances_from) (aCons (vE 2) aNil) getM)
noncomputable def fn_widest : Fn := defn 3 3 s_widest
/-- dates_with(plan, x, y, n): slots ['plan', 'x', 'y', 'n', 'nodes', 'arcs', 'dist', '_', 'ring'] -/
noncomputable def s_dates_with : Sf :=
  seqF (asgF (fE (aCons (vE 0) aNil) PH.fn_nodes_of) (asgT (.nm 4))) (
  seqF (asgF (lstE (aStar (fE (aCons (fE (aCons (vE 0) aNil) PH.fn_steps_of) aNil) PH.fn_arcs_of) (aCons (tupE (aCons (vE 1) (aCons (vE 2) (aCons (vE 3) (aCons (kE .non) aNil))))) (aCons (tupE (aCons (vE 2) (aCons (vE 1) (aCons (bE (kE (.int 0)) (vE 3) (binOp .Sub)) (aCons (kE .non) aNil))))) aNil)))) (asgT (.nm 5))) (
  seqF (asgF (fE (aCons (vE 4) (aCons (vE 5) (aCons (vE 4) aNil))) PH.fn_distances) (asgT (.tp [.nm 6, .nm 7, .nm 8]))) (
  retF (ifE (bE (vE 8) (kE .non) (cmpR .Is)) (fE (aCons (vE 0) (aCons (vE 6) aNil)) PH.fn_dates_from) (kE .non)))))
noncomputable def fn_dates_with : Fn := defn 4 9 s_dates_with
/-- spare(plan, name): slots ['plan', 'name', 'span', 'ahead', 'back', 'raised', 'lowered', '_', 'a', 'b', 'least', 'most', 'row'] -/
noncomputable def s_spare : Sf :=
  seqF (asgF (bE (lcE (vS (bE (vE 0) (kE (.int 2)) ixOp)) (.nm 12) (some (bE (bE (vE 12) (kE (.int 1)) ixOp) (vE 1) (cmpR .Eq))) (vE 12) [12]) (kE (.int 0)) ixOp) (asgT (.nm 2))) (
  seqF (asgF (vE 2) (asgT (.tp [.nm 7, .nm 7, .nm 8, .nm 9, .nm 10, .nm 11]))) (
  seqF (asgF (fE (aCons (vE 0) (aCons (vE 8) (aCons (vE 9) aNil))) PH.fn_widest) (asgT (.nm 3))) (
  seqF (asgF (fE (aCons (vE 0) (aCons (vE 9) (aCons (vE 8) aNil))) PH.fn_widest) (asgT (.nm 4))) (
  seqF (asgF (ifE (orE (bE (vE 10) (kE .non) (cmpR .Is)) (bE (vE 3) (kE .non) (cmpR .Is))) (kE .non) (bE (vE 3) (vE 10) (binOp .Sub))) (asgT (.nm 5))) (
  seqF (asgF (ifE (orE (bE (vE 11) (kE .non) (cmpR .Is)) (bE (vE 4) (kE .non) (cmpR .Is))) (kE .non) (bE (vE 11) (vE 4) (binOp .Add))) (asgT (.nm 6))) (
  retF (tupE (aCons (vE 5) (aCons (vE 6) aNil)))))))))
noncomputable def fn_spare : Fn := defn 2 13 s_spare
/-- tight(plan): slots ['plan', 'far', 'names', '_', 'name', 'a', 'b', 'node'] -/
noncomputable def s_tight : Sf :=
  seqF (asgF (dcE (vS (fE (aCons (vE 0) aNil) PH.fn_nodes_of)) (.nm 7) none (vE 7) (fE (aCons (vE 0) (aCons (vE 7) aNil)) PH.fn_distances_from) [7]) (asgT (.nm 1))) (
  seqF (asgF (lstE aNil) (asgT (.nm 2))) (
  seqF (forF (vS (bE (vE 0) (kE (.int 2)) ixOp)) (.tp [.nm 3, .nm 4, .nm 5, .nm 6, .nm 3, .nm 3]) (
    ifF (andE (bE (vE 6) (bE (vE 1) (vE 5) ixOp) (cmpR .In)) (andE (bE (vE 5) (bE (vE 1) (vE 6) ixOp) (cmpR .In)) (bE (bE (bE (bE (vE 1) (vE 5) ixOp) (vE 6) ixOp) (bE (bE (vE 1) (vE 6) ixOp) (vE 5) ixOp) (binOp .Add)) (kE (.int 0)) (cmpR .Eq)))) (dropF (mE (vE 2) (aCons (vE 4) aNil) appM)) (nextF)) (nextF)) (
  retF (cE (aCons (vE 2) aNil) (on1 tuple1)))))
noncomputable def fn_tight : Fn := defn 1 8 s_tight
/-- outside(plan, span): slots ['plan', 'span', 'ahead', 'back', '_', 'a', 'b', 'least', 'most'] -/
noncomputable def s_outside : Sf :=
  seqF (asgF (vE 1) (asgT (.tp [.nm 4, .nm 4, .nm 5, .nm 6, .nm 7, .nm 8]))) (
  seqF (asgF (fE (aCons (vE 0) (aCons (vE 5) (aCons (vE 6) aNil))) PH.fn_widest) (asgT (.nm 2))) (
  seqF (asgF (fE (aCons (vE 0) (aCons (vE 6) (aCons (vE 5) aNil))) PH.fn_widest) (asgT (.nm 3))) (
  seqF (ifF (andE (bE (vE 8) (kE .non) (cmpR .IsNot)) (orE (bE (vE 2) (kE .non) (cmpR .Is)) (bE (vE 2) (vE 8) (cmpR .Gt)))) (retF (ifE (bE (vE 3) (kE .non) (cmpR .Is)) (bE (vE 8) (kE (.int 1)) (binOp .Add)) (cE (aCons (bE (vE 8) (kE (.int 1)) (binOp .Add)) (aCons (bE (kE (.int 0)) (vE 3) (binOp .Sub)) aNil)) (on2 max2)))) (nextF)) (
  seqF (ifF (andE (bE (vE 7) (kE .non) (cmpR .IsNot)) (orE (bE (vE 3) (kE .non) (cmpR .Is)) (bE (bE (kE (.int 0)) (vE 3) (binOp .Sub)) (vE 7) (cmpR .Lt)))) (retF (ifE (bE (vE 2) (kE .non) (cmpR .Is)) (bE (vE 7) (kE (.int 1)) (binOp .Sub)) (cE (aCons (bE (vE 7) (kE (.int 1)) (binOp .Sub)) (aCons (vE 2) aNil)) (on2 min2)))) (nextF)) (
  retF (kE .non))))))
noncomputable def fn_outside : Fn := defn 2 9 s_outside
/-- says(plan, span): slots ['plan', 'span'] -/
noncomputable def s_says : Sf :=
  retF (bE (fE (aCons (vE 0) (aCons (vE 1) aNil)) PH.fn_outside) (kE .non) (cmpR .Is))
noncomputable def fn_says : Fn := defn 2 2 s_says
/-- slim(plan): slots ['plan', 'left', 'span', 'others', 'row'] -/
noncomputable def s_slim : Sf :=
  seqF (asgF (cE (aCons (bE (vE 0) (kE (.int 2)) ixOp) aNil) (on1 list1)) (asgT (.nm 1))) (
  seqF (forF (vS (bE (vE 0) (kE (.int 2)) ixOp)) (.nm 2) (
    seqF (asgF (lcE (vS (vE 1)) (.nm 4) (some (bE (vE 4) (vE 2) (cmpR .NotEq))) (vE 4) [4]) (asgT (.nm 3))) (
    ifF (andE (bE (bE (vE 2) (kE (.int 0)) ixOp) (kE (.str (cs "loose"))) (cmpR .NotEq)) (fE (aCons (tupE (aCons (kE (.str (cs "plan"))) (aCons (bE (vE 0) (kE (.int 1)) ixOp) (aCons (cE (aCons (vE 3) aNil) (on1 tuple1)) aNil)))) (aCons (vE 2) aNil)) PH.fn_says)) (asgF (vE 3) (asgT (.nm 1))) (nextF))) (nextF)) (
  retF (tupE (aCons (kE (.str (cs "plan"))) (aCons (bE (vE 0) (kE (.int 1)) ixOp) (aCons (cE (aCons (vE 1) aNil) (on1 tuple1)) aNil))))))
noncomputable def fn_slim : Fn := defn 1 5 s_slim
/-- beyond(one, other): slots ['one', 'other', 'span', 'gap'] -/
noncomputable def s_beyond : Sf :=
  seqF (forF (vS (bE (vE 1) (kE (.int 2)) ixOp)) (.nm 2) (
    seqF (asgF (fE (aCons (vE 0) (aCons (vE 2) aNil)) PH.fn_outside) (asgT (.nm 3))) (
    ifF (bE (vE 3) (kE .non) (cmpR .IsNot)) (retF (fE (aCons (vE 0) (aCons (bE (vE 2) (kE (.int 2)) ixOp) (aCons (bE (vE 2) (kE (.int 3)) ixOp) (aCons (vE 3) aNil)))) PH.fn_dates_with)) (nextF))) (nextF)) (
  retF (kE .non))
noncomputable def fn_beyond : Fn := defn 2 4 s_beyond
/-- apart(one, other): slots ['one', 'other', 'found', 'kind', 'told', 'told_other'] -/
noncomputable def s_apart : Sf :=
  seqF (asgF (fE (aCons (vE 0) aNil) PH.fn_paper) (asgT (.tp [.nm 3, .nm 4]))) (
  seqF (ifF (bE (vE 3) (kE (.str (cs "ring"))) (cmpR .Eq)) (seqF (asgF (fE (aCons (vE 1) aNil) PH.fn_paper) (asgT (.nm 5))) (
    retF (ifE (bE (bE (vE 5) (kE (.int 0)) ixOp) (kE (.str (cs "dates"))) (cmpR .Eq)) (bE (vE 5) (kE (.int 1)) ixOp) (kE .non)))) (nextF)) (
  seqF (ifF (notE (fE (aCons (vE 1) aNil) PH.fn_holds)) (retF (vE 4)) (nextF)) (
  seqF (asgF (fE (aCons (vE 0) (aCons (vE 1) aNil)) PH.fn_beyond) (asgT (.nm 2))) (
  retF (ifE (bE (vE 2) (kE .non) (cmpR .Is)) (fE (aCons (vE 1) (aCons (vE 0) aNil)) PH.fn_beyond) (vE 2))))))
noncomputable def fn_apart : Fn := defn 2 6 s_apart
/-- same(one, other): slots ['one', 'other'] -/
noncomputable def s_same : Sf :=
  retF (bE (fE (aCons (vE 0) (aCons (vE 1) aNil)) PH.fn_apart) (kE .non) (cmpR .Is))
noncomputable def fn_same : Fn := defn 2 2 s_same
/-- _law_cell(script, k): slots ['script', 'k'] -/
noncomputable def s__law_cell : Sf :=
  seqF (ifF (bE (vE 1) (cE (aCons (vE 0) aNil) (on1 len1)) (cmpR .Lt)) (retF (bE (vE 0) (vE 1) ixOp)) (nextF)) (
  retF (kE (.int 0)))
noncomputable def fn__law_cell : Fn := defn 2 2 s__law_cell
/-- _law_digits(script, first, last): slots ['script', 'first', 'last', 'digits', 'k', 'cell', 'step', 'seed'] -/
noncomputable def s__law_digits : Sf :=
  seqF (asgF (lstE aNil) (asgT (.nm 3))) (
  seqF (forF (rS (aCons (vE 1) (aCons (vE 2) aNil)) rng2Of) (.nm 4) (
    seqF (asgF (fE (aCons (vE 0) (aCons (vE 4) aNil)) PH.fn__law_cell) (asgT (.nm 5))) (
    seqF (ifF (bE (vE 5) (kE (.int 0)) (cmpR .Lt)) (asgF (bE (kE (.int 1)) (bE (kE (.int 2)) (vE 5) (binOp .Mult)) (binOp .Sub)) (asgT (.nm 5))) (nextF)) (
    seqF (ifF (bE (cE (aCons (vE 3) aNil) (on1 len1)) (kE (.int 1500)) (cmpR .Gt)) (bkF) (nextF)) (
    ifF (bE (vE 5) (bE (kE (.int 10)) (kE (.int 18)) (binOp .Pow)) (cmpR .GtE)) (forF (rS (aCons (kE (.int 60)) aNil) rng1Of) (.nm 6) (
        ifF (bE (vE 5) (kE (.int 0)) (cmpR .Gt)) (seqF (dropF (mE (vE 3) (aCons (bE (cE (aCons (vE 5) aNil) (on1 int1)) (kE (.int 1000)) (binOp .Mod)) aNil) appM)) (
          asgF (bE (vE 5) (kE (.int 1000)) (binOp .FloorDiv)) (asgT (.nm 5)))) (nextF)) (nextF)) (seqF (asgF (bE (cE (aCons (bE (bE (bE (vE 5) (kE (.int 48271)) (binOp .Mult)) (bE (vE 4) (kE (.int 69621)) (binOp .Mult)) (binOp .Add)) (kE (.int 11)) (binOp .Add)) aNil) (on1 int1)) (kE (.int 2147483647)) (binOp .Mod)) (asgT (.nm 7))) (
      forF (rS (aCons (kE (.int 12)) aNil) rng1Of) (.nm 6) (
        seqF (asgF (bE (cE (aCons (bE (bE (bE (vE 7) (kE (.int 16807)) (binOp .Mult)) (bE (kE (.int 7)) (vE 6) (binOp .Mult)) (binOp .Add)) (kE (.int 1)) (binOp .Add)) aNil) (on1 int1)) (kE (.int 2147483647)) (binOp .Mod)) (asgT (.nm 7))) (
        dropF (mE (vE 3) (aCons (bE (cE (aCons (bE (vE 7) (kE (.int 997)) (binOp .FloorDiv)) aNil) (on1 int1)) (kE (.int 1000)) (binOp .Mod)) aNil) appM))) (nextF))))))) (nextF)) (
  retF (vE 3)))
noncomputable def fn__law_digits : Fn := defn 3 8 s__law_digits
/-- _law_draw(box, many): slots ['box', 'many', 'at'] -/
noncomputable def s__law_draw : Sf :=
  seqF (asgF (bE (vE 0) (kE (.int 1)) ixOp) (asgT (.nm 2))) (
  seqF (asgF (bE (vE 2) (kE (.int 1)) (binOp .Add)) (gS (vE 0) (kE (.int 1)))) (
  seqF (ifF (bE (vE 2) (cE (aCons (bE (vE 0) (kE (.int 0)) ixOp) aNil) (on1 len1)) (cmpR .Lt)) (retF (bE (cE (aCons (bE (bE (vE 0) (kE (.int 0)) ixOp) (vE 2) ixOp) aNil) (on1 int1)) (vE 1) (binOp .Mod))) (nextF)) (
  retF (bE (cE (aCons (bE (vE 2) (kE (.int 7)) (binOp .Mult)) aNil) (on1 int1)) (vE 1) (binOp .Mod)))))
noncomputable def fn__law_draw : Fn := defn 2 3 s__law_draw
/-- _law_wide(box, many): slots ['box', 'many', 'number'] -/
noncomputable def s__law_wide : Sf :=
  seqF (asgF (bE (bE (fE (aCons (vE 0) (aCons (kE (.int 1000)) aNil)) PH.fn__law_draw) (bE (kE (.int 1000)) (fE (aCons (vE 0) (aCons (kE (.int 1000)) aNil)) PH.fn__law_draw) (binOp .Mult)) (binOp .Add)) (bE (kE (.int 1000000)) (fE (aCons (vE 0) (aCons (kE (.int 1000)) aNil)) PH.fn__law_draw) (binOp .Mult)) (binOp .Add)) (asgT (.nm 2))) (
  retF (bE (cE (aCons (vE 2) aNil) (on1 int1)) (vE 1) (binOp .Mod)))
noncomputable def fn__law_wide : Fn := defn 2 3 s__law_wide
/-- _law_like(told, due): slots ['told', 'due', 'k'] -/
noncomputable def s__law_like (self : Fn) : Sf :=
  seqF (ifF (isiE (vE 1) "tuple") (seqF (ifF (orE (notE (isiE (vE 0) "tuple")) (bE (cE (aCons (vE 0) aNil) (on1 len1)) (cE (aCons (vE 1) aNil) (on1 len1)) (cmpR .NotEq))) (retF (kE (.bl false))) (nextF)) (
    retF (bE (lcE (rS (aCons (cE (aCons (vE 1) aNil) (on1 len1)) aNil) rng1Of) (.nm 2) (some (notE (fE (aCons (bE (vE 0) (vE 2) ixOp) (aCons (bE (vE 1) (vE 2) ixOp) aNil)) self))) (kE (.int 1)) [2]) (lstE aNil) (cmpR .Eq)))) (nextF)) (
  seqF (ifF (bE (vE 1) (kE .non) (cmpR .Is)) (retF (bE (vE 0) (kE .non) (cmpR .Is))) (nextF)) (
  seqF (ifF (bE (vE 1) (kE (.bl true)) (cmpR .Is)) (retF (bE (vE 0) (kE (.bl true)) (cmpR .Is))) (nextF)) (
  seqF (ifF (bE (vE 1) (kE (.bl false)) (cmpR .Is)) (retF (bE (vE 0) (kE (.bl false)) (cmpR .Is))) (nextF)) (
  seqF (ifF (isiE (vE 1) "str") (retF (andE (isiE (vE 0) "str") (bE (mE (kE (.str (cs ""))) (aCons (lstE (aCons (vE 0) aNil)) aNil) joinM) (vE 1) (cmpR .Eq)))) (nextF)) (
  retF (andE (isiE (vE 0) "int") (andE (notE (isiE (vE 0) "bool")) (bE (vE 0) (vE 1) (cmpR .Eq)))))))))
noncomputable def fn__law_like : Fn := recn 2 3 s__law_like 12
/-- _law_bounds(box, wide): slots ['box', 'wide', 'least', 'most'] -/
noncomputable def s__law_bounds : Sf :=
  seqF (asgF (bE (fE (aCons (vE 0) (aCons (kE (.int 9)) aNil)) PH.fn__law_draw) (kE (.int 4)) (binOp .Sub)) (asgT (.nm 2))) (
  seqF (asgF (bE (vE 2) (fE (aCons (vE 0) (aCons (kE (.int 4)) aNil)) PH.fn__law_draw) (binOp .Add)) (asgT (.nm 3))) (
  seqF (ifF (vE 1) (seqF (asgF (bE (lstE (aCons (uE (kE (.int 99999)) negD) (aCons (kE (.int 99999)) (aCons (kE (.int 0)) (aCons (bE (fE (aCons (vE 0) (aCons (kE (.int 199999)) aNil)) PH.fn__law_wide) (kE (.int 99999)) (binOp .Sub)) aNil))))) (fE (aCons (vE 0) (aCons (kE (.int 4)) aNil)) PH.fn__law_draw) ixOp) (asgT (.nm 2))) (
    asgF (cE (aCons (kE (.int 99999)) (aCons (bE (vE 2) (bE (lstE (aCons (kE (.int 0)) (aCons (kE (.int 1)) (aCons (kE (.int 99999)) aNil)))) (fE (aCons (vE 0) (aCons (kE (.int 3)) aNil)) PH.fn__law_draw) ixOp) (binOp .Add)) aNil)) (on2 min2)) (asgT (.nm 3)))) (nextF)) (
  retF (bE (lstE (aCons (tupE (aCons (vE 2) (aCons (vE 3) aNil))) (aCons (tupE (aCons (vE 2) (aCons (kE .non) aNil))) (aCons (tupE (aCons (kE .non) (aCons (vE 3) aNil))) (aCons (tupE (aCons (vE 2) (aCons (vE 3) aNil))) aNil))))) (fE (aCons (vE 0) (aCons (kE (.int 4)) aNil)) PH.fn__law_draw) ixOp))))
noncomputable def fn__law_bounds : Fn := defn 2 4 s__law_bounds
/-- _law_span(box, name, marks, wide): slots ['box', 'name', 'marks', 'wide', 'ends', 'a', 'b'] -/
noncomputable def s__law_span : Sf :=
  seqF (asgF (bE (lstE (aCons (kE (.str (cs "zero"))) aNil)) (cE (aCons (vE 2) aNil) (on1 list1)) (binOp .Add)) (asgT (.nm 4))) (
  seqF (asgF (bE (fE (aCons (vE 0) (aCons (kE (.int 900)) aNil)) PH.fn__law_draw) (cE (aCons (vE 4) aNil) (on1 len1)) (binOp .Mod)) (asgT (.nm 5))) (
  seqF (asgF (bE (cE (aCons (bE (bE (vE 5) (kE (.int 1)) (binOp .Add)) (bE (fE (aCons (vE 0) (aCons (kE (.int 900)) aNil)) PH.fn__law_draw) (bE (cE (aCons (vE 4) aNil) (on1 len1)) (kE (.int 1)) (binOp .Sub)) (binOp .Mod)) (binOp .Add)) aNil) (on1 int1)) (cE (aCons (vE 4) aNil) (on1 len1)) (binOp .Mod)) (asgT (.nm 6))) (
  retF (bE (tupE (aCons (kE (.str (cs "span"))) (aCons (vE 1) (aCons (bE (vE 4) (vE 5) ixOp) (aCons (bE (vE 4) (vE 6) ixOp) aNil))))) (fE (aCons (vE 0) (aCons (vE 3) aNil)) PH.fn__law_bounds) (binOp .Add)))))
noncomputable def fn__law_span : Fn := defn 4 7 s__law_span
/-- _law_plan(box, many, spans, loose): slots ['box', 'many', 'spans', 'loose', 'marks', 'k', 'rows', 'ends', 'at', 'begin', 'least'] -/
noncomputable def s__law_plan : Sf :=
  seqF (asgF (slE (tupE (aCons (kE (.str (cs "a"))) (aCons (kE (.str (cs "b"))) (aCons (kE (.str (cs "c"))) (aCons (kE (.str (cs "d"))) (aCons (kE (.str (cs "e"))) (aCons (kE (.str (cs "f"))) (aCons (kE (.str (cs "g"))) aNil)))))))) none (some (vE 1))) (asgT (.nm 4))) (
  seqF (parF [6, 7] (aCons (lstE aNil) (aCons (lstE aNil) aNil))) (
  seqF (forF (rS (aCons (ifE (bE (vE 1) (kE (.int 0)) (cmpR .Gt)) (vE 2) (kE (.int 0))) aNil) rng1Of) (.nm 5) (
    dropF (mE (vE 6) (aCons (fE (aCons (vE 0) (aCons (bE (kE (.str (cs "s"))) (cE (aCons (vE 5) aNil) (on1 str1)) (binOp .Add)) (aCons (vE 4) (aCons (kE (.bl false)) aNil)))) PH.fn__law_span) aNil) appM)) (nextF)) (
  seqF (forF (rS (aCons (ifE (bE (vE 1) (kE (.int 0)) (cmpR .Gt)) (vE 3) (kE (.int 0))) aNil) rng1Of) (.nm 5) (
    seqF (asgF (bE (fE (aCons (vE 0) (aCons (kE (.int 900)) aNil)) PH.fn__law_draw) (vE 1) (binOp .Mod)) (asgT (.nm 8))) (
    ifF (bE (bE (vE 4) (vE 8) ixOp) (vE 7) (cmpR .NotIn)) (seqF (asgF (bE (bE (lstE (aCons (kE (.str (cs "zero"))) aNil)) (cE (aCons (slE (vE 4) none (some (vE 8))) aNil) (on1 list1)) (binOp .Add)) (bE (fE (aCons (vE 0) (aCons (kE (.int 900)) aNil)) PH.fn__law_draw) (bE (vE 8) (kE (.int 1)) (binOp .Add)) (binOp .Mod)) ixOp) (asgT (.nm 9))) (
      seqF (asgF (bE (kE (.int 1)) (fE (aCons (vE 0) (aCons (kE (.int 3)) aNil)) PH.fn__law_draw) (binOp .Add)) (asgT (.nm 10))) (
      seqF (dropF (mE (vE 7) (aCons (bE (vE 4) (vE 8) ixOp) aNil) appM)) (
      dropF (mE (vE 6) (aCons (fE (aCons (vE 0) (aCons (bE (cE (aCons (vE 6) aNil) (on1 len1)) (kE (.int 1)) (binOp .Add)) aNil)) PH.fn__law_draw) (aCons (tupE (aCons (kE (.str (cs "loose"))) (aCons (bE (kE (.str (cs "w"))) (cE (aCons (vE 5) aNil) (on1 str1)) (binOp .Add)) (aCons (vE 9) (aCons (bE (vE 4) (vE 8) ixOp) (aCons (vE 10) (aCons (bE (vE 10) (fE (aCons (vE 0) (aCons (kE (.int 3)) aNil)) PH.fn__law_draw) (binOp .Add)) aNil))))))) aNil)) insM))))) (nextF))) (nextF)) (
  retF (tupE (aCons (kE (.str (cs "plan"))) (aCons (vE 4) (aCons (cE (aCons (vE 6) aNil) (on1 tuple1)) aNil))))))))
noncomputable def fn__law_plan : Fn := defn 4 11 s__law_plan
/-- _law_steps(plan): slots ['plan', 'rows', 'kind', 'name', 'a', 'b', 'least', 'most'] -/
noncomputable def s__law_steps : Sf :=
  seqF (asgF (lstE aNil) (asgT (.nm 1))) (
  seqF (forF (vS (bE (vE 0) (kE (.int 2)) ixOp)) (.tp [.nm 2, .nm 3, .nm 4, .nm 5, .nm 6, .nm 7]) (
    seqF (ifF (bE (vE 6) (kE .non) (cmpR .IsNot)) (dropF (mE (vE 1) (aCons (tupE (aCons (vE 3) (aCons (kE (.str (cs "least"))) (aCons (vE 5) (aCons (vE 4) (aCons (bE (kE (.int 0)) (vE 6) (binOp .Sub)) aNil)))))) aNil) appM)) (nextF)) (
    ifF (bE (vE 7) (kE .non) (cmpR .IsNot)) (dropF (mE (vE 1) (aCons (tupE (aCons (vE 3) (aCons (kE (.str (cs "most"))) (aCons (vE 4) (aCons (vE 5) (aCons (vE 7) aNil)))))) aNil) appM)) (nextF))) (nextF)) (
  retF (vE 1)))
noncomputable def fn__law_steps : Fn := defn 1 8 s__law_steps
/-- _law_closure(plan, steps): slots ['plan', 'steps', 'names', 'table', 'x', 'z', 'y', 'name', 'side', 'length'] -/
noncomputable def s__law_closure : Sf :=
  seqF (asgF (bE (lstE (aCons (kE (.str (cs "zero"))) aNil)) (cE (aCons (bE (vE 0) (kE (.int 1)) ixOp) aNil) (on1 list1)) (binOp .Add)) (asgT (.nm 2))) (
  seqF (asgF (newD true) (asgT (.nm 3))) (
  seqF (forF (vS (vE 2)) (.nm 4) (
    forF (vS (vE 2)) (.nm 6) (
      asgF (ifE (bE (vE 4) (vE 6) (cmpR .Eq)) (kE (.int 0)) (kE .non)) (gS (vE 3) (tupE (aCons (vE 4) (aCons (vE 6) aNil))))) (nextF)) (nextF)) (
  seqF (forF (vS (vE 1)) (.tp [.nm 7, .nm 8, .nm 4, .nm 6, .nm 9]) (
    ifF (orE (bE (bE (vE 3) (tupE (aCons (vE 4) (aCons (vE 6) aNil))) ixOp) (kE .non) (cmpR .Is)) (bE (vE 9) (bE (vE 3) (tupE (aCons (vE 4) (aCons (vE 6) aNil))) ixOp) (cmpR .Lt))) (asgF (vE 9) (gS (vE 3) (tupE (aCons (vE 4) (aCons (vE 6) aNil))))) (nextF)) (nextF)) (
  seqF (forF (vS (vE 2)) (.nm 5) (
    forF (vS (vE 2)) (.nm 4) (
      forF (vS (vE 2)) (.nm 6) (
        ifF (andE (bE (bE (vE 3) (tupE (aCons (vE 4) (aCons (vE 5) aNil))) ixOp) (kE .non) (cmpR .IsNot)) (bE (bE (vE 3) (tupE (aCons (vE 5) (aCons (vE 6) aNil))) ixOp) (kE .non) (cmpR .IsNot))) (seqF (asgF (bE (bE (vE 3) (tupE (aCons (vE 4) (aCons (vE 5) aNil))) ixOp) (bE (vE 3) (tupE (aCons (vE 5) (aCons (vE 6) aNil))) ixOp) (binOp .Add)) (asgT (.nm 9))) (
          ifF (orE (bE (bE (vE 3) (tupE (aCons (vE 4) (aCons (vE 6) aNil))) ixOp) (kE .non) (cmpR .Is)) (bE (vE 9) (bE (vE 3) (tupE (aCons (vE 4) (aCons (vE 6) aNil))) ixOp) (cmpR .Lt))) (asgF (vE 9) (gS (vE 3) (tupE (aCons (vE 4) (aCons (vE 6) aNil))))) (nextF))) (nextF)) (nextF)) (nextF)) (nextF)) (
  retF (vE 3))))))
noncomputable def fn__law_closure : Fn := defn 2 10 s__law_closure
/-- _law_holds(plan): slots ['plan', 'table', 'x'] -/
noncomputable def s__law_holds : Sf :=
  seqF (asgF (fE (aCons (vE 0) (aCons (fE (aCons (vE 0) aNil) PH.fn__law_steps) aNil)) PH.fn__law_closure) (asgT (.nm 1))) (
  retF (bE (lcE (vS (bE (lstE (aCons (kE (.str (cs "zero"))) aNil)) (cE (aCons (bE (vE 0) (kE (.int 1)) ixOp) aNil) (on1 list1)) (binOp .Add))) (.nm 2) (some (bE (bE (vE 1) (tupE (aCons (vE 2) (aCons (vE 2) aNil))) ixOp) (kE (.int 0)) (cmpR .Lt))) (vE 2) [2]) (lstE aNil) (cmpR .Eq)))
noncomputable def fn__law_holds : Fn := defn 1 3 s__law_holds
/-- _law_holding(box, many, spans, loose): slots ['box', 'many', 'spans', 'loose', 'plan', 'rows', 'row'] -/
noncomputable def s__law_holding : Sf :=
  seqF (asgF (fE (aCons (vE 0) (aCons (vE 1) (aCons (vE 2) (aCons (vE 3) aNil)))) PH.fn__law_plan) (asgT (.nm 4))) (
  seqF (asgF (lstE aNil) (asgT (.nm 5))) (
  seqF (forF (vS (bE (vE 4) (kE (.int 2)) ixOp)) (.nm 6) (
    ifF (fE (aCons (tupE (aCons (kE (.str (cs "plan"))) (aCons (bE (vE 4) (kE (.int 1)) ixOp) (aCons (cE (aCons (bE (vE 5) (lstE (aCons (vE 6) aNil)) (binOp .Add)) aNil) (on1 tuple1)) aNil)))) aNil) PH.fn__law_holds) (dropF (mE (vE 5) (aCons (vE 6) aNil) appM)) (nextF)) (nextF)) (
  retF (tupE (aCons (kE (.str (cs "plan"))) (aCons (bE (vE 4) (kE (.int 1)) ixOp) (aCons (cE (aCons (vE 5) aNil) (on1 tuple1)) aNil)))))))
noncomputable def fn__law_holding : Fn := defn 4 7 s__law_holding
/-- _law_said(plan, rows, row): slots ['plan', 'rows', 'row', 'table', 'high', 'low'] -/
noncomputable def s__law_said : Sf :=
  seqF (asgF (fE (aCons (vE 0) (aCons (fE (aCons (tupE (aCons (kE (.str (cs "plan"))) (aCons (bE (vE 0) (kE (.int 1)) ixOp) (aCons (cE (aCons (vE 1) aNil) (on1 tuple1)) aNil)))) aNil) PH.fn__law_steps) aNil)) PH.fn__law_closure) (asgT (.nm 3))) (
  seqF (parF [4, 5] (aCons (bE (vE 3) (tupE (aCons (bE (vE 2) (kE (.int 2)) ixOp) (aCons (bE (vE 2) (kE (.int 3)) ixOp) aNil))) ixOp) (aCons (bE (vE 3) (tupE (aCons (bE (vE 2) (kE (.int 3)) ixOp) (aCons (bE (vE 2) (kE (.int 2)) ixOp) aNil))) ixOp) aNil))) (
  seqF (ifF (andE (bE (bE (vE 2) (kE (.int 5)) ixOp) (kE .non) (cmpR .IsNot)) (orE (bE (vE 4) (kE .non) (cmpR .Is)) (bE (vE 4) (bE (vE 2) (kE (.int 5)) ixOp) (cmpR .Gt)))) (retF (kE (.bl false))) (nextF)) (
  retF (orE (bE (bE (vE 2) (kE (.int 4)) ixOp) (kE .non) (cmpR .Is)) (andE (bE (vE 5) (kE .non) (cmpR .IsNot)) (bE (bE (kE (.int 0)) (vE 5) (binOp .Sub)) (bE (vE 2) (kE (.int 4)) ixOp) (cmpR .GtE)))))))
noncomputable def fn__law_said : Fn := defn 3 6 s__law_said
/-- law(script): slots ['script', 'box', 'turn', 'plan', 'table', 'due', 'k', 'left', 'row', 'kind', 'name', 'a', 'b', 'least', 'most', 'first', 'second', 'rest', 'high', 'low', 'other'] -/
noncomputable def s_law : Sf :=
  seqF (asgF (lstE (aCons (fE (aCons (vE 0) (aCons (kE (.int 0)) (aCons (kE (.int 63)) aNil))) PH.fn__law_digits) (aCons (kE (.int 0)) aNil))) (asgT (.nm 1))) (
  seqF (forF (rS (aCons (kE (.int 2)) aNil) rng1Of) (.nm 2) (
    seqF (asgF (fE (aCons (vE 1) (aCons (bE (kE (.int 1)) (fE (aCons (vE 1) (aCons (kE (.int 5)) aNil)) PH.fn__law_draw) (binOp .Add)) (aCons (bE (kE (.int 2)) (fE (aCons (vE 1) (aCons (kE (.int 7)) aNil)) PH.fn__law_draw) (binOp .Add)) (aCons (fE (aCons (vE 1) (aCons (kE (.int 3)) aNil)) PH.fn__law_draw) aNil)))) PH.fn__law_holding) (asgT (.nm 3))) (
    seqF (asgF (fE (aCons (vE 3) (aCons (fE (aCons (vE 3) aNil) PH.fn__law_steps) aNil)) PH.fn__law_closure) (asgT (.nm 4))) (
    seqF (asgF (lstE aNil) (asgT (.nm 5))) (
    seqF (forF (vS (bE (vE 3) (kE (.int 2)) ixOp)) (.tp [.nm 9, .nm 10, .nm 11, .nm 12, .nm 13, .nm 14]) (
      seqF (parF [18, 19] (aCons (bE (vE 4) (tupE (aCons (vE 11) (aCons (vE 12) aNil))) ixOp) (aCons (bE (vE 4) (tupE (aCons (vE 12) (aCons (vE 11) aNil))) ixOp) aNil))) (
      seqF (asgF (ifE (orE (bE (vE 13) (kE .non) (cmpR .Is)) (bE (vE 18) (kE .non) (cmpR .Is))) (kE .non) (bE (vE 18) (vE 13) (binOp .Sub))) (asgT (.nm 15))) (
      seqF (asgF (ifE (orE (bE (vE 14) (kE .non) (cmpR .Is)) (bE (vE 19) (kE .non) (cmpR .Is))) (kE .non) (bE (vE 14) (vE 19) (binOp .Add))) (asgT (.nm 16))) (
      seqF (ifF (notE (fE (aCons (fE (aCons (vE 3) (aCons (vE 10) aNil)) PH.fn_spare) (aCons (tupE (aCons (vE 15) (aCons (vE 16) aNil))) aNil)) PH.fn__law_like)) (retF (kE (.bl false))) (nextF)) (
      ifF (andE (bE (vE 18) (kE .non) (cmpR .IsNot)) (andE (bE (vE 19) (kE .non) (cmpR .IsNot)) (bE (bE (vE 18) (vE 19) (binOp .Add)) (kE (.int 0)) (cmpR .Eq)))) (dropF (mE (vE 5) (aCons (vE 10) aNil) appM)) (nextF)))))) (nextF)) (
    seqF (ifF (notE (fE (aCons (fE (aCons (vE 3) aNil) PH.fn_tight) (aCons (cE (aCons (vE 5) aNil) (on1 tuple1)) aNil)) PH.fn__law_like)) (retF (kE (.bl false))) (nextF)) (
    seqF (forF (rS (aCons (kE (.int 3)) aNil) rng1Of) (.nm 6) (
      seqF (asgF (fE (aCons (vE 1) (aCons (kE (.str (cs "new"))) (aCons (bE (vE 3) (kE (.int 1)) ixOp) (aCons (kE (.bl false)) aNil)))) PH.fn__law_span) (asgT (.nm 8))) (
      ifF (notE (fE (aCons (fE (aCons (vE 3) (aCons (vE 8) aNil)) PH.fn_says) (aCons (fE (aCons (vE 3) (aCons (bE (vE 3) (kE (.int 2)) ixOp) (aCons (vE 8) aNil))) PH.fn__law_said) aNil)) PH.fn__law_like)) (retF (kE (.bl false))) (nextF))) (nextF)) (
    seqF (asgF (cE (aCons (bE (vE 3) (kE (.int 2)) ixOp) aNil) (on1 list1)) (asgT (.nm 7))) (
    seqF (forF (vS (bE (vE 3) (kE (.int 2)) ixOp)) (.nm 8) (
      seqF (asgF (lcE (vS (vE 7)) (.nm 20) (some (bE (vE 20) (vE 8) (cmpR .NotEq))) (vE 20) [20]) (asgT (.nm 17))) (
      ifF (andE (bE (bE (vE 8) (kE (.int 0)) ixOp) (kE (.str (cs "span"))) (cmpR .Eq)) (fE (aCons (vE 3) (aCons (vE 17) (aCons (vE 8) aNil))) PH.fn__law_said)) (asgF (vE 17) (asgT (.nm 7))) (nextF))) (nextF)) (
    ifF (orE (notE (fE (aCons (fE (aCons (vE 3) aNil) PH.fn_slim) (aCons (tupE (aCons (kE (.str (cs "plan"))) (aCons (bE (vE 3) (kE (.int 1)) ixOp) (aCons (cE (aCons (vE 7) aNil) (on1 tuple1)) aNil)))) aNil)) PH.fn__law_like)) (bE (fE (aCons (vE 3) (aCons (tupE (aCons (kE (.str (cs "plan"))) (aCons (bE (vE 3) (kE (.int 1)) ixOp) (aCons (cE (aCons (vE 7) aNil) (on1 tuple1)) aNil)))) aNil)) PH.fn_same) (kE (.bl true)) (cmpR .IsNot))) (retF (kE (.bl false))) (nextF)))))))))) (nextF)) (
  retF (kE (.bl true))))
noncomputable def fn_law : Fn := defn 1 21 s_law
end PH

/-! LA: draws. -/
namespace M
open PySem PySem.Spec PyProof.Rows L2
local macro_rules | `(tactic| wp_walk using $ts,*) => do let xs := Lean.Syntax.TSepArray.getElems ts; `(tactic| simp only [w_ok, w_exc, w_bind, w_of, w_cond, w_kE, w_vE, w_bE, w_uE, w_tst, w_andE, w_orE, w_notE, w_ifE, w_chE, w_ch3E, w_cmpR, w_aNil, w_aCons, w_aStar, w_tupE, w_lstE, w_cE, w_isiE, w_lsE, w_fE, w_mE, w_slE, w_ptN, w_ptS, w_newD, w_nextF, w_bkF, w_ctF, w_seqF, w_fl, w_dropF, w_retF, w_retNF, w_ifF, w_asgF, w_nm, w_tp, w_ts0, w_ts1, w_gS, w_augF, w_augS, w_parF, w_vS, w_rS, w_eS, w_zS, w_revS, w_iteS, w_lcN, w_lcS, wif_t, wif_f, wo_some, wo_map,
  defn_n, recn_n, List.getElem?_cons_zero, List.getElem?_cons_succ, Option.join_some, List.set_cons_zero, List.set_cons_succ, List.length_cons, List.length_nil, List.length_map, List.map_cons, List.map_nil, List.cons_append, List.nil_append, Nat.reduceAdd, Nat.reduceSub, Nat.zero_add, Option.map_some, Option.isSome_some, wipeE, parSet, Bool.not_true, Bool.not_false, decide_true, decide_false, Nat.reduceLeDiff, lim, Bool.true_eq_false, Bool.false_eq_true, if_true, if_false, true_and, and_true, eq_self, and_self, List.all_cons, List.all_nil, Bool.and_self, Bool.and_true, Bool.true_and, Int.reduceLT, Int.reduceLE, Nat.reduceLT, Int.reduceNeg, Int.reduceAdd, Int.reduceSub, Int.reduceMul, bo_add, bo_sub, bo_mul, bo_fd, bo_mod, bo_pow, ia_add, ia_sub, inD_i, add_i, iadd_i, add_s, iadd_s, add_t, add_r, adC_s, sub_i, mul_i, fd_i, mod_i, pow_i, neg_i, co_eq, co_ne, co_in, co_ni, co_is, co_isn, oi_Lt, os_Lt, oi_LtE, os_LtE, oi_Gt, os_Gt, oi_GtE, os_GtE, is_non_non, is_non_bl, is_non_int, is_non_str, is_non_tup, is_non_ls, is_non_ref, is_bl_non, is_bl_bl, is_bl_int, is_bl_str, is_bl_tup, is_bl_ls, is_bl_ref, trC_l, sqC_l, sqC_d, dcC_l, dcC_d, daC_l, daC_d, srC_l, laC_l, tyC_l, tyC_d, rvC_l, tr_non, tr_bl, tr_int, tr_str, tr_tup, tr_ref, tr_ls, sq_tup, sq_ls, sq_ref, dr_ref, da_ref, sr_tup, sr_ls, sr_str, sr_ref, sl_ls, sl_ref, rv_tup, rv_ref, la_ref, it_non, it_bl, it_int, it_str, it_tup, it_ls, it_ref, ix_tup, ix_ls, ix_str, ix_ref, ixC_l, ixC_d, atN, at0, at1, at2, at3, at4, at5, at6, at7, at8, at9, at10, at11, at12, at13, at14, atm1, atm2, on1_, on2_, len_str, len_tup, len_ls, len_ref, lnC_l, lnC_d, int_i, int_b, int_s, str_i, str_s, bool_i, bool_b, abs_i, max_i, min_i, ofL_s, lst1, tpl1, all_r, any_r, sum_r, sl_str, sl_tup, slo_ref, slo_ls, ty_l, ty_s, ty_d, ty_appM, ty_popM, ty_revM, ty_extM, ty_joinM, ty_splitM, ty_getM, ty_insM, go_app, apC_s, go_ext, exC_s, go_rev, rvM_s, go_get1, go_get2, gtC_s, go_join, jnC_s, go_split, go_ins, inC_s, go_pop, so_ref, stC_d, stC_l, go_dic, goC_d, goC_l, in_str1, in_tup, in_ls, in_ref, ioC_l, ioC_d, kOk_s, kOk_i, kOk_t, k1_s, k1_i, r1, r2, eq_ss, eq_ii, eq_nbl, eq_bln, eq_nint, eq_intn, eq_nstr, eq_strn, eq_nn, eq_is, eq_si, go_some, kit_NoneType_str, kit_NoneType_int, kit_NoneType_bool, kit_NoneType_tuple, kit_NoneType_list, kit_NoneType_dict, kit_bool_str, kit_bool_int, kit_bool_bool, kit_bool_tuple, kit_bool_list, kit_bool_dict, kit_int_str, kit_int_int, kit_int_bool, kit_int_tuple, kit_int_list, kit_int_dict, kit_str_str, kit_str_int, kit_str_bool, kit_str_tuple, kit_str_list, kit_str_dict, kit_tuple_str, kit_tuple_int, kit_tuple_bool, kit_tuple_tuple, kit_tuple_list, kit_tuple_dict, kit_list_str, kit_list_int, kit_list_bool, kit_list_tuple, kit_list_list, kit_list_dict, kit_dict_str, kit_dict_int, kit_dict_bool, kit_dict_tuple, kit_dict_list, kit_dict_dict, rp0, rp1, rp2, rp3, rp4, rp5, rp6, rp7, rp8, rp9, rp10, rp11, rp12, rp13, rp14, rp15, rp16, rp17, rp18, rp19, rp20, rp21, rp22, rp23, rp24, rp25, rp26, rp27, rp28, rp29, rp30, $[$xs:term],*])
local macro_rules | `(tactic| wp_walk) => `(tactic| simp only [w_ok, w_exc, w_bind, w_of, w_cond, w_kE, w_vE, w_bE, w_uE, w_tst, w_andE, w_orE, w_notE, w_ifE, w_chE, w_ch3E, w_cmpR, w_aNil, w_aCons, w_aStar, w_tupE, w_lstE, w_cE, w_isiE, w_lsE, w_fE, w_mE, w_slE, w_ptN, w_ptS, w_newD, w_nextF, w_bkF, w_ctF, w_fl, w_dropF, w_retF, w_retNF, w_ifF, w_asgF, w_nm, w_tp, w_ts0, w_ts1, w_gS, w_augF, w_augS, w_parF, w_vS, w_rS, w_eS, w_zS, w_revS, w_iteS, w_lcN, w_lcS, wif_t, wif_f, wo_some, wo_map,
  defn_n, recn_n, List.getElem?_cons_zero, List.getElem?_cons_succ, Option.join_some, List.set_cons_zero, List.set_cons_succ, List.length_cons, List.length_nil, List.length_map, List.map_cons, List.map_nil, List.cons_append, List.nil_append, Nat.reduceAdd, Nat.reduceSub, Nat.zero_add, Option.map_some, Option.isSome_some, wipeE, parSet, Bool.not_true, Bool.not_false, decide_true, decide_false, Nat.reduceLeDiff, lim, Bool.true_eq_false, Bool.false_eq_true, if_true, if_false, true_and, and_true, eq_self, and_self, List.all_cons, List.all_nil, Bool.and_self, Bool.and_true, Bool.true_and, Int.reduceLT, Int.reduceLE, Nat.reduceLT, Int.reduceNeg, Int.reduceAdd, Int.reduceSub, Int.reduceMul, bo_add, bo_sub, bo_mul, bo_fd, bo_mod, bo_pow, ia_add, ia_sub, inD_i, add_i, iadd_i, add_s, iadd_s, add_t, add_r, adC_s, sub_i, mul_i, fd_i, mod_i, pow_i, neg_i, co_eq, co_ne, co_in, co_ni, co_is, co_isn, oi_Lt, os_Lt, oi_LtE, os_LtE, oi_Gt, os_Gt, oi_GtE, os_GtE, is_non_non, is_non_bl, is_non_int, is_non_str, is_non_tup, is_non_ls, is_non_ref, is_bl_non, is_bl_bl, is_bl_int, is_bl_str, is_bl_tup, is_bl_ls, is_bl_ref, trC_l, sqC_l, sqC_d, dcC_l, dcC_d, daC_l, daC_d, srC_l, laC_l, tyC_l, tyC_d, rvC_l, tr_non, tr_bl, tr_int, tr_str, tr_tup, tr_ref, tr_ls, sq_tup, sq_ls, sq_ref, dr_ref, da_ref, sr_tup, sr_ls, sr_str, sr_ref, sl_ls, sl_ref, rv_tup, rv_ref, la_ref, it_non, it_bl, it_int, it_str, it_tup, it_ls, it_ref, ix_tup, ix_ls, ix_str, ix_ref, ixC_l, ixC_d, atN, at0, at1, at2, at3, at4, at5, at6, at7, at8, at9, at10, at11, at12, at13, at14, atm1, atm2, on1_, on2_, len_str, len_tup, len_ls, len_ref, lnC_l, lnC_d, int_i, int_b, int_s, str_i, str_s, bool_i, bool_b, abs_i, max_i, min_i, ofL_s, lst1, tpl1, all_r, any_r, sum_r, sl_str, sl_tup, slo_ref, slo_ls, ty_l, ty_s, ty_d, ty_appM, ty_popM, ty_revM, ty_extM, ty_joinM, ty_splitM, ty_getM, ty_insM, go_app, apC_s, go_ext, exC_s, go_rev, rvM_s, go_get1, go_get2, gtC_s, go_join, jnC_s, go_split, go_ins, inC_s, go_pop, so_ref, stC_d, stC_l, go_dic, goC_d, goC_l, in_str1, in_tup, in_ls, in_ref, ioC_l, ioC_d, kOk_s, kOk_i, kOk_t, k1_s, k1_i, r1, r2, eq_ss, eq_ii, eq_nbl, eq_bln, eq_nint, eq_intn, eq_nstr, eq_strn, eq_nn, eq_is, eq_si, go_some, kit_NoneType_str, kit_NoneType_int, kit_NoneType_bool, kit_NoneType_tuple, kit_NoneType_list, kit_NoneType_dict, kit_bool_str, kit_bool_int, kit_bool_bool, kit_bool_tuple, kit_bool_list, kit_bool_dict, kit_int_str, kit_int_int, kit_int_bool, kit_int_tuple, kit_int_list, kit_int_dict, kit_str_str, kit_str_int, kit_str_bool, kit_str_tuple, kit_str_list, kit_str_dict, kit_tuple_str, kit_tuple_int, kit_tuple_bool, kit_tuple_tuple, kit_tuple_list, kit_tuple_dict, kit_list_str, kit_list_int, kit_list_bool, kit_list_tuple, kit_list_list, kit_list_dict, kit_dict_str, kit_dict_int, kit_dict_bool, kit_dict_tuple, kit_dict_list, kit_dict_dict, rp0, rp1, rp2, rp3, rp4, rp5, rp6, rp7, rp8, rp9, rp10, rp11, rp12, rp13, rp14, rp15, rp16, rp17, rp18, rp19, rp20, rp21, rp22, rp23, rp24, rp25, rp26, rp27, rp28, rp29, rp30])
/-- the box of draws, at b; its digits, at dg; how many have been drawn -/
def Bx (b dg : Nat) (h : Hs) : Prop := ∃ (ds : List Int) (i : Int), b ≠ dg ∧ 0 ≤ i ∧ h[b]? = some (.lst [.ref dg, .int i]) ∧ h[dg]? = some (.lst (ds.map .int))
theorem Bx.fr {b dg : Nat} {h h' : Hs} (x : Bx b dg h) (f : Fr [] h h') : Bx b dg h' :=
  let ⟨ds, i, a, c, e1, e2⟩ := x
  ⟨ds, i, a, c, f.get e1, f.get e2⟩
theorem Bx.lt {b dg : Nat} {h : Hs} (x : Bx b dg h) : b < h.length := let ⟨_, _, _, _, e, _⟩ := x; get_lt e
theorem Bx.ltd {b dg : Nat} {h : Hs} (x : Bx b dg h) : dg < h.length := let ⟨_, _, _, _, _, e⟩ := x; get_lt e
theorem Bx.set {b dg n : Nat} {h : Hs} {c : Cell} (x : Bx b dg h) (h1 : n ≠ b) (h2 : n ≠ dg) : Bx b dg (h.set n c) :=
  let ⟨ds, i, a, q, e1, e2⟩ := x
  ⟨ds, i, a, q, get_setne e1 h1, get_setne e2 h2⟩
theorem draw_ok {b dg : Nat} {m : Int} {h : Hs} {Q : D → Hs → Prop} {E : Ex → Hs → Prop} (hb : Bx b dg h) (hm : 0 < m) (hq : ∀ v h', 0 ≤ v → v < m → Bx b dg h' → Fr [b] h h' → Q (.int v) h') : (PH.fn__law_draw.go [.ref b, .int m] h).wp Q E := by
  obtain ⟨ds, i, hne, hi, h1, h2⟩ := hb
  unfold PH.fn__law_draw
  rw [w_defn]
  unfold PH.s__law_draw
  wp_walk using h1, h2
  have e1 : (h.set b (.lst [.ref dg, .int (i + 1)]))[b]? = some (.lst [.ref dg, .int (i + 1)]) := get_set h1
  have e2 : (h.set b (.lst [.ref dg, .int (i + 1)]))[dg]? = some (.lst (ds.map .int)) := get_setne h2 hne
  have fin : ∀ v : Int, 0 ≤ v → v < m → Q (.int v) (h.set b (.lst [.ref dg, .int (i + 1)])) := fun v v0 v1 => hq v _ v0 v1 ⟨ds, i + 1, hne, by omega, e1, e2⟩ (Fr.set (by simp))
  wp_walk using show ixN 2 1 = some 1 from rfl, e1, e2
  refine wif_d (fun c => ?_) (fun c => ?_)
  · wp_walk using e1, e2
    obtain ⟨n, rfl⟩ := Int.eq_ofNat_of_zero_le hi
    have c : n < ds.length := by simpa using c
    wp_walk using e1, e2, atN, List.getElem?_map, List.getElem?_eq_getElem c
    exact ⟨hm, fin _ (Int.emod_nonneg _ (by omega)) (Int.emod_lt_of_pos _ hm)⟩
  · wp_walk using show mulOk i 7 = true from decide_eq_true (.inr (.inl (by omega)))
    exact ⟨hm, fin _ (Int.emod_nonneg _ (by omega)) (Int.emod_lt_of_pos _ hm)⟩
theorem mulS {i j : Int} (h : (-18446744073709551616 < i ∧ i < 18446744073709551616) ∨ (-18446744073709551616 < j ∧ j < 18446744073709551616)) : mulOk i j = true := decide_eq_true (h.elim .inl fun q => .inr (.inl q))
theorem wide_ok {b dg : Nat} {m : Int} {h : Hs} {Q : D → Hs → Prop} {E : Ex → Hs → Prop} (hb : Bx b dg h) (hm : 0 < m) (hq : ∀ v h', 0 ≤ v → v < m → Bx b dg h' → Fr [b] h h' → Q (.int v) h') : (PH.fn__law_wide.go [.ref b, .int m] h).wp Q E := by
  unfold PH.fn__law_wide
  rw [w_defn]
  unfold PH.s__law_wide
  wp_walk using hb
  refine ⟨rfl, draw_ok hb (by decide) fun v1 h1 _ _ b1 f1 => ?_⟩
  wp_walk using hb
  refine ⟨rfl, draw_ok b1 (by decide) fun v2 h2 _ _ b2 f2 => ?_⟩
  wp_walk using mulS (i := 1000) (j := v2) (.inl (by decide))
  refine ⟨rfl, draw_ok b2 (by decide) fun v3 h3 _ _ b3 f3 => ?_⟩
  wp_walk using mulS (i := 1000000) (j := v3) (.inl (by decide))
  exact ⟨hm, hq _ _ (Int.emod_nonneg _ (by omega)) (Int.emod_lt_of_pos _ hm) b3 ((f1.trans f2).trans f3)⟩
theorem cell_ok {ns : List Int} {k : Nat} {h : Hs} {Q : D → Hs → Prop} {E : Ex → Hs → Prop} (hq : ∀ v, Q (.int v) h) : (PH.fn__law_cell.go [.ls (ns.map .int), .int k] h).wp Q E := by
  unfold PH.fn__law_cell
  rw [w_defn]
  unfold PH.s__law_cell
  wp_walk using hq
  refine wif_d (fun c => ?_) (fun c => ?_)
  · have c : k < ns.length := by simpa using c
    wp_walk using atN, List.getElem?_map, List.getElem?_eq_getElem c
    exact hq _
  · wp_walk using hq
theorem range_get {n k : Nat} {x : D} (h : ((List.range n).map fun i => D.int (0 + (i : Nat)))[k]? = some x) : k < n ∧ x = .int (k : Nat) := by
  have hk : k < n := by
    have := (List.getElem?_eq_some_iff.mp h).1
    simpa using this
  rw [List.getElem?_map, List.getElem?_range hk] at h
  have := Option.some.inj h
  exact ⟨hk, by rw [← this]; simp⟩
theorem range_get0 {n k : Nat} {x : D} (h : ((List.range n).map fun i => D.int ((i : Nat) : Int))[k]? = some x) : k < n ∧ x = .int (k : Nat) := by
  have hk : k < n := by
    have := (List.getElem?_eq_some_iff.mp h).1
    simpa using this
  rw [List.getElem?_map, List.getElem?_range hk] at h
  have := Option.some.inj h
  exact ⟨hk, this.symm⟩
theorem set_new {h : Hs} {c d : Cell} : (h ++ [c]).set h.length d = h ++ [d] := by simp
theorem digits_ok {ns : List Int} {h : Hs} {Q : D → Hs → Prop} {E : Ex → Hs → Prop} (hq : ∀ (ds : List Int) n h', h'[n]? = some (.lst (ds.map .int)) → Fr [] h h' → n = h.length → h.length < h'.length → Q (.ref n) h') : (PH.fn__law_digits.go [.ls (ns.map .int), .int 0, .int 63] h).wp Q E := by
  unfold PH.fn__law_digits
  rw [w_defn]
  unfold PH.s__law_digits
  wp_walk using hq
  let I : Nat → Env → Hs → Prop := fun k env h' => ∃ (o4 o5 o6 o7 : Option D) (ds : List Int), env = [some (.ls (ns.map .int)), some (.int 0), some (.int 63), some (.ref h.length), o4, o5, o6, o7] ∧ ds.length ≤ 60 * k ∧ h' = h ++ [.lst (ds.map .int)]
  have hI : ∀ k env h', I k env h' = ∃ (o4 o5 o6 o7 : Option D) (ds : List Int), env = [some (.ls (ns.map .int)), some (.int 0), some (.int 63), some (.ref h.length), o4, o5, o6, o7] ∧ ds.length ≤ 60 * k ∧ h' = h ++ [.lst (ds.map .int)] := fun _ _ _ => rfl
  have g : ∀ ds : List Int, (h ++ [Cell.lst (ds.map .int)])[h.length]? = some (.lst (ds.map .int)) := fun ds => get_new1
  have st : ∀ (ds es : List Int) (i : Int), (h ++ [Cell.lst (ds.map .int)]).set h.length (.lst (ds.map .int ++ [.int i])) = h ++ [.lst ((ds ++ [i]).map .int)] := fun ds es i => by simp
  have fin : ∀ (ds : List Int) (env : Env), env[3]? = some (some (.ref h.length)) → (retF (vE 3) env (h ++ [Cell.lst (ds.map .int)])).wp { nx := fun x h => Q D.non h, bk := fun x x_1 => False, ct := fun x x_1 => False, rt := Q, ex := fun e x h => E e h } := fun ds env e => by
    wp_walk using e
    exact hq ds _ _ (g ds) Fr.app rfl (by simp)
  clear_value I
  refine w_for ((List.range 63).map fun i => .int (0 + (i : Nat))) (fun _ => True) I ?_ (fun _ _ _ _ => trivial) ?_ ?_
  · wp_walk using show small 0 = true from rfl, show small 63 = true from rfl, show ((63 : Int) - 0).toNat = 63 from rfl
    exact ⟨t_rng 0 63 _, by rw [hI]; exact ⟨_, _, _, _, [], rfl, by simp, rfl⟩⟩
  · intro k x env h' hx i0
    rw [hI] at i0
    obtain ⟨o4, o5, o6, o7, ds, rfl, hd, rfl⟩ := i0
    obtain ⟨hk, rfl⟩ := range_get hx
    rw [w_nm, w_seqF]
    wp_walk
    refine ⟨rfl, cell_ok fun v => ?_⟩
    wp_walk
    refine w_cut (fun env h' => ∃ v : Int, env = [some (.ls (ns.map .int)), some (.int 0), some (.int 63), some (.ref h.length), some (.int (k : Nat)), some (.int v), o6, o7] ∧ h' = h ++ [.lst (ds.map .int)]) ?_ ?_
    · wp_walk
      refine wif_d (fun c => ?_) (fun c => ?_)
      · wp_walk using mulS (i := 2) (j := v) (.inl (by decide))
        exact ⟨_, rfl⟩
      · wp_walk
        exact ⟨_, rfl⟩
    · rintro env h' ⟨v, rfl, rfl⟩
      wp_walk using g ds
      refine wif_d (fun c => ?_) (fun c => ?_)
      · rw [w_bkF]
        dsimp only
        exact fin ds _ rfl
      · have c : ds.length ≤ 1500 := by omega
        wp_walk using show (10 : Int) ^ (18 : Int).toNat = 1000000000000000000 from rfl, show (10 : Int).natAbs = 10 from rfl
        refine wif_d (fun cv => ?_) (fun cv => ?_)
        · refine w_for ((List.range 60).map fun i => .int ((i : Nat) : Int)) (fun _ => True) (fun j env h' => ∃ (v : Int) (o6 : Option D) (es : List Int), env = [some (.ls (ns.map .int)), some (.int 0), some (.int 63), some (.ref h.length), some (.int (k : Nat)), some (.int v), o6, o7] ∧ es.length ≤ ds.length + j ∧ h' = h ++ [.lst (es.map .int)]) ?_ (fun _ _ _ _ => trivial) ?_ ?_
          · wp_walk using show small 60 = true from rfl, show (60 : Int).toNat = 60 from rfl
            exact ⟨t_rng0 60 _, _, _, ds, rfl, by omega, rfl⟩
          · rintro j x env h' hx ⟨v, o6, es, rfl, he, rfl⟩
            obtain ⟨hj, rfl⟩ := range_get0 hx
            wp_walk
            refine wif_d (fun c => ?_) (fun c => ?_)
            · wp_walk using g es, ty_appM
              refine ⟨by omega, ?_⟩
              wp_walk
              exact ⟨_, _, es ++ [v % 1000], rfl, by simp; omega, st es [] _⟩
            · wp_walk
              exact ⟨_, _, es, rfl, by omega, rfl⟩
          · rintro env h' ⟨v, o6, es, rfl, he, rfl⟩
            wp_walk
            rw [hI]
            simp only [List.length_map, List.length_range] at he
            exact ⟨_, _, _, _, es, rfl, by omega, rfl⟩
        · wp_walk using mulS (i := v) (j := 48271) (.inr (by decide)), mulS (i := ((k : Nat) : Int)) (j := 69621) (.inr (by decide))
          refine w_for ((List.range 12).map fun i => .int ((i : Nat) : Int)) (fun _ => True) (fun j env h' => ∃ (s : Int) (o6 : Option D) (es : List Int), env = [some (.ls (ns.map .int)), some (.int 0), some (.int 63), some (.ref h.length), some (.int (k : Nat)), some (.int v), o6, some (.int s)] ∧ es.length ≤ ds.length + j ∧ h' = h ++ [.lst (es.map .int)]) ?_ (fun _ _ _ _ => trivial) ?_ ?_
          · wp_walk using show small 12 = true from rfl, show (12 : Int).toNat = 12 from rfl
            exact ⟨t_rng0 12 _, _, _, ds, rfl, by omega, rfl⟩
          · rintro j x env h' hx ⟨s, o6, es, rfl, he, rfl⟩
            obtain ⟨hj, rfl⟩ := range_get0 hx
            wp_walk using mulS (i := s) (j := 16807) (.inr (by decide)), mulS (i := 7) (j := ((j : Nat) : Int)) (.inl (by decide))
            wp_walk using g es, ty_appM
            refine ⟨by omega, ?_⟩
            exact ⟨_, _, es ++ [_], rfl, by simp; omega, st es [] _⟩
          · rintro env h' ⟨s, o6, es, rfl, he, rfl⟩
            wp_walk
            rw [hI]
            simp only [List.length_map, List.length_range] at he
            exact ⟨_, _, _, _, es, rfl, by omega, rfl⟩
  · intro env h' i0
    rw [hI] at i0
    obtain ⟨o4, o5, o6, o7, ds, rfl, hd, rfl⟩ := i0
    rw [w_nextF]
    dsimp only
    exact fin ds _ rfl
/-! LB: plans as data; drawn plans. -/
open PySem PySem.Spec PyProof.Rows L2
abbrev Nm := List Nat
def zro : Nm := cs "zero"
def enO : Option Int → D
  | none => .non
  | some i => .int i
structure Spn where
  loose : Bool
  name : Nm
  a : Nm
  b : Nm
  lo : Option Int
  hi : Option Int
def kindOf (l : Bool) : Nm := if l then cs "loose" else cs "span"
def enS (s : Spn) : D := .tup [.str (kindOf s.loose), .str s.name, .str s.a, .str s.b, enO s.lo, enO s.hi]
structure Pln where
  marks : List Nm
  rows : List Spn
def enP (p : Pln) : D := .tup [.str (cs "plan"), .tup (p.marks.map .str), .tup (p.rows.map enS)]
/-- bounds as they are drawn -/
structure OkB (lo hi : Option Int) : Prop where
  one : lo ≠ none ∨ hi ≠ none
  l : ∀ i, lo = some i → -4 ≤ i ∧ i ≤ 4
  u : ∀ j, hi = some j → -4 ≤ j ∧ j ≤ 7
  le : ∀ i j, lo = some i → hi = some j → i ≤ j
theorem flts_str (n : Nat) : ∀ ys : List Nm, flts n (ys.map .str) = true
  | [] => by simp [flts]
  | y :: ys => by simp only [List.map_cons, flts, flts_str n ys, Bool.and_true]; cases n <;> rfl
theorem in_strs (h : Hs) (x : Nm) (ys : List Nm) : inSeq h (.str x) (ys.map .str) = some (decide (x ∈ ys)) := by
  rw [in_flat (by rfl) (flts_str _ ys)]
  congr 1
  induction ys with
  | nil => simp
  | cons y ys ih =>
    rw [List.map_cons, List.any_cons, ih]
    simp only [deq, List.mem_cons]
    by_cases c : y = x
    · subst c; simp
    · have : ¬ x = y := fun e => c e.symm
      simp [c, this]
theorem bounds_ok {b dg : Nat} {h : Hs} {Q : D → Hs → Prop} {E : Ex → Hs → Prop} (hb : Bx b dg h) (hq : ∀ lo hi h', OkB lo hi → Bx b dg h' → Fr [b] h h' → Q (.tup [enO lo, enO hi]) h') : (PH.fn__law_bounds.go [.ref b, .bl false] h).wp Q E := by
  unfold PH.fn__law_bounds
  rw [w_defn]
  unfold PH.s__law_bounds
  wp_walk using hb
  refine ⟨rfl, draw_ok hb (by decide) fun v1 h1 _ _ b1 f1 => ?_⟩
  wp_walk using hb
  refine ⟨rfl, draw_ok b1 (by decide) fun v2 h2 _ _ b2 f2 => ?_⟩
  wp_walk using hb
  refine ⟨rfl, draw_ok (b2.fr .app) (by decide) fun v3 h3 _ _ b3 f3 => ?_⟩
  have l2 := b2.lt
  have e3 := f3.get (get_new1 (h := h2)) (by simp; omega)
  wp_walk using e3
  have F : Fr [b] h h3 := (f1.trans f2).trans (Fr.app.trans f3)
  obtain rfl | rfl | rfl | rfl : v3 = 0 ∨ v3 = 1 ∨ v3 = 2 ∨ v3 = 3 := by omega
  · wp_walk using hb
    exact hq (some _) (some _) _ ⟨.inl (by simp), fun i e => by cases e; omega, fun i e => by cases e; omega, fun i j e e' => by cases e; cases e'; omega⟩ b3 F
  · wp_walk using hb
    exact hq (some _) none _ ⟨.inl (by simp), fun i e => by cases e; omega, fun i e => by (cases e), fun i j e e' => by cases e'⟩ b3 F
  · wp_walk using hb
    exact hq none (some _) _ ⟨.inr (by simp), fun i e => by (cases e), fun i e => by cases e; omega, fun i j e e' => by cases e⟩ b3 F
  · wp_walk using hb
    exact hq (some _) (some _) _ ⟨.inl (by simp), fun i e => by cases e; omega, fun i e => by cases e; omega, fun i j e e' => by cases e; cases e'; omega⟩ b3 F
/-- a span as it is drawn -/
structure OkS (ms : List Nm) (s : Spn) : Prop where
  a : s.a ∈ zro :: ms
  b : s.b ∈ zro :: ms
  ne : s.a ≠ s.b
theorem span_ok {b dg : Nat} {nm : Nm} {ms : List Nm} {h : Hs} {Q : D → Hs → Prop} {E : Ex → Hs → Prop} (hb : Bx b dg h) (hn : (zro :: ms).Nodup) (h0 : ms ≠ []) (hl : ms.length < 1000) (hq : ∀ x y lo hi h', x ∈ zro :: ms → y ∈ zro :: ms → x ≠ y → OkB lo hi → Bx b dg h' → Fr [b] h h' → Q (enS ⟨false, nm, x, y, lo, hi⟩) h') : (PH.fn__law_span.go [.ref b, .str nm, .tup (ms.map .str), .bl false] h).wp Q E := by
  unfold PH.fn__law_span
  rw [w_defn]
  unfold PH.s__law_span
  wp_walk using hb
  have g1 : (h ++ [Cell.lst [D.str (cs "zero")]] ++ [Cell.lst (ms.map .str)])[h.length]? = some (.lst [.str (cs "zero")]) := get_old get_new1
  have g2 : (h ++ [Cell.lst [D.str (cs "zero")]] ++ [Cell.lst (ms.map .str)])[(h ++ [Cell.lst [D.str (cs "zero")]]).length]? = some (.lst (ms.map .str)) := get_new1
  wp_walk using g1, g2
  have F1 : Fr [] h (h ++ [Cell.lst [D.str (cs "zero")]] ++ [Cell.lst (ms.map .str)] ++ [Cell.lst (D.str (cs "zero") :: ms.map .str)]) := (Fr.app.push).push
  have g3 : (h ++ [Cell.lst [D.str (cs "zero")]] ++ [Cell.lst (ms.map .str)] ++ [Cell.lst (D.str (cs "zero") :: ms.map .str)])[(h ++ [Cell.lst [D.str (cs "zero")]] ++ [Cell.lst (ms.map .str)]).length]? = some (.lst ((zro :: ms).map .str)) := get_new1
  have l3 : b < (h ++ [Cell.lst [D.str (cs "zero")]] ++ [Cell.lst (ms.map .str)]).length := by have := hb.lt; simp; omega
  generalize h ++ [Cell.lst [D.str (cs "zero")]] ++ [Cell.lst (ms.map .str)] ++ [Cell.lst (D.str (cs "zero") :: ms.map .str)] = H at *
  generalize (h ++ [Cell.lst [D.str (cs "zero")]] ++ [Cell.lst (ms.map .str)]).length = e at *
  have lp : 0 < ms.length := List.length_pos_iff.mpr h0
  refine ⟨by omega, rfl, draw_ok (hb.fr F1) (by decide) fun v1 h1 p1 _ b1 f1 => ?_⟩
  have ne : e ∉ [b] := by simp; omega
  have g4 := f1.get g3 ne
  wp_walk using g4
  refine ⟨by omega, rfl, draw_ok b1 (by decide) fun v2 h2 p2 _ b2 f2 => ?_⟩
  have g5 := f2.get g4 ne
  wp_walk using g5
  refine ⟨by omega, by omega, ?_⟩
  have x1 := Int.emod_nonneg v1 (show ((ms.length + 1 : Nat) : Int) ≠ 0 by omega)
  have x2 := Int.emod_lt_of_pos v1 (show 0 < ((ms.length + 1 : Nat) : Int) by omega)
  have y1 := Int.emod_nonneg v2 (show ((ms.length + 1 : Nat) : Int) - 1 ≠ 0 by omega)
  have y2 := Int.emod_lt_of_pos v2 (show 0 < ((ms.length + 1 : Nat) : Int) - 1 by omega)
  generalize v1 % ((ms.length + 1 : Nat) : Int) = x at *
  generalize v2 % (((ms.length + 1 : Nat) : Int) - 1) = y at *
  have z1 := Int.emod_nonneg (x + 1 + y) (show ((ms.length + 1 : Nat) : Int) ≠ 0 by omega)
  have z2 := Int.emod_lt_of_pos (x + 1 + y) (show 0 < ((ms.length + 1 : Nat) : Int) by omega)
  have xz : x ≠ (x + 1 + y) % ((ms.length + 1 : Nat) : Int) := fun q => by
    have d := Int.emod_add_mul_ediv (x + 1 + y) ((ms.length + 1 : Nat) : Int)
    rw [← q] at d
    have d2 : ((ms.length + 1 : Nat) : Int) * ((x + 1 + y) / ((ms.length + 1 : Nat) : Int)) = 1 + y := by omega
    have : (x + 1 + y) / ((ms.length + 1 : Nat) : Int) = 0 ∨ 1 ≤ (x + 1 + y) / ((ms.length + 1 : Nat) : Int) ∨ (x + 1 + y) / ((ms.length + 1 : Nat) : Int) ≤ -1 := by omega
    rcases this with k | k | k
    · rw [k] at d2; omega
    · have := Int.mul_le_mul_of_nonneg_left k (show 0 ≤ ((ms.length + 1 : Nat) : Int) by omega)
      omega
    · have := Int.mul_le_mul_of_nonneg_left k (show 0 ≤ ((ms.length + 1 : Nat) : Int) by omega)
      omega
  generalize (x + 1 + y) % ((ms.length + 1 : Nat) : Int) = z at *
  obtain ⟨i, rfl⟩ := Int.eq_ofNat_of_zero_le x1
  obtain ⟨j, rfl⟩ := Int.eq_ofNat_of_zero_le z1
  have hi : i < (zro :: ms).length := by simp; omega
  have hj : j < (zro :: ms).length := by simp; omega
  have gi : (D.str zro :: ms.map .str)[i]? = some (.str (zro :: ms)[i]) := by rw [← List.map_cons, List.getElem?_map, List.getElem?_eq_getElem hi]; rfl
  have gj : (D.str zro :: ms.map .str)[j]? = some (.str (zro :: ms)[j]) := by rw [← List.map_cons, List.getElem?_map, List.getElem?_eq_getElem hj]; rfl
  wp_walk using g5, atN, gi, gj
  refine ⟨rfl, bounds_ok b2 fun lo hi' h3 ok b3 f3 => ?_⟩
  wp_walk
  exact hq _ _ lo hi' _ (List.getElem_mem hi) (List.getElem_mem hj) (fun q => xz (by have := (List.getElem_inj hn).mp q; omega)) ok b3 (F1.up.trans (f1.trans (f2.trans f3)))
theorem Fr.setNew {S : List Nat} {h h1 : Hs} {n : Nat} {c : Cell} (f : Fr S h h1) (hn : h.length ≤ n) : Fr S h (h1.set n c) :=
  ⟨by simpa using f.1, fun m d q e => by rw [List.getElem?_set_ne (by have := get_lt e; omega)]; exact f.2 m d q e⟩
def abc : List Nm := [cs "a", cs "b", cs "c", cs "d", cs "e", cs "f", cs "g"]
theorem abc_nd : (zro :: abc).Nodup := by decide +kernel
theorem abc_take (n : Nat) : (zro :: abc.take n).Nodup := List.Nodup.sublist (List.Sublist.cons₂ _ (List.take_sublist n abc)) abc_nd
theorem cut_to {α : Type} (xs : List α) (n : Nat) : cutD xs none (some (n : Int)) = xs.take n := by
  unfold cutD
  rw [HT.sIx_none, HT.sIx_nat, List.drop_zero, Nat.sub_zero, List.take_eq_take_iff]
  omega
theorem num_len : ∀ i, i < 60 → (cs (toString ((i : Nat) : Int))).length ≤ 2 := by decide +kernel
theorem num_inj : ∀ i, i < 60 → ∀ j, j < 60 → cs (toString ((i : Nat) : Int)) = cs (toString ((j : Nat) : Int)) → i = j := by decide +kernel
theorem num_log {i : Nat} (h : i < 1900) : ((i : Int)).natAbs.log2 < 1920 := by
  rw [Int.natAbs_natCast]
  exact Nat.lt_of_le_of_lt (Nat.log2_le_self i) (by omega)
def sNm (c : String) (i : Nat) : Nm := cs c ++ cs (toString ((i : Nat) : Int))
/-- a loose span as it is drawn -/
def LsOk (ms : List Nm) (s : Spn) : Prop := ∃ (l u : Int), s.lo = some l ∧ s.hi = some u ∧ 1 ≤ l ∧ l ≤ u ∧ l ≤ 3 ∧ u ≤ 5 ∧ ∃ j : Nat, ms[j]? = some s.b ∧ (s.a = zro ∨ ∃ i : Nat, i < j ∧ ms[i]? = some s.a)
/-- rows of a drawn plan -/
structure GR (ms : List Nm) (rows : List Spn) : Prop where
  ok : ∀ s ∈ rows, s.a ∈ zro :: ms ∧ s.b ∈ zro :: ms ∧ s.a ≠ s.b
  bd : ∀ s ∈ rows, OkB s.lo s.hi
  ls : ∀ s ∈ rows, s.loose = true → LsOk ms s
  nd : (rows.map Spn.name).Nodup
  le : ((rows.filter Spn.loose).map Spn.b).Nodup
  nl : ∀ s ∈ rows, s.name.length ≤ 3
theorem GR.nil (ms : List Nm) : GR ms [] := ⟨fun _ q => (nomatch q), fun _ q => (nomatch q), fun _ q => (nomatch q), List.nodup_nil, List.nodup_nil, fun _ q => (nomatch q)⟩
/-- one more, anywhere -/
theorem GR.ins {ms : List Nm} {rows rows' : List Spn} {s : Spn} (g : GR ms rows) (p : rows'.Perm (s :: rows)) (h1 : s.a ∈ zro :: ms ∧ s.b ∈ zro :: ms ∧ s.a ≠ s.b) (h2 : OkB s.lo s.hi)
    (h3 : s.loose = true → LsOk ms s ∧ ∀ r ∈ rows, r.loose = true → r.b ≠ s.b)
    (h4 : ∀ r ∈ rows, r.name ≠ s.name) (h5 : s.name.length ≤ 3) : GR ms rows' where
  nl := fun r m => by
    rcases List.mem_cons.mp (p.mem_iff.mp m) with rfl | m
    · exact h5
    · exact g.nl r m
  ok := fun r m => by
    rcases List.mem_cons.mp (p.mem_iff.mp m) with rfl | m
    · exact h1
    · exact g.ok r m
  bd := fun r m => by
    rcases List.mem_cons.mp (p.mem_iff.mp m) with rfl | m
    · exact h2
    · exact g.bd r m
  ls := fun r m l => by
    rcases List.mem_cons.mp (p.mem_iff.mp m) with rfl | m
    · exact (h3 l).1
    · exact g.ls r m l
  nd := (p.map Spn.name).nodup_iff.mpr (by
    rw [List.map_cons, List.nodup_cons]
    refine ⟨fun m => ?_, g.nd⟩
    obtain ⟨r, hr, e⟩ := List.mem_map.mp m
    exact h4 r hr e)
  le := ((p.filter Spn.loose).map Spn.b).nodup_iff.mpr (by
    cases c : s.loose with
    | false => rw [List.filter_cons_of_neg (by simp [c])]; exact g.le
    | true =>
      rw [List.filter_cons_of_pos c, List.map_cons, List.nodup_cons]
      refine ⟨fun m => ?_, g.le⟩
      obtain ⟨r, hr, e⟩ := List.mem_map.mp m
      obtain ⟨hr, lr⟩ := List.mem_filter.mp hr
      exact (h3 c).2 r hr lr e)
/-- a drawn plan -/
structure GP (p : Pln) : Prop where
  n : ∃ n, n ≤ 7 ∧ p.marks = abc.take n
  rows : GR p.marks p.rows
  few : p.rows.length ≤ 30
theorem cs_s : cs "s" = [115] := by decide +kernel
theorem cs_w : cs "w" = [119] := by decide +kernel
theorem abcD (m : Nat) : ([.str (cs "a"), .str (cs "b"), .str (cs "c"), .str (cs "d"), .str (cs "e"), .str (cs "f"), .str (cs "g")] : List D).take m = (abc.take m).map .str := by
  rw [List.map_take]; rfl
/-- between two turns of the second loop -/
def PlB (b dg r e m ns nl : Nat) (ms : List Nm) (h : Hs) (k : Nat) (env : Env) (h' : Hs) : Prop := ∃ (o5 o8 o9 o10 : Option D) (rows : List Spn) (es : List Nm), env = [some (.ref b), some (.int m), some (.int ns), some (.int nl), some (.tup (ms.map .str)), o5, some (.ref r), some (.ref e), o8, o9, o10] ∧
  h'[r]? = some (.lst (rows.map enS)) ∧ h'[e]? = some (.lst (es.map .str)) ∧ GR ms rows ∧ rows.length ≤ ns + k ∧ (∀ s ∈ rows, (∃ j, j < 15 ∧ s.name = sNm "s" j) ∨ ∃ j, j < k ∧ s.name = sNm "w" j) ∧ (∀ s ∈ rows, s.loose = true → s.b ∈ es ∧ 0 < k) ∧ es.length ≤ k ∧ (m = 0 → rows = []) ∧ Bx b dg h' ∧ Fr [b] h h'
theorem plan_ok {b dg : Nat} {m ns nl : Nat} {h : Hs} {Q : D → Hs → Prop} {E : Ex → Hs → Prop} (hb : Bx b dg h) (hm : m ≤ 7) (hs : ns ≤ 15) (hl : nl ≤ 10)
    (hq : ∀ p h', GP p → p.marks = abc.take m → p.rows.length ≤ ns + nl → (nl = 0 → ∀ r ∈ p.rows, r.loose = false) → (m = 0 → p.rows = []) → Bx b dg h' → Fr [b] h h' → Q (enP p) h') : (PH.fn__law_plan.go [.ref b, .int m, .int ns, .int nl] h).wp Q E := by
  unfold PH.fn__law_plan
  rw [w_defn]
  unfold PH.s__law_plan
  wp_walk using cut_to, abcD
  have hms : (abc.take m).length = m := by rw [List.length_take]; exact Nat.min_eq_left hm
  have hnd := abc_take m
  have hm0 : m ≠ 0 → abc.take m ≠ [] := fun c q => c (by rw [← hms, q]; rfl)
  have h70 : m = 0 → abc.take m = [] := fun c => by rw [c]; rfl
  have hmark : ∃ n, n ≤ 7 ∧ abc.take m = abc.take n := ⟨m, hm, rfl⟩
  have hmD : ∀ p : Pln, p.marks = abc.take m → GR p.marks p.rows → p.rows.length ≤ ns + nl → GP p := fun p e g l => ⟨⟨m, hm, e⟩, g, by omega⟩
  generalize hM : abc.take m = ms at *
  have e1 : (h ++ [Cell.lst []] ++ [Cell.lst []])[h.length]? = some (.lst []) := get_old get_new1
  have e2 : (h ++ [Cell.lst []] ++ [Cell.lst []])[(h ++ [Cell.lst []]).length]? = some (.lst []) := get_new1
  have F1 : Fr [b] h (h ++ [Cell.lst []] ++ [Cell.lst []]) := Fr.app.push
  have B1 : Bx b dg (h ++ [Cell.lst []] ++ [Cell.lst []]) := hb.fr (Fr.app.push)
  have ne1 : h.length ≠ (h ++ [Cell.lst []]).length := by simp
  have hr0 : h.length ≤ h.length := Nat.le_refl _
  have he0 : h.length ≤ (h ++ [Cell.lst []]).length := by simp
  generalize h ++ [Cell.lst []] ++ [Cell.lst []] = H at *
  generalize hE : (h ++ [Cell.lst []]).length = e at *
  generalize hR : h.length = r at *
  have bL : b < r := by rw [← hR]; exact hb.lt
  have dL : dg < r := by rw [← hR]; exact hb.ltd
  refine w_for ((List.range (if m = 0 then 0 else ns)).map fun i => .int ((i : Nat) : Int)) (fun _ => True) (fun k env h' => ∃ (o5 : Option D) (rows : List Spn), env = [some (.ref b), some (.int m), some (.int ns), some (.int nl), some (.tup (ms.map .str)), o5, some (.ref r), some (.ref e), none, none, none] ∧
      h'[r]? = some (.lst (rows.map enS)) ∧ h'[e]? = some (.lst []) ∧ GR ms rows ∧ rows.length = k ∧ (∀ s ∈ rows, s.loose = false ∧ ∃ j, j < k ∧ s.name = sNm "s" j) ∧ Bx b dg h' ∧ Fr [b] h h') ?_ (fun _ _ _ _ => trivial) ?_ ?_
  · wp_walk
    refine wif_d (fun c => ?_) (fun c => ?_)
    · have c : m ≠ 0 := by omega
      wp_walk using if_neg c
      refine ⟨by unfold small; simp; omega, by simpa using t_rng0 ns _, _, [], rfl, e1, e2, GR.nil ms, rfl, fun _ q => (nomatch q), B1, F1⟩
    · have c : m = 0 := by omega
      wp_walk using if_pos c
      refine ⟨by rfl, by simpa using t_rng0 0 _, _, [], rfl, e1, e2, GR.nil ms, rfl, fun _ q => (nomatch q), B1, F1⟩
  · rintro k x env h' hx ⟨o5, rows, rfl, g1, g2, gr, hk, nm, B, F⟩
    obtain ⟨hk2, rfl⟩ := range_get0 hx
    have c : m ≠ 0 := fun c => by rw [if_pos c] at hk2; omega
    rw [if_neg c] at hk2
    have ln := num_len k (by omega)
    wp_walk using g1, num_log (show k < 1900 by omega)
    refine ⟨by rw [cs_s, show ([115] : List Nat).length = 1 from rfl]; omega, rfl, span_ok B hnd (hm0 c) (by omega) fun x y lo hi h2 hx2 hy ne ok B2 F2 => ?_⟩
    have k1 := F2.get g1 (by simp; omega)
    have k2 := F2.get g2 (by simp; omega)
    wp_walk using k1
    refine ⟨by omega, some (.int k), rows ++ [⟨false, sNm "s" k, x, y, lo, hi⟩], rfl, ?_, get_setne k2 ne1, ?_, by simp [hk], ?_, ?_, ?_⟩
    · rw [get_set k1, List.map_append]; rfl
    · refine gr.ins (List.perm_append_singleton _ _) ⟨hx2, hy, ne⟩ ok (fun q => nomatch q) (fun s hs2 q => ?_) (by show (sNm "s" k).length ≤ 3; unfold sNm; rw [cs_s, List.length_append]; show 1 + _ ≤ 3; omega)
      obtain ⟨_, j, hj, e⟩ := nm s hs2
      rw [e] at q
      have := num_inj j (by omega) k (by omega) (List.append_cancel_left q)
      omega
    · intro s hs2
      rcases List.mem_append.mp hs2 with q | q
      · obtain ⟨q1, j, hj, e⟩ := nm s q
        exact ⟨q1, j, by omega, e⟩
      · rw [List.mem_singleton.mp q]
        exact ⟨rfl, k, by omega, rfl⟩
    · exact B2.set (by omega) (by omega)
    · exact (F.trans F2).setNew (by omega)
  · rintro env h' ⟨o5, rows, rfl, g1, g2, gr, hk, nm, B, F⟩
    rw [w_nextF]
    dsimp only
    rw [w_seqF]
    rw [List.length_map, List.length_range] at hk nm
    have hN : rows.length ≤ ns := by rw [hk]; split <;> omega
    have hz0 : m = 0 → rows = [] := fun c => by rw [if_pos c] at hk; exact List.length_eq_zero_iff.mp hk
    have hnm : ∀ s ∈ rows, s.loose = false ∧ ∃ j, j < 15 ∧ s.name = sNm "s" j := fun s q => by
      obtain ⟨q1, j, hj, q2⟩ := nm s q
      exact ⟨q1, j, by split at hj <;> omega, q2⟩
    refine w_for ((List.range (if m = 0 then 0 else nl)).map fun i => .int ((i : Nat) : Int)) (fun _ => True) (PlB b dg r e m ns nl ms h) ?_ (fun _ _ _ _ => trivial) ?_ ?_
    · have fin : PlB b dg r e m ns nl ms h 0 [some (.ref b), some (.int m), some (.int ns), some (.int nl), some (.tup (ms.map .str)), o5, some (.ref r), some (.ref e), none, none, none] h' :=
        ⟨_, _, _, _, rows, [], rfl, g1, g2, gr, by omega, fun s q => .inl (hnm s q).2, fun s q l => (by have := (hnm s q).1; rw [this] at l; cases l), Nat.le_refl _, hz0, B, F⟩
      wp_walk
      refine wif_d (fun c => ?_) (fun c => ?_)
      · have c : m ≠ 0 := by omega
        wp_walk
        exact ⟨by unfold small; simp; omega, by rw [if_neg c]; simpa using t_rng0 nl _, fin⟩
      · have c : m = 0 := by omega
        wp_walk
        exact ⟨by rfl, by rw [if_pos c]; exact t_rng0 0 _, fin⟩
    · rintro k x env h' hx ⟨o5, o8, o9, o10, rows, es, rfl, g1, g2, gr, hk, nm, hlo, hes, hz, B, F⟩
      obtain ⟨hk2, rfl⟩ := range_get0 hx
      have c : m ≠ 0 := fun c => by rw [if_pos c] at hk2; omega
      rw [if_neg c] at hk2
      have ln := num_len k (by omega)
      wp_walk using g1
      refine ⟨rfl, draw_ok B (by decide) fun v1 h1 p1 _ B1 F1 => ?_⟩
      have q1 := F1.get g1 (by simp; omega)
      have q2 := F1.get g2 (by simp; omega)
      have x1 := Int.emod_nonneg v1 (show (m : Int) ≠ 0 by omega)
      have x2 := Int.emod_lt_of_pos v1 (show 0 < (m : Int) by omega)
      wp_walk
      refine ⟨by omega, ?_⟩
      generalize v1 % (m : Int) = x at *
      obtain ⟨i, rfl⟩ := Int.eq_ofNat_of_zero_le x1
      have hi : i < ms.length := by omega
      have gi : (ms.map D.str)[i]? = some (.str ms[i]) := by rw [List.getElem?_map, List.getElem?_eq_getElem hi]; rfl
      wp_walk using atN, gi, q1, q2, in_strs
      have keep : ∀ o8 : Option D, PlB b dg r e m ns nl ms h (k + 1) [some (.ref b), some (.int m), some (.int ns), some (.int nl), some (.tup (ms.map .str)), some (.int k), some (.ref r), some (.ref e), o8, o9, o10] h1 := fun o8 =>
        ⟨_, _, _, _, rows, es, rfl, q1, q2, gr, by omega, fun s q => (nm s q).imp id fun ⟨j, a, z⟩ => ⟨j, by omega, z⟩, fun s q l => ⟨(hlo s q l).1, by omega⟩, by omega, hz, B1, F.trans F1⟩
      by_cases ci : ms[i] ∈ es
      · wp_walk using ci
        exact keep _
      · wp_walk using ci, cut_to
        have lt : ((ms.map D.str).take i).length = i := by rw [List.length_take, List.length_map]; omega
        have f2 : Fr [] h1 (h1 ++ [Cell.lst [D.str (cs "zero")]] ++ [Cell.lst ((ms.map D.str).take i)] ++ [Cell.lst (D.str (cs "zero") :: (ms.map D.str).take i)]) := Fr.app.push.push
        have t1 : (h1 ++ [Cell.lst [D.str (cs "zero")]] ++ [Cell.lst ((ms.map D.str).take i)])[h1.length]? = some (.lst [D.str (cs "zero")]) := get_old get_new1
        have t2 : (h1 ++ [Cell.lst [D.str (cs "zero")]] ++ [Cell.lst ((ms.map D.str).take i)])[(h1 ++ [Cell.lst [D.str (cs "zero")]]).length]? = some (.lst ((ms.map D.str).take i)) := get_new1
        have t3 : (h1 ++ [Cell.lst [D.str (cs "zero")]] ++ [Cell.lst ((ms.map D.str).take i)] ++ [Cell.lst (D.str (cs "zero") :: (ms.map D.str).take i)])[(h1 ++ [Cell.lst [D.str (cs "zero")]] ++ [Cell.lst ((ms.map D.str).take i)]).length]? = some (.lst (D.str (cs "zero") :: (ms.map D.str).take i)) := get_new1
        have lb : b < (h1 ++ [Cell.lst [D.str (cs "zero")]] ++ [Cell.lst ((ms.map D.str).take i)]).length := by have := B1.lt; simp; omega
        wp_walk using t1, t2
        generalize h1 ++ [Cell.lst [D.str (cs "zero")]] ++ [Cell.lst ((ms.map D.str).take i)] ++ [Cell.lst (D.str (cs "zero") :: (ms.map D.str).take i)] = H2 at *
        generalize (h1 ++ [Cell.lst [D.str (cs "zero")]] ++ [Cell.lst ((ms.map D.str).take i)]).length = e2 at *
        refine ⟨by omega, rfl, draw_ok (B1.fr f2) (by decide) fun v2 h3 _ _ B3 F3 => ?_⟩
        have t4 := F3.get t3 (by simp; omega)
        wp_walk using t4
        refine ⟨by omega, ?_⟩
        have y1 := Int.emod_nonneg v2 (show (i : Int) + 1 ≠ 0 by omega)
        have y2 := Int.emod_lt_of_pos v2 (show 0 < (i : Int) + 1 by omega)
        generalize v2 % ((i : Int) + 1) = y at *
        obtain ⟨j, rfl⟩ := Int.eq_ofNat_of_zero_le y1
        obtain ⟨bg, hbg, hbg2⟩ : ∃ bg : Nm, (D.str (cs "zero") :: (ms.map D.str).take i)[j]? = some (.str bg) ∧ (bg = zro ∨ ∃ j : Nat, j < i ∧ ms[j]? = some bg) := by
          cases j with
          | zero => exact ⟨zro, rfl, .inl rfl⟩
          | succ j =>
            have hj : j < i := by omega
            have hj2 : j < ms.length := by omega
            refine ⟨ms[j], ?_, .inr ⟨j, hj, List.getElem?_eq_getElem hj2⟩⟩
            rw [List.getElem?_cons_succ, List.getElem?_take_of_lt hj, List.getElem?_map, List.getElem?_eq_getElem hj2]; rfl
        wp_walk using t4, atN, hbg
        refine ⟨rfl, draw_ok B3 (by decide) fun v3 h4 _ _ B4 F4 => ?_⟩
        have nr : r ∉ [b] := by simp; omega
        have ne' : e ∉ [b] := by simp; omega
        have q3 := F4.get (F3.get (f2.get q1) nr) nr
        have q4 := F4.get (F3.get (f2.get q2) ne') ne'
        wp_walk using q3, q4, gi, atN
        have s3 : (h4.set e (.lst (es.map D.str ++ [.str ms[i]])))[r]? = some (.lst (rows.map enS)) := get_setne q3 (by omega)
        have s4 : (h4.set e (.lst (es.map D.str ++ [.str ms[i]])))[e]? = some (.lst ((es ++ [ms[i]]).map D.str)) := by rw [get_set q4, List.map_append]; rfl
        have B5 : Bx b dg (h4.set e (.lst (es.map D.str ++ [.str ms[i]]))) := B4.set (by omega) (by omega)
        have F5 : Fr [b] h (h4.set e (.lst (es.map D.str ++ [.str ms[i]]))) := Fr.setNew (F.trans (F1.trans (f2.up.trans (F3.trans F4)))) (by omega)
        wp_walk using s3
        generalize h4.set e (.lst (es.map D.str ++ [.str ms[i]])) = H5 at *
        refine ⟨by omega, rfl, draw_ok B5 (by omega) fun v4 h6 u1 u2 B6 F6 => ?_⟩
        wp_walk using atN, gi, num_log (show k < 1900 by omega)
        refine ⟨by rw [cs_w, show ([119] : List Nat).length = 1 from rfl]; omega, rfl, draw_ok B6 (by decide) fun v5 h7 _ _ B7 F7 => ?_⟩
        have s5 := F7.get (F6.get s3 nr) nr
        have s6 := F7.get (F6.get s4 ne') ne'
        wp_walk using s5
        obtain ⟨p, rfl⟩ := Int.eq_ofNat_of_zero_le u1
        refine ⟨⟨by omega, by omega, by omega⟩, ?_⟩
        let z : Spn := ⟨true, sNm "w" k, bg, ms[i], some (1 + v3), some (1 + v3 + v5)⟩
        have pz : (rows.take p ++ [z] ++ rows.drop p).Perm (z :: rows) := by
          have : (rows.take p ++ [z] ++ rows.drop p).Perm ([z] ++ (rows.take p ++ rows.drop p)) := by
            rw [← List.append_assoc]
            exact List.Perm.append_right _ List.perm_append_comm
          rwa [List.take_append_drop] at this
        have mi : ms[i] ∈ zro :: ms := List.mem_cons_of_mem _ (List.getElem_mem hi)
        have mbg : bg ∈ zro :: ms := by
          rcases hbg2 with rfl | ⟨j, _, ej⟩
          · exact List.mem_cons_self
          · exact List.mem_cons_of_mem _ (List.mem_of_getElem? ej)
        have nbg : bg ≠ ms[i] := by
          rw [List.nodup_cons] at hnd
          rcases hbg2 with rfl | ⟨j, lj, ej⟩
          · exact fun q => hnd.1 (q ▸ List.getElem_mem hi)
          · intro q
            obtain ⟨hj, ej⟩ := List.getElem?_eq_some_iff.mp ej
            have := (List.getElem_inj hnd.2).mp (ej.trans q)
            omega
        refine ⟨_, _, _, _, rows.take p ++ [z] ++ rows.drop p, es ++ [ms[i]], rfl, ?_, ?_, ?_, ?_, ?_, ?_, ?_, ?_, ?_, ?_⟩
        · rw [get_set s5]
          simp only [List.map_append, List.map_take, List.map_drop, Int.toNat_natCast]
          rfl
        · exact get_setne s6 (by omega)
        · refine gr.ins pz ⟨mbg, mi, nbg⟩ ⟨.inl (by simp [z]), fun a q => by cases q; omega, fun a q => by cases q; omega, fun a c q q' => by cases q; cases q'; omega⟩
            (fun _ => ⟨⟨_, _, rfl, rfl, by omega, by omega, by omega, by omega, i, List.getElem?_eq_getElem hi, hbg2⟩, fun s hs2 l q => ci ((show s.b = ms[i] from q) ▸ (hlo s hs2 l).1)⟩) (fun s hs2 q => ?_) (by show (sNm "w" k).length ≤ 3; unfold sNm; rw [cs_w, List.length_append]; show 1 + _ ≤ 3; omega)
          rcases nm s hs2 with ⟨j, hj, e⟩ | ⟨j, hj, e⟩
          · have q : s.name = sNm "w" k := q
            rw [e] at q
            unfold sNm at q
            rw [cs_s, cs_w] at q
            simp at q
          · have q : s.name = sNm "w" k := q
            rw [e] at q
            have := num_inj j (by omega) k (by omega) (List.append_cancel_left q)
            omega
        · rw [pz.length_eq, List.length_cons]; omega
        · intro s hs2
          rcases List.mem_cons.mp (pz.mem_iff.mp hs2) with rfl | q
          · exact .inr ⟨k, by omega, rfl⟩
          · exact (nm s q).imp id fun ⟨j, a, z⟩ => ⟨j, by omega, z⟩
        · intro s hs2 l
          rcases List.mem_cons.mp (pz.mem_iff.mp hs2) with rfl | q
          · exact ⟨by simp [z], by omega⟩
          · exact ⟨List.mem_append_left _ (hlo s q l).1, by omega⟩
        · simp; omega
        · exact fun q => absurd q c
        · exact B7.set (by omega) (by omega)
        · exact (F5.trans (F6.trans F7)).setNew (by omega)
    · rintro env h' ⟨o5, o8, o9, o10, rows, es, rfl, g1, g2, gr, hk, nm, hlo, hes, hz, B, F⟩
      rw [List.length_map, List.length_range] at hk hlo
      wp_walk using g1
      have hk2 : rows.length ≤ ns + nl := by
        split at hk
        · rename_i c; rw [hz c]; simp
        · exact hk
      exact hq ⟨ms, rows⟩ h' (hmD ⟨ms, rows⟩ rfl gr hk2) rfl hk2 (fun c s hs2 => Bool.eq_false_iff.mpr fun l => by
        have := (hlo s hs2 l).2
        rw [c] at this
        split at this <;> omega) hz B F
/-! GA: walks, the closure. Plain. -/
abbrev Arc := List Nat × List Nat × Int
/-- a walk from x to y over arcs, of this length -/
inductive Wk (A : List Arc) : List Nat → List Nat → Int → Prop
  | nil (x : List Nat) : Wk A x x 0
  | snoc {x u v : List Nat} {L l : Int} : Wk A x u L → (u, v, l) ∈ A → Wk A x v (L + l)
theorem Wk.trans {A : List Arc} {x y z : List Nat} {L M : Int} (a : Wk A x y L) (b : Wk A y z M) : Wk A x z (L + M) := by
  induction b with
  | nil => rw [Int.add_zero]; exact a
  | snoc _ h ih => rw [← Int.add_assoc]; exact .snoc ih h
theorem Wk.one {A : List Arc} {x y : List Nat} {l : Int} (h : (x, y, l) ∈ A) : Wk A x y l := by
  have := Wk.snoc (Wk.nil x) h
  rwa [Int.zero_add] at this
theorem Wk.mono {A B : List Arc} {x y : List Nat} {L : Int} (a : Wk A x y L) (h : ∀ q ∈ A, q ∈ B) : Wk B x y L := by
  induction a with
  | nil => exact .nil _
  | snoc _ m ih => exact .snoc ih (h _ m)
/-- no closed walk is below 0 -/
def NoNeg (A : List Arc) : Prop := ∀ x L, Wk A x x L → 0 ≤ L
/-- numbers that meet all arcs -/
def Meets (A : List Arc) (p : List Nat → Int) : Prop := ∀ u v l, (u, v, l) ∈ A → p v - p u ≤ l
theorem Meets.wk {A : List Arc} {p : List Nat → Int} (m : Meets A p) {x y : List Nat} {L : Int} (w : Wk A x y L) : p y - p x ≤ L := by
  induction w with
  | nil => omega
  | snoc _ h ih => have := m _ _ _ h; omega
theorem Meets.noNeg {A : List Arc} {p : List Nat → Int} (m : Meets A p) : NoNeg A := fun x L w => by have := m.wk w; omega
/-! ### the table -/
abbrev Tbl := List Nat → List Nat → Option Int
def upd2 (T : Tbl) (x y : List Nat) (v : Option Int) : Tbl := fun a b => if a = x ∧ b = y then v else T a b
theorem upd2_same (T : Tbl) (x y : List Nat) (v : Option Int) : upd2 T x y v x y = v := by simp [upd2]
theorem upd2_ne (T : Tbl) {x y a b : List Nat} (v : Option Int) (h : ¬ (a = x ∧ b = y)) : upd2 T x y v a b = T a b := by simp [upd2, h]
def lower (T : Tbl) (x y : List Nat) (l : Int) : Tbl := match T x y with
  | none => upd2 T x y (some l)
  | some c => if l < c then upd2 T x y (some l) else T
def init (_ : List (List Nat)) : Tbl := fun x y => if x = y then some 0 else none
def addArc (T : Tbl) (a : Arc) : Tbl := lower T a.1 a.2.1 a.2.2
def fwC (z x : List Nat) (T : Tbl) (y : List Nat) : Tbl := match T x z, T z y with
  | some a, some b => lower T x y (a + b)
  | _, _ => T
def fwR (ns : List (List Nat)) (z : List Nat) (T : Tbl) (x : List Nat) : Tbl := ns.foldl (fwC z x) T
def fwZ (ns : List (List Nat)) (T : Tbl) (z : List Nat) : Tbl := ns.foldl (fwR ns z) T
def closure (ns : List (List Nat)) (A : List Arc) : Tbl := ns.foldl (fwZ ns) (A.foldl addArc (init ns))
/-- T' is nowhere above T -/
def Lo (T' T : Tbl) : Prop := ∀ x y c, T x y = some c → ∃ c', T' x y = some c' ∧ c' ≤ c
theorem Lo.refl (T : Tbl) : Lo T T := fun _ _ c e => ⟨c, e, Int.le_refl _⟩
theorem Lo.trans {A B C : Tbl} (a : Lo A B) (b : Lo B C) : Lo A C := fun x y c e =>
  let ⟨c1, e1, l1⟩ := b x y c e
  let ⟨c2, e2, l2⟩ := a x y c1 e1
  ⟨c2, e2, Int.le_trans l2 l1⟩
def Snd (A : List Arc) (T : Tbl) : Prop := ∀ x y L, T x y = some L → Wk A x y L
theorem lower_val (T : Tbl) (x y : List Nat) (l : Int) : ∃ c, lower T x y l x y = some c ∧ c ≤ l ∧ (c = l ∨ T x y = some c) := by
  unfold lower
  cases e : T x y with
  | none => exact ⟨l, upd2_same _ _ _ _, Int.le_refl _, .inl rfl⟩
  | some c =>
    dsimp only
    split
    · exact ⟨l, upd2_same _ _ _ _, Int.le_refl _, .inl rfl⟩
    · exact ⟨c, e, by omega, .inr rfl⟩
theorem lower_ne (T : Tbl) {x y a b : List Nat} (l : Int) (h : ¬ (a = x ∧ b = y)) : lower T x y l a b = T a b := by
  unfold lower
  cases T x y with
  | none => exact upd2_ne _ _ h
  | some c =>
    dsimp only
    split
    · exact upd2_ne _ _ h
    · rfl
theorem lower_lo (T : Tbl) (x y : List Nat) (l : Int) : Lo (lower T x y l) T := fun a b c e => by
  by_cases h : a = x ∧ b = y
  · obtain ⟨rfl, rfl⟩ := h
    unfold lower
    rw [e]
    dsimp only
    split
    · exact ⟨l, upd2_same _ _ _ _, by omega⟩
    · exact ⟨c, e, Int.le_refl _⟩
  · exact ⟨c, by rw [lower_ne _ _ h]; exact e, Int.le_refl _⟩
theorem lower_snd {A : List Arc} {T : Tbl} (s : Snd A T) {x y : List Nat} {l : Int} (w : Wk A x y l) : Snd A (lower T x y l) := fun a b L e => by
  by_cases h : a = x ∧ b = y
  · obtain ⟨rfl, rfl⟩ := h
    obtain ⟨c, e1, _, e2⟩ := lower_val T a b l
    rw [e1] at e; cases e
    rcases e2 with rfl | e2
    · exact w
    · exact s _ _ _ e2
  · rw [lower_ne _ _ h] at e
    exact s _ _ _ e
theorem fwC_lo (z x : List Nat) (T : Tbl) (y : List Nat) : Lo (fwC z x T y) T := by
  unfold fwC
  split
  · exact lower_lo _ _ _ _
  · exact .refl _
theorem fwC_snd {A : List Arc} {T : Tbl} (s : Snd A T) (z x y : List Nat) : Snd A (fwC z x T y) := by
  unfold fwC
  split
  · rename_i a b e1 e2
    exact lower_snd s ((s _ _ _ e1).trans (s _ _ _ e2))
  · exact s
theorem fold_inv {α β : Type} {P : α → Prop} {f : α → β → α} (h : ∀ a b, P a → P (f a b)) : ∀ (l : List β) (a : α), P a → P (l.foldl f a)
  | [], _, p => p
  | b :: l, a, p => fold_inv h l (f a b) (h a b p)
theorem fold_lo {β : Type} {f : Tbl → β → Tbl} (h : ∀ T b, Lo (f T b) T) : ∀ (l : List β) (T : Tbl), Lo (l.foldl f T) T
  | [], T => .refl T
  | b :: l, T => (fold_lo h l (f T b)).trans (h T b)
theorem fwR_lo (ns : List (List Nat)) (z : List Nat) (T : Tbl) (x : List Nat) : Lo (fwR ns z T x) T := fold_lo (fun T y => fwC_lo z x T y) ns T
theorem fwZ_lo (ns : List (List Nat)) (T : Tbl) (z : List Nat) : Lo (fwZ ns T z) T := fold_lo (fun T x => fwR_lo ns z T x) ns T
theorem fwZ_snd {A : List Arc} (ns : List (List Nat)) {T : Tbl} (s : Snd A T) (z : List Nat) : Snd A (fwZ ns T z) :=
  fold_inv (P := Snd A) (fun T x s => fold_inv (P := Snd A) (fun T y s => fwC_snd s z x y) ns T s) ns T s
/-! a round, where the diagonal at z is not below 0 -/
def mnO : Option Int → Option Int → Option Int
  | none, b => b
  | some a, none => some a
  | some a, some b => some (if b < a then b else a)
def plO : Option Int → Option Int → Option Int
  | some a, some b => some (a + b)
  | _, _ => none
theorem lower_eq (T : Tbl) (x y : List Nat) (l : Int) : lower T x y l x y = mnO (T x y) (some l) := by
  unfold lower
  cases e : T x y with
  | none => exact upd2_same _ _ _ _
  | some c =>
    show (if l < c then upd2 T x y (some l) else T) x y = some (if l < c then l else c)
    by_cases h : l < c
    · rw [if_pos h, if_pos h]; exact upd2_same _ _ _ _
    · rw [if_neg h, if_neg h]; exact e
theorem fwC_eq (z x : List Nat) (T : Tbl) (y : List Nat) : fwC z x T y x y = mnO (T x y) (plO (T x z) (T z y)) := by
  unfold fwC
  cases e1 : T x z with
  | none => cases e2 : T z y <;> cases e3 : T x y <;> exact e3
  | some a =>
    cases e2 : T z y with
    | none => cases e3 : T x y <;> exact e3
    | some b => exact lower_eq _ _ _ _
theorem fwC_ne (z x : List Nat) (T : Tbl) {y a b : List Nat} (h : ¬ (a = x ∧ b = y)) : fwC z x T y a b = T a b := by
  unfold fwC
  cases e1 : T x z with
  | none => cases e2 : T z y <;> rfl
  | some p =>
    cases e2 : T z y with
    | none => rfl
    | some q => exact lower_ne _ _ h
/-- x's row after the round's part -/
structure RowOk (T0 T : Tbl) (z x : List Nat) (ys : List (List Nat)) : Prop where
  out : ∀ a b, a ≠ x → T a b = T0 a b
  hit : ∀ y, y ∈ ys → T x y = mnO (T0 x y) (plO (T0 x z) (T0 z y))
  not : ∀ y, y ∉ ys → T x y = T0 x y
theorem mn_stay {T0 : Tbl} {z : List Nat} {d : Int} (hz : T0 z z = some d) (hd : 0 ≤ d) (x : List Nat) : mnO (T0 x z) (plO (T0 x z) (T0 z z)) = T0 x z := by
  rw [hz]
  cases T0 x z with
  | none => rfl
  | some a => show some (if a + d < a then a + d else a) = some a; rw [if_neg (by omega)]
theorem mn_stay2 {T0 : Tbl} {z : List Nat} {d : Int} (hz : T0 z z = some d) (hd : 0 ≤ d) (y : List Nat) : mnO (T0 z y) (plO (T0 z z) (T0 z y)) = T0 z y := by
  rw [hz]
  cases T0 z y with
  | none => rfl
  | some a => show some (if d + a < a then d + a else a) = some a; rw [if_neg (by omega)]
theorem fwR_row {T0 : Tbl} {z x : List Nat} {d : Int} (hz : T0 z z = some d) (hd : 0 ≤ d) : ∀ (ys done : List (List Nat)) (T : Tbl), (done ++ ys).Nodup → RowOk T0 T z x done → RowOk T0 (ys.foldl (fwC z x) T) z x (done ++ ys)
  | [], done, T, _, r => by rw [List.append_nil]; exact r
  | y :: ys, done, T, nd, r => by
    have nd' : ((done ++ [y]) ++ ys).Nodup := by rw [List.append_assoc]; exact nd
    have hy : y ∉ done := fun m => (List.nodup_append.mp nd).2.2 y m y (List.mem_cons_self) rfl
    have r' : RowOk T0 (fwC z x T y) z x (done ++ [y]) := by
      have exz : T x z = T0 x z := by
        by_cases m : z ∈ done
        · rw [r.hit z m]; exact mn_stay hz hd x
        · exact r.not z m
      have ezy : T z y = T0 z y := by
        by_cases q : z = x
        · subst q; exact r.not y hy
        · exact r.out z y q
      refine ⟨fun a b q => by rw [fwC_ne _ _ _ (fun c => q c.1)]; exact r.out a b q, fun b m => ?_, fun b m => ?_⟩
      · by_cases q : b = y
        · subst q
          rw [fwC_eq, exz, ezy, r.not b hy]
        · rw [fwC_ne _ _ _ (fun c => q c.2)]
          rcases List.mem_append.mp m with m | m
          · exact r.hit b m
          · exact absurd (List.mem_singleton.mp m) q
      · have q : b ≠ y := fun e => m (List.mem_append_right _ (by rw [e]; exact List.mem_singleton_self _))
        rw [fwC_ne _ _ _ (fun c => q c.2)]
        exact r.not b fun m' => m (List.mem_append_left _ m')
    have := fwR_row hz hd ys (done ++ [y]) _ nd' r'
    rw [List.append_assoc] at this
    exact this
structure RndOk (ns : List (List Nat)) (T0 T : Tbl) (z : List Nat) (xs : List (List Nat)) : Prop where
  hit : ∀ x y, x ∈ xs → y ∈ ns → T x y = mnO (T0 x y) (plO (T0 x z) (T0 z y))
  not : ∀ x y, x ∉ xs → T x y = T0 x y
  off : ∀ x y, y ∉ ns → T x y = T0 x y
theorem fwZ_rnd {ns : List (List Nat)} {T0 : Tbl} {z : List Nat} {d : Int} (hn : ns.Nodup) (hzn : z ∈ ns) (hz : T0 z z = some d) (hd : 0 ≤ d) : ∀ (xs done : List (List Nat)) (T : Tbl), (done ++ xs).Nodup → RndOk ns T0 T z done → RndOk ns T0 (xs.foldl (fwR ns z) T) z (done ++ xs)
  | [], done, T, _, r => by rw [List.append_nil]; exact r
  | x :: xs, done, T, nd, r => by
    have nd' : ((done ++ [x]) ++ xs).Nodup := by rw [List.append_assoc]; exact nd
    have hx : x ∉ done := fun m => (List.nodup_append.mp nd).2.2 x m x (List.mem_cons_self) rfl
    have ezz : T z z = some d := by
      by_cases m : z ∈ done
      · rw [r.hit z z m hzn, mn_stay hz hd]; exact hz
      · rw [r.not z z m]; exact hz
    have rw' := fwR_row (T0 := T) (x := x) ezz hd ns [] T (by simpa using hn) ⟨fun _ _ _ => rfl, fun _ m => (nomatch m), fun _ _ => rfl⟩
    rw [List.nil_append] at rw'
    have ezy : ∀ y, y ∈ ns → T z y = T0 z y := fun y hy => by
      by_cases m : z ∈ done
      · rw [r.hit z y m hy]; exact mn_stay2 hz hd y
      · exact r.not z y m
    have r' : RndOk ns T0 (fwR ns z T x) z (done ++ [x]) := by
      refine ⟨fun a y m hy => ?_, fun a y m => ?_, fun a y hy => ?_⟩
      · by_cases q : a = x
        · subst q
          show (ns.foldl (fwC z a) T) a y = _
          rw [rw'.hit y hy, ezy y hy, r.not a y hx, r.not a z hx]
        · show (ns.foldl (fwC z x) T) a y = _
          rw [rw'.out a y q]
          rcases List.mem_append.mp m with m | m
          · exact r.hit a y m hy
          · exact absurd (List.mem_singleton.mp m) q
      · have q : a ≠ x := fun e => m (List.mem_append_right _ (by rw [e]; exact List.mem_singleton_self _))
        show (ns.foldl (fwC z x) T) a y = _
        rw [rw'.out a y q]
        exact r.not a y fun m' => m (List.mem_append_left _ m')
      · show (ns.foldl (fwC z x) T) a y = _
        by_cases q : a = x
        · subst q; rw [rw'.not y hy]; exact r.off a y hy
        · rw [rw'.out a y q]; exact r.off a y hy
    have := fwZ_rnd hn hzn hz hd xs (done ++ [x]) _ nd' r'
    rw [List.append_assoc] at this
    exact this
/-- the triangle by way of w -/
def Tr (T : Tbl) (w : List Nat) : Prop := ∀ x y a b, T x w = some a → T w y = some b → ∃ c, T x y = some c ∧ c ≤ a + b
theorem mnO_some {a b : Option Int} {c : Int} (h : mnO a b = some c) : a = some c ∨ b = some c := by
  cases a with
  | none => exact .inr h
  | some a =>
    cases b with
    | none => exact .inl h
    | some b =>
      have h : (if b < a then b else a) = c := Option.some.inj h
      split at h
      · exact .inr (by rw [h])
      · exact .inl (by rw [h])
theorem mnO_le {a b : Option Int} {x : Int} (h : a = some x ∨ b = some x) : ∃ c, mnO a b = some c ∧ c ≤ x := by
  cases a with
  | none =>
    rcases h with h | h
    · cases h
    · exact ⟨x, h, Int.le_refl _⟩
  | some a =>
    cases b with
    | none =>
      rcases h with h | h
      · exact ⟨a, rfl, by cases h; omega⟩
      · cases h
    | some b =>
      refine ⟨_, rfl, ?_⟩
      rcases h with h | h <;> (cases h; split <;> omega)
theorem plO_some {a b : Option Int} {c : Int} (h : plO a b = some c) : ∃ x y, a = some x ∧ b = some y ∧ c = x + y := by
  cases a with
  | none => cases h
  | some a =>
    cases b with
    | none => cases h
    | some b => exact ⟨a, b, rfl, rfl, (Option.some.inj h).symm⟩
/-- names outside have no numbers but their own 0 -/
def Inn (ns : List (List Nat)) (T : Tbl) : Prop := ∀ x y c, T x y = some c → (x ∈ ns ∧ y ∈ ns) ∨ (x = y ∧ c = 0)
theorem rnd_tr {ns : List (List Nat)} {T0 T : Tbl} {z : List Nat} {d : Int} (hzn : z ∈ ns) (hz : T0 z z = some d) (hd : 0 ≤ d) (r : RndOk ns T0 T z ns) (inn : Inn ns T0) : Inn ns T ∧ Tr T z ∧ ∀ w, Tr T0 w → Tr T w := by
  have val : ∀ x y, T x y = mnO (T0 x y) (plO (T0 x z) (T0 z y)) := fun x y => by
    by_cases hx : x ∈ ns
    · by_cases hy : y ∈ ns
      · exact r.hit x y hx hy
      · rw [r.off x y hy]
        have : T0 z y = none := by
          cases e : T0 z y with
          | none => rfl
          | some c => rcases inn z y c e with q | q
                      · exact absurd q.2 hy
                      · exact absurd (q.1 ▸ hzn) hy
        rw [this]
        cases T0 x y <;> cases T0 x z <;> rfl
    · rw [r.not x y hx]
      have : T0 x z = none := by
        cases e : T0 x z with
        | none => rfl
        | some c => rcases inn x z c e with q | q
                    · exact absurd q.1 hx
                    · exact absurd (q.1 ▸ hzn) hx
      rw [this]
      cases T0 x y <;> rfl
  refine ⟨fun x y c e => ?_, fun x y a b e1 e2 => ?_, fun w tw x y a b e1 e2 => ?_⟩
  · rw [val] at e
    rcases mnO_some e with q | q
    · exact inn x y c q
    · obtain ⟨u, v, q1, q2, q3⟩ := plO_some q
      rcases inn x z u q1 with q4 | q4
      · rcases inn z y v q2 with q5 | q5
        · exact .inl ⟨q4.1, q5.2⟩
        · exact .inl ⟨q4.1, q5.1 ▸ q4.2⟩
      · rcases inn z y v q2 with q5 | q5
        · exact .inl ⟨q4.1 ▸ q5.1, q5.2⟩
        · exact .inr ⟨q4.1.trans q5.1, by omega⟩
  · rw [val, mn_stay hz hd] at e1
    rw [val, mn_stay2 hz hd] at e2
    rw [val]
    exact mnO_le (.inr (by rw [e1, e2]; rfl))
  · rw [val] at e1 e2
    rw [val]
    rcases mnO_some e1 with p | p
    · rcases mnO_some e2 with q | q
      · obtain ⟨c, e, l⟩ := tw x y a b p q
        obtain ⟨c', e', l'⟩ := mnO_le (a := T0 x y) (b := plO (T0 x z) (T0 z y)) (.inl e)
        exact ⟨c', e', by omega⟩
      · obtain ⟨b1, b2, q1, q2, q3⟩ := plO_some q
        obtain ⟨c, e, l⟩ := tw x z a b1 p q1
        obtain ⟨c', e', l'⟩ := mnO_le (a := T0 x y) (b := plO (T0 x z) (T0 z y)) (x := c + b2) (.inr (by rw [e, q2]; rfl))
        exact ⟨c', e', by omega⟩
    · obtain ⟨a1, a2, p1, p2, p3⟩ := plO_some p
      rcases mnO_some e2 with q | q
      · obtain ⟨c, e, l⟩ := tw z y a2 b p2 q
        obtain ⟨c', e', l'⟩ := mnO_le (a := T0 x y) (b := plO (T0 x z) (T0 z y)) (x := a1 + c) (.inr (by rw [p1, e]; rfl))
        exact ⟨c', e', by omega⟩
      · obtain ⟨b1, b2, q1, q2, q3⟩ := plO_some q
        obtain ⟨c, e, l⟩ := tw z z a2 b1 p2 q1
        rw [hz] at e; cases e
        obtain ⟨c', e', l'⟩ := mnO_le (a := T0 x y) (b := plO (T0 x z) (T0 z y)) (x := a1 + b2) (.inr (by rw [p1, q2]; rfl))
        exact ⟨c', e', by omega⟩
/-- how the closure stands behind some rounds -/
structure ClI (ns : List (List Nat)) (A : List Arc) (T : Tbl) (done : List (List Nat)) : Prop where
  snd : Snd A T
  dia : ∀ x, ∃ d, T x x = some d ∧ d ≤ 0
  arc : ∀ u v l, (u, v, l) ∈ A → ∃ c, T u v = some c ∧ c ≤ l
  alt : (∃ x ∈ ns, ∃ d, T x x = some d ∧ d < 0) ∨ (Inn ns T ∧ (∀ x ∈ ns, T x x = some 0) ∧ ∀ w ∈ done, Tr T w)
theorem ClI.round {ns : List (List Nat)} {A : List Arc} {T : Tbl} {done : List (List Nat)} (hn : ns.Nodup) (c : ClI ns A T done) {z : List Nat} (hz : z ∈ ns) : ClI ns A (fwZ ns T z) (done ++ [z]) := by
  have lo := fwZ_lo ns T z
  refine ⟨fwZ_snd ns c.snd z, fun x => ?_, fun u v l m => ?_, ?_⟩
  · obtain ⟨d, e, l⟩ := c.dia x
    obtain ⟨d', e', l'⟩ := lo x x d e
    exact ⟨d', e', by omega⟩
  · obtain ⟨d, e, q⟩ := c.arc u v l m
    obtain ⟨d', e', q'⟩ := lo u v d e
    exact ⟨d', e', by omega⟩
  · rcases c.alt with ⟨x, hx, d, e, l⟩ | ⟨inn, di, tr⟩
    · obtain ⟨d', e', l'⟩ := lo x x d e
      exact .inl ⟨x, hx, d', e', by omega⟩
    · have r := fwZ_rnd hn hz (di z hz) (Int.le_refl 0) ns [] T (by simpa using hn) ⟨fun _ _ m => (nomatch m), fun _ _ _ => rfl, fun _ _ _ => rfl⟩
      rw [List.nil_append] at r
      obtain ⟨inn', tz, tw⟩ := rnd_tr hz (di z hz) (Int.le_refl 0) r inn
      by_cases neg : ∃ x ∈ ns, ∃ d, (fwZ ns T z) x x = some d ∧ d < 0
      · exact .inl neg
      · refine .inr ⟨inn', fun x hx => ?_, fun w m => ?_⟩
        · obtain ⟨d, e, l⟩ := c.dia x
          obtain ⟨d', e', l'⟩ := lo x x d e
          have : ¬ d' < 0 := fun q => neg ⟨x, hx, d', e', q⟩
          rw [e']; congr 1; omega
        · rcases List.mem_append.mp m with m | m
          · exact tw w (tr w m)
          · rw [List.mem_singleton.mp m]; exact tz
theorem ClI.rounds {ns : List (List Nat)} {A : List Arc} (hn : ns.Nodup) : ∀ (zs done : List (List Nat)) (T : Tbl), ClI ns A T done → (∀ z ∈ zs, z ∈ ns) → ClI ns A (zs.foldl (fwZ ns) T) (done ++ zs)
  | [], done, T, c, _ => by rw [List.append_nil]; exact c
  | z :: zs, done, T, c, h => by
    have := ClI.rounds hn zs (done ++ [z]) _ (c.round hn (h z List.mem_cons_self)) fun y m => h y (List.mem_cons_of_mem _ m)
    rw [List.append_assoc] at this
    exact this
theorem init_ok (ns : List (List Nat)) (A : List Arc) (hA : ∀ u v l, (u, v, l) ∈ A → u ∈ ns ∧ v ∈ ns) : ∀ (B : List Arc) (T : Tbl) (C : List Arc), (∀ q ∈ B, q ∈ A) → Snd A T → (∀ x, ∃ d, T x x = some d ∧ d ≤ 0) → (∀ u v l, (u, v, l) ∈ C → ∃ c, T u v = some c ∧ c ≤ l) → Inn ns T →
    ∃ T', T' = B.foldl addArc T ∧ Snd A T' ∧ (∀ x, ∃ d, T' x x = some d ∧ d ≤ 0) ∧ (∀ u v l, (u, v, l) ∈ C ++ B → ∃ c, T' u v = some c ∧ c ≤ l) ∧ Inn ns T'
  | [], T, C, _, s, d, a, i => ⟨T, rfl, s, d, by simpa using a, i⟩
  | (u, v, l) :: B, T, C, hB, s, d, a, i => by
    have m := hB _ List.mem_cons_self
    have lo : Lo (addArc T (u, v, l)) T := lower_lo T u v l
    have := init_ok ns A hA B (addArc T (u, v, l)) (C ++ [(u, v, l)]) (fun q h => hB q (List.mem_cons_of_mem _ h)) (lower_snd s (Wk.one m))
      (fun x => by
        obtain ⟨d, e, q⟩ := d x
        obtain ⟨d', e', q'⟩ := lo x x d e
        exact ⟨d', e', by omega⟩)
      (fun u' v' l' h => by
        rcases List.mem_append.mp h with h | h
        · obtain ⟨c, e, q⟩ := a u' v' l' h
          obtain ⟨c', e', q'⟩ := lo u' v' c e
          exact ⟨c', e', by omega⟩
        · cases List.mem_singleton.mp h
          obtain ⟨c, e, q, _⟩ := lower_val T u v l
          exact ⟨c, e, q⟩)
      (fun x y c e => by
        by_cases q : x = u ∧ y = v
        · rw [q.1, q.2]; exact .inl (hA u v l m)
        · have : addArc T (u, v, l) x y = T x y := lower_ne _ _ q
          rw [this] at e; exact i x y c e)
    obtain ⟨T', e, r⟩ := this
    refine ⟨T', e, r.1, r.2.1, fun u' v' l' h => r.2.2.1 u' v' l' (by simpa using h), r.2.2.2⟩
/-- THE CLOSURE -/
theorem closure_is {ns : List (List Nat)} {A : List Arc} (hn : ns.Nodup) (hA : ∀ u v l, (u, v, l) ∈ A → u ∈ ns ∧ v ∈ ns) : ClI ns A (closure ns A) ns := by
  have s0 : Snd A (init ns) := fun x y L e => by
    unfold init at e
    split at e
    · rename_i q; cases e; rw [q]; exact .nil _
    · cases e
  obtain ⟨T', e, a, b, c, d⟩ := init_ok ns A hA A (init ns) [] (fun _ h => h) s0 (fun x => ⟨0, by simp [init], Int.le_refl _⟩) (fun _ _ _ h => nomatch h)
    (fun x y c e => by unfold init at e; split at e <;> first | (rename_i q; cases e; exact .inr ⟨q, rfl⟩) | cases e)
  have c0 : ClI ns A T' [] := by
    refine ⟨a, b, by simpa using c, ?_⟩
    by_cases neg : ∃ x ∈ ns, ∃ d, T' x x = some d ∧ d < 0
    · exact .inl neg
    · refine .inr ⟨d, fun x hx => ?_, fun _ m => nomatch m⟩
      obtain ⟨d', e', l'⟩ := b x
      have : ¬ d' < 0 := fun q => neg ⟨x, hx, d', e', q⟩
      rw [e']; congr 1; omega
  have := ClI.rounds hn ns [] T' c0 fun _ h => h
  rw [List.nil_append] at this
  unfold closure
  rw [← e]
  exact this
/-- what it tells: a walk below 0, or the least lengths of all walks -/
theorem closure_neg {ns : List (List Nat)} {A : List Arc} (hn : ns.Nodup) (hA : ∀ u v l, (u, v, l) ∈ A → u ∈ ns ∧ v ∈ ns) : (∃ x ∈ ns, ∃ d, closure ns A x x = some d ∧ d < 0) ↔ ¬ NoNeg A := by
  have c := closure_is hn hA
  constructor
  · rintro ⟨x, _, d, e, l⟩ h
    have := h x d (c.snd x x d e)
    omega
  · intro h
    rcases c.alt with q | ⟨inn, di, tr⟩
    · exact q
    · refine absurd (fun x L w => ?_) h
      have key : ∀ y L, Wk A x y L → ∃ c', closure ns A x y = some c' ∧ c' ≤ L := fun y L w => by
        induction w with
        | nil => exact c.dia x
        | snoc _ m ih =>
          obtain ⟨c1, e1, l1⟩ := ih
          obtain ⟨c2, e2, l2⟩ := c.arc _ _ _ m
          obtain ⟨c3, e3, l3⟩ := tr _ (hA _ _ _ m).1 _ _ _ _ e1 e2
          exact ⟨c3, e3, by omega⟩
      obtain ⟨c', e', l'⟩ := key x L w
      have : 0 ≤ c' := by
        rcases inn x x c' e' with q | q
        · rw [di x q.1] at e'; cases e'; omega
        · omega
      omega
theorem closure_least {ns : List (List Nat)} {A : List Arc} (hn : ns.Nodup) (hA : ∀ u v l, (u, v, l) ∈ A → u ∈ ns ∧ v ∈ ns) (h : NoNeg A) {x y : List Nat} {L : Int} (w : Wk A x y L) : ∃ c, closure ns A x y = some c ∧ c ≤ L := by
  have c := closure_is hn hA
  rcases c.alt with q | ⟨inn, di, tr⟩
  · exact absurd h ((closure_neg hn hA).mp q)
  · induction w with
    | nil => exact c.dia x
    | snoc _ m ih =>
      obtain ⟨c1, e1, l1⟩ := ih
      obtain ⟨c2, e2, l2⟩ := c.arc _ _ _ m
      obtain ⟨c3, e3, l3⟩ := tr _ (hA _ _ _ m).1 _ _ _ _ e1 e2
      exact ⟨c3, e3, by omega⟩
theorem closure_walk {ns : List (List Nat)} {A : List Arc} (hn : ns.Nodup) (hA : ∀ u v l, (u, v, l) ∈ A → u ∈ ns ∧ v ∈ ns) {x y : List Nat} {L : Int} (h : closure ns A x y = some L) : Wk A x y L := (closure_is hn hA).snd x y L h
/-! GB: shortest distances by rounds, rings. Plain. -/
/-- an arc with its label -/
structure AR (τ : Type) where
  u : List Nat
  v : List Nat
  l : Int
  t : τ
variable {τ : Type}
def AR.arc (a : AR τ) : Arc := (a.u, a.v, a.l)
def arcsL (A : List (AR τ)) : List Arc := A.map AR.arc
structure DS (τ : Type) where
  dist : List Nat → Option Int
  into : List Nat → Option (AR τ)
  fallen : Option (List Nat)
def setF {α : Type} (f : List Nat → Option α) (x : List Nat) (v : α) : List Nat → Option α := fun y => if y = x then some v else f y
theorem setF_same {α : Type} (f : List Nat → Option α) (x : List Nat) (v : α) : setF f x v x = some v := by simp [setF]
theorem setF_ne {α : Type} (f : List Nat → Option α) {x y : List Nat} (v : α) (h : y ≠ x) : setF f x v y = f y := by simp [setF, h]
/-- whether the arc lowers its end, and to what -/
def falls (s : DS τ) (a : AR τ) : Option Int := match s.dist a.u with
  | none => none
  | some d => match s.dist a.v with
    | none => some (d + a.l)
    | some e => if d + a.l < e then some (d + a.l) else none
def relax1 (s : DS τ) (a : AR τ) : DS τ := match falls s a with
  | none => s
  | some n => ⟨setF s.dist a.v n, setF s.into a.v a, some a.v⟩
def rnd (A : List (AR τ)) (s : DS τ) : DS τ := A.foldl relax1 { s with fallen := none }
/-- going back along the last arcs -/
inductive Bk (into : List Nat → Option (AR τ)) : List Nat → List (AR τ) → List Nat → Prop
  | nil (v : List Nat) : Bk into v [] v
  | cons {v w : List Nat} {a : AR τ} {r : List (AR τ)} : into v = some a → Bk into a.u r w → Bk into v (a :: r) w
theorem Bk.append {into : List Nat → Option (AR τ)} {v w x : List Nat} {r q : List (AR τ)} (a : Bk into v r w) (b : Bk into w q x) : Bk into v (r ++ q) x := by
  induction a with
  | nil => exact b
  | cons h _ ih => exact .cons h (ih b)
theorem Bk.mem {into : List Nat → Option (AR τ)} {v w : List Nat} {r : List (AR τ)} (b : Bk into v r w) : ∀ a ∈ r, ∃ x, into x = some a := by
  induction b with
  | nil => exact fun _ m => nomatch m
  | cons h _ ih =>
    intro a m
    rcases List.mem_cons.mp m with rfl | m
    · exact ⟨_, h⟩
    · exact ih a m
/-- each arc's end is where one began, or the beginning of all -/
theorem Bk.ends {into : List Nat → Option (AR τ)} (hi : ∀ v a, into v = some a → a.v = v) {v w : List Nat} {r : List (AR τ)} (b : Bk into v r w) : (∀ a ∈ r, a.v = v ∨ ∃ c ∈ r, c.u = a.v) ∧ (r ≠ [] → ∃ c ∈ r, c.u = w) := by
  induction b with
  | nil => exact ⟨fun _ m => (nomatch m), fun h => absurd rfl h⟩
  | cons h q ih =>
    rename_i v w a r
    refine ⟨fun c m => ?_, fun _ => ?_⟩
    · rcases List.mem_cons.mp m with rfl | m
      · exact .inl (hi _ _ h)
      · rcases ih.1 c m with e | ⟨d, hd, e⟩
        · exact .inr ⟨a, List.mem_cons_self, e.symm⟩
        · exact .inr ⟨d, List.mem_cons_of_mem _ hd, e⟩
    · cases q with
      | nil => exact ⟨a, List.mem_cons_self, rfl⟩
      | cons h2 q2 =>
        obtain ⟨c, hc, e⟩ := ih.2 (by simp)
        exact ⟨c, List.mem_cons_of_mem _ hc, e⟩
theorem Bk.ring {into : List Nat → Option (AR τ)} (hi : ∀ v a, into v = some a → a.v = v) {v : List Nat} {r : List (AR τ)} (b : Bk into v r v) (hr : r ≠ []) : ∀ a ∈ r, ∃ c ∈ r, c.u = a.v := fun a m => by
  obtain ⟨h1, h2⟩ := b.ends hi
  rcases h1 a m with e | q
  · obtain ⟨c, hc, e2⟩ := h2 hr
    exact ⟨c, hc, e2.trans e.symm⟩
  · exact q
theorem Bk.into_eq {into into' : List Nat → Option (AR τ)} {v w : List Nat} {r : List (AR τ)} (b : Bk into v r w) (h : ∀ x a, a ∈ r → into x = some a → into' x = some a) : Bk into' v r w := by
  induction b with
  | nil => exact .nil _
  | cons e _ ih => exact .cons (h _ _ List.mem_cons_self e) (ih fun x a m => h x a (List.mem_cons_of_mem _ m))
/-- in the middle of round R, these arcs looked at -/
structure BI (A : List (AR τ)) (starts ns : List (List Nat)) (R : Nat) (done : List (AR τ)) (s : DS τ) (last : List Nat → Nat) : Prop where
  wk : ∀ v d, s.dist v = some d → ∃ x ∈ starts, Wk (arcsL A) x v d
  st : ∀ x ∈ starts, ∃ d, s.dist x = some d ∧ d ≤ 0
  ina : ∀ v a, s.into v = some a → a ∈ A ∧ a.v = v ∧ last v ≤ last a.u + 1 ∧ ∃ du dv, s.dist a.u = some du ∧ s.dist v = some dv ∧ du + a.l ≤ dv
  la : ∀ v, s.into v = none ↔ last v = 0
  lr : ∀ v, last v ≤ R
  cyc : ∀ v r, r ≠ [] → Bk s.into v r v → ∃ a ∈ r, ∃ du dv, s.dist a.u = some du ∧ s.dist a.v = some dv ∧ du + a.l < dv
  sat : ∀ a ∈ A, ∀ du, s.dist a.u = some du → (last a.u + 2 ≤ R ∨ (a ∈ done ∧ last a.u + 1 ≤ R)) → ∃ dv, s.dist a.v = some dv ∧ dv ≤ du + a.l
  fal : ∀ v, s.fallen = some v → last v = R
  faln : s.fallen = none → 1 ≤ R → ∀ v, last v + 1 ≤ R
  inn : ∀ v d, s.dist v = some d → v ∈ ns
theorem falls_some {s : DS τ} {a : AR τ} {n : Int} (h : falls s a = some n) : ∃ du, s.dist a.u = some du ∧ n = du + a.l ∧ ∀ dv, s.dist a.v = some dv → n < dv := by
  unfold falls at h
  cases e : s.dist a.u with
  | none => rw [e] at h; cases h
  | some d =>
    rw [e] at h
    dsimp only at h
    cases e2 : s.dist a.v with
    | none => rw [e2] at h; exact ⟨d, rfl, (Option.some.inj h).symm, fun _ q => nomatch q⟩
    | some c =>
      rw [e2] at h
      dsimp only at h
      split at h
      · exact ⟨d, rfl, (Option.some.inj h).symm, fun dv q => by cases q; have := Option.some.inj h; omega⟩
      · cases h
theorem falls_none {s : DS τ} {a : AR τ} (h : falls s a = none) : ∀ du, s.dist a.u = some du → ∃ dv, s.dist a.v = some dv ∧ dv ≤ du + a.l := fun du e => by
  unfold falls at h
  rw [e] at h
  dsimp only at h
  cases e2 : s.dist a.v with
  | none => rw [e2] at h; cases h
  | some c =>
    rw [e2] at h
    dsimp only at h
    split at h
    · cases h
    · exact ⟨c, rfl, by omega⟩
theorem BI.step {A : List (AR τ)} {starts ns : List (List Nat)} {R : Nat} {done : List (AR τ)} {s : DS τ} {last : List Nat → Nat} (b : BI A starts ns R done s last) (hR : 1 ≤ R) (hns : ∀ a ∈ A, a.u ∈ ns ∧ a.v ∈ ns) (hne : ∀ a ∈ A, a.u ≠ a.v) {a : AR τ} (ha : a ∈ A) :
    ∃ last', BI A starts ns R (done ++ [a]) (relax1 s a) last' := by
  cases e : falls s a with
  | none =>
    have es : relax1 s a = s := by unfold relax1; rw [e]
    refine ⟨last, ?_⟩
    rw [es]
    refine { b with sat := fun c hc du hd h => ?_ }
    rcases h with h | ⟨h1, h2⟩
    · exact b.sat c hc du hd (.inl h)
    · rcases List.mem_append.mp h1 with m | m
      · exact b.sat c hc du hd (.inr ⟨m, h2⟩)
      · rw [List.mem_singleton.mp m] at hd ⊢
        exact falls_none e du hd
  | some n =>
    obtain ⟨du0, eu, en, lt⟩ := falls_some e
    have hu := hne a ha
    have es : relax1 s a = ⟨setF s.dist a.v n, setF s.into a.v a, some a.v⟩ := by unfold relax1; rw [e]
    let last' : List Nat → Nat := fun x => if x = a.v then R else last x
    have l1 : last' a.v = R := by simp [last']
    have l2 : ∀ x, x ≠ a.v → last' x = last x := fun x h => by simp [last', h]
    have l3 : ∀ x, last x ≤ last' x := fun x => by
      by_cases h : x = a.v
      · rw [h, l1]; exact b.lr _
      · rw [l2 x h]; exact Nat.le_refl _
    -- distances only fall
    have dn : ∀ x d, s.dist x = some d → ∃ d', setF s.dist a.v n x = some d' ∧ d' ≤ d := fun x d q => by
      by_cases h : x = a.v
      · subst h
        exact ⟨n, setF_same _ _ _, by have := lt d q; omega⟩
      · exact ⟨d, by rw [setF_ne _ _ h]; exact q, Int.le_refl _⟩
    have hlast : ¬ (last a.u + 2 ≤ R) := fun h => by
      obtain ⟨dv, e1, e2⟩ := b.sat a ha du0 eu (.inl h)
      have := lt dv e1
      omega
    refine ⟨last', ?_⟩
    rw [es]
    refine ⟨?_, ?_, ?_, ?_, ?_, ?_, ?_, ?_, ?_, ?_⟩
    · intro v d q
      by_cases h : v = a.v
      · subst h
        have q : setF s.dist a.v n a.v = some d := q
        rw [setF_same] at q; cases q
        obtain ⟨x, hx, w⟩ := b.wk _ _ eu
        exact ⟨x, hx, by rw [en]; exact .snoc w (List.mem_map.mpr ⟨a, ha, rfl⟩)⟩
      · have q : setF s.dist a.v n v = some d := q
        rw [setF_ne _ _ h] at q
        exact b.wk v d q
    · intro x hx
      obtain ⟨d, q, l⟩ := b.st x hx
      obtain ⟨d', q', l'⟩ := dn x d q
      exact ⟨d', q', by omega⟩
    · intro v c q
      have q : setF s.into a.v a v = some c := q
      by_cases h : v = a.v
      · subst h
        rw [setF_same] at q; cases q
        refine ⟨ha, rfl, by rw [l1, l2 _ hu]; omega, du0, n, ?_, setF_same _ _ _, by omega⟩
        show setF s.dist a.v n a.u = _
        rw [setF_ne _ _ hu]; exact eu
      · rw [setF_ne _ _ h] at q
        obtain ⟨q1, q2, q3, du, dv, q4, q5, q6⟩ := b.ina v c q
        obtain ⟨d', q', l'⟩ := dn c.u du q4
        exact ⟨q1, q2, by have := l3 c.u; rw [l2 v h]; omega, d', dv, q', by show setF s.dist a.v n v = _; rw [setF_ne _ _ h]; exact q5, by omega⟩
    · intro v
      by_cases h : v = a.v
      · subst h
        rw [l1]
        show setF s.into a.v a a.v = none ↔ _
        rw [setF_same]
        exact ⟨fun q => (nomatch q), fun q => by omega⟩
      · rw [l2 v h]
        show setF s.into a.v a v = none ↔ _
        rw [setF_ne _ _ h]; exact b.la v
    · intro v
      by_cases h : v = a.v
      · rw [h, l1]; exact Nat.le_refl _
      · rw [l2 v h]; exact b.lr v
    · intro v r hr bk
      have hi' : ∀ v c, setF s.into a.v a v = some c → c.v = v := fun v c q => by
        by_cases h : v = a.v
        · subst h; rw [setF_same] at q; cases q; rfl
        · rw [setF_ne _ _ h] at q; exact (b.ina v c q).2.1
      have bk : Bk (setF s.into a.v a) v r v := bk
      by_cases h : ∃ c ∈ r, c.u = a.v
      · obtain ⟨c, hc, ec⟩ := h
        obtain ⟨x, hx⟩ := bk.mem c hc
        have hxv : x ≠ a.v := fun q => by
          subst q
          rw [setF_same] at hx; cases hx
          exact hu ec
        have hx2 := hx
        rw [setF_ne _ _ hxv] at hx2
        obtain ⟨q1, q2, q3, du, dv, q4, q5, q6⟩ := b.ina x c hx2
        refine ⟨c, hc, n, dv, ?_, ?_, ?_⟩
        · rw [ec]; exact setF_same _ _ _
        · show setF s.dist a.v n c.v = _
          rw [q2, setF_ne _ _ hxv]; exact q5
        · rw [ec] at q4
          have := lt du q4
          omega
      · have hv : ∀ c ∈ r, c.v ≠ a.v := fun c hc q => by
          obtain ⟨d, hd, e⟩ := bk.ring hi' hr c hc
          exact h ⟨d, hd, e.trans q⟩
        have bk2 : Bk s.into v r v := bk.into_eq fun x c hc q => by
          have hx : x ≠ a.v := fun z => hv c hc ((hi' x c q).trans z)
          rw [setF_ne _ _ hx] at q; exact q
        obtain ⟨c, hc, du, dv, q1, q2, q3⟩ := b.cyc v r hr bk2
        refine ⟨c, hc, du, dv, ?_, ?_, q3⟩
        · show setF s.dist a.v n c.u = _
          rw [setF_ne _ _ fun z => h ⟨c, hc, z⟩]; exact q1
        · show setF s.dist a.v n c.v = _
          rw [setF_ne _ _ (hv c hc)]; exact q2
    · intro c hc du hd hh
      have hd2 : setF s.dist a.v n c.u = some du := hd
      clear hd
      have hcu : c.u ≠ a.v := fun q => by
        rw [q, l1] at hh; omega
      rw [setF_ne _ _ hcu] at hd2
      rw [l2 _ hcu] at hh
      have fin : (∃ dv, s.dist c.v = some dv ∧ dv ≤ du + c.l) → ∃ dv, setF s.dist a.v n c.v = some dv ∧ dv ≤ du + c.l := fun ⟨dv, q1, q2⟩ => by
        obtain ⟨d', q', l'⟩ := dn c.v dv q1
        exact ⟨d', q', by omega⟩
      rcases hh with h | ⟨h1, h2⟩
      · exact fin (b.sat c hc du hd2 (.inl h))
      · rcases List.mem_append.mp h1 with m | m
        · exact fin (b.sat c hc du hd2 (.inr ⟨m, h2⟩))
        · have := List.mem_singleton.mp m
          subst this
          rw [eu] at hd2; cases hd2
          exact ⟨n, setF_same _ _ _, by omega⟩
    · intro v q
      have q : some a.v = some v := q
      cases q
      exact l1
    · intro q
      exact nomatch (show some a.v = none from q)
    · intro v d q
      have q : setF s.dist a.v n v = some d := q
      by_cases h : v = a.v
      · rw [h]; exact (hns a ha).2
      · rw [setF_ne _ _ h] at q; exact b.inn v d q
theorem BI.fold {A : List (AR τ)} {starts ns : List (List Nat)} {R : Nat} (hR : 1 ≤ R) (hns : ∀ a ∈ A, a.u ∈ ns ∧ a.v ∈ ns) (hne : ∀ a ∈ A, a.u ≠ a.v) : ∀ (B done : List (AR τ)) (s : DS τ) (last : List Nat → Nat), (∀ a ∈ B, a ∈ A) → BI A starts ns R done s last →
    ∃ last', BI A starts ns R (done ++ B) (B.foldl relax1 s) last'
  | [], done, s, last, _, b => ⟨last, by rw [List.append_nil]; exact b⟩
  | a :: B, done, s, last, h, b => by
    obtain ⟨l', b'⟩ := b.step hR hns hne (h a List.mem_cons_self)
    obtain ⟨l2, b2⟩ := BI.fold hR hns hne B (done ++ [a]) _ l' (fun c m => h c (List.mem_cons_of_mem _ m)) b'
    rw [List.append_assoc] at b2
    exact ⟨l2, b2⟩
/-- behind round R -/
structure BR (A : List (AR τ)) (starts ns : List (List Nat)) (R : Nat) (s : DS τ) : Prop where
  ex : ∃ last, BI A starts ns R A s last
  bg : ∀ v d, s.dist v = some d → s.into v = none → v ∈ starts
theorem relax_bg {ss : List (List Nat)} {s : DS τ} (a : AR τ) (h : ∀ v d, s.dist v = some d → s.into v = none → v ∈ ss) : ∀ v d, (relax1 s a).dist v = some d → (relax1 s a).into v = none → v ∈ ss := by
  unfold relax1
  cases falls s a with
  | none => exact h
  | some n =>
    intro v d e1 e2
    by_cases c : v = a.v
    · have e2 : setF s.into a.v a v = none := e2
      rw [c, setF_same] at e2; cases e2
    · have e1 : setF s.dist a.v n v = some d := e1
      have e2 : setF s.into a.v a v = none := e2
      rw [setF_ne _ _ c] at e1 e2
      exact h v d e1 e2
theorem fold_bg {ss : List (List Nat)} : ∀ (A : List (AR τ)) (s : DS τ), (∀ v d, s.dist v = some d → s.into v = none → v ∈ ss) → ∀ v d, (A.foldl relax1 s).dist v = some d → (A.foldl relax1 s).into v = none → v ∈ ss
  | [], _, h => h
  | a :: A, s, h => fold_bg A (relax1 s a) (relax_bg a h)
theorem BR.round {A : List (AR τ)} {starts ns : List (List Nat)} {R : Nat} {s : DS τ} (hns : ∀ a ∈ A, a.u ∈ ns ∧ a.v ∈ ns) (hne : ∀ a ∈ A, a.u ≠ a.v) (b : BR A starts ns R s) : BR A starts ns (R + 1) (rnd A s) := by
  refine ⟨?_, fold_bg A _ b.bg⟩
  obtain ⟨last, b⟩ := b.ex
  have b0 : BI A starts ns (R + 1) [] { s with fallen := none } last := { b with
    lr := fun v => by have := b.lr v; omega
    sat := fun a ha du hd h => by
      rcases h with h | ⟨h, _⟩
      · exact b.sat a ha du hd (.inr ⟨ha, by omega⟩)
      · exact nomatch h
    fal := fun v q => nomatch q
    faln := fun _ _ v => by have := b.lr v; omega }
  obtain ⟨l', b'⟩ := BI.fold (by omega) hns hne A [] _ last (fun _ h => h) b0
  rw [List.nil_append] at b'
  exact ⟨l', b'⟩
def start0 (starts : List (List Nat)) : DS τ := ⟨fun x => if x ∈ starts then some 0 else none, fun _ => none, none⟩
theorem BR.start (A : List (AR τ)) (starts ns : List (List Nat)) (h : ∀ x ∈ starts, x ∈ ns) : BR A starts ns 0 (start0 starts : DS τ) := by
  refine ⟨⟨fun _ => 0, ?_, ?_, ?_, ?_, ?_, ?_, ?_, ?_, ?_, ?_⟩, fun v d e _ => ?_⟩
  rotate_right
  · have e : (if v ∈ starts then some 0 else none) = some d := e
    split at e
    · assumption
    · cases e
  · intro v d e
    have e : (if v ∈ starts then some 0 else none) = some d := e
    split at e
    · cases e; exact ⟨v, ‹_›, .nil v⟩
    · cases e
  · intro x hx
    exact ⟨0, if_pos hx, Int.le_refl _⟩
  · intro v a e; exact nomatch e
  · intro v; exact ⟨fun _ => rfl, fun _ => rfl⟩
  · intro v; exact Nat.le_refl _
  · intro v r hr b
    cases b with
    | nil => exact absurd rfl hr
    | cons e _ => exact nomatch e
  · intro a _ du _ h
    omega
  · intro v e; exact nomatch e
  · intro _ h; omega
  · intro v d e
    have e : (if v ∈ starts then some 0 else none) = some d := e
    split at e
    · exact h v ‹_›
    · cases e
/-! ### going back -/
/-- so many steps back -/
def back (into : List Nat → Option (AR τ)) : Nat → List Nat → Option (List Nat)
  | 0, v => some v
  | n + 1, v => (into v).bind fun a => back into n a.u
theorem back_add {into : List Nat → Option (AR τ)} : ∀ (n m : Nat) (v : List Nat), back into (n + m) v = (back into n v).bind (back into m)
  | 0, m, v => by rw [Nat.zero_add]; rfl
  | n + 1, m, v => by
    rw [show n + 1 + m = (n + m) + 1 by omega]
    show (into v).bind _ = ((into v).bind _).bind _
    cases into v with
    | none => rfl
    | some a => exact back_add n m a.u
theorem back_bk {into : List Nat → Option (AR τ)} : ∀ (n : Nat) (v w : List Nat), back into n v = some w → ∃ r, r.length = n ∧ Bk into v r w
  | 0, v, w, h => by cases h; exact ⟨[], rfl, .nil _⟩
  | n + 1, v, w, h => by
    unfold back at h
    cases e : into v with
    | none => rw [e] at h; cases h
    | some a =>
      rw [e] at h
      obtain ⟨r, l, b⟩ := back_bk n a.u w h
      exact ⟨a :: r, by simp [l], .cons e b⟩
theorem bk_back {into : List Nat → Option (AR τ)} {v w : List Nat} {r : List (AR τ)} (b : Bk into v r w) : back into r.length v = some w := by
  induction b with
  | nil => rfl
  | cons h _ ih => show (into _).bind _ = _; rw [h]; exact ih
/-- behind so many rounds in each of which something fell, one can go back so often -/
theorem BI.backs {A : List (AR τ)} {starts ns : List (List Nat)} {R : Nat} {done : List (AR τ)} {s : DS τ} {last : List Nat → Nat} (b : BI A starts ns R done s last) : ∀ (k : Nat) (v : List Nat), k ≤ last v → ∃ w, back s.into k v = some w ∧ last v ≤ last w + k
  | 0, v, _ => ⟨v, rfl, by omega⟩
  | k + 1, v, h => by
    cases e : s.into v with
    | none => have := (b.la v).mp e; omega
    | some a =>
      obtain ⟨q1, q2, q3, _⟩ := b.ina v a e
      obtain ⟨w, e2, l2⟩ := BI.backs b k a.u (by omega)
      refine ⟨w, ?_, by omega⟩
      show (s.into v).bind _ = _
      rw [e]; exact e2
/-- more places than names: one stands twice -/
theorem pigeon {α : Type} [DecidableEq α] : ∀ (ns xs : List α), (∀ x ∈ xs, x ∈ ns) → ns.length < xs.length → ∃ i j, i < j ∧ j < xs.length ∧ xs[i]? = xs[j]?
  | _, [], _, h => by simp at h
  | ns, x :: xs, hm, hl => by
    by_cases c : x ∈ xs
    · obtain ⟨j, hj, e⟩ := List.mem_iff_getElem.mp c
      exact ⟨0, j + 1, by omega, by simp; omega, by simp [List.getElem?_eq_getElem hj, e]⟩
    · have hx : x ∈ ns := hm x List.mem_cons_self
      have hm' : ∀ y ∈ xs, y ∈ ns.erase x := fun y hy => by
        have : y ≠ x := fun e => c (e ▸ hy)
        exact (List.mem_erase_of_ne this).mpr (hm y (List.mem_cons_of_mem _ hy))
      have hl' : (ns.erase x).length < xs.length := by
        rw [List.length_erase_of_mem hx]
        have := List.length_pos_of_mem hx
        simp at hl; omega
      obtain ⟨i, j, a, b, e⟩ := pigeon (ns.erase x) xs hm' hl'
      exact ⟨i + 1, j + 1, by omega, by simp; omega, by simpa using e⟩
/-- n steps back, n the number of names: on a ring -/
theorem BI.onRing {A : List (AR τ)} {starts ns : List (List Nat)} {done : List (AR τ)} {s : DS τ} {last : List Nat → Nat} (b : BI A starts ns ns.length done s last) {v : List Nat} (hv : last v = ns.length) (hd : ∀ x, 1 ≤ last x → x ∈ ns) (hu : ∀ a ∈ A, a.u ∈ ns) (hvn : v ∈ ns) :
    ∃ w k, back s.into ns.length v = some w ∧ 0 < k ∧ k ≤ ns.length ∧ back s.into k w = some w := by
  let xs : List (List Nat) := (List.range (ns.length + 1)).map fun k => (back s.into k v).getD v
  have hb : ∀ k, k ≤ ns.length → ∃ w, back s.into k v = some w ∧ w ∈ ns := fun k hk => by
    obtain ⟨w, e, l⟩ := b.backs k v (by omega)
    refine ⟨w, e, ?_⟩
    cases k with
    | zero => cases e; exact hvn
    | succ k =>
      obtain ⟨r, lr, bk⟩ := back_bk (k + 1) v w e
      have hr : r ≠ [] := fun z => by rw [z] at lr; simp at lr
      obtain ⟨c, hc, ec⟩ := (bk.ends fun v a q => (b.ina v a q).2.1).2 hr
      obtain ⟨x, hx⟩ := bk.mem c hc
      rw [← ec]
      exact hu c (b.ina x c hx).1
  have hx : ∀ x ∈ xs, x ∈ ns := fun x m => by
    obtain ⟨k, hk, e⟩ := List.mem_map.mp m
    have hk := List.mem_range.mp hk
    obtain ⟨w, e2, m2⟩ := hb k (by omega)
    rw [e2] at e
    rw [← e]; exact m2
  obtain ⟨i, j, hij, hj, e⟩ := pigeon ns xs hx (by simp [xs])
  have hj : j < ns.length + 1 := by simpa [xs] using hj
  have ei : xs[i]? = some ((back s.into i v).getD v) := by simp [xs, List.getElem?_map, List.getElem?_range (show i < ns.length + 1 by omega)]
  have ej : xs[j]? = some ((back s.into j v).getD v) := by simp [xs, List.getElem?_map, List.getElem?_range hj]
  obtain ⟨wi, e1, _⟩ := hb i (by omega)
  obtain ⟨wj, e2, _⟩ := hb j (by omega)
  obtain ⟨w, e3, _⟩ := hb ns.length (Nat.le_refl _)
  rw [ei, ej, e1, e2] at e
  have e : wi = wj := by simpa using e
  subst e
  -- wi comes back behind j - i steps; w lies behind it
  have c1 : back s.into (j - i) wi = some wi := by
    have := back_add (into := s.into) i (j - i) v
    rw [show i + (j - i) = j by omega, e1, e2] at this
    exact this.symm
  have c2 : back s.into (ns.length - j) wi = some w := by
    have := back_add (into := s.into) j (ns.length - j) v
    rw [show j + (ns.length - j) = ns.length by omega, e2, e3] at this
    exact this.symm
  refine ⟨w, j - i, e3, by omega, by omega, ?_⟩
  have a := back_add (into := s.into) (ns.length - j) (j - i) wi
  have b := back_add (into := s.into) (j - i) (ns.length - j) wi
  rw [c2] at a
  rw [c1] at b
  rw [show ns.length - j + (j - i) = j - i + (ns.length - j) by omega, b] at a
  exact a.symm.trans c2
/-- the first return -/
theorem firstBack {into : List Nat → Option (AR τ)} {w : List Nat} : ∀ (k : Nat), 0 < k → back into k w = some w → ∃ k', 0 < k' ∧ k' ≤ k ∧ back into k' w = some w ∧ ∀ m, 0 < m → m < k' → back into m w ≠ some w := by
  intro k
  induction k using Nat.strongRecOn with
  | _ k ih =>
    intro h0 hk
    by_cases c : ∃ m, 0 < m ∧ m < k ∧ back into m w = some w
    · obtain ⟨m, m0, mk, hm⟩ := c
      obtain ⟨k', a, b, d, e⟩ := ih m mk m0 hm
      exact ⟨k', a, by omega, d, e⟩
    · exact ⟨k, h0, Nat.le_refl _, hk, fun m m0 mk q => c ⟨m, m0, mk, q⟩⟩
/-- a ring of arcs, each one's begin is where the next one ends -/
structure RingB (A : List (AR τ)) (r : List (AR τ)) : Prop where
  ne : r ≠ []
  mem : ∀ a ∈ r, a ∈ A
  on : ∀ i a b, r[i]? = some a → r[i + 1]? = some b → a.u = b.v
  cl : ∀ a b, r[0]? = some a → r[r.length - 1]? = some b → b.u = a.v
  nd : (r.map AR.u).Nodup
  neg : (r.map AR.l).sum < 0
theorem Bk.chain {into : List Nat → Option (AR τ)} (hi : ∀ v a, into v = some a → a.v = v) {v w : List Nat} {r : List (AR τ)} (b : Bk into v r w) : (∀ i a c, r[i]? = some a → r[i + 1]? = some c → a.u = c.v) ∧ (∀ a, r[0]? = some a → a.v = v) ∧ (∀ a, r[r.length - 1]? = some a → a.u = w) := by
  induction b with
  | nil => exact ⟨fun _ _ _ h => by simp at h, fun _ h => by simp at h, fun _ h => by simp at h⟩
  | cons h q ih =>
    rename_i v w a r
    refine ⟨fun i x y e1 e2 => ?_, fun x e => ?_, fun x e => ?_⟩
    · cases i with
      | zero =>
        have e1 : a = x := by simpa using e1
        have e2 : r[0]? = some y := by simpa using e2
        rw [← e1]; exact (ih.2.1 y e2).symm
      | succ i => exact ih.1 i x y (by simpa using e1) (by simpa using e2)
    · have e : a = x := by simpa using e
      rw [← e]; exact hi _ _ h
    · cases r with
      | nil =>
        have e : a = x := by simpa using e
        cases q
        rw [← e]
      | cons c r => exact ih.2.2 x (by simpa using e)
theorem Bk.back_at {into : List Nat → Option (AR τ)} {v w : List Nat} {r : List (AR τ)} (b : Bk into v r w) : ∀ i a, r[i]? = some a → back into (i + 1) v = some a.u := by
  induction b with
  | nil => exact fun _ _ h => by simp at h
  | cons h q ih =>
    rename_i v w a r
    intro i c e
    show (into v).bind _ = _
    rw [h]
    cases i with
    | zero => have e : a = c := by simpa using e
              rw [← e]; rfl
    | succ i => exact ih i c (by simpa using e)
/-- the sum along the way back -/
theorem BI.sumBk {A : List (AR τ)} {starts ns : List (List Nat)} {R : Nat} {done : List (AR τ)} {s : DS τ} {last : List Nat → Nat} (b : BI A starts ns R done s last) {v w : List Nat} {r : List (AR τ)} (bk : Bk s.into v r w) : r ≠ [] → ∃ dv dw, s.dist v = some dv ∧ s.dist w = some dw ∧ dw + (r.map AR.l).sum ≤ dv ∧ ((∃ a ∈ r, ∃ du dc, s.dist a.u = some du ∧ s.dist a.v = some dc ∧ du + a.l < dc) → dw + (r.map AR.l).sum < dv) := by
  induction bk with
  | nil => exact fun h => absurd rfl h
  | cons h q ih =>
    rename_i v w a r
    intro _
    obtain ⟨q1, q2, q3, du, dv, q4, q5, q6⟩ := b.ina v a h
    cases q with
    | nil =>
      refine ⟨dv, du, q5, q4, by simpa using q6, fun ⟨c, hc, x, y, e1, e2, e3⟩ => ?_⟩
      rw [List.mem_singleton.mp hc] at e1 e2 e3
      rw [q2] at e2
      rw [q4] at e1; rw [q5] at e2; cases e1; cases e2
      simpa using e3
    | cons h2 q' =>
      obtain ⟨d1, dw, e1, e2, e3, e4⟩ := ih (by simp)
      rw [q4] at e1; cases e1
      refine ⟨dv, dw, q5, e2, by simp only [List.map_cons, List.sum_cons] at e3 ⊢; omega, fun ⟨c, hc, x, y, f1, f2, f3⟩ => ?_⟩
      rcases List.mem_cons.mp hc with rfl | hc
      · rw [q2] at f2
        rw [q4] at f1; rw [q5] at f2; cases f1; cases f2
        simp only [List.map_cons, List.sum_cons] at e3 ⊢; omega
      · have := e4 ⟨c, hc, x, y, f1, f2, f3⟩
        simp only [List.map_cons, List.sum_cons] at this ⊢; omega
theorem BI.ringB {A : List (AR τ)} {starts ns : List (List Nat)} {R : Nat} {done : List (AR τ)} {s : DS τ} {last : List Nat → Nat} (b : BI A starts ns R done s last) {w : List Nat} {k : Nat} (h0 : 0 < k) (hk : back s.into k w = some w) (hm : ∀ m, 0 < m → m < k → back s.into m w ≠ some w) :
    ∃ r, r.length = k ∧ Bk s.into w r w ∧ RingB A r := by
  obtain ⟨r, lr, bk⟩ := back_bk k w w hk
  have hr : r ≠ [] := fun z => by rw [z] at lr; simp at lr; omega
  have hi : ∀ v a, s.into v = some a → a.v = v := fun v a q => (b.ina v a q).2.1
  obtain ⟨c1, c2, c3⟩ := bk.chain hi
  refine ⟨r, lr, bk, hr, fun a m => ?_, c1, fun a c e1 e2 => (c3 c e2).trans (c2 a e1).symm, ?_, ?_⟩
  · obtain ⟨x, hx⟩ := bk.mem a m
    exact (b.ina x a hx).1
  · unfold List.Nodup
    rw [List.pairwise_iff_getElem]
    intro i j hi1 hj1 hij e
    have hi' : i < r.length := by simpa using hi1
    have hj' : j < r.length := by simpa using hj1
    have e : r[i].u = r[j].u := by simpa using e
    have b1 := bk.back_at i _ (List.getElem?_eq_getElem hi')
    have b2 := bk.back_at j _ (List.getElem?_eq_getElem hj')
    rw [← e] at b2
    -- from there it is k - (j + 1) to w
    have b3 := back_add (into := s.into) (j + 1) (k - (j + 1)) w
    rw [show j + 1 + (k - (j + 1)) = k by omega, hk, b2] at b3
    have b4 := back_add (into := s.into) (i + 1) (k - (j + 1)) w
    rw [b1] at b4
    exact hm (i + 1 + (k - (j + 1))) (by omega) (by omega) (b4.trans b3.symm)
  · obtain ⟨dv, dw, e1, e2, e3, e4⟩ := b.sumBk bk hr
    have := e4 (b.cyc w r hr bk)
    rw [e1] at e2; cases e2
    omega
/-- a ring is a closed walk below 0 -/
theorem RingB.neg' {A : List (AR τ)} {r : List (AR τ)} (g : RingB A r) : ¬ NoNeg (arcsL A) := by
  intro h
  have key : ∀ (r : List (AR τ)), (∀ a ∈ r, a ∈ A) → (∀ i a b, r[i]? = some a → r[i + 1]? = some b → a.u = b.v) → ∀ a b, r[0]? = some a → r[r.length - 1]? = some b → Wk (arcsL A) b.u a.v (r.map AR.l).sum := by
    intro r
    induction r with
    | nil => intro _ _ a b h; simp at h
    | cons a r ih =>
      intro hm hc x y e1 e2
      have e1 : a = x := by simpa using e1
      subst e1
      have one : (a.u, a.v, a.l) ∈ arcsL A := List.mem_map.mpr ⟨a, hm a List.mem_cons_self, rfl⟩
      cases r with
      | nil =>
        have e2 : a = y := by simpa using e2
        subst e2
        simpa using Wk.one one
      | cons c r =>
        have e2 : (c :: r)[(c :: r).length - 1]? = some y := by simpa using e2
        have w := ih (fun b m => hm b (List.mem_cons_of_mem _ m)) (fun i p q g1 g2 => hc (i + 1) p q (by simpa using g1) (by simpa using g2)) c y rfl e2
        have e := hc 0 a c rfl rfl
        rw [← e] at w
        have := Wk.snoc w one
        rw [Int.add_comm] at this
        simpa using this
  have hr := g.ne
  obtain ⟨a, ea⟩ : ∃ a, r[0]? = some a := ⟨r[0]'(List.length_pos_iff.mpr hr), List.getElem?_eq_getElem _⟩
  have hl : r.length - 1 < r.length := by have := List.length_pos_iff.mpr hr; omega
  have eb : r[r.length - 1]? = some r[r.length - 1] := List.getElem?_eq_getElem hl
  have w := key r g.mem g.on a _ ea eb
  rw [g.cl a _ ea eb] at w
  have := h _ _ w
  have := g.neg
  omega
/-! LC: steps, the closure of the law, plans that hold. -/
open PySem PySem.Spec PyProof.Rows L2
structure Stp where
  name : Nm
  most : Bool
  x : Nm
  y : Nm
  len : Int
def sideOf (m : Bool) : Nm := if m then cs "most" else cs "least"
def enT (t : Stp) : D := .tup [.str t.name, .str (sideOf t.most), .str t.x, .str t.y, .int t.len]
def stepLo (s : Spn) : List Stp := match s.lo with
  | none => []
  | some l => [⟨s.name, false, s.b, s.a, 0 - l⟩]
def stepHi (s : Spn) : List Stp := match s.hi with
  | none => []
  | some u => [⟨s.name, true, s.a, s.b, u⟩]
def stepS (s : Spn) : List Stp := stepLo s ++ stepHi s
def stepsOf (rows : List Spn) : List Stp := rows.flatMap stepS
theorem stepsOf_len (rows : List Spn) : (stepsOf rows).length ≤ 2 * rows.length := by
  induction rows with
  | nil => exact Nat.le_refl _
  | cons s rows ih =>
    have : stepsOf (s :: rows) = stepS s ++ stepsOf rows := rfl
    rw [this, List.length_append, List.length_cons]
    have : (stepS s).length ≤ 2 := by
      unfold stepS stepLo stepHi
      cases s.lo <;> cases s.hi <;> simp
    omega
theorem stepsOf_take {rows : List Spn} {i : Nat} {s : Spn} (h : rows[i]? = some s) : stepsOf (rows.take (i + 1)) = stepsOf (rows.take i) ++ stepS s := by
  rw [List.take_add_one, h]
  unfold stepsOf
  rw [List.flatMap_append]
  simp
theorem map_get {α : Type} {f : α → D} {xs : List α} {i : Nat} {x : D} (h : (xs.map f)[i]? = some x) : ∃ a, xs[i]? = some a ∧ x = f a := by
  rw [List.getElem?_map] at h
  obtain ⟨a, e, q⟩ := Option.map_eq_some_iff.mp h
  exact ⟨a, e, q.symm⟩
theorem lawSteps_ok {p : Pln} {h : Hs} {Q : D → Hs → Prop} {E : Ex → Hs → Prop} (hl : p.rows.length ≤ 1000) (hq : Q (.ref h.length) (h ++ [.lst ((stepsOf p.rows).map enT)])) : (PH.fn__law_steps.go [enP p] h).wp Q E := by
  unfold PH.fn__law_steps
  rw [w_defn]
  unfold PH.s__law_steps
  wp_walk using enP
  refine w_for (p.rows.map enS) (fun _ => True) (fun i env h' => ∃ o2 o3 o4 o5 o6 o7, env = [some (enP p), some (.ref h.length), o2, o3, o4, o5, o6, o7] ∧ h' = h ++ [.lst ((stepsOf (p.rows.take i)).map enT)]) ?_ (fun _ _ _ _ => trivial) ?_ ?_
  · wp_walk
    exact ⟨t_seq _ _, _, _, _, _, _, _, rfl, rfl⟩
  · rintro i x env h' hx ⟨o2, o3, o4, o5, o6, o7, rfl, rfl⟩
    obtain ⟨s, hs, rfl⟩ := map_get hx
    have g : ∀ c : Cell, (h ++ [c])[h.length]? = some c := fun c => get_new1
    have l1 := stepsOf_len (p.rows.take i)
    have l2 : (p.rows.take i).length ≤ p.rows.length := by rw [List.length_take]; omega
    have fin := stepsOf_take hs
    obtain ⟨lo, nm, a, b, l, u⟩ := s
    unfold enS
    unfold stepS stepLo stepHi at fin
    cases l with
    | none =>
      cases u with
      | none =>
        wp_walk using enO
        exact ⟨_, _, _, _, _, _, rfl, by rw [fin]; simp⟩
      | some u =>
        wp_walk using enO, g
        refine ⟨by omega, _, _, _, _, _, _, rfl, by rw [fin]; simp; rfl⟩
    | some l =>
      cases u with
      | none =>
        wp_walk using enO, g
        refine ⟨by omega, _, _, _, _, _, _, rfl, by rw [fin]; simp; rfl⟩
      | some u =>
        wp_walk using enO, g
        refine ⟨by omega, ?_⟩
        simp only [set_new]
        wp_walk using enO, g
        refine ⟨by simp; omega, _, _, _, _, _, _, rfl, by rw [fin]; simp; exact ⟨rfl, rfl⟩⟩
  · rintro env h' ⟨o2, o3, o4, o5, o6, o7, rfl, rfl⟩
    wp_walk
    rw [List.take_length]
    exact hq
/-! ### dicts -/
mutual
theorem kEq_eq : ∀ (d e : D), kEq d e = true → d = e
  | .int i, e, h => by cases e <;> simp [kEq] at h; rw [h]
  | .str i, e, h => by cases e <;> simp [kEq] at h; rw [h]
  | .tup xs, e, h => by
    cases e <;> simp [kEq] at h
    rw [kEqs_eq _ _ h]
  | .non, e, h => by simp [kEq] at h
  | .bl _, e, h => by simp [kEq] at h
  | .ls _, e, h => by simp [kEq] at h
  | .ref _, e, h => by simp [kEq] at h
theorem kEqs_eq : ∀ (d e : List D), kEqs d e = true → d = e
  | [], e, h => by cases e <;> simp [kEqs] at h; rfl
  | d :: ds, e, h => by
    cases e with
    | nil => simp [kEqs] at h
    | cons e es =>
      simp only [kEqs, Bool.and_eq_true] at h
      rw [kEq_eq d e h.1, kEqs_eq ds es h.2]
end
theorem dfind_put_same (kvs : List (D × D)) (k v : D) (hk : kEq k k = true) : dfind (dput kvs k v) k = some v := by
  unfold dput dfind
  by_cases c : (kvs.any fun p => kEq p.1 k) = true
  · rw [if_pos c]
    induction kvs with
    | nil => simp at c
    | cons p kvs ih =>
      rw [List.map_cons]
      by_cases q : kEq p.1 k = true
      · rw [if_pos q, List.find?_cons_of_pos (by exact q)]; rfl
      · rw [if_neg q, List.find?_cons_of_neg (by exact q)]
        refine ih ?_
        rw [List.any_cons] at c
        simpa [q] using c
  · rw [if_neg c, List.find?_append]
    have : kvs.find? (fun p => kEq p.1 k) = none := by
      rw [List.find?_eq_none]
      intro p hp q
      exact c (List.any_eq_true.mpr ⟨p, hp, q⟩)
    rw [this]
    simp [hk]
theorem dfind_put_ne (kvs : List (D × D)) (k v k' : D) (h : k ≠ k') : dfind (dput kvs k v) k' = dfind kvs k' := by
  unfold dput dfind
  by_cases c : (kvs.any fun p => kEq p.1 k) = true
  · rw [if_pos c]
    clear c
    congr 1
    induction kvs with
    | nil => rfl
    | cons p kvs ih =>
      rw [List.map_cons]
      by_cases q : kEq p.1 k' = true
      · have : ¬ kEq p.1 k = true := fun z => h ((kEq_eq _ _ z).symm.trans (kEq_eq _ _ q))
        rw [if_neg this, List.find?_cons_of_pos (by exact q), List.find?_cons_of_pos (by exact q)]
      · have : ¬ kEq (if kEq p.1 k = true then (p.1, v) else p).1 k' = true := by split <;> exact q
        rw [List.find?_cons_of_neg (by exact this), List.find?_cons_of_neg (by exact q)]
        exact ih
  · rw [if_neg c, List.find?_append]
    have : ¬ kEq k k' = true := fun z => h (kEq_eq _ _ z)
    simp [this]
theorem dput_len (kvs : List (D × D)) (k v : D) : (dput kvs k v).length ≤ kvs.length + 1 := by
  unfold dput
  split
  · simp
  · simp
theorem dput_len2 {kvs : List (D × D)} {k : D} {w : D} (v : D) (h : dfind kvs k = some w) : (dput kvs k v).length = kvs.length := by
  unfold dput
  have : (kvs.any fun p => kEq p.1 k) = true := by
    unfold dfind at h
    obtain ⟨p, e, _⟩ := Option.map_eq_some_iff.mp h
    exact List.any_eq_true.mpr ⟨p, List.mem_of_find?_eq_some e, List.find?_some (p := fun p : D × D => kEq p.1 k) e⟩
  rw [if_pos this, List.length_map]
/-! ### the closure -/
abbrev ky (x y : Nm) : D := .tup [.str x, .str y]
theorem ky_ok (x y : Nm) : kEq (ky x y) (ky x y) = true := by simp [ky, kEq, kEqs]
theorem ky_k (x y : Nm) : kOk true (.tup [.str x, .str y]) = true := rfl
theorem ky_inj {x y a b : Nm} (h : ky x y = ky a b) : a = x ∧ b = y := by
  have h := D.tup.inj h
  simp only [List.cons.injEq, D.str.injEq, and_true] at h
  exact ⟨h.1.symm, h.2.symm⟩
/-- the dict tells the table at some pairs -/
def TabA (kvs : List (D × D)) (T : Tbl) (P : Nm → Nm → Prop) (N : Nat) : Prop := (∀ x y, P x y → dfind kvs (ky x y) = some (enO (T x y))) ∧ kvs.length ≤ N
theorem TabA.put {kvs : List (D × D)} {T : Tbl} {P P' : Nm → Nm → Prop} {N : Nat} (t : TabA kvs T P N) (x y : Nm) (h : ∀ a b, P' a b → P a b ∨ (a = x ∧ b = y)) : TabA (dput kvs (ky x y) (enO (T x y))) T P' (N + 1) := by
  refine ⟨fun a b p => ?_, by have := dput_len kvs (ky x y) (enO (T x y)); have := t.2; omega⟩
  by_cases c : a = x ∧ b = y
  · rw [c.1, c.2]; exact dfind_put_same _ _ _ (ky_ok x y)
  · rw [dfind_put_ne _ _ _ _ fun q => c (ky_inj q)]
    rcases h a b p with q | q
    · exact t.1 a b q
    · exact absurd q c
theorem TabA.upd {kvs : List (D × D)} {T : Tbl} {P : Nm → Nm → Prop} {N : Nat} (t : TabA kvs T P N) {x y : Nm} (hp : P x y) (v : Option Int) : TabA (dput kvs (ky x y) (enO v)) (upd2 T x y v) P N := by
  refine ⟨fun a b p => ?_, by rw [dput_len2 _ (t.1 x y hp)]; exact t.2⟩
  by_cases c : a = x ∧ b = y
  · rw [c.1, c.2, upd2_same]; exact dfind_put_same _ _ _ (ky_ok x y)
  · rw [dfind_put_ne _ _ _ _ fun q => c (ky_inj q), upd2_ne _ _ c]; exact t.1 a b p
def stArc (t : Stp) : Arc := (t.x, t.y, t.len)
def arcsP (rows : List Spn) : List Arc := (stepsOf rows).map stArc
/-- between two turns -/
def ClE (p : Pln) (Hb : Hs) (n t sl : Nat) (kvs : List (D × D)) (env : Env) (h' : Hs) : Prop := ∃ o4 o5 o6 o7 o8 o9, env = [some (enP p), some (.ref sl), some (.ref n), some (.ref t), o4, o5, o6, o7, o8, o9] ∧ h' = Hb ++ [.dic true false kvs]
theorem take_mem {α : Type} {xs : List α} {i : Nat} {x y : α} (h : xs[i]? = some x) (m : y ∈ xs.take (i + 1)) : y ∈ xs.take i ∨ y = x := by
  rw [List.take_add_one, h] at m
  rcases List.mem_append.mp m with q | q
  · exact .inl q
  · exact .inr (by simpa using q)
theorem fold_take {α β : Type} (f : β → α → β) (b : β) {xs : List α} {i : Nat} {x : α} (h : xs[i]? = some x) : (xs.take (i + 1)).foldl f b = f ((xs.take i).foldl f b) x := by
  rw [List.take_add_one, h, List.foldl_append]
  rfl
theorem lawClosure_ok {p : Pln} {st : List Stp} {sl : Nat} {h : Hs} {Q : D → Hs → Prop} {E : Ex → Hs → Prop} (hm : p.marks.length ≤ 40) (hs : h[sl]? = some (.lst (st.map enT))) (hst : ∀ t ∈ st, t.x ∈ zro :: p.marks ∧ t.y ∈ zro :: p.marks)
    (hq : ∀ kvs n h', TabA kvs (closure (zro :: p.marks) (st.map stArc)) (fun x y => x ∈ zro :: p.marks ∧ y ∈ zro :: p.marks) 2000 → h'[n]? = some (.dic true false kvs) → Fr [] h h' → Q (.ref n) h') : (PH.fn__law_closure.go [enP p, .ref sl] h).wp Q E := by
  unfold PH.fn__law_closure
  rw [w_defn]
  unfold PH.s__law_closure
  wp_walk using enP
  have g1 : (h ++ [Cell.lst [D.str (cs "zero")]] ++ [Cell.lst (p.marks.map .str)])[h.length]? = some (.lst [.str (cs "zero")]) := get_old get_new1
  have g2 : (h ++ [Cell.lst [D.str (cs "zero")]] ++ [Cell.lst (p.marks.map .str)])[(h ++ [Cell.lst [D.str (cs "zero")]]).length]? = some (.lst (p.marks.map .str)) := get_new1
  have g3 : (h ++ [Cell.lst [D.str (cs "zero")]] ++ [Cell.lst (p.marks.map .str)] ++ [Cell.lst (D.str (cs "zero") :: p.marks.map .str)])[(h ++ [Cell.lst [D.str (cs "zero")]] ++ [Cell.lst (p.marks.map .str)]).length]? = some (.lst ((zro :: p.marks).map .str)) := get_new1
  have F1 : Fr [] h (h ++ [Cell.lst [D.str (cs "zero")]] ++ [Cell.lst (p.marks.map .str)] ++ [Cell.lst (D.str (cs "zero") :: p.marks.map .str)]) := (Fr.app.push).push
  wp_walk using g1, g2
  refine ⟨by omega, ?_⟩
  generalize h ++ [Cell.lst [D.str (cs "zero")]] ++ [Cell.lst (p.marks.map .str)] ++ [Cell.lst (D.str (cs "zero") :: p.marks.map .str)] = Hb at *
  generalize (h ++ [Cell.lst [D.str (cs "zero")]] ++ [Cell.lst (p.marks.map .str)]).length = n at *
  have g4 := F1.get hs
  generalize hns : zro :: p.marks = ns at *
  have hnl : ns.length ≤ 41 := by rw [← hns]; simp; omega
  have gN : ∀ kvs : List (D × D), (Hb ++ [Cell.dic true false kvs])[n]? = some (.lst (ns.map .str)) := fun kvs => get_old g3
  have gT : ∀ kvs : List (D × D), (Hb ++ [Cell.dic true false kvs])[Hb.length]? = some (.dic true false kvs) := fun kvs => get_new1
  have gS : ∀ kvs : List (D × D), (Hb ++ [Cell.dic true false kvs])[sl]? = some (.lst (st.map enT)) := fun kvs => get_old g4
  have sT : ∀ kvs kvs' : List (D × D), (Hb ++ [Cell.dic true false kvs]).set Hb.length (.dic true false kvs') = Hb ++ [.dic true false kvs'] := fun _ _ => set_new
  have eP : (D.tup [.str (cs "plan"), .tup (p.marks.map .str), .tup (p.rows.map enS)]) = enP p := rfl
  rw [eP]
  clear g1 g2
  -- the table at first
  refine w_for (ns.map .str) (fun h => h[n]? = some (.lst (ns.map .str))) (fun i env h' => ∃ kvs, TabA kvs (init ns) (fun x y => x ∈ ns.take i ∧ y ∈ ns) (i * ns.length) ∧ ClE p Hb n Hb.length sl kvs env h') ?_ (fun i env h' ⟨kvs, _, c⟩ => by obtain ⟨_, _, _, _, _, _, _, e⟩ := c; rw [e]; exact gN kvs) ?_ ?_
  · wp_walk using gN
    exact ⟨t_cel _ _, [], ⟨fun x y q => by simp at q, by simp⟩, _, _, _, _, _, _, rfl, rfl⟩
  · rintro i x env h' hx ⟨kvs, ta, o4, o5, o6, o7, o8, o9, rfl, rfl⟩
    obtain ⟨x, hx', rfl⟩ := map_get hx
    clear hx
    have hx := hx'
    clear hx'
    wp_walk
    refine w_for (ns.map .str) (fun h => h[n]? = some (.lst (ns.map .str))) (fun j env h' => ∃ kvs, TabA kvs (init ns) (fun a b => (a ∈ ns.take i ∧ b ∈ ns) ∨ (a = x ∧ b ∈ ns.take j)) (i * ns.length + j) ∧ ∃ o5 o6 o7 o8 o9, env = [some (enP p), some (.ref sl), some (.ref n), some (.ref Hb.length), some (.str x), o5, o6, o7, o8, o9] ∧ h' = Hb ++ [.dic true false kvs]) ?_ (fun i env h' ⟨kvs, _, c⟩ => by obtain ⟨_, _, _, _, _, _, e⟩ := c; rw [e]; exact gN kvs) ?_ ?_
    · wp_walk using gN
      exact ⟨t_cel _ _, kvs, ⟨fun a b q => ta.1 a b (by simpa using q), by simpa using ta.2⟩, _, _, _, _, _, rfl, rfl⟩
    · rintro j y env h' hy ⟨kvs, ta, o5, o6, o7, o8, o9, rfl, rfl⟩
      obtain ⟨y, hy', rfl⟩ := map_get hy
      clear hy
      have hy := hy'
      clear hy'
      have hi : i < ns.length := (List.getElem?_eq_some_iff.mp hx).1
      have hj : j < ns.length := (List.getElem?_eq_some_iff.mp hy).1
      have hk : kvs.length < 16777216 := by
        have := ta.2
        have : i * ns.length ≤ 41 * 41 := Nat.mul_le_mul (by omega) (by omega)
        omega
      have ta' := ta.put (P' := fun a b => (a ∈ ns.take i ∧ b ∈ ns) ∨ (a = x ∧ b ∈ ns.take (j + 1))) x y (fun a b q => by
        rcases q with q | ⟨q1, q2⟩
        · exact .inl (.inl q)
        · rcases take_mem hy q2 with q | q
          · exact .inl (.inr ⟨q1, q⟩)
          · exact .inr ⟨q1, q⟩)
      by_cases c : x = y
      · subst c
        have e0 : enO (init ns x x) = .int 0 := by simp [init, enO]
        rw [e0] at ta'
        wp_walk using gT, ky_k, sT
        exact ⟨hk, _, ta', _, _, _, _, _, rfl, rfl⟩
      · have e0 : enO (init ns x y) = .non := by simp [init, enO, c]
        rw [e0] at ta'
        wp_walk using gT, ky_k, c, sT
        exact ⟨hk, _, ta', _, _, _, _, _, rfl, rfl⟩
    · rintro env h' ⟨kvs, ta, o5, o6, o7, o8, o9, rfl, rfl⟩
      wp_walk
      refine ⟨kvs, ⟨fun a b q => ta.1 a b ?_, by have := ta.2; rw [List.length_map] at this; rw [Nat.succ_mul]; exact this⟩, _, _, _, _, _, _, rfl, rfl⟩
      rw [List.length_map, List.take_length]
      rcases take_mem hx q.1 with z | z
      · exact .inl ⟨z, q.2⟩
      · exact .inr ⟨z, q.2⟩
  · rintro env h' ⟨kvs, ta, o4, o5, o6, o7, o8, o9, rfl, rfl⟩
    rw [w_nextF]
    dsimp only
    have ta0 : TabA kvs (init ns) (fun x y => x ∈ ns ∧ y ∈ ns) 2000 := ⟨fun a b q => ta.1 a b (by rw [List.length_map, List.take_length]; exact q), by
      have := ta.2
      rw [List.length_map] at this
      have : ns.length * ns.length ≤ 41 * 41 := Nat.mul_le_mul hnl hnl
      omega⟩
    have mem : ∀ {x : Nm} {i : Nat}, ns[i]? = some x → x ∈ ns := fun e => List.mem_of_getElem? e
    -- the steps
    rw [w_seqF]
    refine w_for (st.map enT) (fun h => h[sl]? = some (.lst (st.map enT))) (fun i env h' => ∃ kvs, TabA kvs (((st.take i).map stArc).foldl addArc (init ns)) (fun x y => x ∈ ns ∧ y ∈ ns) 2000 ∧ ClE p Hb n Hb.length sl kvs env h') ?_ (fun i env h' ⟨kvs, _, c⟩ => by obtain ⟨_, _, _, _, _, _, _, e⟩ := c; rw [e]; exact gS kvs) ?_ ?_
    · wp_walk using gS
      exact ⟨t_cel _ _, kvs, ta0, _, _, _, _, _, _, rfl, rfl⟩
    · clear ta ta0
      rintro i x env h' hx ⟨kvs, ta, o4, o5, o6, o7, o8, o9, rfl, rfl⟩
      obtain ⟨t, ht, rfl⟩ := map_get hx
      have hin := hst t (List.mem_of_getElem? ht)
      have hT : ((st.take (i + 1)).map stArc).foldl addArc (init ns) = lower (((st.take i).map stArc).foldl addArc (init ns)) t.x t.y t.len := by
        rw [List.take_add_one, ht, List.map_append, List.foldl_append]; rfl
      rw [hT]
      generalize ((st.take i).map stArc).foldl addArc (init ns) = T at *
      have fd := ta.1 t.x t.y hin
      have hk : kvs.length < 16777216 := by have := ta.2; omega
      unfold enT
      cases e : T t.x t.y with
      | none =>
        rw [e] at fd
        have fd : dfind kvs (.tup [.str t.x, .str t.y]) = some .non := fd
        have tu := ta.upd hin (some t.len)
        wp_walk using gT, fd, sT
        exact ⟨hk, _, by unfold lower; rw [e]; exact tu, _, _, _, _, _, _, rfl, rfl⟩
      | some c =>
        rw [e] at fd
        have fd : dfind kvs (.tup [.str t.x, .str t.y]) = some (.int c) := fd
        have tu := ta.upd hin (some t.len)
        wp_walk using gT, fd
        refine wif_d (fun q => ?_) (fun q => ?_)
        · wp_walk using gT, sT
          exact ⟨hk, _, by unfold lower; rw [e]; dsimp only; rw [if_pos q]; exact tu, _, _, _, _, _, _, rfl, rfl⟩
        · wp_walk
          exact ⟨_, by unfold lower; rw [e]; dsimp only; rw [if_neg q]; exact ta, _, _, _, _, _, _, rfl, rfl⟩
    · clear ta ta0
      rintro env h' ⟨kvs, ta, o4, o5, o6, o7, o8, o9, rfl, rfl⟩
      rw [w_nextF]
      dsimp only
      rw [List.length_map, List.take_length] at ta
      rw [w_seqF]
      have hC : closure ns (st.map stArc) = ns.foldl (fwZ ns) ((st.map stArc).foldl addArc (init ns)) := rfl
      rw [hC] at hq
      generalize (st.map stArc).foldl addArc (init ns) = T1 at *
      refine w_for (ns.map .str) (fun h => h[n]? = some (.lst (ns.map .str))) (fun i env h' => ∃ kvs, TabA kvs ((ns.take i).foldl (fwZ ns) T1) (fun x y => x ∈ ns ∧ y ∈ ns) 2000 ∧ ClE p Hb n Hb.length sl kvs env h') ?_ (fun i env h' ⟨kvs, _, c⟩ => by obtain ⟨_, _, _, _, _, _, _, e⟩ := c; rw [e]; exact gN kvs) ?_ ?_
      · wp_walk using gN
        exact ⟨t_cel _ _, kvs, ta, _, _, _, _, _, _, rfl, rfl⟩
      · clear ta
        rintro i x env h' hx ⟨kvs, ta, o4, o5, o6, o7, o8, o9, rfl, rfl⟩
        obtain ⟨z, hz, rfl⟩ := map_get hx
        rw [fold_take _ _ hz]
        generalize (ns.take i).foldl (fwZ ns) T1 = T2 at *
        wp_walk
        refine w_for (ns.map .str) (fun h => h[n]? = some (.lst (ns.map .str))) (fun j env h' => ∃ kvs, TabA kvs ((ns.take j).foldl (fwR ns z) T2) (fun x y => x ∈ ns ∧ y ∈ ns) 2000 ∧ ∃ o4 o6 o7 o8 o9, env = [some (enP p), some (.ref sl), some (.ref n), some (.ref Hb.length), o4, some (.str z), o6, o7, o8, o9] ∧ h' = Hb ++ [.dic true false kvs]) ?_ (fun i env h' ⟨kvs, _, c⟩ => by obtain ⟨_, _, _, _, _, _, e⟩ := c; rw [e]; exact gN kvs) ?_ ?_
        · wp_walk using gN
          exact ⟨t_cel _ _, kvs, ta, _, _, _, _, _, rfl, rfl⟩
        · clear ta
          rintro j x env h' hx ⟨kvs, ta, o4, o6, o7, o8, o9, rfl, rfl⟩
          obtain ⟨x, hx', rfl⟩ := map_get hx
          rw [fold_take _ _ hx']
          generalize (ns.take j).foldl (fwR ns z) T2 = T3 at *
          wp_walk
          refine w_for (ns.map .str) (fun h => h[n]? = some (.lst (ns.map .str))) (fun k env h' => ∃ kvs, TabA kvs ((ns.take k).foldl (fwC z x) T3) (fun x y => x ∈ ns ∧ y ∈ ns) 2000 ∧ ∃ o6 o7 o8 o9, env = [some (enP p), some (.ref sl), some (.ref n), some (.ref Hb.length), some (.str x), some (.str z), o6, o7, o8, o9] ∧ h' = Hb ++ [.dic true false kvs]) ?_ (fun i env h' ⟨kvs, _, c⟩ => by obtain ⟨_, _, _, _, _, e⟩ := c; rw [e]; exact gN kvs) ?_ ?_
          · wp_walk using gN
            exact ⟨t_cel _ _, kvs, ta, _, _, _, _, rfl, rfl⟩
          · clear ta
            rintro k y env h' hy ⟨kvs, ta, o6, o7, o8, o9, rfl, rfl⟩
            obtain ⟨y, hy', rfl⟩ := map_get hy
            rw [fold_take _ _ hy']
            generalize (ns.take k).foldl (fwC z x) T3 = T at *
            have mx := mem hx'
            have my := mem hy'
            have mz := mem hz
            have hk : kvs.length < 16777216 := by have := ta.2; omega
            have f1 := ta.1 x z ⟨mx, mz⟩
            have f2 := ta.1 z y ⟨mz, my⟩
            have f3 := ta.1 x y ⟨mx, my⟩
            cases e1 : T x z with
            | none =>
              have f1 : dfind kvs (.tup [.str x, .str z]) = some .non := by rw [e1] at f1; exact f1
              have eT : fwC z x T y = T := by unfold fwC; rw [e1]
              wp_walk using gT, f1
              exact ⟨_, by rw [eT]; exact ta, _, _, _, _, rfl, rfl⟩
            | some a =>
              have f1 : dfind kvs (.tup [.str x, .str z]) = some (.int a) := by rw [e1] at f1; exact f1
              cases e2 : T z y with
              | none =>
                have f2 : dfind kvs (.tup [.str z, .str y]) = some .non := by rw [e2] at f2; exact f2
                have eT : fwC z x T y = T := by unfold fwC; rw [e1, e2]
                wp_walk using gT, f1, f2
                exact ⟨_, by rw [eT]; exact ta, _, _, _, _, rfl, rfl⟩
              | some b =>
                have f2 : dfind kvs (.tup [.str z, .str y]) = some (.int b) := by rw [e2] at f2; exact f2
                have eT : fwC z x T y = lower T x y (a + b) := by unfold fwC; rw [e1, e2]
                have tu := ta.upd ⟨mx, my⟩ (some (a + b))
                rw [eT]
                cases e3 : T x y with
                | none =>
                  have f3 : dfind kvs (.tup [.str x, .str y]) = some .non := by rw [e3] at f3; exact f3
                  wp_walk using gT, f1, f2, f3, sT
                  exact ⟨hk, _, by unfold lower; rw [e3]; exact tu, _, _, _, _, rfl, rfl⟩
                | some c =>
                  have f3 : dfind kvs (.tup [.str x, .str y]) = some (.int c) := by rw [e3] at f3; exact f3
                  wp_walk using gT, f1, f2, f3
                  refine wif_d (fun q => ?_) (fun q => ?_)
                  · wp_walk using gT, sT
                    exact ⟨hk, _, by unfold lower; rw [e3]; dsimp only; rw [if_pos q]; exact tu, _, _, _, _, rfl, rfl⟩
                  · wp_walk
                    exact ⟨_, by unfold lower; rw [e3]; dsimp only; rw [if_neg q]; exact ta, _, _, _, _, rfl, rfl⟩
          · rintro env h' ⟨kvs, ta, o6, o7, o8, o9, rfl, rfl⟩
            wp_walk
            rw [List.length_map, List.take_length] at ta
            exact ⟨kvs, ta, _, _, _, _, _, rfl, rfl⟩
        · rintro env h' ⟨kvs, ta, o4, o6, o7, o8, o9, rfl, rfl⟩
          wp_walk
          rw [List.length_map, List.take_length] at ta
          exact ⟨kvs, ta, _, _, _, _, _, _, rfl, rfl⟩
      · rintro env h' ⟨kvs, ta, o4, o5, o6, o7, o8, o9, rfl, rfl⟩
        wp_walk
        rw [List.length_map, List.take_length] at ta
        exact hq kvs _ _ ta (gT kvs) (F1.trans .app)
/-! LD: plans that hold, by the law. -/
open PySem PySem.Spec PyProof.Rows L2
/-- a plan as the graph's part wants it -/
structure WP (p : Pln) : Prop where
  nd : (zro :: p.marks).Nodup
  fm : p.marks.length ≤ 40
  fr : p.rows.length ≤ 140
  ok : ∀ s ∈ p.rows, s.a ∈ zro :: p.marks ∧ s.b ∈ zro :: p.marks ∧ s.a ≠ s.b
theorem GP.wp {p : Pln} (g : GP p) : WP p := by
  obtain ⟨n, hn, e⟩ := g.n
  refine ⟨by rw [e]; exact abc_take n, by rw [e, List.length_take]; omega, by have := g.few; omega, g.rows.ok⟩
theorem step_mem {rows : List Spn} {t : Stp} (h : t ∈ stepsOf rows) : ∃ s ∈ rows, t.name = s.name ∧ ((t.most = false ∧ t.x = s.b ∧ t.y = s.a ∧ s.lo = some (0 - t.len)) ∨ (t.most = true ∧ t.x = s.a ∧ t.y = s.b ∧ s.hi = some t.len)) := by
  obtain ⟨s, hs, m⟩ := List.mem_flatMap.mp h
  refine ⟨s, hs, ?_⟩
  rcases List.mem_append.mp m with m | m
  · unfold stepLo at m
    cases e : s.lo with
    | none => rw [e] at m; exact nomatch m
    | some l =>
      rw [e] at m
      rw [List.mem_singleton.mp m]
      exact ⟨rfl, .inl ⟨rfl, rfl, rfl, by simp⟩⟩
  · unfold stepHi at m
    cases e : s.hi with
    | none => rw [e] at m; exact nomatch m
    | some l =>
      rw [e] at m
      rw [List.mem_singleton.mp m]
      exact ⟨rfl, .inr ⟨rfl, rfl, rfl, rfl⟩⟩
theorem WP.step {p : Pln} (w : WP p) {t : Stp} (h : t ∈ stepsOf p.rows) : t.x ∈ zro :: p.marks ∧ t.y ∈ zro :: p.marks ∧ t.x ≠ t.y := by
  obtain ⟨s, hs, _, ⟨_, e1, e2, _⟩ | ⟨_, e1, e2, _⟩⟩ := step_mem h
  · rw [e1, e2]; exact ⟨(w.ok s hs).2.1, (w.ok s hs).1, (w.ok s hs).2.2.symm⟩
  · rw [e1, e2]; exact w.ok s hs
theorem WP.arc {p : Pln} (w : WP p) : ∀ u v l, (u, v, l) ∈ arcsP p.rows → u ∈ zro :: p.marks ∧ v ∈ zro :: p.marks := fun u v l m => by
  obtain ⟨t, ht, e⟩ := List.mem_map.mp m
  have := w.step ht
  unfold stArc at e
  cases e
  exact ⟨this.1, this.2.1⟩
theorem deqs_nil (xs : List D) : deqs xs [] = xs.isEmpty := by cases xs <;> simp [deqs]
theorem lawHolds_ok {p : Pln} {h : Hs} {Q : D → Hs → Prop} {E : Ex → Hs → Prop} (w : WP p) (hq : ∀ (b : Bool) h', (b = true ↔ NoNeg (arcsP p.rows)) → Fr [] h h' → Q (.bl b) h') : (PH.fn__law_holds.go [enP p] h).wp Q E := by
  unfold PH.fn__law_holds
  rw [w_defn]
  unfold PH.s__law_holds
  wp_walk
  rw [w_seqF]
  wp_walk
  refine ⟨rfl, lawSteps_ok (by have := w.fr; omega) ?_⟩
  wp_walk
  refine ⟨rfl, lawClosure_ok w.fm get_new1 (fun t ht => ⟨(w.step ht).1, (w.step ht).2.1⟩) fun kvs n h1 ta e1 f1 => ?_⟩
  have hn := w.nd
  have hA := w.arc
  have F1 : Fr [] h h1 := Fr.trans .app f1
  have hneg := closure_neg hn hA
  have hdia : ∀ x ∈ zro :: p.marks, ∃ d, closure (zro :: p.marks) (arcsP p.rows) x x = some d := fun x _ => let ⟨d, e, _⟩ := (closure_is hn hA).dia x; ⟨d, e⟩
  have ta : TabA kvs (closure (zro :: p.marks) (arcsP p.rows)) (fun x y => x ∈ zro :: p.marks ∧ y ∈ zro :: p.marks) 2000 := ta
  generalize closure (zro :: p.marks) (arcsP p.rows) = T at *
  have g1 : (h1 ++ [Cell.lst [D.str (cs "zero")]] ++ [Cell.lst (p.marks.map .str)])[h1.length]? = some (.lst [.str (cs "zero")]) := get_old get_new1
  have g2 : (h1 ++ [Cell.lst [D.str (cs "zero")]] ++ [Cell.lst (p.marks.map .str)])[(h1 ++ [Cell.lst [D.str (cs "zero")]]).length]? = some (.lst (p.marks.map .str)) := get_new1
  have g3 : (h1 ++ [Cell.lst [D.str (cs "zero")]] ++ [Cell.lst (p.marks.map .str)] ++ [Cell.lst (D.str (cs "zero") :: p.marks.map .str)])[(h1 ++ [Cell.lst [D.str (cs "zero")]] ++ [Cell.lst (p.marks.map .str)]).length]? = some (.lst ((zro :: p.marks).map .str)) := get_new1
  have F2 : Fr [] h1 (h1 ++ [Cell.lst [D.str (cs "zero")]] ++ [Cell.lst (p.marks.map .str)] ++ [Cell.lst (D.str (cs "zero") :: p.marks.map .str)]) := (Fr.app.push).push
  have e2 := F2.get e1
  generalize hns : zro :: p.marks = ns at *
  have hnl : ns.length ≤ 41 := by rw [← hns]; have := w.fm; simp; omega
  wp_walk
  refine w_lc (ns.map .str) (fun h => h[(h1 ++ [Cell.lst [D.str (cs "zero")]] ++ [Cell.lst (p.marks.map .str)]).length]? = some (.lst (ns.map .str))) (fun i acc h' => acc = ((ns.take i).filter fun x => match T x x with | some d => decide (d < 0) | none => false).map D.str ∧ h' = h1 ++ [Cell.lst [D.str (cs "zero")]] ++ [Cell.lst (p.marks.map .str)] ++ [Cell.lst (D.str (cs "zero") :: p.marks.map .str)]) ?_ ?_ ?_ ?_ ?_
  · wp_walk using enP, g1, g2, g3
    exact ⟨by have := w.fm; omega, t_cel _ _, rfl⟩
  · rintro i acc h' ⟨_, rfl⟩; exact g3
  · rintro i acc h' ⟨rfl, _⟩
    rw [List.length_map]
    have := List.length_filter_le (fun x => match T x x with | some d => decide (d < 0) | none => false) (ns.take i)
    have : (ns.take i).length ≤ 41 := by rw [List.length_take]; omega
    show _ < 16777217
    omega
  · rintro i x acc h' hx ⟨rfl, rfl⟩
    obtain ⟨x, hx', rfl⟩ := map_get hx
    have mx : x ∈ ns := List.mem_of_getElem? hx'
    obtain ⟨d, ed⟩ := hdia x mx
    have fd := ta.1 x x ⟨mx, mx⟩
    rw [ed] at fd
    have fd : dfind kvs (.tup [.str x, .str x]) = some (.int d) := fd
    have ht : ns.take (i + 1) = ns.take i ++ [x] := by rw [List.take_add_one, hx']; rfl
    wp_walk using e2, fd
    refine wif_d (fun c => ?_) (fun c => ?_)
    · wp_walk
      refine ⟨?_, ?_⟩
      · have := List.length_filter_le (fun x => match T x x with | some d => decide (d < 0) | none => false) (ns.take i)
        have : (ns.take i).length ≤ 41 := by rw [List.length_take]; omega
        omega
      · rw [ht, List.filter_append, List.map_append]
        simp [ed, c]
    · rw [ht, List.filter_append, List.map_append]
      refine ⟨?_, rfl⟩
      simp [ed, c]
  · rintro acc h' ⟨rfl, rfl⟩
    rw [List.length_map, List.take_length]
    wp_walk
    generalize hL : ns.filter (fun x => match T x x with | some d => decide (d < 0) | none => false) = L at *
    have l1 : ∀ (H : Hs) (a c : Cell), (H ++ [a] ++ [c])[H.length]? = some a := fun H a c => get_old get_new1
    have l2 : ∀ (H : Hs) (a c : Cell), (H ++ [a] ++ [c])[(H ++ [a]).length]? = some c := fun H a c => get_new1
    rw [eq_refs (l1 _ _ _) (l2 _ _ _) (flts_str _ _) (by rfl), deqs_nil]
    wp_walk
    refine hq _ _ ?_ (F1.trans (F2.trans Fr.app.push))
    rw [← Classical.not_not (a := NoNeg (arcsP p.rows)), ← hneg, List.isEmpty_iff, List.map_eq_nil_iff, ← hL, List.filter_eq_nil_iff]
    constructor
    · rintro q ⟨x, hx, d, ed, ld⟩
      have := q x hx
      rw [ed] at this
      simp [ld] at this
    · intro q x hx c
      obtain ⟨d, ed⟩ := hdia x hx
      rw [ed] at c
      exact q ⟨x, hx, d, ed, by simpa using c⟩
theorem GR.sub {ms : List Nm} {rows rows' : List Spn} (g : GR ms rows) (s : rows'.Sublist rows) : GR ms rows' where
  ok := fun r m => g.ok r (s.subset m)
  bd := fun r m => g.bd r (s.subset m)
  ls := fun r m => g.ls r (s.subset m)
  nd := List.Nodup.sublist (s.map _) g.nd
  le := List.Nodup.sublist ((s.filter _).map _) g.le
  nl := fun r m => g.nl r (s.subset m)
theorem noNeg_nil : NoNeg [] := fun x L w => by
  cases w with
  | nil => exact Int.le_refl 0
  | snoc _ m => exact nomatch m
theorem lawHolding_ok {b dg : Nat} {m ns nl : Nat} {h : Hs} {Q : D → Hs → Prop} {E : Ex → Hs → Prop} (hb : Bx b dg h) (hm : m ≤ 7) (hs : ns ≤ 15) (hl : nl ≤ 10)
    (hq : ∀ p h', GP p → p.marks = abc.take m → p.rows.length ≤ ns + nl → (nl = 0 → ∀ r ∈ p.rows, r.loose = false) → NoNeg (arcsP p.rows) → Bx b dg h' → Fr [b] h h' → Q (enP p) h') : (PH.fn__law_holding.go [.ref b, .int m, .int ns, .int nl] h).wp Q E := by
  unfold PH.fn__law_holding
  rw [w_defn]
  unfold PH.s__law_holding
  wp_walk using hb
  refine ⟨rfl, plan_ok hb hm hs hl fun p h1 gp em lr nlo m0 B1 F1 => ?_⟩
  wp_walk using hb
  have wp := gp.wp
  have e0 : (h1 ++ [Cell.lst []])[h1.length]? = some (.lst []) := get_new1
  have lb := B1.lt
  have ld := B1.ltd
  refine w_for (p.rows.map enS) (fun _ => True) (fun i env h' => ∃ (o6 : Option D) (rows : List Spn), env = [some (.ref b), some (.int m), some (.int ns), some (.int nl), some (enP p), some (.ref h1.length), o6] ∧ h'[h1.length]? = some (.lst (rows.map enS)) ∧ rows.Sublist (p.rows.take i) ∧ NoNeg (arcsP rows) ∧ Bx b dg h' ∧ Fr [b] h1 h') ?_ (fun _ _ _ _ => trivial) ?_ ?_
  · wp_walk using enP
    exact ⟨t_seq _ _, _, [], rfl, e0, List.nil_sublist _, noNeg_nil, B1.fr .app, Fr.app⟩
  · rintro i x env h' hx ⟨o6, rows, rfl, e1, sb, nn, B2, F2⟩
    obtain ⟨s, hs', rfl⟩ := map_get hx
    have hi : i < p.rows.length := (List.getElem?_eq_some_iff.mp hs').1
    have ln : rows.length ≤ i := by have := sb.length_le; rw [List.length_take] at this; omega
    have fr := gp.few
    have ht : p.rows.take (i + 1) = p.rows.take i ++ [s] := by rw [List.take_add_one, hs']; rfl
    have sb2 : (rows ++ [s]).Sublist (p.rows.take (i + 1)) := by rw [ht]; exact List.Sublist.append sb (List.Sublist.refl _)
    have sb3 : (rows ++ [s]).Sublist p.rows := sb2.trans (List.take_sublist _ _)
    have lr1 : h1.length < h'.length := get_lt e1
    have f1 : (h' ++ [Cell.lst [enS s]])[h1.length]? = some (.lst (rows.map enS)) := get_old e1
    have f2 : (h' ++ [Cell.lst [enS s]])[h'.length]? = some (.lst [enS s]) := get_new1
    have f3 : (h' ++ [Cell.lst [enS s]] ++ [Cell.lst (rows.map enS ++ [enS s])])[(h' ++ [Cell.lst [enS s]]).length]? = some (.lst (rows.map enS ++ [enS s])) := get_new1
    wp_walk using enP, f1, f2, f3
    have wp2 : WP ⟨p.marks, rows ++ [s]⟩ := ⟨wp.nd, wp.fm, by simp; omega, fun r hr => wp.ok r (sb3.subset hr)⟩
    have eD : D.tup [.str (cs "plan"), .tup (p.marks.map .str), .tup (rows.map enS ++ [enS s])] = enP ⟨p.marks, rows ++ [s]⟩ := by unfold enP; simp
    have eD0 : D.tup [.str (cs "plan"), .tup (p.marks.map .str), .tup (p.rows.map enS)] = enP p := rfl
    rw [eD, eD0]
    refine ⟨by omega, rfl, lawHolds_ok wp2 fun c h3 hc F3 => ?_⟩
    have G3 : Fr [] h' h3 := (Fr.app.push).trans F3
    have f4 := G3.get e1
    cases c with
    | true =>
      wp_walk using f4
      refine ⟨by omega, _, rows ++ [s], rfl, ?_, sb2, hc.mp rfl, (B2.fr G3).set (by omega) (by omega), (F2.trans G3.up).setNew (Nat.le_refl _)⟩
      rw [get_set f4]; simp
    | false =>
      wp_walk
      exact ⟨_, rows, rfl, f4, sb.trans (List.take_sublist_take_left (by omega)), nn, B2.fr G3, F2.trans G3.up⟩
  · rintro env h' ⟨o6, rows, rfl, e1, sb, nn, B2, F2⟩
    rw [List.length_map, List.take_length] at sb
    wp_walk using enP, e1
    exact hq ⟨p.marks, rows⟩ h' ⟨gp.n, gp.rows.sub sb, by have := sb.length_le; have := gp.few; show rows.length ≤ 30; omega⟩ em (by have := sb.length_le; show rows.length ≤ _; omega) (fun z r hr => nlo z r (sb.subset hr)) nn B2 (F1.trans F2)
/-! GC: when the rounds come to rest. Plain. -/
variable {τ : Type}
/-- at rest -/
structure Fin0 (A : List (AR τ)) (starts ns : List (List Nat)) (s : DS τ) : Prop where
  wk : ∀ v d, s.dist v = some d → ∃ x ∈ starts, Wk (arcsL A) x v d
  st : ∀ x ∈ starts, ∃ d, s.dist x = some d ∧ d ≤ 0
  sat : ∀ a ∈ A, ∀ du, s.dist a.u = some du → ∃ dv, s.dist a.v = some dv ∧ dv ≤ du + a.l
  ina : ∀ v a, s.into v = some a → a ∈ A ∧ a.v = v ∧ ∃ du, s.dist a.u = some du ∧ s.dist v = some (du + a.l)
  inn : ∀ v d, s.dist v = some d → v ∈ ns
  bg : ∀ v d, s.dist v = some d → s.into v = none → v ∈ starts
  cyc : ∀ v r, r ≠ [] → ¬ Bk s.into v r v
theorem BR.rest {A : List (AR τ)} {starts ns : List (List Nat)} {R : Nat} {s : DS τ} (b : BR A starts ns R s) (hR : 1 ≤ R) (hf : s.fallen = none) : Fin0 A starts ns s := by
  have bg := b.bg
  obtain ⟨last, b⟩ := b.ex
  have sat : ∀ a ∈ A, ∀ du, s.dist a.u = some du → ∃ dv, s.dist a.v = some dv ∧ dv ≤ du + a.l := fun a ha du e => b.sat a ha du e (.inr ⟨ha, b.faln hf hR _⟩)
  refine ⟨b.wk, b.st, sat, fun v a e => ?_, b.inn, bg, fun v r hr bk => ?_⟩
  rotate_left
  · obtain ⟨a, ha, du, dv, e1, e2, e3⟩ := b.cyc v r hr bk
    obtain ⟨x, hx⟩ := bk.mem a ha
    obtain ⟨dv', e4, e5⟩ := sat a (b.ina x a hx).1 du e1
    rw [e2] at e4; cases e4
    omega
  obtain ⟨q1, q2, _, du, dv, q4, q5, q6⟩ := b.ina v a e
  refine ⟨q1, q2, du, q4, ?_⟩
  obtain ⟨dv', e1, e2⟩ := sat a q1 du q4
  rw [q2, q5] at e1
  cases e1
  rw [q5, show dv = du + a.l by omega]
theorem BR.never {A : List (AR τ)} {starts ns : List (List Nat)} {s : DS τ} (h : NoNeg (arcsL A)) (hns : ∀ a ∈ A, a.u ∈ ns ∧ a.v ∈ ns) (h0 : ns ≠ []) (b : BR A starts ns ns.length s) : s.fallen = none := by
  obtain ⟨last, b⟩ := b.ex
  cases e : s.fallen with
  | none => rfl
  | some v =>
    exfalso
    have hv := b.fal v e
    have hlen : 0 < ns.length := List.length_pos_iff.mpr h0
    have hd : ∀ x, 1 ≤ last x → x ∈ ns := fun x hx => by
      cases q : s.into x with
      | none => have := (b.la x).mp q; omega
      | some a =>
        obtain ⟨q1, q2, _⟩ := b.ina x a q
        rw [← q2]; exact (hns a q1).2
    obtain ⟨w, k, e1, k0, _, e2⟩ := b.onRing hv hd (fun a ha => (hns a ha).1) (hd v (by omega))
    obtain ⟨k', k1, _, e3, e4⟩ := firstBack k k0 e2
    obtain ⟨r, _, _, g⟩ := b.ringB k1 e3 e4
    exact g.neg' h
theorem Fin0.le {A : List (AR τ)} {starts ns : List (List Nat)} {s : DS τ} (f : Fin0 A starts ns s) {x y : List Nat} {L : Int} (w : Wk (arcsL A) x y L) : ∀ d, s.dist x = some d → ∃ d', s.dist y = some d' ∧ d' ≤ d + L := by
  induction w with
  | nil => exact fun d e => ⟨d, e, by omega⟩
  | snoc _ m ih =>
    intro d e
    obtain ⟨d1, e1, l1⟩ := ih d e
    obtain ⟨a, ha, ea⟩ := List.mem_map.mp m
    unfold AR.arc at ea
    cases ea
    obtain ⟨d2, e2, l2⟩ := f.sat a ha d1 e1
    exact ⟨d2, e2, by omega⟩
/-- back from where one came, as far as it goes: a way from the start -/
theorem Fin0.way {A : List (AR τ)} {ns : List (List Nat)} {x : List Nat} {s : DS τ} (f : Fin0 A [x] ns s) (h : NoNeg (arcsL A)) : ∀ {v w : List Nat} {r : List (AR τ)}, Bk s.into v r w → ∀ d, s.dist v = some d → (∀ a ∈ r, a ∈ A) ∧ ∃ e, s.dist w = some e ∧ d = e + (r.map AR.l).sum := by
  intro v w r b
  induction b with
  | nil => exact fun d e => ⟨fun _ m => (nomatch m), d, e, by simp⟩
  | cons h1 _ ih =>
    intro d e
    obtain ⟨q1, q2, du, q3, q4⟩ := f.ina _ _ h1
    rw [e] at q4; cases q4
    obtain ⟨m, z, e1, e2⟩ := ih du q3
    refine ⟨fun c hc => ?_, z, e1, ?_⟩
    · rcases List.mem_cons.mp hc with rfl | hc
      · exact q1
      · exact m c hc
    · rw [List.map_cons, List.sum_cons]; omega
theorem Fin0.zero {A : List (AR τ)} {ns : List (List Nat)} {x : List Nat} {s : DS τ} (f : Fin0 A [x] ns s) (h : NoNeg (arcsL A)) : s.dist x = some 0 := by
  obtain ⟨d, e, l⟩ := f.st x (List.mem_singleton.mpr rfl)
  obtain ⟨y, hy, w⟩ := f.wk x d e
  rw [List.mem_singleton.mp hy] at w
  have := h x d w
  rw [e, show d = 0 by omega]
/-- so far back as one likes, not farther than there are names -/
theorem Fin0.short {A : List (AR τ)} {ns ss : List (List Nat)} {s : DS τ} (f : Fin0 A ss ns s) (hns : ∀ a ∈ A, a.u ∈ ns ∧ a.v ∈ ns) {v w : List Nat} {r : List (AR τ)} (b : Bk s.into v r w) : r.length ≤ ns.length := by
  rcases Nat.lt_or_ge ns.length r.length with hl | hl
  · exfalso
    obtain ⟨i, j, hij, hj, e⟩ := pigeon ns (r.map AR.u) (fun x m => by
      obtain ⟨a, ha, rfl⟩ := List.mem_map.mp m
      obtain ⟨y, hy⟩ := b.mem a ha
      exact (hns a (f.ina y a hy).1).1) (by rw [List.length_map]; exact hl)
    rw [List.length_map] at hj
    rw [List.getElem?_map, List.getElem?_map, List.getElem?_eq_getElem hj, List.getElem?_eq_getElem (Nat.lt_trans hij hj)] at e
    have e : (r[i]'(Nat.lt_trans hij hj)).u = r[j].u := Option.some.inj e
    have b1 := b.back_at i _ (List.getElem?_eq_getElem (Nat.lt_trans hij hj))
    have b2 := b.back_at j _ (List.getElem?_eq_getElem hj)
    have hk : back s.into (j - i) r[j].u = some r[j].u := by
      have z : j + 1 = (i + 1) + (j - i) := by omega
      rw [z, back_add, b1, e] at b2
      exact b2
    obtain ⟨q, lq, bq⟩ := back_bk (j - i) _ _ hk
    exact f.cyc _ q (fun z => by rw [z] at lq; simp at lq; omega) bq
  · exact hl
/-- from all names: what the rounds tell meets all arcs -/
theorem Fin0.meets {A : List (AR τ)} {ns : List (List Nat)} {s : DS τ} (f : Fin0 A ns ns s) (hns : ∀ a ∈ A, a.u ∈ ns ∧ a.v ∈ ns) : Meets (arcsL A) (fun x => (s.dist x).getD 0) := fun u v l m => by
  obtain ⟨a, ha, ea⟩ := List.mem_map.mp m
  unfold AR.arc at ea
  cases ea
  obtain ⟨du, e, _⟩ := f.st a.u (hns a ha).1
  obtain ⟨dv, e2, l2⟩ := f.sat a ha du e
  simp only [e, e2, Option.getD_some]
  omega
/-- from one name: the least lengths -/
theorem Fin0.least {A : List (AR τ)} {ns : List (List Nat)} {x : List Nat} {s : DS τ} (f : Fin0 A [x] ns s) (hn : ns.Nodup) (hA : ∀ u v l, (u, v, l) ∈ arcsL A → u ∈ ns ∧ v ∈ ns) (h : NoNeg (arcsL A)) (y : List Nat) (hx : x ∈ ns) : s.dist y = closure ns (arcsL A) x y := by
  cases e : s.dist y with
  | none =>
    cases e2 : closure ns (arcsL A) x y with
    | none => rfl
    | some L =>
      exfalso
      obtain ⟨d, e3, _⟩ := f.st x (List.mem_singleton.mpr rfl)
      obtain ⟨d', e4, _⟩ := f.le (closure_walk hn hA e2) d e3
      rw [e] at e4; cases e4
  | some d =>
    obtain ⟨z, hz, w⟩ := f.wk y d e
    rw [List.mem_singleton.mp hz] at w
    obtain ⟨c, e2, l⟩ := closure_least hn hA h w
    obtain ⟨d0, e3, l0⟩ := f.st x (List.mem_singleton.mpr rfl)
    obtain ⟨d', e4, l2⟩ := f.le (closure_walk hn hA e2) d0 e3
    rw [e] at e4; cases e4
    rw [e2, show c = d by omega]
/-! GD: how far the rounds go; one arc more. Plain. -/
variable {τ : Type}
def Bd (A : List (AR τ)) (s : DS τ) (K : Nat) : Prop := ∀ M : Nat, (∀ a ∈ A, a.l.natAbs ≤ M) → ∀ v d, s.dist v = some d → d.natAbs ≤ K * (A.length * M)
theorem relax_bd {s : DS τ} {a : AR τ} {B M : Nat} (h : ∀ v d, s.dist v = some d → d.natAbs ≤ B) (ha : a.l.natAbs ≤ M) : ∀ v d, (relax1 s a).dist v = some d → d.natAbs ≤ B + M := by
  intro v d e
  unfold relax1 at e
  cases q : falls s a with
  | none => rw [q] at e; have := h v d e; omega
  | some n =>
    rw [q] at e
    have e : setF s.dist a.v n v = some d := e
    obtain ⟨du, eu, en, _⟩ := falls_some q
    by_cases c : v = a.v
    · rw [c, setF_same] at e
      cases e
      have := h _ _ eu
      omega
    · rw [setF_ne _ _ c] at e
      have := h v d e
      omega
theorem fold_bd {M : Nat} : ∀ (A : List (AR τ)) (s : DS τ) (B : Nat), (∀ a ∈ A, a.l.natAbs ≤ M) → (∀ v d, s.dist v = some d → d.natAbs ≤ B) → ∀ v d, (A.foldl relax1 s).dist v = some d → d.natAbs ≤ B + A.length * M
  | [], s, B, _, h => fun v d e => by have := h v d e; omega
  | a :: A, s, B, hA, h => fun v d e => by
    have := fold_bd A (relax1 s a) (B + M) (fun c m => hA c (List.mem_cons_of_mem _ m)) (relax_bd h (hA a List.mem_cons_self)) v d e
    rw [List.length_cons, Nat.succ_mul]
    omega
theorem Bd.round {A : List (AR τ)} {s : DS τ} {K : Nat} (b : Bd A s K) : Bd A (rnd A s) (K + 1) := fun M hM v d e => by
  have := fold_bd A { s with fallen := none } (K * (A.length * M)) hM (b M hM) v d e
  rw [Nat.succ_mul]
  exact this
theorem Bd.start (A : List (AR τ)) (ss : List (List Nat)) : Bd A (start0 ss : DS τ) 0 := fun M _ v d e => by
  have e : (if v ∈ ss then some 0 else none) = some d := e
  split at e
  · cases e; simp
  · cases e
theorem Bd.mono {A : List (AR τ)} {s : DS τ} {K L : Nat} (b : Bd A s K) (h : K ≤ L) : Bd A s L := fun M hM v d e => Nat.le_trans (b M hM v d e) (Nat.mul_le_mul_right _ h)
def iterR (A : List (AR τ)) : Nat → DS τ → DS τ
  | 0, s => s
  | n + 1, s => rnd A (iterR A n s)
theorem iterR_ok (A : List (AR τ)) (ss ns : List (List Nat)) (hss : ∀ x ∈ ss, x ∈ ns) (hns : ∀ a ∈ A, a.u ∈ ns ∧ a.v ∈ ns) (hne : ∀ a ∈ A, a.u ≠ a.v) : ∀ n, BR A ss ns n (iterR A n (start0 ss)) ∧ Bd A (iterR A n (start0 ss)) n
  | 0 => ⟨BR.start A ss ns hss, Bd.start A ss⟩
  | n + 1 => let ⟨a, b⟩ := iterR_ok A ss ns hss hns hne n; ⟨a.round hns hne, b.round⟩
/-- how great the table's numbers are -/
theorem tbl_bd {A : List (AR τ)} {ns : List (List Nat)} {x : List Nat} (hn : ns.Nodup) (hx : x ∈ ns) (hns : ∀ a ∈ A, a.u ∈ ns ∧ a.v ∈ ns) (hne : ∀ a ∈ A, a.u ≠ a.v) (nn : NoNeg (arcsL A)) {M : Nat} (hM : ∀ a ∈ A, a.l.natAbs ≤ M) {y : List Nat} {d : Int} (e : closure ns (arcsL A) x y = some d) : d.natAbs ≤ ns.length * (A.length * M) := by
  have h0 : ns ≠ [] := fun q => by rw [q] at hx; exact nomatch hx
  obtain ⟨b, bd⟩ := iterR_ok A [x] ns (fun z m => by rw [List.mem_singleton.mp m]; exact hx) hns hne ns.length
  have f := b.rest (List.length_pos_iff.mpr h0) (b.never nn hns h0)
  have hA : ∀ u v l, (u, v, l) ∈ arcsL A → u ∈ ns ∧ v ∈ ns := fun u v l m => by
    obtain ⟨a, ha, q⟩ := List.mem_map.mp m
    unfold AR.arc at q; cases q
    exact hns a ha
  have := f.least hn hA nn y hx
  rw [e] at this
  exact bd M hM y d this
/-- one arc more -/
theorem add_arc {A : List Arc} {a b : List Nat} {g : Int} (nn : NoNeg A) (h : ∀ L, Wk A b a L → 0 ≤ L + g) {x y : List Nat} {L : Int} (w : Wk ((a, b, g) :: A) x y L) : (∃ L0, L0 ≤ L ∧ Wk A x y L0) ∨ (∃ L1 L2, Wk A x a L1 ∧ Wk A b y L2 ∧ L1 + g + L2 ≤ L) := by
  induction w with
  | nil => exact .inl ⟨0, Int.le_refl _, .nil _⟩
  | snoc _ m ih =>
    rename_i u v L l _
    rcases List.mem_cons.mp m with e | m
    · cases e
      rcases ih with ⟨L0, h0, w0⟩ | ⟨L1, L2, w1, w2, hl⟩
      · exact .inr ⟨L0, 0, w0, .nil _, by omega⟩
      · have := h L2 w2
        exact .inr ⟨L1, 0, w1, .nil _, by omega⟩
    · rcases ih with ⟨L0, h0, w0⟩ | ⟨L1, L2, w1, w2, hl⟩
      · exact .inl ⟨L0 + l, by omega, w0.snoc m⟩
      · exact .inr ⟨L1, L2 + l, w1, w2.snoc m, by omega⟩
theorem add_noNeg {A : List Arc} {a b : List Nat} {g : Int} (nn : NoNeg A) (h : ∀ L, Wk A b a L → 0 ≤ L + g) : NoNeg ((a, b, g) :: A) := fun x L w => by
  rcases add_arc nn h w with ⟨L0, h0, w0⟩ | ⟨L1, L2, w1, w2, hl⟩
  · have := nn x L0 w0; omega
  · have := h _ (w2.trans w1); omega
/-- two arcs: so many days -/
theorem add_both {A : List Arc} {a b : List Nat} {g : Int} (nn : NoNeg A) (h1 : ∀ L, Wk A b a L → 0 ≤ L + g) (h2 : ∀ L, Wk A a b L → g ≤ L) : NoNeg ((b, a, 0 - g) :: (a, b, g) :: A) := by
  refine add_noNeg (add_noNeg nn h1) fun L w => ?_
  rcases add_arc nn h1 w with ⟨L0, h0, w0⟩ | ⟨L1, L2, w1, w2, hl⟩
  · have := h2 L0 w0; omega
  · have := nn a L1 w1; have := nn b L2 w2; omega
/-! LE: ways: the program's rounds. -/
open PySem PySem.Spec PyProof.Rows L2
def enA (a : AR D) : D := .tup [.str a.u, .str a.v, .int a.l, a.t]
def enF : Option Nm → D
  | none => .non
  | some v => .str v
/-- a dict by names tells a function -/
def DF {α : Type} (enc : α → D) (kvs : List (D × D)) (f : Nm → Option α) (N : Nat) : Prop := (∀ x, dfind kvs (.str x) = (f x).map enc) ∧ kvs.length ≤ N
theorem k_str (x : Nm) : kEq (.str x) (.str x) = true := by simp [kEq]
theorem DF.put {α : Type} {enc : α → D} {kvs : List (D × D)} {f : Nm → Option α} {N : Nat} (t : DF enc kvs f N) (x : Nm) (v : α) : DF enc (dput kvs (.str x) (enc v)) (setF f x v) (N + 1) := by
  refine ⟨fun y => ?_, by have := dput_len kvs (.str x) (enc v); have := t.2; omega⟩
  by_cases c : y = x
  · rw [c, setF_same]; exact dfind_put_same _ _ _ (k_str x)
  · rw [dfind_put_ne _ _ _ _ fun q => c (D.str.inj q).symm, setF_ne _ _ c]; exact t.1 y
theorem DF.some {α : Type} {enc : α → D} {kvs : List (D × D)} {f : Nm → Option α} {N : Nat} (t : DF enc kvs f N) {x : Nm} {v : α} (e : f x = some v) : dfind kvs (.str x) = some (enc v) := by rw [t.1 x, e]; rfl
theorem DF.none {α : Type} {enc : α → D} {kvs : List (D × D)} {f : Nm → Option α} {N : Nat} (t : DF enc kvs f N) {x : Nm} (e : f x = none) : dfind kvs (.str x) = none := by rw [t.1 x, e]; rfl
theorem DF.mono {α : Type} {enc : α → D} {kvs : List (D × D)} {f : Nm → Option α} {N M : Nat} (t : DF enc kvs f N) (h : N ≤ M) : DF enc kvs f M := ⟨t.1, Nat.le_trans t.2 h⟩
/-- the two dicts of a search -/
def SrD (di ii : Nat) (s : DS D) (N : Nat) (h : Hs) : Prop := ∃ kd ki, h[di]? = some (.dic false false kd) ∧ h[ii]? = some (.dic false false ki) ∧ DF .int kd s.dist N ∧ DF enA ki s.into N
def RlE (di ii al : Nat) (s : DS D) (env : Env) : Prop := ∃ o4 o5 o6 o7 o8, env = [some (.ref di), some (.ref ii), some (.ref al), some (enF s.fallen), o4, o5, o6, o7, o8]
theorem relaxed_ok {di ii al N : Nat} {s : DS D} {A : List (AR D)} {h : Hs} {Q : D → Hs → Prop} {E : Ex → Hs → Prop} (hne : di ≠ ii) (hs : SrD di ii s N h) (ha : h[al]? = some (.lst (A.map enA))) (hN : N + A.length ≤ 1000000)
    (hq : ∀ h', SrD di ii (rnd A s) (N + A.length) h' → Fr [di, ii] h h' → Q (enF (rnd A s).fallen) h') : (PH.fn_relaxed.go [.ref di, .ref ii, .ref al] h).wp Q E := by
  unfold PH.fn_relaxed
  rw [w_defn]
  unfold PH.s_relaxed
  wp_walk
  rw [w_seqF]
  wp_walk
  rw [w_seqF]
  have hal : al ≠ di ∧ al ≠ ii := by
    obtain ⟨kd, ki, e1, e2, _⟩ := hs
    exact ⟨fun e => by (rw [e, e1] at ha; cases ha), fun e => by (rw [e, e2] at ha; cases ha)⟩
  refine w_for (A.map enA) (fun h => h[al]? = some (.lst (A.map enA))) (fun i env h' => SrD di ii ((A.take i).foldl relax1 { s with fallen := none }) (N + i) h' ∧ RlE di ii al ((A.take i).foldl relax1 { s with fallen := none }) env ∧ Fr [di, ii] h h') ?_ (fun i env h' q => q.2.2.get ha (by simp [hal.1, hal.2])) ?_ ?_
  · wp_walk using ha
    exact ⟨t_cel _ _, hs, ⟨_, _, _, _, _, rfl⟩, Fr.refl⟩
  · rintro i x env h' hx ⟨sr, ⟨o4, o5, o6, o7, o8, rfl⟩, F⟩
    obtain ⟨a, ha', rfl⟩ := map_get hx
    have hi : i < A.length := (List.getElem?_eq_some_iff.mp ha').1
    rw [fold_take _ _ ha']
    generalize (A.take i).foldl relax1 { s with fallen := none } = s1 at *
    obtain ⟨kd, ki, g1, g2, d1, d2⟩ := sr
    have g3 : ∀ c : Cell, (h'.set di c)[ii]? = some (.dic false false ki) := fun c => get_setne g2 hne
    have n1 : kd.length < 16777216 := by have := d1.2; omega
    have n2 : ki.length < 16777216 := by have := d2.2; omega
    unfold enA
    cases e1 : s1.dist a.u with
    | none =>
      have f1 := d1.none e1
      have es : relax1 s1 a = s1 := by unfold relax1 falls; rw [e1]
      wp_walk using g1, f1, Option.isSome_none
      rw [es]
      exact ⟨⟨kd, ki, g1, g2, d1.mono (by omega), d2.mono (by omega)⟩, ⟨_, _, _, _, _, rfl⟩, F⟩
    | some d =>
      have f1 := d1.some e1
      have fin : falls s1 a = some (d + a.l) → SrD di ii (relax1 s1 a) (N + (i + 1)) ((h'.set di (.dic false false (dput kd (.str a.v) (.int (d + a.l))))).set ii (.dic false false (dput ki (.str a.v) (.tup [.str a.u, .str a.v, .int a.l, a.t])))) ∧ enF (relax1 s1 a).fallen = .str a.v ∧ Fr [di, ii] h ((h'.set di (.dic false false (dput kd (.str a.v) (.int (d + a.l))))).set ii (.dic false false (dput ki (.str a.v) (.tup [.str a.u, .str a.v, .int a.l, a.t])))) := fun e => by
        have es : relax1 s1 a = ⟨setF s1.dist a.v (d + a.l), setF s1.into a.v a, some a.v⟩ := by unfold relax1; rw [e]
        rw [es]
        refine ⟨⟨_, _, get_setne (get_set g1) (Ne.symm hne), get_set (g3 _), d1.put a.v _, d2.put a.v a⟩, rfl, F.trans ((Fr.set (by simp)).trans (Fr.set (by simp)))⟩
      cases e2 : s1.dist a.v with
      | none =>
        have f2 := d1.none e2
        obtain ⟨r1, r2, r3⟩ := fin (by unfold falls; rw [e1, e2])
        wp_walk using g1, f1, f2, Option.isSome_none, g3
        exact ⟨n1, n2, r1, ⟨_, _, _, _, _, by rw [r2]⟩, r3⟩
      | some e =>
        have f2 := d1.some e2
        wp_walk using g1, f1, f2
        refine wif_d (fun c => ?_) (fun c => ?_)
        · obtain ⟨r1, r2, r3⟩ := fin (by unfold falls; rw [e1, e2]; simp only; rw [if_pos c])
          wp_walk using g1, f1, f2, g3
          exact ⟨n1, n2, r1, ⟨_, _, _, _, _, by rw [r2]⟩, r3⟩
        · have es : relax1 s1 a = s1 := by unfold relax1 falls; rw [e1, e2]; simp only; rw [if_neg c]
          wp_walk
          rw [es]
          exact ⟨⟨kd, ki, g1, g2, d1.mono (by omega), d2.mono (by omega)⟩, ⟨_, _, _, _, _, rfl⟩, F⟩
  · rintro env h' ⟨sr, ⟨o4, o5, o6, o7, o8, rfl⟩, F⟩
    rw [List.length_map, List.take_length] at sr
    rw [List.length_map, List.take_length]
    wp_walk
    exact hq h' sr F
theorem Fr.new {S T : List Nat} {h h1 h' : Hs} (a : Fr S h h1) (b : Fr T h1 h') (hT : ∀ n ∈ T, h.length ≤ n) : Fr S h h' :=
  ⟨Nat.le_trans a.1 b.1, fun n c m e => b.2 n c (fun q => by have := hT n q; have := get_lt e; omega) (a.2 n c m e)⟩
def DsE (ns ss : List Nm) (al di ii : Nat) (s : DS D) (env : Env) : Prop := ∃ o6 o7, env = [some (.tup (ns.map .str)), some (.ref al), some (.tup (ss.map .str)), some (.ref di), some (.ref ii), some (enF s.fallen), o6, o7]
theorem distances_ok {al : Nat} {ns ss : List Nm} {A : List (AR D)} {h : Hs} {Q : D → Hs → Prop} {E : Ex → Hs → Prop} (hn : ns ≠ []) (hl : ns.length ≤ 60) (hsl : ss.length ≤ 60) (hA : A.length ≤ 1000) (hss : ∀ x ∈ ss, x ∈ ns) (hns : ∀ a ∈ A, a.u ∈ ns ∧ a.v ∈ ns) (hne : ∀ a ∈ A, a.u ≠ a.v) (nn : NoNeg (arcsL A)) (ha : h[al]? = some (.lst (A.map enA)))
    (hq : ∀ s di ii h', Fin0 A ss ns s → Bd A s ns.length → di ≠ ii → SrD di ii s 1000000 h' → Fr [] h h' → Q (.tup [.ref di, .ref ii, .non]) h') : (PH.fn_distances.go [.tup (ns.map .str), .ref al, .tup (ss.map .str)] h).wp Q E := by
  unfold PH.fn_distances
  rw [w_defn]
  unfold PH.s_distances
  wp_walk
  rw [w_seqF]
  wp_walk
  refine w_dc (ss.map .str) (fun _ => True) (fun i acc h' => DF .int acc (fun x => if x ∈ ss.take i then some 0 else none) i ∧ h' = h) ?_ (fun _ _ _ _ => trivial) ?_ ?_
  · wp_walk
    exact ⟨t_seq _ _, fun x => by simp [dfind], by simp⟩
  · rintro i x acc h' hx ⟨d, rfl⟩
    obtain ⟨x, hx', rfl⟩ := map_get hx
    have hi : i < ss.length := (List.getElem?_eq_some_iff.mp hx').1
    have dp := d.put x 0
    have ht : ss.take (i + 1) = ss.take i ++ [x] := by rw [List.take_add_one, hx']; rfl
    have ef : setF (fun x => if x ∈ ss.take i then some (0 : Int) else none) x 0 = fun y => if y ∈ ss.take (i + 1) then some 0 else none := by
      funext y
      rw [ht]
      by_cases c : y = x
      · rw [c, setF_same]; simp
      · rw [setF_ne _ _ c]; simp [c]
    rw [ef] at dp
    wp_walk
    exact ⟨by have := d.2; omega, dp⟩
  · rintro kd h1 ⟨d, rfl⟩
    rw [List.length_map, List.take_length] at d
    wp_walk
    rw [w_seqF]
    wp_walk
    rw [w_seqF]
    wp_walk
    rw [w_seqF]
    generalize hdi : h1.length = di at *
    generalize hii : (h1 ++ [Cell.dic false false kd]).length = ii at *
    have hne2 : di ≠ ii := by rw [← hii, ← hdi]; simp
    have F0 : Fr [] h1 (h1 ++ [Cell.dic false false kd] ++ [Cell.dic false false []]) := (Fr.app).push
    have s0 : SrD di ii (start0 ss) (ss.length + 0 * A.length) (h1 ++ [Cell.dic false false kd] ++ [Cell.dic false false []]) := by
      refine ⟨kd, [], by rw [← hdi]; exact get_old get_new1, by rw [← hii]; exact get_new1, d.mono (by omega), ⟨fun x => by simp [dfind, start0], by simp⟩⟩
    generalize h1 ++ [Cell.dic false false kd] ++ [Cell.dic false false []] = h2 at *
    have hnew : ∀ n ∈ [di, ii], h1.length ≤ n := by
      intro n m
      have : (h1 ++ [Cell.dic false false kd]).length = h1.length + 1 := by simp
      rcases List.mem_cons.mp m with e | m
      · omega
      · rcases List.mem_cons.mp m with e | m
        · omega
        · exact nomatch m
    have hb0 := BR.start A ss ns hss
    have hd0 := Bd.start A ss
    refine w_for (ns.map .str) (fun _ => True) (fun i env h' => ∃ s, (BR A ss ns i s ∧ Bd A s i) ∧ (1 ≤ i → s.fallen ≠ none) ∧ SrD di ii s (ss.length + i * A.length) h' ∧ DsE ns ss al di ii s env ∧ Fr [] h1 h') ?_ (fun _ _ _ _ => trivial) ?_ ?_
    · wp_walk
      exact ⟨t_seq _ _, _, ⟨hb0, hd0⟩, fun q => absurd q (by decide), s0, ⟨_, _, rfl⟩, F0⟩
    · rintro i x env h' hx ⟨s, ⟨hb, hbd⟩, _, sr, ⟨o6, o7, rfl⟩, F⟩
      obtain ⟨x, hx', rfl⟩ := map_get hx
      have hi : i < ns.length := (List.getElem?_eq_some_iff.mp hx').1
      have hm : (i + 1) * A.length ≤ 60 * 1000 := Nat.mul_le_mul (by omega) hA
      have hm2 : (i + 1) * A.length = i * A.length + A.length := Nat.succ_mul _ _
      wp_walk
      rw [w_seqF]
      wp_walk
      refine ⟨rfl, relaxed_ok hne2 sr (F.get ha) (by omega) fun h3 sr3 F3 => ?_⟩
      have hb2 := hb.round hns hne
      have F4 := F.new F3 hnew
      cases ef : (rnd A s).fallen with
      | none =>
        unfold enF
        wp_walk
        refine hq _ _ _ _ (hb2.rest (by omega) ef) (hbd.round.mono (by omega)) hne2 ?_ F4
        obtain ⟨k1, k2, a1, a2, a3, a4⟩ := sr3
        exact ⟨k1, k2, a1, a2, a3.mono (by omega), a4.mono (by omega)⟩
      | some v =>
        unfold enF
        wp_walk
        refine ⟨rnd A s, ⟨hb2, hbd.round⟩, fun _ => by rw [ef]; simp, ?_, ⟨_, _, by rw [ef]; rfl⟩, F4⟩
        rw [hm2, ← Nat.add_assoc]
        exact sr3
    · rintro env h' ⟨s, ⟨hb, _⟩, hf, _⟩
      rw [List.length_map] at hb hf
      exact absurd (hb.never nn hns hn) (hf (List.length_pos_iff.mpr hn))
/-! LF: papers, widest. -/
open PySem PySem.Spec PyProof.Rows L2
def armA (t : Stp) : AR D := ⟨t.x, t.y, t.len, .tup [.str t.name, .str (sideOf t.most)]⟩
def armsP (rows : List Spn) : List (AR D) := (stepsOf rows).map armA
theorem armsP_arcs (rows : List Spn) : arcsL (armsP rows) = arcsP rows := by
  unfold arcsL armsP arcsP
  rw [List.map_map]; rfl
theorem steps_ok {p : Pln} {h : Hs} {Q : D → Hs → Prop} {E : Ex → Hs → Prop} (hl : p.rows.length ≤ 1000) (hq : ∀ h', Fr [] h h' → Q (.tup ((stepsOf p.rows).map enT)) h') : (PH.fn_steps_of.go [enP p] h).wp Q E := by
  unfold PH.fn_steps_of
  rw [w_defn]
  unfold PH.s_steps_of
  wp_walk using enP
  refine w_for (p.rows.map enS) (fun _ => True) (fun i env h' => ∃ o2 o3 o4 o5 o6 o7, env = [some (enP p), some (.ref h.length), o2, o3, o4, o5, o6, o7] ∧ h' = h ++ [.lst ((stepsOf (p.rows.take i)).map enT)]) ?_ (fun _ _ _ _ => trivial) ?_ ?_
  · wp_walk
    exact ⟨t_seq _ _, _, _, _, _, _, _, rfl, rfl⟩
  · rintro i x env h' hx ⟨o2, o3, o4, o5, o6, o7, rfl, rfl⟩
    obtain ⟨s, hs, rfl⟩ := map_get hx
    have g : ∀ c : Cell, (h ++ [c])[h.length]? = some c := fun c => get_new1
    have l1 := stepsOf_len (p.rows.take i)
    have l2 : (p.rows.take i).length ≤ p.rows.length := by rw [List.length_take]; omega
    have fin := stepsOf_take hs
    obtain ⟨lo, nm, a, b, l, u⟩ := s
    unfold enS
    unfold stepS stepLo stepHi at fin
    cases l with
    | none =>
      cases u with
      | none =>
        wp_walk using enO
        exact ⟨_, _, _, _, _, _, rfl, by rw [fin]; simp⟩
      | some u =>
        wp_walk using enO, g
        refine ⟨by omega, _, _, _, _, _, _, rfl, by rw [fin]; simp; rfl⟩
    | some l =>
      cases u with
      | none =>
        wp_walk using enO, g
        refine ⟨by omega, _, _, _, _, _, _, rfl, by rw [fin]; simp; rfl⟩
      | some u =>
        wp_walk using enO, g
        refine ⟨by omega, ?_⟩
        simp only [set_new]
        wp_walk using enO, g
        refine ⟨by simp; omega, _, _, _, _, _, _, rfl, by rw [fin]; simp; exact ⟨rfl, rfl⟩⟩
  · rintro env h' ⟨o2, o3, o4, o5, o6, o7, rfl, rfl⟩
    have g : (h ++ [Cell.lst ((stepsOf p.rows).map enT)])[h.length]? = some (.lst ((stepsOf p.rows).map enT)) := get_new1
    rw [List.length_map, List.take_length]
    wp_walk using g
    exact hq _ .app
theorem arcs_ok {st : List Stp} {h : Hs} {Q : D → Hs → Prop} {E : Ex → Hs → Prop} (hl : st.length ≤ 10000) (hq : ∀ n h', h'[n]? = some (.lst ((st.map armA).map enA)) → Fr [] h h' → Q (.ref n) h') : (PH.fn_arcs_of.go [.tup (st.map enT)] h).wp Q E := by
  unfold PH.fn_arcs_of
  rw [w_defn]
  unfold PH.s_arcs_of
  wp_walk
  refine w_lc (st.map enT) (fun _ => True) (fun i acc h' => acc = ((st.take i).map armA).map enA ∧ h' = h) ?_ (fun _ _ _ _ => trivial) ?_ ?_ ?_
  · wp_walk
    exact ⟨t_seq _ _, rfl⟩
  · rintro i acc h' ⟨rfl, _⟩
    rw [List.length_map, List.length_map, List.length_take]
    show _ < 16777217
    omega
  · rintro i x acc h' hx ⟨rfl, rfl⟩
    obtain ⟨t, ht, rfl⟩ := map_get hx
    have hi : i < st.length := (List.getElem?_eq_some_iff.mp ht).1
    have e : st.take (i + 1) = st.take i ++ [t] := by rw [List.take_add_one, ht]; rfl
    unfold enT
    wp_walk using List.length_take
    rw [e]
    refine ⟨by omega, ?_⟩
    rw [List.map_append, List.map_append]; rfl
  · rintro acc h' ⟨rfl, rfl⟩
    rw [List.length_map, List.take_length]
    wp_walk
    exact hq _ _ get_new1 .app
theorem nodes_ok {p : Pln} {h : Hs} {Q : D → Hs → Prop} {E : Ex → Hs → Prop} (hl : p.marks.length ≤ 100) (hq : Q (.tup ((zro :: p.marks).map .str)) h) : (PH.fn_nodes_of.go [enP p] h).wp Q E := by
  unfold PH.fn_nodes_of
  rw [w_defn]
  unfold PH.s_nodes_of
  wp_walk using enP
  rw [List.append_nil]
  exact ⟨by simp; omega, hq⟩
/-- the rounds over a plan's arcs -/
theorem plan_dist_ok {p : Pln} {al : Nat} {ss : List Nm} {h : Hs} {Q : D → Hs → Prop} {E : Ex → Hs → Prop} (w : WP p) (nn : NoNeg (arcsP p.rows)) (hss : ∀ x ∈ ss, x ∈ zro :: p.marks) (hsl : ss.length ≤ 60) (ha : h[al]? = some (.lst ((armsP p.rows).map enA)))
    (hq : ∀ s di ii h', Fin0 (armsP p.rows) ss (zro :: p.marks) s → Bd (armsP p.rows) s (p.marks.length + 1) → di ≠ ii → SrD di ii s 1000000 h' → Fr [] h h' → Q (.tup [.ref di, .ref ii, .non]) h') : (PH.fn_distances.go [.tup ((zro :: p.marks).map .str), .ref al, .tup (ss.map .str)] h).wp Q E := by
  have fm := w.fm
  have fr := w.fr
  have hA : ∀ a ∈ armsP p.rows, (a.u ∈ zro :: p.marks ∧ a.v ∈ zro :: p.marks) ∧ a.u ≠ a.v := fun a m => by
    obtain ⟨t, ht, rfl⟩ := List.mem_map.mp m
    have := w.step ht
    exact ⟨⟨this.1, this.2.1⟩, this.2.2⟩
  exact distances_ok (by simp) (by simp; omega) hsl (by unfold armsP; rw [List.length_map]; have := stepsOf_len p.rows; omega) hss (fun a m => (hA a m).1) (fun a m => (hA a m).2) (by rw [armsP_arcs]; exact nn) ha hq
theorem datesFrom_ok {p : Pln} {di : Nat} {kd : List (D × D)} {f : Nm → Option Int} {N : Nat} {h : Hs} {Q : D → Hs → Prop} {E : Ex → Hs → Prop} (hl : p.marks.length ≤ 100) (hd : h[di]? = some (.dic false false kd)) (d : DF .int kd f N) (hf : ∀ x ∈ zro :: p.marks, f x ≠ none)
    (hq : ∀ h', Fr [] h h' → Q (.tup (p.marks.map fun m => .tup [.str m, .int ((f m).getD 0 - (f zro).getD 0)])) h') : (PH.fn_dates_from.go [enP p, .ref di] h).wp Q E := by
  unfold PH.fn_dates_from
  rw [w_defn]
  unfold PH.s_dates_from
  wp_walk using enP
  refine w_lc (p.marks.map .str) (fun _ => True) (fun i acc h' => acc = (p.marks.take i).map (fun m => .tup [.str m, .int ((f m).getD 0 - (f zro).getD 0)]) ∧ h' = h) ?_ (fun _ _ _ _ => trivial) ?_ ?_ ?_
  · wp_walk
    exact ⟨t_seq _ _, rfl⟩
  · rintro i acc h' ⟨rfl, _⟩
    rw [List.length_map, List.length_take]
    show _ < 16777217
    omega
  · rintro i x acc h' hx ⟨rfl, rfl⟩
    obtain ⟨m, hm, rfl⟩ := map_get hx
    have e : p.marks.take (i + 1) = p.marks.take i ++ [m] := by rw [List.take_add_one, hm]; rfl
    obtain ⟨c, ec⟩ := Option.ne_none_iff_exists'.mp (hf m (List.mem_cons_of_mem _ (List.mem_of_getElem? hm)))
    obtain ⟨z, ez⟩ := Option.ne_none_iff_exists'.mp (hf zro List.mem_cons_self)
    have f1 := d.some ec
    have f2 : dfind kd (.str (cs "zero")) = some (.int z) := d.some ez
    wp_walk using hd, f1, f2, List.length_take
    rw [e]
    refine ⟨by omega, ?_⟩
    rw [List.map_append]
    simp only [List.map_cons, List.map_nil, ec, ez, Option.getD_some]
  · rintro acc h' ⟨rfl, rfl⟩
    rw [List.length_map, List.take_length]
    have g : ∀ xs : List D, (h' ++ [Cell.lst xs])[h'.length]? = some (.lst xs) := fun xs => get_new1
    wp_walk using g
    exact hq _ .app
/-- dates as they are told -/
def enD (ms : List Nm) (f : Nm → Int) : D := .tup (ms.map fun m => .tup [.str m, .int (f m)])
theorem paper_ok {p : Pln} {h : Hs} {Q : D → Hs → Prop} {E : Ex → Hs → Prop} (w : WP p) (nn : NoNeg (arcsP p.rows)) (hq : ∀ f h', Meets (arcsP p.rows) f → f zro = 0 → Fr [] h h' → Q (.tup [.str (cs "dates"), enD p.marks f]) h') : (PH.fn_paper.go [enP p] h).wp Q E := by
  have fm := w.fm
  have fr := w.fr
  unfold PH.fn_paper
  rw [w_defn]
  unfold PH.s_paper
  wp_walk
  rw [w_seqF]
  wp_walk
  refine ⟨rfl, nodes_ok (by omega) ?_⟩
  wp_walk
  rw [w_seqF]
  wp_walk
  refine ⟨rfl, steps_ok (by omega) fun h1 F1 => ?_⟩
  wp_walk
  have l1 := stepsOf_len p.rows
  refine ⟨rfl, arcs_ok (by omega) fun al h2 ha F2 => ?_⟩
  wp_walk
  refine ⟨rfl, ?_⟩
  have e0 : D.str zro :: p.marks.map .str = (zro :: p.marks).map .str := rfl
  rw [e0]
  refine plan_dist_ok w nn (fun x m => m) (by simp; omega) ha fun s di ii h3 fin _ hne sr F3 => ?_
  obtain ⟨kd, ki, e1, e2, d1, d2⟩ := sr
  wp_walk
  rw [w_seqF]
  wp_walk
  have hd : ∀ x ∈ zro :: p.marks, s.dist x ≠ none := fun x m => by
    obtain ⟨d, e, _⟩ := fin.st x m
    rw [e]; simp
  refine ⟨rfl, datesFrom_ok (by omega) e1 d1 hd fun h4 F4 => ?_⟩
  wp_walk
  have hA : ∀ a ∈ armsP p.rows, a.u ∈ zro :: p.marks ∧ a.v ∈ zro :: p.marks := fun a m => by
    obtain ⟨t, ht, rfl⟩ := List.mem_map.mp m
    have := w.step ht
    exact ⟨this.1, this.2.1⟩
  have mt := fin.meets hA
  rw [armsP_arcs] at mt
  exact hq (fun x => (s.dist x).getD 0 - (s.dist zro).getD 0) h4 (fun u v l m => by have := mt u v l m; dsimp only at this ⊢; omega) (Int.sub_self _) (F1.trans (F2.trans (F3.trans F4)))
theorem holds_ok {p : Pln} {h : Hs} {Q : D → Hs → Prop} {E : Ex → Hs → Prop} (w : WP p) (nn : NoNeg (arcsP p.rows)) (hq : ∀ h', Fr [] h h' → Q (.bl true) h') : (PH.fn_holds.go [enP p] h).wp Q E := by
  unfold PH.fn_holds
  rw [w_defn]
  unfold PH.s_holds
  wp_walk
  refine ⟨rfl, paper_ok w nn fun f h1 _ _ F => ?_⟩
  wp_walk
  exact hq _ F
/-- the least lengths of ways -/
abbrev tblP (p : Pln) : Tbl := closure (zro :: p.marks) (arcsP p.rows)
theorem distFrom_ok {p : Pln} {x : Nm} {h : Hs} {Q : D → Hs → Prop} {E : Ex → Hs → Prop} (w : WP p) (nn : NoNeg (arcsP p.rows)) (hx : x ∈ zro :: p.marks) (hq : ∀ n kd h', h'[n]? = some (.dic false false kd) → DF .int kd (tblP p x) 1000000 → Fr [] h h' → Q (.ref n) h') : (PH.fn_distances_from.go [enP p, .str x] h).wp Q E := by
  have fm := w.fm
  have fr := w.fr
  unfold PH.fn_distances_from
  rw [w_defn]
  unfold PH.s_distances_from
  wp_walk
  refine ⟨rfl, nodes_ok (by omega) ?_⟩
  wp_walk
  refine ⟨rfl, steps_ok (by omega) fun h1 F1 => ?_⟩
  wp_walk
  have l1 := stepsOf_len p.rows
  refine ⟨rfl, arcs_ok (by omega) fun al h2 ha F2 => ?_⟩
  wp_walk
  refine ⟨rfl, ?_⟩
  have e0 : D.str zro :: p.marks.map .str = (zro :: p.marks).map .str := rfl
  have e1 : [D.str x] = [x].map .str := rfl
  rw [e0, e1]
  refine plan_dist_ok w nn (fun y m => by rw [List.mem_singleton.mp m]; exact hx) (by simp) ha fun s di ii h3 fin _ hne sr F3 => ?_
  obtain ⟨kd, ki, e1, e2, d1, d2⟩ := sr
  have hA : ∀ u v l, (u, v, l) ∈ arcsL (armsP p.rows) → u ∈ zro :: p.marks ∧ v ∈ zro :: p.marks := by rw [armsP_arcs]; exact w.arc
  have ls : s.dist = tblP p x := by
    funext y
    have := fin.least w.nd hA (by rw [armsP_arcs]; exact nn) y hx
    rw [armsP_arcs] at this
    exact this
  rw [ls] at d1
  wp_walk
  exact hq _ _ _ e1 d1 (F1.trans (F2.trans F3))
theorem widest_ok {p : Pln} {x y : Nm} {h : Hs} {Q : D → Hs → Prop} {E : Ex → Hs → Prop} (w : WP p) (nn : NoNeg (arcsP p.rows)) (hx : x ∈ zro :: p.marks) (hq : ∀ h', Fr [] h h' → Q (enO (tblP p x y)) h') : (PH.fn_widest.go [enP p, .str x, .str y] h).wp Q E := by
  unfold PH.fn_widest
  rw [w_defn]
  unfold PH.s_widest
  wp_walk
  refine ⟨rfl, distFrom_ok w nn hx fun n kd h1 e1 d F => ?_⟩
  have f := d.1 y
  cases e : tblP p x y with
  | none =>
    rw [e] at f hq
    have f : dfind kd (.str y) = none := f
    wp_walk using e1, f, Option.getD_none
    exact hq _ F
  | some c =>
    rw [e] at f hq
    have f : dfind kd (.str y) = some (.int c) := f
    wp_walk using e1, f, Option.getD_some
    exact hq _ F
/-! LG: the law's likeness. -/
open PySem PySem.Spec PyProof.Rows L2
/-- so deep at most -/
def lkOk : Nat → D → Prop
  | d + 1, .tup xs => xs.length ≤ 10000 ∧ ∀ x ∈ xs, lkOk d x
  | _ + 1, .non => True
  | _ + 1, .bl _ => True
  | _ + 1, .int _ => True
  | _ + 1, .str s => s.length ≤ 10000
  | _, _ => False
theorem like_rec (d : Nat) : ∀ (x : D) (h : Hs) (Q : D → Hs → Prop) (E : Ex → Hs → Prop), lkOk d x → (∀ h', Fr [] h h' → Q (.bl true) h') → ((recn 2 3 PH.s__law_like d).go [x, x] h).wp Q E := by
  induction d with
  | zero => intro x h Q E k hq; cases x <;> exact k.elim
  | succ d ih =>
    intro x h Q E k hq
    show ((defn 2 3 (PH.s__law_like (recn 2 3 PH.s__law_like d))).go [x, x] h).wp Q E
    have hn : (recn 2 3 PH.s__law_like d).n = 2 := recn_n _ _ _ _
    generalize recn 2 3 PH.s__law_like d = self at *
    rw [w_defn]
    unfold PH.s__law_like
    cases x with
    | non => wp_walk using hn; exact hq _ Fr.refl
    | bl b =>
      cases b
      · wp_walk using hn, show (true == false) = false from rfl, show (false == true) = false from rfl, show (false == false) = true from rfl; exact hq _ Fr.refl
      · wp_walk using hn, show (true == true) = true from rfl; exact hq _ Fr.refl
    | int i => wp_walk using hn; exact hq _ Fr.refl
    | str s =>
      have k : s.length ≤ 10000 := k
      have g : (h ++ [Cell.lst [D.str s]])[h.length]? = some (.lst [.str s]) := get_new1
      wp_walk using hn
      rw [g, sqC_l]
      have e1 : (some [D.str s]).bind strsD = some [s] := rfl
      have e2 : cs "" = [] := by decide +kernel
      rw [e1, jnC_s, e2, if_pos (by simp only [List.map_cons, List.map_nil, List.sum_cons, List.sum_nil, List.length_nil, List.length_cons, lim]; omega)]
      have e3 : TL.joinL [] [s] = s := by simp [TL.joinL]
      rw [e3]
      wp_walk
      exact hq _ .app
    | tup xs =>
      obtain ⟨kl, kx⟩ := k
      wp_walk using hn, ne_eq, not_true_eq_false
      generalize hZ : (fun x h1 =>
      (lstE aNil [some (D.tup xs), some (D.tup xs), none] h1).wp
        (fun y h2 => (cmpR CmpOp.Eq h2 x y).wp (fun d h1 => Q d h1) fun e h1 => E e h1) fun e h1 => E e h1) = Z
      generalize hC : (notE (fE (aCons (bE (vE 0) (vE 2) ixOp) (aCons (bE (vE 1) (vE 2) ixOp) aNil)) self)) = C
      generalize hS : (rS (aCons (cE (aCons (vE 1) aNil) (on1 len1)) aNil) rng1Of) = S
      have W := @w_lc (fun e h1 => E e h1) 
      have W1 := @W [some (D.tup xs), some (D.tup xs), none] 
      have W1 := @W1 h
      have W2 := @W1 Z S (.nm 2) (some C) (kE (D.int 1)) [2]
      have W3 := W2 ((List.range xs.length).map fun i : Nat => D.int (i : Int))
      have W4 := W3 (fun _ => True)
      have W5 := W4 (fun i (acc : List D) h2 => acc = [] ∧ Fr [] h h2)
      refine W5 ?_ ?_ ?_ ?_ ?_
      · rw [← hS]
        have sm : small (xs.length : Int) = true := by unfold small; simp; omega
        wp_walk using sm
        exact ⟨t_rng0 _ _, Fr.refl⟩
      · exact fun _ _ _ _ => trivial
      · rintro i acc h' ⟨rfl, _⟩
        show _ < 16777217
        simp
      · rintro i x acc h' hx ⟨rfl, F⟩
        obtain ⟨j, hj, rfl⟩ := map_get hx
        have hi : i < xs.length := by
          have := (List.getElem?_eq_some_iff.mp hj).1
          simpa using this
        rw [List.getElem?_range hi] at hj
        cases hj
        have gi : xs[i]? = some xs[i] := List.getElem?_eq_getElem hi
        rw [← hC]
        wp_walk using hn, atN, gi
        refine ih _ _ _ _ (kx _ (List.getElem_mem hi)) fun h2 F2 => ?_
        wp_walk
        exact F.trans F2
      · rintro acc h' ⟨rfl, F⟩
        rw [← hZ]
        have l1 : ∀ (H : Hs) (a c : Cell), (H ++ [a] ++ [c])[H.length]? = some a := fun H a c => get_old get_new1
        have l2 : ∀ (H : Hs) (a c : Cell), (H ++ [a] ++ [c])[(H ++ [a]).length]? = some c := fun H a c => get_new1
        wp_walk
        rw [eq_refs (l1 _ _ _) (l2 _ _ _) (by rfl) (by rfl)]
        wp_walk using show deqs [] [] = true from rfl
        exact hq _ (F.trans (Fr.app.push))
    | ls xs => exact k.elim
    | ref n => exact k.elim
structure Lk (x : D) : Prop where
  k : lkOk 12 x
theorem like_ok {x : D} {h : Hs} {Q : D → Hs → Prop} {E : Ex → Hs → Prop} (k : Lk x) (hq : ∀ h', Fr [] h h' → Q (.bl true) h') : (PH.fn__law_like.go [x, x] h).wp Q E := like_rec 12 x h Q E k.k hq
/-! LH: spare, tight, says. -/
open PySem PySem.Spec PyProof.Rows L2
def spO : Option Int → Option Int → Option Int
  | some l, some a => some (a - l)
  | _, _ => none
def loO : Option Int → Option Int → Option Int
  | some u, some b => some (u + b)
  | _, _ => none
theorem one_name {rows : List Spn} {s : Spn} (hn : (rows.map Spn.name).Nodup) (h : s ∈ rows) : rows.filter (fun r => decide (r.name = s.name)) = [s] := by
  induction rows with
  | nil => exact nomatch h
  | cons r rows ih =>
    rw [List.map_cons, List.nodup_cons] at hn
    rcases List.mem_cons.mp h with e | m
    · subst e
      rw [List.filter_cons_of_pos (by simp)]
      congr 1
      rw [List.filter_eq_nil_iff]
      intro q hq c
      exact hn.1 (by rw [← of_decide_eq_true c]; exact List.mem_map_of_mem hq)
    · rw [List.filter_cons_of_neg, ih hn.2 m]
      intro c
      exact hn.1 (by rw [of_decide_eq_true c]; exact List.mem_map_of_mem m)
theorem take_filter {α : Type} {p : α → Bool} {xs : List α} {i : Nat} {x : α} (h : xs[i]? = some x) : (xs.take (i + 1)).filter p = (xs.take i).filter p ++ if p x then [x] else [] := by
  rw [List.take_add_one, h, List.filter_append]
  congr 1
  cases hp : p x <;> simp [hp]
theorem enS_e (s : Spn) : enS s = .tup [.str (kindOf s.loose), .str s.name, .str s.a, .str s.b, enO s.lo, enO s.hi] := rfl
theorem enP_e (p : Pln) : D.tup [.str (cs "plan"), .tup (p.marks.map .str), .tup (p.rows.map enS)] = enP p := rfl
theorem take_filter_len {α : Type} (p : α → Bool) (xs : List α) (i : Nat) : ((xs.take i).filter p).length ≤ i := by
  have := List.length_filter_le p (xs.take i)
  have : (xs.take i).length ≤ i := by rw [List.length_take]; omega
  omega
theorem lt_of_get {α : Type} {xs : List α} {i : Nat} {x : α} (h : xs[i]? = some x) : i < xs.length := (List.getElem?_eq_some_iff.mp h).1
theorem spare_ok {p : Pln} {s : Spn} {h : Hs} {Q : D → Hs → Prop} {E : Ex → Hs → Prop} (w : WP p) (nn : NoNeg (arcsP p.rows)) (hn : (p.rows.map Spn.name).Nodup) (hs : s ∈ p.rows)
    (hq : ∀ h', Fr [] h h' → Q (.tup [enO (spO s.lo (tblP p s.a s.b)), enO (loO s.hi (tblP p s.b s.a))]) h') : (PH.fn_spare.go [enP p, .str s.name] h).wp Q E := by
  have fr := w.fr
  unfold PH.fn_spare
  rw [w_defn]
  unfold PH.s_spare
  wp_walk
  rw [w_seqF]
  wp_walk using enP
  refine w_lc (p.rows.map enS) (fun _ => True) (fun i acc h' => acc = ((p.rows.take i).filter (fun r => decide (r.name = s.name))).map enS ∧ h' = h) ?_ (fun _ _ _ _ => trivial) ?_ ?_ ?_
  · wp_walk
    exact ⟨t_seq _ _, rfl⟩
  · rintro i acc h' ⟨rfl, _⟩
    rw [List.length_map]
    have := List.length_filter_le (fun r : Spn => decide (r.name = s.name)) (p.rows.take i)
    have : (p.rows.take i).length ≤ p.rows.length := by rw [List.length_take]; omega
    show _ < 16777217
    omega
  · rintro i x acc h' hx ⟨rfl, rfl⟩
    obtain ⟨r, hr, rfl⟩ := map_get hx
    have hi := lt_of_get hr
    rw [take_filter hr]
    have tl := take_filter_len (fun r : Spn => decide (r.name = s.name)) p.rows i
    unfold enS
    wp_walk
    refine wif_d (fun c => ?_) (fun c => ?_)
    · rw [if_pos (by simpa using c)]
      wp_walk
      exact ⟨by omega, by rw [List.map_append]; rfl⟩
    · rw [if_neg (by simpa using c)]
      exact ⟨by rw [List.append_nil], rfl⟩
  · rintro acc h' ⟨rfl, rfl⟩
    rw [List.length_map, List.take_length, one_name hn hs]
    have g : (h' ++ [Cell.lst ([s].map enS)])[h'.length]? = some (.lst [enS s]) := get_new1
    have F0 : Fr [] h' (h' ++ [Cell.lst ([s].map enS)]) := .app
    generalize h' ++ [Cell.lst ([s].map enS)] = h1 at *
    have ok := w.ok s hs
    wp_walk using g
    rw [enP_e, enS_e]
    wp_walk
    rw [w_seqF]
    wp_walk
    refine ⟨rfl, widest_ok w nn ok.1 fun h2 F2 => ?_⟩
    wp_walk
    rw [w_seqF]
    wp_walk
    refine ⟨rfl, widest_ok w nn ok.2.1 fun h3 F3 => ?_⟩
    wp_walk
    rw [w_seqF]
    have fin := hq h3 (F0.trans (F2.trans F3))
    cases e1 : tblP p s.a s.b with
    | none =>
      cases e2 : tblP p s.b s.a with
      | none =>
        rw [e1, e2] at fin
        cases e3 : s.lo <;> cases e4 : s.hi <;> (rw [e3, e4] at fin; wp_walk using enO; exact fin)
      | some y =>
        rw [e1, e2] at fin
        cases e3 : s.lo <;> cases e4 : s.hi <;> (rw [e3, e4] at fin; wp_walk using enO; exact fin)
    | some x =>
      cases e2 : tblP p s.b s.a with
      | none =>
        rw [e1, e2] at fin
        cases e3 : s.lo <;> cases e4 : s.hi <;> (rw [e3, e4] at fin; wp_walk using enO; exact fin)
      | some y =>
        rw [e1, e2] at fin
        cases e3 : s.lo <;> cases e4 : s.hi <;> (rw [e3, e4] at fin; wp_walk using enO; exact fin)
/-! ### what a plan says -/
def upG (m : Int) : Option Int → Int
  | none => m + 1
  | some b => if 0 - b > m + 1 then 0 - b else m + 1
def dnG (l : Int) : Option Int → Int
  | none => l - 1
  | some a => if a < l - 1 then a else l - 1
def outO (lo hi ah bk : Option Int) : Option Int :=
  match (match hi with
    | some m => (match ah with
      | none => some (upG m bk)
      | some a => if m < a then some (upG m bk) else none)
    | none => none) with
  | some g => some g
  | none => (match lo with
    | some l => (match bk with
      | none => some (dnG l ah)
      | some b => if 0 - b < l then some (dnG l ah) else none)
    | none => none)
abbrev outS (p : Pln) (s : Spn) : Option Int := outO s.lo s.hi (tblP p s.a s.b) (tblP p s.b s.a)
theorem outside_ok {p : Pln} {s : Spn} {h : Hs} {Q : D → Hs → Prop} {E : Ex → Hs → Prop} (w : WP p) (nn : NoNeg (arcsP p.rows)) (hs : s.a ∈ zro :: p.marks ∧ s.b ∈ zro :: p.marks)
    (hq : ∀ h', Fr [] h h' → Q (enO (outS p s)) h') : (PH.fn_outside.go [enP p, enS s] h).wp Q E := by
  unfold PH.fn_outside
  rw [w_defn]
  unfold PH.s_outside
  rw [enS_e]
  wp_walk
  rw [w_seqF]
  wp_walk
  rw [w_seqF]
  wp_walk
  refine ⟨rfl, widest_ok w nn hs.1 fun h2 F2 => ?_⟩
  wp_walk
  rw [w_seqF]
  wp_walk
  refine ⟨rfl, widest_ok w nn hs.2 fun h3 F3 => ?_⟩
  have fin := hq h3 (F2.trans F3)
  unfold outS at fin
  generalize tblP p s.a s.b = ah at *
  generalize tblP p s.b s.a = bk at *
  generalize s.lo = lo at *
  generalize s.hi = hi at *
  unfold outO at fin
  have l2 : ∀ (l : Option Int), (∃ l', lo = some l') ∨ lo = none := fun _ => by cases lo <;> simp
  cases hi with
  | none =>
    cases lo with
    | none => wp_walk using enO; exact fin
    | some l =>
      cases bk with
      | none => cases ah <;> (wp_walk using enO; exact fin)
      | some b =>
        dsimp only at fin
        wp_walk using enO
        refine wif_d (fun c => ?_) (fun c => ?_)
        · rw [if_pos c] at fin
          cases ah <;> (wp_walk using enO; exact fin)
        · rw [if_neg c] at fin
          wp_walk using enO
          exact fin
  | some m =>
    cases ah with
    | none => cases bk <;> (wp_walk using enO; exact fin)
    | some a =>
      dsimp only at fin
      wp_walk using enO
      refine wif_d (fun c => ?_) (fun c => ?_)
      · rw [if_pos c] at fin
        cases bk <;> (wp_walk using enO; exact fin)
      · rw [if_neg c] at fin
        cases lo with
        | none => wp_walk using enO; exact fin
        | some l =>
          cases bk with
          | none => wp_walk using enO; exact fin
          | some b =>
            dsimp only at fin
            wp_walk using enO
            refine wif_d (fun c => ?_) (fun c => ?_)
            · rw [if_pos c] at fin
              wp_walk using enO; exact fin
            · rw [if_neg c] at fin
              wp_walk using enO
              exact fin
theorem says_ok {p : Pln} {s : Spn} {h : Hs} {Q : D → Hs → Prop} {E : Ex → Hs → Prop} (w : WP p) (nn : NoNeg (arcsP p.rows)) (hs : s.a ∈ zro :: p.marks ∧ s.b ∈ zro :: p.marks)
    (hq : ∀ h', Fr [] h h' → Q (.bl (outS p s).isNone) h') : (PH.fn_says.go [enP p, enS s] h).wp Q E := by
  unfold PH.fn_says
  rw [w_defn]
  unfold PH.s_says
  wp_walk
  refine ⟨rfl, outside_ok w nn hs fun h2 F2 => ?_⟩
  have fin := hq h2 F2
  cases e : outS p s with
  | none => rw [e] at fin; wp_walk using enO; exact fin
  | some x => rw [e] at fin; wp_walk using enO; exact fin
/-! LI: tight; what the law says. -/
open PySem PySem.Spec PyProof.Rows L2
def tightB (T : Tbl) (s : Spn) : Bool := match T s.a s.b, T s.b s.a with
  | some x, some y => decide (x + y = 0)
  | _, _ => false
def FarA (T : Tbl) (xs : List Nm) (acc : List (D × D)) (h : Hs) : Prop := ∀ x ∈ xs, ∃ n kd, dfind acc (.str x) = some (.ref n) ∧ h[n]? = some (.dic false false kd) ∧ DF .int kd (T x) 1000000
theorem tight_ok {p : Pln} {h : Hs} {Q : D → Hs → Prop} {E : Ex → Hs → Prop} (w : WP p) (nn : NoNeg (arcsP p.rows))
    (hq : ∀ h', Fr [] h h' → Q (.tup ((p.rows.filter (tightB (tblP p))).map fun s => .str s.name)) h') : (PH.fn_tight.go [enP p] h).wp Q E := by
  have fm := w.fm
  have fr := w.fr
  unfold PH.fn_tight
  rw [w_defn]
  unfold PH.s_tight
  wp_walk
  rw [w_seqF]
  wp_walk
  refine w_dc ((zro :: p.marks).map .str) (fun _ => True) (fun i acc h' => FarA (tblP p) ((zro :: p.marks).take i) acc h' ∧ acc.length ≤ i ∧ Fr [] h h') ?_ (fun _ _ _ _ => trivial) ?_ ?_
  · wp_walk
    refine ⟨rfl, nodes_ok (by omega) ?_⟩
    wp_walk
    exact ⟨t_seq _ _, fun x m => by simp at m, Fr.refl⟩
  · rintro i x acc h' hx ⟨fa, la, F⟩
    obtain ⟨x, hx', rfl⟩ := map_get hx
    have hi := lt_of_get hx'
    have hi : i < p.marks.length + 1 := by simpa using hi
    wp_walk
    refine ⟨rfl, distFrom_ok w nn (List.mem_of_getElem? hx') fun n kd h2 e1 d F2 => ?_⟩
    wp_walk
    refine ⟨by omega, fun y m => ?_, by have := dput_len acc (.str x) (.ref n); omega, F.trans F2⟩
    by_cases c : y = x
    · rw [c]; exact ⟨n, kd, dfind_put_same _ _ _ (k_str x), e1, d⟩
    · rcases take_mem hx' m with m | m
      · obtain ⟨n', kd', a1, a2, a3⟩ := fa y m
        exact ⟨n', kd', by rw [dfind_put_ne _ _ _ _ fun q => c (D.str.inj q).symm]; exact a1, F2.get a2, a3⟩
      · exact absurd m c
  · rintro kf h1 ⟨fa, _, F1⟩
    rw [List.length_map, List.take_length] at fa
    wp_walk
    rw [w_seqF]
    wp_walk
    rw [w_seqF]
    generalize hf : h1.length = f at *
    generalize hnl : (h1 ++ [Cell.dic false false kf]).length = nl at *
    have hne : f ≠ nl := by rw [← hnl, ← hf]; simp
    have F2 : Fr [] h (h1 ++ [Cell.dic false false kf] ++ [Cell.lst []]) := (F1.push).push
    have fa : FarA (tblP p) (zro :: p.marks) kf (h1 ++ [Cell.dic false false kf] ++ [Cell.lst []]) := fun x m =>
      let ⟨n, kd, a1, a2, a3⟩ := fa x m
      ⟨n, kd, a1, get_old (get_old a2), a3⟩
    have g1 : (h1 ++ [Cell.dic false false kf] ++ [Cell.lst []])[f]? = some (.dic false false kf) := by rw [← hf]; exact get_old get_new1
    have g2 : (h1 ++ [Cell.dic false false kf] ++ [Cell.lst []])[nl]? = some (.lst []) := by rw [← hnl]; exact get_new1
    have hnew : ∀ n ∈ [nl], h.length ≤ n := fun n m => by
      rw [List.mem_singleton.mp m, ← hnl]
      have := F1.1
      simp; omega
    generalize h1 ++ [Cell.dic false false kf] ++ [Cell.lst []] = h2 at *
    refine w_for (p.rows.map enS) (fun _ => True) (fun i env h' => (∃ o3 o4 o5 o6 o7, env = [some (enP p), some (.ref f), some (.ref nl), o3, o4, o5, o6, o7]) ∧ h'[nl]? = some (.lst (((p.rows.take i).filter (tightB (tblP p))).map fun s => .str s.name)) ∧ Fr [nl] h2 h') ?_ (fun _ _ _ _ => trivial) ?_ ?_
    · wp_walk using enP
      exact ⟨t_seq _ _, ⟨_, _, _, _, _, rfl⟩, g2, Fr.refl⟩
    · rintro i x env h' hx ⟨⟨o3, o4, o5, o6, o7, rfl⟩, gn, F⟩
      obtain ⟨s, hs, rfl⟩ := map_get hx
      have hi := lt_of_get hs
      have ok := w.ok s (List.mem_of_getElem? hs)
      obtain ⟨na, ka, a1, a2, a3⟩ := fa _ ok.1
      obtain ⟨nb, kb, b1, b2, b3⟩ := fa _ ok.2.1
      have na2 : na ≠ nl := fun e => by (rw [e, g2] at a2; cases a2)
      have nb2 : nb ≠ nl := fun e => by (rw [e, g2] at b2; cases b2)
      have a2 := F.get a2 (by simp [na2])
      have b2 := F.get b2 (by simp [nb2])
      have gf := F.get g1 (by simp [hne])
      have f1 := a3.1 s.b
      have f2 := b3.1 s.a
      have tl := take_filter_len (tightB (tblP p)) p.rows i
      rw [take_filter hs]
      rw [enS_e]
      cases e1 : tblP p s.a s.b with
      | none =>
        have ht : tightB (tblP p) s = false := by unfold tightB; rw [e1]
        rw [e1] at f1
        rw [ht]
        wp_walk using gf, a1, a2, f1, Option.map_none, Option.isSome_none, List.append_nil
        exact ⟨⟨_, _, _, _, _, rfl⟩, gn, F⟩
      | some x =>
        rw [e1] at f1
        cases e2 : tblP p s.b s.a with
        | none =>
          have ht : tightB (tblP p) s = false := by unfold tightB; rw [e1, e2]
          rw [e2] at f2
          rw [ht]
          wp_walk using gf, a1, a2, b1, b2, f1, f2, Option.map_none, Option.isSome_none, List.append_nil
          exact ⟨⟨_, _, _, _, _, rfl⟩, gn, F⟩
        | some y =>
          have ht : tightB (tblP p) s = decide (x + y = 0) := by unfold tightB; rw [e1, e2]
          rw [e2] at f2
          rw [ht]
          wp_walk using gf, a1, a2, b1, b2, f1, f2
          refine wif_d (fun c => ?_) (fun c => ?_)
          · wp_walk using gn, c
            exact ⟨by omega, ⟨_, _, _, _, _, rfl⟩, by rw [get_set gn, List.map_append]; rfl, F.trans (Fr.set (by simp))⟩
          · wp_walk using c
            exact ⟨⟨_, _, _, _, _, rfl⟩, by rw [gn]; simp, F⟩
    · rintro env h' ⟨⟨o3, o4, o5, o6, o7, rfl⟩, gn, F⟩
      rw [List.length_map, List.take_length] at gn
      wp_walk using gn
      exact hq _ (F2.new F hnew)
/-- a row of rows: a tuple, or a list on the heap -/
def RowsAt (rows : List Spn) (d : D) (h : Hs) : Prop := d = .tup (rows.map enS) ∨ ∃ n, d = .ref n ∧ h[n]? = some (.lst (rows.map enS))
theorem said_ok {p : Pln} {rows : List Spn} {d : D} {s : Spn} {h : Hs} {Q : D → Hs → Prop} {E : Ex → Hs → Prop} (w : WP ⟨p.marks, rows⟩) (hd : RowsAt rows d h) (hs : s.a ∈ zro :: p.marks ∧ s.b ∈ zro :: p.marks)
    (hq : ∀ h', Fr [] h h' → Q (.bl (outS ⟨p.marks, rows⟩ s).isNone) h') : (PH.fn__law_said.go [enP p, d, enS s] h).wp Q E := by
  have fm : p.marks.length ≤ 40 := w.fm
  have fr : rows.length ≤ 140 := w.fr
  unfold PH.fn__law_said
  rw [w_defn]
  unfold PH.s__law_said
  rw [w_seqF]
  have key : ∀ (o3 o4 o5 : Option D) (Z : D → Hs → Prop), (∀ n kvs h', h'[n]? = some (.dic true false kvs) → TabA kvs (tblP ⟨p.marks, rows⟩) (fun x y => x ∈ zro :: p.marks ∧ y ∈ zro :: p.marks) 2000 → Fr [] h h' → Z (.ref n) h') → ((fE (aCons (vE 0) (aCons (fE (aCons (tupE (aCons (kE (.str (cs "plan"))) (aCons (bE (vE 0) (kE (.int 1)) ixOp) (aCons (cE (aCons (vE 1) aNil) (on1 tuple1)) aNil)))) aNil) PH.fn__law_steps) aNil)) PH.fn__law_closure) [some (enP p), some d, some (enS s), o3, o4, o5] h).wp Z E := by
    intro o3 o4 o5 Z hZ
    have st : (PH.fn__law_steps.go [enP ⟨p.marks, rows⟩] h).wp (fun x h1 => (PH.fn__law_closure.go [enP p, x] h1).wp Z E) E := by
      refine lawSteps_ok (by show rows.length ≤ 1000; omega) ?_
      refine lawClosure_ok fm get_new1 (fun t ht => ⟨(w.step ht).1, (w.step ht).2.1⟩) fun kvs n h1 ta e1 f1 => ?_
      exact hZ n kvs h1 e1 ta (Fr.trans .app f1)
    rcases hd with rfl | ⟨n, rfl, e⟩
    · wp_walk using enP
      exact ⟨rfl, Res.wp_q st fun x h1 q => by wp_walk; exact ⟨rfl, q⟩⟩
    · wp_walk using enP, e
      exact ⟨rfl, Res.wp_q st fun x h1 q => by wp_walk; exact ⟨rfl, q⟩⟩
  rw [w_asgF]
  refine key _ _ _ _ fun n kvs h1 e1 ta F1 => ?_
  rw [enS_e]
  have f1 := ta.1 _ _ hs
  have f2 := ta.1 _ _ ⟨hs.2, hs.1⟩
  have fin := hq h1 F1
  unfold outS at fin
  generalize tblP ⟨p.marks, rows⟩ s.a s.b = ah at *
  generalize tblP ⟨p.marks, rows⟩ s.b s.a = bk at *
  generalize s.lo = lo at *
  generalize s.hi = hi at *
  unfold outO at fin
  cases hi with
  | none =>
    cases lo with
    | none => cases ah <;> cases bk <;> (wp_walk using enO, e1, f1, f2; exact fin)
    | some l =>
      cases bk with
      | none => cases ah <;> (wp_walk using enO, e1, f1, f2; exact fin)
      | some b =>
        dsimp only at fin
        cases ah with
        | none =>
          wp_walk using enO, e1, f1, f2
          by_cases c : 0 - b < l
          · rw [if_pos c] at fin
            rw [decide_eq_false (by omega)]
            exact fin
          · rw [if_neg c] at fin
            rw [decide_eq_true (by omega)]
            exact fin
        | some a =>
          wp_walk using enO, e1, f1, f2
          by_cases c : 0 - b < l
          · rw [if_pos c] at fin
            rw [decide_eq_false (by omega)]
            exact fin
          · rw [if_neg c] at fin
            rw [decide_eq_true (by omega)]
            exact fin
  | some m =>
    cases ah with
    | none => cases bk <;> (wp_walk using enO, e1, f1, f2; exact fin)
    | some a =>
      dsimp only at fin
      have pre : ∀ (o : Option Int), enO o = enO o := fun _ => rfl
      cases bk with
      | none =>
        wp_walk using enO, e1, f1, f2
        refine wif_d (fun c => ?_) (fun c => ?_)
        · rw [if_pos c] at fin
          wp_walk using enO; exact fin
        · rw [if_neg c] at fin
          cases lo <;> (wp_walk using enO; exact fin)
      | some b =>
        wp_walk using enO, e1, f1, f2
        refine wif_d (fun c => ?_) (fun c => ?_)
        · rw [if_pos c] at fin
          wp_walk using enO; exact fin
        · rw [if_neg c] at fin
          cases lo with
          | none => wp_walk using enO; exact fin
          | some l =>
            dsimp only at fin
            wp_walk using enO
            by_cases c : 0 - b < l
            · rw [if_pos c] at fin
              rw [decide_eq_false (by omega)]
              exact fin
            · rw [if_neg c] at fin
              rw [decide_eq_true (by omega)]
              exact fin
/-! LJ: slim, same. -/
open PySem PySem.Spec PyProof.Rows L2
def Imp (A B : List Arc) : Prop := ∀ u v l, (u, v, l) ∈ A → ∃ L, L ≤ l ∧ Wk B u v L
theorem Imp.wk {A B : List Arc} (i : Imp A B) {x y : Nm} {L : Int} (w : Wk A x y L) : ∃ L', L' ≤ L ∧ Wk B x y L' := by
  induction w with
  | nil => exact ⟨0, Int.le_refl _, .nil _⟩
  | snoc _ m ih =>
    obtain ⟨L1, l1, w1⟩ := ih
    obtain ⟨L2, l2, w2⟩ := i _ _ _ m
    exact ⟨L1 + L2, by omega, w1.trans w2⟩
theorem Imp.refl (A : List Arc) : Imp A A := fun _ _ l m => ⟨l, Int.le_refl _, Wk.one m⟩
theorem Imp.trans {A B C : List Arc} (i : Imp A B) (j : Imp B C) : Imp A C := fun u v l m => by
  obtain ⟨L, h, w⟩ := i u v l m
  obtain ⟨L', h', w'⟩ := j.wk w
  exact ⟨L', by omega, w'⟩
theorem Imp.sub {A B : List Arc} (h : ∀ q ∈ A, q ∈ B) : Imp A B := fun _ _ l m => ⟨l, Int.le_refl _, Wk.one (h _ m)⟩
theorem NoNeg.sub {A B : List Arc} (n : NoNeg B) (h : ∀ q ∈ A, q ∈ B) : NoNeg A := fun x L w => n x L (w.mono h)
theorem arcs_mem {rows : List Spn} {q : Arc} : q ∈ arcsP rows ↔ ∃ s ∈ rows, q ∈ arcsP [s] := by
  unfold arcsP stepsOf
  simp only [List.mem_map, List.mem_flatMap, List.mem_singleton]
  constructor
  · rintro ⟨t, ⟨s, hs, m⟩, e⟩
    exact ⟨s, hs, t, ⟨s, rfl, m⟩, e⟩
  · rintro ⟨s, hs, t, ⟨s', rfl, m⟩, e⟩
    exact ⟨t, ⟨s', hs, m⟩, e⟩
theorem arcs_one {s : Spn} {u v : Nm} {l : Int} : (u, v, l) ∈ arcsP [s] ↔ (∃ x, s.lo = some x ∧ u = s.b ∧ v = s.a ∧ l = 0 - x) ∨ (∃ x, s.hi = some x ∧ u = s.a ∧ v = s.b ∧ l = x) := by
  obtain ⟨k, n, a, b, lo, hi⟩ := s
  cases lo <;> cases hi <;> simp [arcsP, stepsOf, stepS, stepLo, stepHi, stArc] <;> grind
theorem arcs_sub {r r' : List Spn} (h : r'.Sublist r) : ∀ q ∈ arcsP r', q ∈ arcsP r := fun q m => by
  obtain ⟨s, hs, m⟩ := arcs_mem.mp m
  exact arcs_mem.mpr ⟨s, h.subset hs, m⟩
theorem WP.sub {ms : List Nm} {r r' : List Spn} (w : WP ⟨ms, r⟩) (h : r'.Sublist r) : WP ⟨ms, r'⟩ :=
  ⟨w.nd, w.fm, Nat.le_trans h.length_le w.fr, fun s m => w.ok s (h.subset m)⟩
theorem outO_none {lo hi ah bk : Option Int} : outO lo hi ah bk = none ↔ (∀ u, hi = some u → ∃ a, ah = some a ∧ a ≤ u) ∧ (∀ l, lo = some l → ∃ b, bk = some b ∧ l ≤ 0 - b) := by
  unfold outO
  cases hi with
  | none =>
    cases lo with
    | none => simp
    | some l =>
      cases bk with
      | none => simp
      | some b =>
        dsimp only
        split
        · simp; omega
        · simp; omega
  | some m =>
    cases ah with
    | none => simp
    | some a =>
      dsimp only
      by_cases c : m < a
      · rw [if_pos c]; simp; omega
      · rw [if_neg c]
        cases lo with
        | none => simp; omega
        | some l =>
          cases bk with
          | none => simp
          | some b =>
            dsimp only
            by_cases d : 0 - b < l
            · rw [if_pos d]; simp; omega
            · rw [if_neg d]; simp; omega
theorem says_imp {p : Pln} {s : Spn} (w : WP p) (h : outS p s = none) : Imp (arcsP [s]) (arcsP p.rows) := fun u v l m => by
  obtain ⟨h1, h2⟩ := outO_none.mp h
  rcases arcs_one.mp m with ⟨x, e, rfl, rfl, rfl⟩ | ⟨x, e, rfl, rfl, rfl⟩
  · obtain ⟨b, eb, l⟩ := h2 x e
    exact ⟨b, by omega, closure_walk w.nd w.arc eb⟩
  · obtain ⟨a, ea, l⟩ := h1 _ e
    exact ⟨a, l, closure_walk w.nd w.arc ea⟩
theorem imp_says {p : Pln} {s : Spn} (w : WP p) (nn : NoNeg (arcsP p.rows)) (h : Imp (arcsP [s]) (arcsP p.rows)) : outS p s = none := by
  refine outO_none.mpr ⟨fun u e => ?_, fun l e => ?_⟩
  · obtain ⟨L, hl, wk⟩ := h s.a s.b u (arcs_one.mpr (.inr ⟨u, e, rfl, rfl, rfl⟩))
    obtain ⟨c, ec, lc⟩ := closure_least w.nd w.arc nn wk
    exact ⟨c, ec, by omega⟩
  · obtain ⟨L, hl, wk⟩ := h s.b s.a (0 - l) (arcs_one.mpr (.inl ⟨l, e, rfl, rfl, rfl⟩))
    obtain ⟨c, ec, lc⟩ := closure_least w.nd w.arc nn wk
    exact ⟨c, ec, by omega⟩
/-! ### slim -/
def oth (s : Spn) (left : List Spn) : List Spn := left.filter fun r => !deq (enS r) (enS s)
def slimF (ms : List Nm) (left : List Spn) (s : Spn) : List Spn := if s.loose = false ∧ (outS ⟨ms, oth s left⟩ s).isNone = true then oth s left else left
theorem purO (o : Option Int) : pur (enO o) = true := by cases o <;> rfl
theorem purS (s : Spn) : pur (enS s) = true := by
  have h1 := purO s.lo
  have h2 := purO s.hi
  unfold enS
  simp [pur, purs, h1, h2]
theorem enO_inj {a b : Option Int} (h : enO a = enO b) : a = b := by
  cases a <;> cases b <;> simp [enO] at h ⊢
  exact h
theorem enS_inj {r s : Spn} (h : enS r = enS s) : r.name = s.name ∧ r.a = s.a ∧ r.b = s.b ∧ r.lo = s.lo ∧ r.hi = s.hi := by
  unfold enS at h
  have h := D.tup.inj h
  simp only [List.cons.injEq, D.str.injEq, and_true] at h
  exact ⟨h.2.1, h.2.2.1, h.2.2.2.1, enO_inj h.2.2.2.2.1, enO_inj h.2.2.2.2.2⟩
theorem slim_inv {ms : List Nm} {rows : List Spn} (w : WP ⟨ms, rows⟩) : ∀ (xs left : List Spn), left.Sublist rows → Imp (arcsP rows) (arcsP left) → (xs.foldl (slimF ms) left).Sublist rows ∧ Imp (arcsP rows) (arcsP (xs.foldl (slimF ms) left))
  | [], left, h1, h2 => ⟨h1, h2⟩
  | s :: xs, left, h1, h2 => by
    rw [List.foldl_cons]
    have so : (oth s left).Sublist left := List.filter_sublist
    unfold slimF
    by_cases c : s.loose = false ∧ (outS ⟨ms, oth s left⟩ s).isNone = true
    · rw [if_pos c]
      refine slim_inv w xs _ (so.trans h1) (h2.trans fun u v l m => ?_)
      obtain ⟨r, hr, m⟩ := arcs_mem.mp m
      by_cases d : deq (enS r) (enS s) = true
      · obtain ⟨_, e1, e2, e3, e4⟩ := enS_inj ((deq_iff _ _ (purS r) (purS s)).mp d)
        have m : (u, v, l) ∈ arcsP [s] := by
          rw [arcs_one] at m ⊢
          rw [e1, e2, e3, e4] at m
          exact m
        exact says_imp (w.sub (so.trans h1)) (Option.isNone_iff_eq_none.mp c.2) u v l m
      · refine ⟨l, Int.le_refl _, Wk.one (arcs_mem.mpr ⟨r, ?_, m⟩)⟩
        unfold oth
        rw [List.mem_filter]
        exact ⟨hr, by simpa using d⟩
    · rw [if_neg c]
      exact slim_inv w xs left h1 h2
theorem slim_sub {ms : List Nm} {rows : List Spn} (xs left : List Spn) (h : left.Sublist rows) : (xs.foldl (slimF ms) left).Sublist rows := by
  induction xs generalizing left with
  | nil => exact h
  | cons s xs ih =>
    rw [List.foldl_cons]
    refine ih _ ?_
    unfold slimF
    split
    · exact List.Sublist.trans List.filter_sublist h
    · exact h
theorem fltS (s : Spn) : flt 50 (enS s) = true := by
  unfold enS
  cases s.lo <;> cases s.hi <;> simp [flt, flts, enO]
theorem kind_ne (b : Bool) : decide (kindOf b = cs "loose") = b := by cases b <;> decide +kernel
theorem kind_sp (b : Bool) : decide (kindOf b = cs "span") = !b := by cases b <;> decide +kernel
theorem ixS (h : Hs) (s : Spn) (i : D) : ixOp h (enS s) i = ixOp h (.tup [.str (kindOf s.loose), .str s.name, .str s.a, .str s.b, enO s.lo, enO s.hi]) i := rfl
theorem ixP (h : Hs) (p : Pln) (i : D) : ixOp h (enP p) i = ixOp h (.tup [.str (cs "plan"), .tup (p.marks.map .str), .tup (p.rows.map enS)]) i := rfl
theorem slim_ok {p : Pln} {h : Hs} {Q : D → Hs → Prop} {E : Ex → Hs → Prop} (w : WP p) (nn : NoNeg (arcsP p.rows))
    (hq : ∀ h', Fr [] h h' → Q (enP ⟨p.marks, p.rows.foldl (slimF p.marks) p.rows⟩) h') : (PH.fn_slim.go [enP p] h).wp Q E := by
  have fr := w.fr
  unfold PH.fn_slim
  rw [w_defn]
  unfold PH.s_slim
  wp_walk
  rw [w_seqF]
  wp_walk using enP
  have g0 : (h ++ [Cell.lst (p.rows.map enS)])[h.length]? = some (.lst (p.rows.map enS)) := get_new1
  have F0 : Fr [] h (h ++ [Cell.lst (p.rows.map enS)]) := .app
  generalize h ++ [Cell.lst (p.rows.map enS)] = h0 at *
  rw [enP_e]
  refine w_for (p.rows.map enS) (fun _ => True) (fun i env h' => ∃ lr o2 o3 o4, env = [some (enP p), some (.ref lr), o2, o3, o4] ∧ h'[lr]? = some (.lst (((p.rows.take i).foldl (slimF p.marks) p.rows).map enS)) ∧ Fr [] h h') ?_ (fun _ _ _ _ => trivial) ?_ ?_
  · wp_walk using enP
    exact ⟨t_seq _ _, _, _, _, _, rfl, g0, F0⟩
  · rintro i x env h' hx ⟨lr, o2, o3, o4, rfl, gl, F⟩
    obtain ⟨s, hs, rfl⟩ := map_get hx
    have hi := lt_of_get hs
    have ok := w.ok s (List.mem_of_getElem? hs)
    have sb := slim_sub (ms := p.marks) (p.rows.take i) p.rows (List.Sublist.refl _)
    rw [fold_take _ _ hs]
    generalize (p.rows.take i).foldl (slimF p.marks) p.rows = left at *
    have ll := sb.length_le
    have so : (oth s left).Sublist left := List.filter_sublist
    have wo : WP ⟨p.marks, oth s left⟩ := WP.sub (ms := p.marks) (r := p.rows) w (so.trans sb)
    have no : NoNeg (arcsP (oth s left)) := nn.sub (arcs_sub (so.trans sb))
    wp_walk
    rw [w_seqF]
    wp_walk
    refine w_lc (left.map enS) (fun h1 => h1[lr]? = some (.lst (left.map enS))) (fun j acc h1 => acc = (oth s (left.take j)).map enS ∧ h1 = h') ?_ (fun _ _ _ q => by rw [q.2]; exact gl) ?_ ?_ ?_
    · wp_walk using gl
      exact ⟨t_cel _ _, rfl⟩
    · rintro j acc h1 ⟨rfl, _⟩
      rw [List.length_map]
      have := List.length_filter_le (fun r => !deq (enS r) (enS s)) (left.take j)
      have : (left.take j).length ≤ left.length := by rw [List.length_take]; omega
      show (List.filter _ _).length < 16777217
      omega
    · rintro j x acc h1 hx ⟨rfl, rfl⟩
      obtain ⟨r, hr, rfl⟩ := map_get hx
      have hj := lt_of_get hr
      have tl := take_filter_len (fun r => !deq (enS r) (enS s)) left j
      have et : oth s (left.take (j + 1)) = oth s (left.take j) ++ if !deq (enS r) (enS s) then [r] else [] := take_filter hr
      rw [et]
      have tl : (oth s (left.take j)).length ≤ j := tl
      wp_walk using eq_flat (fltS r) (fltS s)
      cases c : deq (enS r) (enS s) with
      | false =>
        wp_walk
        exact ⟨by omega, by simp⟩
      | true =>
        wp_walk
        simp
    · rintro acc h1 ⟨rfl, rfl⟩
      rw [List.length_map, List.take_length]
      have g1 : (h1 ++ [Cell.lst ((oth s left).map enS)])[h1.length]? = some (.lst ((oth s left).map enS)) := get_new1
      have F1 : Fr [] h1 (h1 ++ [Cell.lst ((oth s left).map enS)]) := .app
      generalize h1 ++ [Cell.lst ((oth s left).map enS)] = h2 at *
      wp_walk using ixS, kind_ne
      cases hlo : s.loose with
      | true =>
        have ef : slimF p.marks left s = left := by unfold slimF; rw [if_neg (by rw [hlo]; simp)]
        rw [ef]
        wp_walk
        exact ⟨_, _, _, _, rfl, F1.get gl, F.trans F1⟩
      | false =>
        wp_walk using ixP, g1
        rw [show D.tup [.str (cs "plan"), .tup (p.marks.map .str), .tup ((oth s left).map enS)] = enP ⟨p.marks, oth s left⟩ from rfl]
        refine ⟨rfl, says_ok wo no ⟨ok.1, ok.2.1⟩ fun h3 F3 => ?_⟩
        cases c : (outS ⟨p.marks, oth s left⟩ s).isNone with
        | true =>
          have ef : slimF p.marks left s = oth s left := by unfold slimF; rw [if_pos ⟨hlo, c⟩]
          rw [ef]
          wp_walk
          exact ⟨_, _, _, _, rfl, F3.get g1, F.trans (F1.trans F3)⟩
        | false =>
          have ef : slimF p.marks left s = left := by unfold slimF; rw [if_neg (by rw [c]; simp)]
          rw [ef]
          wp_walk
          exact ⟨_, _, _, _, rfl, (F1.trans F3).get gl, F.trans (F1.trans F3)⟩
  · rintro env h' ⟨lr, o2, o3, o4, rfl, gl, F⟩
    rw [List.length_map, List.take_length] at gl
    wp_walk using enP, gl
    exact hq _ F
theorem beyond_ok0 {p q : Pln} {h : Hs} {Q : D → Hs → Prop} {E : Ex → Hs → Prop} (w : WP p) (nn : NoNeg (arcsP p.rows)) (hs : ∀ s ∈ q.rows, (s.a ∈ zro :: p.marks ∧ s.b ∈ zro :: p.marks) ∧ outS p s = none)
    (hq : ∀ h', Fr [] h h' → Q .non h') : (PH.fn_beyond.go [enP p, enP q] h).wp Q E := by
  unfold PH.fn_beyond
  rw [w_defn]
  unfold PH.s_beyond
  rw [w_seqF]
  refine w_for (q.rows.map enS) (fun _ => True) (fun i env h' => (∃ o2 o3, env = [some (enP p), some (enP q), o2, o3]) ∧ Fr [] h h') ?_ (fun _ _ _ _ => trivial) ?_ ?_
  · wp_walk using ixP
    exact ⟨t_seq _ _, ⟨_, _, rfl⟩, Fr.refl⟩
  · rintro i x env h' hx ⟨⟨o2, o3, rfl⟩, F⟩
    obtain ⟨s, hs', rfl⟩ := map_get hx
    obtain ⟨ok, no⟩ := hs s (List.mem_of_getElem? hs')
    wp_walk
    rw [w_seqF]
    wp_walk
    refine ⟨rfl, outside_ok w nn ok fun h2 F2 => ?_⟩
    rw [no]
    wp_walk using enO
    exact ⟨⟨_, _, rfl⟩, F.trans F2⟩
  · rintro env h' ⟨⟨o2, o3, rfl⟩, F⟩
    wp_walk
    exact hq _ F
theorem same_ok0 {p q : Pln} {h : Hs} {Q : D → Hs → Prop} {E : Ex → Hs → Prop} (w : WP p) (nn : NoNeg (arcsP p.rows)) (w2 : WP q) (nn2 : NoNeg (arcsP q.rows)) (em : q.marks = p.marks) (h1 : ∀ s ∈ q.rows, outS p s = none) (h2 : ∀ s ∈ p.rows, outS q s = none)
    (hq : ∀ h', Fr [] h h' → Q (.bl true) h') : (PH.fn_same.go [enP p, enP q] h).wp Q E := by
  unfold PH.fn_same
  rw [w_defn]
  unfold PH.s_same
  wp_walk
  refine ⟨rfl, ?_⟩
  unfold PH.fn_apart
  rw [w_defn]
  unfold PH.s_apart
  wp_walk
  rw [w_seqF]
  wp_walk
  refine ⟨rfl, paper_ok w nn fun f h1' _ _ F1 => ?_⟩
  wp_walk using show decide (cs "dates" = cs "ring") = false from by decide +kernel
  refine ⟨rfl, holds_ok w2 nn2 fun h2' F2 => ?_⟩
  wp_walk
  rw [w_seqF]
  wp_walk
  refine ⟨rfl, beyond_ok0 w nn (fun s m => ⟨by have := w2.ok s m; rw [em] at this; exact ⟨this.1, this.2.1⟩, h1 s m⟩) fun h3 F3 => ?_⟩
  wp_walk
  refine ⟨rfl, beyond_ok0 w2 nn2 (fun s m => ⟨by have := w.ok s m; rw [em]; exact ⟨this.1, this.2.1⟩, h2 s m⟩) fun h4 F4 => ?_⟩
  wp_walk
  exact hq _ (F1.trans (F2.trans (F3.trans F4)))
/-! LM: dates with so many days between two marks; unlike. -/
open PySem PySem.Spec PyProof.Rows L2
/-- bounds are small -/
def SmB (rows : List Spn) : Prop := ∀ s ∈ rows, (∀ l, s.lo = some l → l.natAbs ≤ 9) ∧ (∀ u, s.hi = some u → u.natAbs ≤ 9)
theorem SmB.arms {rows : List Spn} (b : SmB rows) : ∀ a ∈ armsP rows, a.l.natAbs ≤ 9 := fun a m => by
  obtain ⟨t, ht, rfl⟩ := List.mem_map.mp m
  obtain ⟨s, hs, _, ⟨_, _, _, e⟩ | ⟨_, _, _, e⟩⟩ := step_mem ht
  · have := (b s hs).1 _ e
    show t.len.natAbs ≤ 9
    omega
  · exact (b s hs).2 _ e
theorem WP.arms {p : Pln} (w : WP p) : ∀ a ∈ armsP p.rows, (a.u ∈ zro :: p.marks ∧ a.v ∈ zro :: p.marks) ∧ a.u ≠ a.v := fun a m => by
  obtain ⟨t, ht, rfl⟩ := List.mem_map.mp m
  have := w.step ht
  exact ⟨⟨this.1, this.2.1⟩, this.2.2⟩
theorem tblP_bd {p : Pln} (w : WP p) (nn : NoNeg (arcsP p.rows)) (b : SmB p.rows) {x y : Nm} (hx : x ∈ zro :: p.marks) (hm : p.marks.length ≤ 7) (hr : p.rows.length ≤ 30) {d : Int} (e : tblP p x y = some d) : d.natAbs ≤ 4320 := by
  have e : closure (zro :: p.marks) (arcsL (armsP p.rows)) x y = some d := by rw [armsP_arcs]; exact e
  have := tbl_bd w.nd hx (fun a m => (w.arms a m).1) (fun a m => (w.arms a m).2) (by rw [armsP_arcs]; exact nn) b.arms e
  have l1 : (armsP p.rows).length ≤ 60 := by unfold armsP; rw [List.length_map]; have := stepsOf_len p.rows; omega
  have l2 : (zro :: p.marks).length ≤ 8 := by simp; omega
  have : (zro :: p.marks).length * ((armsP p.rows).length * 9) ≤ 8 * (60 * 9) := Nat.mul_le_mul l2 (Nat.mul_le_mul_right _ l1)
  omega
theorem datesWith_ok {p : Pln} {x y : Nm} {n : Int} {h : Hs} {Q : D → Hs → Prop} {E : Ex → Hs → Prop} (w : WP p) (nn : NoNeg (arcsP p.rows)) (b : SmB p.rows) (hx : x ∈ zro :: p.marks) (hy : y ∈ zro :: p.marks) (hxy : x ≠ y) (hm : p.marks.length ≤ 7) (hr : p.rows.length ≤ 30) (hn : n.natAbs ≤ 4330)
    (h1 : ∀ L, Wk (arcsP p.rows) y x L → 0 ≤ L + n) (h2 : ∀ L, Wk (arcsP p.rows) x y L → n ≤ L)
    (hq : ∀ f h', Meets (arcsP p.rows) f → f zro = 0 → f y - f x = n → (∀ m ∈ p.marks, (f m).natAbs ≤ 9999999) → Fr [] h h' → Q (enD p.marks f) h') : (PH.fn_dates_with.go [enP p, .str x, .str y, .int n] h).wp Q E := by
  have fm := w.fm
  have fr := w.fr
  unfold PH.fn_dates_with
  rw [w_defn]
  unfold PH.s_dates_with
  wp_walk
  rw [w_seqF]
  wp_walk
  refine ⟨rfl, nodes_ok (by omega) ?_⟩
  wp_walk
  rw [w_seqF]
  wp_walk
  refine ⟨rfl, steps_ok (by omega) fun h3 F3 => ?_⟩
  wp_walk
  have l1 := stepsOf_len p.rows
  refine ⟨rfl, arcs_ok (by omega) fun al h4 ha F4 => ?_⟩
  wp_walk using ha
  obtain ⟨A2, hA2⟩ : ∃ A2 : List (AR D), A2 = armsP p.rows ++ [⟨x, y, n, .non⟩, ⟨y, x, 0 - n, .non⟩] := ⟨_, rfl⟩
  have eA : (List.map enA (List.map armA (stepsOf p.rows)) ++ [D.tup [D.str x, D.str y, D.int n, D.non], D.tup [D.str y, D.str x, D.int (0 - n), D.non]]) = A2.map enA := by
    rw [hA2, List.map_append]; rfl
  have lA : A2.length ≤ 62 := by rw [hA2]; unfold armsP; simp; omega
  have mem : ∀ a ∈ A2, a ∈ armsP p.rows ∨ a = ⟨x, y, n, .non⟩ ∨ a = ⟨y, x, 0 - n, .non⟩ := fun a m => by
    rw [hA2] at m
    simpa using m
  have hns : ∀ a ∈ A2, (a.u ∈ zro :: p.marks ∧ a.v ∈ zro :: p.marks) ∧ a.u ≠ a.v := fun a m => by
    rcases mem a m with m | rfl | rfl
    · exact w.arms a m
    · exact ⟨⟨hx, hy⟩, hxy⟩
    · exact ⟨⟨hy, hx⟩, hxy.symm⟩
  have hM : ∀ a ∈ A2, a.l.natAbs ≤ 4330 := fun a m => by
    rcases mem a m with m | rfl | rfl
    · have := b.arms a m; omega
    · exact hn
    · show (0 - n).natAbs ≤ 4330
      omega
  have nn2 : NoNeg (arcsL A2) := (add_both nn h1 h2).sub fun q m => by
    obtain ⟨a, ha, rfl⟩ := List.mem_map.mp m
    rcases mem a ha with m | rfl | rfl
    · refine List.mem_cons_of_mem _ (List.mem_cons_of_mem _ ?_)
      rw [← armsP_arcs]
      exact List.mem_map_of_mem m
    · exact List.mem_cons_of_mem _ List.mem_cons_self
    · exact List.mem_cons_self
  have sub2 : ∀ q ∈ arcsP p.rows, q ∈ arcsL A2 := fun q m => by
    rw [← armsP_arcs] at m
    obtain ⟨a, ha, rfl⟩ := List.mem_map.mp m
    exact List.mem_map_of_mem (by rw [hA2]; exact List.mem_append_left _ ha)
  have ax : (x, y, n) ∈ arcsL A2 := List.mem_map.mpr ⟨⟨x, y, n, .non⟩, by rw [hA2]; simp, rfl⟩
  have ay : (y, x, 0 - n) ∈ arcsL A2 := List.mem_map.mpr ⟨⟨y, x, 0 - n, .non⟩, by rw [hA2]; simp, rfl⟩
  rw [eA]
  have g5 : (h4 ++ [Cell.lst (A2.map enA)])[h4.length]? = some (.lst (A2.map enA)) := get_new1
  have F5 : Fr [] h4 (h4 ++ [Cell.lst (A2.map enA)]) := .app
  generalize h4 ++ [Cell.lst (A2.map enA)] = h5 at *
  refine ⟨by rw [List.length_map]; omega, rfl, ?_⟩
  have e0 : D.str zro :: p.marks.map .str = (zro :: p.marks).map .str := rfl
  rw [e0]
  refine distances_ok (by simp) (by simp; omega) (by simp; omega) (by omega) (fun x m => m) (fun a m => (hns a m).1) (fun a m => (hns a m).2) nn2 g5 fun s di ii h6 fin bd hne sr F6 => ?_
  obtain ⟨kd, ki, e1, e2, d1, d2⟩ := sr
  wp_walk
  have hd : ∀ x ∈ zro :: p.marks, s.dist x ≠ none := fun x m => by
    obtain ⟨d, e, _⟩ := fin.st x m
    rw [e]; simp
  have hb : ∀ v d, s.dist v = some d → d.natAbs ≤ 2147680 := fun v d e => by
    have := bd 4330 hM v d e
    have : (zro :: p.marks).length * (A2.length * 4330) ≤ 8 * (62 * 4330) := Nat.mul_le_mul (by simp; omega) (Nat.mul_le_mul_right _ lA)
    omega
  have hg : ∀ v, ((s.dist v).getD 0).natAbs ≤ 2147680 := fun v => by
    cases e : s.dist v with
    | none => simp
    | some d => exact hb v d e
  refine ⟨rfl, datesFrom_ok (by omega) e1 d1 hd fun h7 F7 => ?_⟩
  have mt := fin.meets fun a m => (hns a m).1
  have m1 := mt _ _ _ ax
  have m2 := mt _ _ _ ay
  dsimp only at m1 m2
  exact hq (fun x => (s.dist x).getD 0 - (s.dist zro).getD 0) h7 (fun u v l m => by have := mt u v l (sub2 _ m); dsimp only at this ⊢; omega) (Int.sub_self _) (by omega) (fun m _ => by have := hg m; have := hg zro; omega) (F3.trans (F4.trans (F5.trans (F6.trans F7))))
theorem outO_some {lo hi ah bk : Option Int} {g : Int} (e : outO lo hi ah bk = some g) : (∃ m, hi = some m ∧ (∀ a, ah = some a → m < a) ∧ g = upG m bk) ∨ (∃ l, lo = some l ∧ (∀ b, bk = some b → 0 - b < l) ∧ g = dnG l ah) := by
  unfold outO at e
  have low : ∀ (e : outO lo none ah bk = some g), (∃ l, lo = some l ∧ (∀ b, bk = some b → 0 - b < l) ∧ g = dnG l ah) := fun e => by
    unfold outO at e
    cases lo with
    | none => cases e
    | some l =>
      cases bk with
      | none => exact ⟨l, rfl, fun b z => (nomatch z), (Option.some.inj e).symm⟩
      | some b =>
        dsimp only at e
        by_cases c : 0 - b < l
        · rw [if_pos c] at e
          exact ⟨l, rfl, fun b' z => by cases z; exact c, (Option.some.inj e).symm⟩
        · rw [if_neg c] at e; cases e
  cases hi with
  | none => exact .inr (low e)
  | some m =>
    cases ah with
    | none => exact .inl ⟨m, rfl, fun a z => (nomatch z), (Option.some.inj e).symm⟩
    | some a =>
      dsimp only at e
      by_cases c : m < a
      · rw [if_pos c] at e
        exact .inl ⟨m, rfl, fun a' z => by cases z; exact c, (Option.some.inj e).symm⟩
      · rw [if_neg c] at e
        exact .inr (low e)
/-- the gap that a plan leaves -/
theorem out_gap {p : Pln} {s : Spn} {g : Int} (w : WP p) (nn : NoNeg (arcsP p.rows)) (e : outS p s = some g) :
    (∀ L, Wk (arcsP p.rows) s.b s.a L → 0 ≤ L + g) ∧ (∀ L, Wk (arcsP p.rows) s.a s.b L → g ≤ L) ∧ ((∃ u, s.hi = some u ∧ u < g) ∨ (∃ l, s.lo = some l ∧ g < l)) := by
  have cyc : ∀ a b, tblP p s.a s.b = some a → tblP p s.b s.a = some b → 0 ≤ a + b := fun a b ea eb => nn _ _ ((closure_walk w.nd w.arc ea).trans (closure_walk w.nd w.arc eb))
  have ha : ∀ L, Wk (arcsP p.rows) s.a s.b L → ∃ c, tblP p s.a s.b = some c ∧ c ≤ L := fun L wk => closure_least w.nd w.arc nn wk
  have hb : ∀ L, Wk (arcsP p.rows) s.b s.a L → ∃ c, tblP p s.b s.a = some c ∧ c ≤ L := fun L wk => closure_least w.nd w.arc nn wk
  unfold outS at e
  generalize tblP p s.a s.b = ah at *
  generalize tblP p s.b s.a = bk at *
  rcases outO_some e with ⟨m, em, hm, hg⟩ | ⟨m, em, hm, hg⟩
  · have g1 : m + 1 ≤ g ∧ ∀ b, bk = some b → 0 - b ≤ g := by
      cases bk with
      | none => exact ⟨by rw [hg]; exact Int.le_refl _, fun b z => (nomatch z)⟩
      | some b =>
        unfold upG at hg
        dsimp only at hg
        by_cases c : 0 - b > m + 1
        · rw [if_pos c] at hg; exact ⟨by omega, fun b' z => by cases z; omega⟩
        · rw [if_neg c] at hg; exact ⟨by omega, fun b' z => by cases z; omega⟩
    refine ⟨fun L wk => ?_, fun L wk => ?_, .inl ⟨m, em, by omega⟩⟩
    · obtain ⟨c, ec, l⟩ := hb L wk
      have := g1.2 c ec
      omega
    · obtain ⟨c, ec, l⟩ := ha L wk
      have h1 := hm c ec
      cases bk with
      | none =>
        have hg : g = m + 1 := hg
        omega
      | some b =>
        have h2 := cyc c b ec rfl
        unfold upG at hg
        dsimp only at hg
        by_cases d : 0 - b > m + 1
        · rw [if_pos d] at hg; omega
        · rw [if_neg d] at hg; omega
  · have g1 : g ≤ m - 1 ∧ ∀ b, ah = some b → g ≤ b := by
      cases ah with
      | none => exact ⟨by rw [hg]; exact Int.le_refl _, fun b z => (nomatch z)⟩
      | some b =>
        unfold dnG at hg
        dsimp only at hg
        by_cases c : b < m - 1
        · rw [if_pos c] at hg; exact ⟨by omega, fun b' z => by cases z; omega⟩
        · rw [if_neg c] at hg; exact ⟨by omega, fun b' z => by cases z; omega⟩
    refine ⟨fun L wk => ?_, fun L wk => ?_, .inr ⟨m, em, by omega⟩⟩
    · obtain ⟨c, ec, l⟩ := hb L wk
      have h1 := hm c ec
      cases ah with
      | none =>
        have hg : g = m - 1 := hg
        omega
      | some b =>
        have h2 := cyc b c rfl ec
        unfold dnG at hg
        dsimp only at hg
        by_cases d : b < m - 1
        · rw [if_pos d] at hg; omega
        · rw [if_neg d] at hg; omega
    · obtain ⟨c, ec, l⟩ := ha L wk
      have := g1.2 c ec
      omega
theorem gap_bd {p : Pln} {s : Spn} {g : Int} (w : WP p) (nn : NoNeg (arcsP p.rows)) (b : SmB p.rows) (hm : p.marks.length ≤ 7) (hr : p.rows.length ≤ 30) (bs : SmB [s]) (hs : s.a ∈ zro :: p.marks ∧ s.b ∈ zro :: p.marks) (e : outS p s = some g) : g.natAbs ≤ 4330 := by
  have ta := fun d (q : tblP p s.a s.b = some d) => tblP_bd w nn b hs.1 hm hr q
  have tb := fun d (q : tblP p s.b s.a = some d) => tblP_bd w nn b hs.2 hm hr q
  unfold outS at e
  generalize tblP p s.a s.b = ah at *
  generalize tblP p s.b s.a = bk at *
  obtain ⟨b1, b2⟩ := bs s (List.mem_singleton.mpr rfl)
  rcases outO_some e with ⟨m, em, _, hg⟩ | ⟨m, em, _, hg⟩
  · have := b2 m em
    cases bk with
    | none => have hg : g = m + 1 := hg; omega
    | some b =>
      have := tb b rfl
      unfold upG at hg
      dsimp only at hg
      split at hg <;> omega
  · have := b1 m em
    cases ah with
    | none => have hg : g = m - 1 := hg; omega
    | some b =>
      have := ta b rfl
      unfold dnG at hg
      dsimp only at hg
      split at hg <;> omega
end M

namespace P16
open PySem PySem.Spec PyProof.Rows L2 M
/-- unlike(one, other): slots ['one', 'other', 'rows', '_', 'name', 'a', 'b', 'least', 'most', 'gap'] -/
noncomputable def s_unlike : Sf :=
  seqF (asgF (lstE aNil) (asgT (.nm 2))) (
  seqF (forF (vS (bE (vE 0) (kE (.int 2)) ixOp)) (.tp [.nm 3, .nm 4, .nm 5, .nm 6, .nm 7, .nm 8]) (
    seqF (asgF (fE (aCons (vE 1) (aCons (tupE (aCons (kE (.str (cs "span"))) (aCons (vE 4) (aCons (vE 5) (aCons (vE 6) (aCons (vE 7) (aCons (vE 8) aNil))))))) aNil)) PH.fn_outside) (asgT (.nm 9))) (
    ifF (bE (vE 9) (kE .non) (cmpR .IsNot)) (dropF (mE (vE 2) (aCons (tupE (aCons (vE 4) (aCons (fE (aCons (vE 1) (aCons (vE 5) (aCons (vE 6) (aCons (vE 9) aNil)))) PH.fn_dates_with) aNil))) aNil) appM)) (nextF))) (nextF)) (
  retF (cE (aCons (vE 2) aNil) (on1 tuple1))))
noncomputable def fn_unlike : Fn := defn 2 10 s_unlike
/-- _law_whole(thing, low, high): slots ['thing', 'low', 'high'] -/
noncomputable def s__law_whole : Sf :=
  retF (andE (isiE (vE 0) "int") (andE (notE (isiE (vE 0) "bool")) (chE (vE 1) (vE 0) (vE 2) .LtE .LtE)))
noncomputable def fn__law_whole : Fn := defn 3 3 s__law_whole
/-- _law_date_table(dates): slots ['dates', 'table', 'mark', 'date'] -/
noncomputable def s__law_date_table : Sf :=
  seqF (asgF (dspE [(kE (.str (cs "zero")), kE (.int 0))]) (asgT (.nm 1))) (
  seqF (forF (vS (vE 0)) (.tp [.nm 2, .nm 3]) (
    asgF (vE 3) (gS (vE 1) (vE 2))) (nextF)) (
  retF (vE 1)))
noncomputable def fn__law_date_table : Fn := defn 1 4 s__law_date_table
/-- _law_met(row, table): slots ['row', 'table', 'days'] -/
noncomputable def s__law_met : Sf :=
  seqF (asgF (bE (bE (vE 1) (bE (vE 0) (kE (.int 3)) ixOp) ixOp) (bE (vE 1) (bE (vE 0) (kE (.int 2)) ixOp) ixOp) (binOp .Sub)) (asgT (.nm 2))) (
  retF (andE (orE (bE (bE (vE 0) (kE (.int 4)) ixOp) (kE .non) (cmpR .Is)) (bE (vE 2) (bE (vE 0) (kE (.int 4)) ixOp) (cmpR .GtE))) (orE (bE (bE (vE 0) (kE (.int 5)) ixOp) (kE .non) (cmpR .Is)) (bE (vE 2) (bE (vE 0) (kE (.int 5)) ixOp) (cmpR .LtE)))))
noncomputable def fn__law_met : Fn := defn 2 3 s__law_met
/-- _law_dates_right(plan, dates): slots ['plan', 'dates', 'k', 'table', 'row'] -/
noncomputable def s__law_dates_right : Sf :=
  seqF (ifF (orE (notE (isiE (vE 1) "tuple")) (bE (cE (aCons (vE 1) aNil) (on1 len1)) (cE (aCons (bE (vE 0) (kE (.int 1)) ixOp) aNil) (on1 len1)) (cmpR .NotEq))) (retF (kE (.bl false))) (nextF)) (
  seqF (forF (rS (aCons (cE (aCons (vE 1) aNil) (on1 len1)) aNil) rng1Of) (.nm 2) (
    seqF (asgF (bE (vE 1) (vE 2) ixOp) (asgT (.nm 4))) (
    ifF (orE (notE (isiE (vE 4) "tuple")) (orE (bE (cE (aCons (vE 4) aNil) (on1 len1)) (kE (.int 2)) (cmpR .NotEq)) (orE (notE (fE (aCons (bE (vE 4) (kE (.int 0)) ixOp) (aCons (bE (bE (vE 0) (kE (.int 1)) ixOp) (vE 2) ixOp) aNil)) PH.fn__law_like)) (notE (fE (aCons (bE (vE 4) (kE (.int 1)) ixOp) (aCons (uE (kE (.int 9999999)) negD) (aCons (kE (.int 9999999)) aNil))) P16.fn__law_whole))))) (retF (kE (.bl false))) (nextF))) (nextF)) (
  seqF (asgF (fE (aCons (vE 1) aNil) P16.fn__law_date_table) (asgT (.nm 3))) (
  retF (bE (lcE (vS (bE (vE 0) (kE (.int 2)) ixOp)) (.nm 4) (some (notE (fE (aCons (vE 4) (aCons (vE 3) aNil)) P16.fn__law_met))) (vE 4) [4]) (lstE aNil) (cmpR .Eq)))))
noncomputable def fn__law_dates_right : Fn := defn 2 5 s__law_dates_right
/-- _law_other_plan(box, plan): slots ['box', 'plan', 'rows', 'row', 'k', 'near'] -/
noncomputable def s__law_other_plan : Sf :=
  seqF (asgF (lstE aNil) (asgT (.nm 2))) (
  seqF (forF (vS (bE (vE 1) (kE (.int 2)) ixOp)) (.nm 3) (
    seqF (asgF (vE 3) (asgT (.nm 5))) (
    seqF (ifF (andE (bE (bE (vE 3) (kE (.int 0)) ixOp) (kE (.str (cs "span"))) (cmpR .Eq)) (bE (fE (aCons (vE 0) (aCons (kE (.int 3)) aNil)) PH.fn__law_draw) (kE (.int 0)) (cmpR .Eq))) (asgF (bE (slE (vE 3) none (some (kE (.int 4)))) (fE (aCons (vE 0) (aCons (kE (.bl false)) aNil)) PH.fn__law_bounds) (binOp .Add)) (asgT (.nm 5))) (nextF)) (
    ifF (andE (bE (fE (aCons (vE 0) (aCons (kE (.int 4)) aNil)) PH.fn__law_draw) (kE (.int 0)) (cmpR .Gt)) (fE (aCons (tupE (aCons (kE (.str (cs "plan"))) (aCons (bE (vE 1) (kE (.int 1)) ixOp) (aCons (cE (aCons (bE (vE 2) (lstE (aCons (vE 5) aNil)) (binOp .Add)) aNil) (on1 tuple1)) aNil)))) aNil) PH.fn__law_holds)) (dropF (mE (vE 2) (aCons (vE 5) aNil) appM)) (nextF)))) (nextF)) (
  seqF (forF (rS (aCons (fE (aCons (vE 0) (aCons (kE (.int 3)) aNil)) PH.fn__law_draw) aNil) rng1Of) (.nm 4) (
    seqF (asgF (fE (aCons (vE 0) (aCons (bE (kE (.str (cs "n"))) (cE (aCons (vE 4) aNil) (on1 str1)) (binOp .Add)) (aCons (bE (vE 1) (kE (.int 1)) ixOp) (aCons (kE (.bl false)) aNil)))) PH.fn__law_span) (asgT (.nm 3))) (
    ifF (fE (aCons (tupE (aCons (kE (.str (cs "plan"))) (aCons (bE (vE 1) (kE (.int 1)) ixOp) (aCons (cE (aCons (bE (vE 2) (lstE (aCons (vE 3) aNil)) (binOp .Add)) aNil) (on1 tuple1)) aNil)))) aNil) PH.fn__law_holds) (dropF (mE (vE 2) (aCons (vE 3) aNil) appM)) (nextF))) (nextF)) (
  retF (tupE (aCons (kE (.str (cs "plan"))) (aCons (bE (vE 1) (kE (.int 1)) ixOp) (aCons (cE (aCons (vE 2) aNil) (on1 tuple1)) aNil)))))))
noncomputable def fn__law_other_plan : Fn := defn 2 6 s__law_other_plan
/-- law(script): slots ['script', 'box', 'turn', 'plan', 'other', 'table', 'row', 'k', 'told', 'due', 'over', 'high', 'low'] -/
noncomputable def s_law : Sf :=
  seqF (asgF (lstE (aCons (fE (aCons (vE 0) (aCons (kE (.int 0)) (aCons (kE (.int 63)) aNil))) PH.fn__law_digits) (aCons (kE (.int 0)) aNil))) (asgT (.nm 1))) (
  seqF (forF (rS (aCons (kE (.int 3)) aNil) rng1Of) (.nm 2) (
    seqF (asgF (fE (aCons (vE 1) (aCons (bE (kE (.int 1)) (fE (aCons (vE 1) (aCons (kE (.int 5)) aNil)) PH.fn__law_draw) (binOp .Add)) (aCons (fE (aCons (vE 1) (aCons (kE (.int 8)) aNil)) PH.fn__law_draw) (aCons (fE (aCons (vE 1) (aCons (kE (.int 3)) aNil)) PH.fn__law_draw) aNil)))) PH.fn__law_holding) (asgT (.nm 3))) (
    seqF (asgF (fE (aCons (vE 1) (aCons (vE 3) aNil)) P16.fn__law_other_plan) (asgT (.nm 4))) (
    seqF (asgF (fE (aCons (vE 4) (aCons (fE (aCons (vE 4) aNil) PH.fn__law_steps) aNil)) PH.fn__law_closure) (asgT (.nm 5))) (
    seqF (parF [8, 9] (aCons (fE (aCons (vE 3) (aCons (vE 4) aNil)) P16.fn_unlike) (aCons (lstE aNil) aNil))) (
    seqF (forF (vS (bE (vE 3) (kE (.int 2)) ixOp)) (.nm 6) (
      seqF (parF [11, 12] (aCons (bE (vE 5) (tupE (aCons (bE (vE 6) (kE (.int 2)) ixOp) (aCons (bE (vE 6) (kE (.int 3)) ixOp) aNil))) ixOp) (aCons (bE (vE 5) (tupE (aCons (bE (vE 6) (kE (.int 3)) ixOp) (aCons (bE (vE 6) (kE (.int 2)) ixOp) aNil))) ixOp) aNil))) (
      seqF (asgF (andE (bE (bE (vE 6) (kE (.int 5)) ixOp) (kE .non) (cmpR .IsNot)) (orE (bE (vE 11) (kE .non) (cmpR .Is)) (bE (vE 11) (bE (vE 6) (kE (.int 5)) ixOp) (cmpR .Gt)))) (asgT (.nm 10))) (
      seqF (ifF (orE (vE 10) (andE (bE (bE (vE 6) (kE (.int 4)) ixOp) (kE .non) (cmpR .IsNot)) (orE (bE (vE 12) (kE .non) (cmpR .Is)) (bE (bE (kE (.int 0)) (vE 12) (binOp .Sub)) (bE (vE 6) (kE (.int 4)) ixOp) (cmpR .Lt))))) (dropF (mE (vE 9) (aCons (vE 6) aNil) appM)) (nextF)) (
      ifF (notE (fE (aCons (fE (aCons (vE 4) (aCons (vE 6) aNil)) PH.fn_says) (aCons (bE (vE 6) (vE 9) (cmpR .NotIn)) aNil)) PH.fn__law_like)) (retF (kE (.bl false))) (nextF))))) (nextF)) (
    seqF (ifF (orE (notE (isiE (vE 8) "tuple")) (bE (cE (aCons (vE 8) aNil) (on1 len1)) (cE (aCons (vE 9) aNil) (on1 len1)) (cmpR .NotEq))) (retF (kE (.bl false))) (nextF)) (
    forF (rS (aCons (cE (aCons (vE 9) aNil) (on1 len1)) aNil) rng1Of) (.nm 7) (
      seqF (ifF (orE (notE (isiE (bE (vE 8) (vE 7) ixOp) "tuple")) (orE (bE (cE (aCons (bE (vE 8) (vE 7) ixOp) aNil) (on1 len1)) (kE (.int 2)) (cmpR .NotEq)) (orE (notE (fE (aCons (bE (bE (vE 8) (vE 7) ixOp) (kE (.int 0)) ixOp) (aCons (bE (bE (vE 9) (vE 7) ixOp) (kE (.int 1)) ixOp) aNil)) PH.fn__law_like)) (notE (fE (aCons (vE 4) (aCons (bE (bE (vE 8) (vE 7) ixOp) (kE (.int 1)) ixOp) aNil)) P16.fn__law_dates_right))))) (retF (kE (.bl false))) (nextF)) (
      ifF (fE (aCons (bE (vE 9) (vE 7) ixOp) (aCons (fE (aCons (bE (bE (vE 8) (vE 7) ixOp) (kE (.int 1)) ixOp) aNil) P16.fn__law_date_table) aNil)) P16.fn__law_met) (retF (kE (.bl false))) (nextF))) (nextF)))))))) (nextF)) (
  retF (kE (.bl true))))
noncomputable def fn_law : Fn := defn 1 13 s_law
end P16

/-! LN: unlike; dates as the law looks at them. -/
namespace M
open PySem PySem.Spec PyProof.Rows L2
local macro_rules | `(tactic| wp_walk using $ts,*) => do let xs := Lean.Syntax.TSepArray.getElems ts; `(tactic| simp only [w_ok, w_exc, w_bind, w_of, w_cond, w_kE, w_vE, w_bE, w_uE, w_tst, w_andE, w_orE, w_notE, w_ifE, w_chE, w_ch3E, w_cmpR, w_aNil, w_aCons, w_aStar, w_tupE, w_lstE, w_cE, w_isiE, w_lsE, w_fE, w_mE, w_slE, w_ptN, w_ptS, w_newD, w_nextF, w_bkF, w_ctF, w_seqF, w_fl, w_dropF, w_retF, w_retNF, w_ifF, w_asgF, w_nm, w_tp, w_ts0, w_ts1, w_gS, w_augF, w_augS, w_parF, w_vS, w_rS, w_eS, w_zS, w_revS, w_iteS, w_lcN, w_lcS, wif_t, wif_f, wo_some, wo_map,
  defn_n, recn_n, List.getElem?_cons_zero, List.getElem?_cons_succ, Option.join_some, List.set_cons_zero, List.set_cons_succ, List.length_cons, List.length_nil, List.length_map, List.map_cons, List.map_nil, List.cons_append, List.nil_append, Nat.reduceAdd, Nat.reduceSub, Nat.zero_add, Option.map_some, Option.isSome_some, wipeE, parSet, Bool.not_true, Bool.not_false, decide_true, decide_false, Nat.reduceLeDiff, lim, Bool.true_eq_false, Bool.false_eq_true, if_true, if_false, true_and, and_true, eq_self, and_self, List.all_cons, List.all_nil, Bool.and_self, Bool.and_true, Bool.true_and, Int.reduceLT, Int.reduceLE, Nat.reduceLT, Int.reduceNeg, Int.reduceAdd, Int.reduceSub, Int.reduceMul, bo_add, bo_sub, bo_mul, bo_fd, bo_mod, bo_pow, ia_add, ia_sub, inD_i, add_i, iadd_i, add_s, iadd_s, add_t, add_r, adC_s, sub_i, mul_i, fd_i, mod_i, pow_i, neg_i, co_eq, co_ne, co_in, co_ni, co_is, co_isn, oi_Lt, os_Lt, oi_LtE, os_LtE, oi_Gt, os_Gt, oi_GtE, os_GtE, is_non_non, is_non_bl, is_non_int, is_non_str, is_non_tup, is_non_ls, is_non_ref, is_bl_non, is_bl_bl, is_bl_int, is_bl_str, is_bl_tup, is_bl_ls, is_bl_ref, trC_l, sqC_l, sqC_d, dcC_l, dcC_d, daC_l, daC_d, srC_l, laC_l, tyC_l, tyC_d, rvC_l, tr_non, tr_bl, tr_int, tr_str, tr_tup, tr_ref, tr_ls, sq_tup, sq_ls, sq_ref, dr_ref, da_ref, sr_tup, sr_ls, sr_str, sr_ref, sl_ls, sl_ref, rv_tup, rv_ref, la_ref, it_non, it_bl, it_int, it_str, it_tup, it_ls, it_ref, ix_tup, ix_ls, ix_str, ix_ref, ixC_l, ixC_d, atN, at0, at1, at2, at3, at4, at5, at6, at7, at8, at9, at10, at11, at12, at13, at14, atm1, atm2, on1_, on2_, len_str, len_tup, len_ls, len_ref, lnC_l, lnC_d, int_i, int_b, int_s, str_i, str_s, bool_i, bool_b, abs_i, max_i, min_i, ofL_s, lst1, tpl1, all_r, any_r, sum_r, sl_str, sl_tup, slo_ref, slo_ls, ty_l, ty_s, ty_d, ty_appM, ty_popM, ty_revM, ty_extM, ty_joinM, ty_splitM, ty_getM, ty_insM, go_app, apC_s, go_ext, exC_s, go_rev, rvM_s, go_get1, go_get2, gtC_s, go_join, jnC_s, go_split, go_ins, inC_s, go_pop, so_ref, stC_d, stC_l, go_dic, goC_d, goC_l, in_str1, in_tup, in_ls, in_ref, ioC_l, ioC_d, kOk_s, kOk_i, kOk_t, k1_s, k1_i, r1, r2, eq_ss, eq_ii, eq_nbl, eq_bln, eq_nint, eq_intn, eq_nstr, eq_strn, eq_nn, eq_is, eq_si, go_some, kit_NoneType_str, kit_NoneType_int, kit_NoneType_bool, kit_NoneType_tuple, kit_NoneType_list, kit_NoneType_dict, kit_bool_str, kit_bool_int, kit_bool_bool, kit_bool_tuple, kit_bool_list, kit_bool_dict, kit_int_str, kit_int_int, kit_int_bool, kit_int_tuple, kit_int_list, kit_int_dict, kit_str_str, kit_str_int, kit_str_bool, kit_str_tuple, kit_str_list, kit_str_dict, kit_tuple_str, kit_tuple_int, kit_tuple_bool, kit_tuple_tuple, kit_tuple_list, kit_tuple_dict, kit_list_str, kit_list_int, kit_list_bool, kit_list_tuple, kit_list_list, kit_list_dict, kit_dict_str, kit_dict_int, kit_dict_bool, kit_dict_tuple, kit_dict_list, kit_dict_dict, rp0, rp1, rp2, rp3, rp4, rp5, rp6, rp7, rp8, rp9, rp10, rp11, rp12, rp13, rp14, rp15, rp16, rp17, rp18, rp19, rp20, rp21, rp22, rp23, rp24, rp25, rp26, rp27, rp28, rp29, rp30, $[$xs:term],*])
local macro_rules | `(tactic| wp_walk) => `(tactic| simp only [w_ok, w_exc, w_bind, w_of, w_cond, w_kE, w_vE, w_bE, w_uE, w_tst, w_andE, w_orE, w_notE, w_ifE, w_chE, w_ch3E, w_cmpR, w_aNil, w_aCons, w_aStar, w_tupE, w_lstE, w_cE, w_isiE, w_lsE, w_fE, w_mE, w_slE, w_ptN, w_ptS, w_newD, w_nextF, w_bkF, w_ctF, w_fl, w_dropF, w_retF, w_retNF, w_ifF, w_asgF, w_nm, w_tp, w_ts0, w_ts1, w_gS, w_augF, w_augS, w_parF, w_vS, w_rS, w_eS, w_zS, w_revS, w_iteS, w_lcN, w_lcS, wif_t, wif_f, wo_some, wo_map,
  defn_n, recn_n, List.getElem?_cons_zero, List.getElem?_cons_succ, Option.join_some, List.set_cons_zero, List.set_cons_succ, List.length_cons, List.length_nil, List.length_map, List.map_cons, List.map_nil, List.cons_append, List.nil_append, Nat.reduceAdd, Nat.reduceSub, Nat.zero_add, Option.map_some, Option.isSome_some, wipeE, parSet, Bool.not_true, Bool.not_false, decide_true, decide_false, Nat.reduceLeDiff, lim, Bool.true_eq_false, Bool.false_eq_true, if_true, if_false, true_and, and_true, eq_self, and_self, List.all_cons, List.all_nil, Bool.and_self, Bool.and_true, Bool.true_and, Int.reduceLT, Int.reduceLE, Nat.reduceLT, Int.reduceNeg, Int.reduceAdd, Int.reduceSub, Int.reduceMul, bo_add, bo_sub, bo_mul, bo_fd, bo_mod, bo_pow, ia_add, ia_sub, inD_i, add_i, iadd_i, add_s, iadd_s, add_t, add_r, adC_s, sub_i, mul_i, fd_i, mod_i, pow_i, neg_i, co_eq, co_ne, co_in, co_ni, co_is, co_isn, oi_Lt, os_Lt, oi_LtE, os_LtE, oi_Gt, os_Gt, oi_GtE, os_GtE, is_non_non, is_non_bl, is_non_int, is_non_str, is_non_tup, is_non_ls, is_non_ref, is_bl_non, is_bl_bl, is_bl_int, is_bl_str, is_bl_tup, is_bl_ls, is_bl_ref, trC_l, sqC_l, sqC_d, dcC_l, dcC_d, daC_l, daC_d, srC_l, laC_l, tyC_l, tyC_d, rvC_l, tr_non, tr_bl, tr_int, tr_str, tr_tup, tr_ref, tr_ls, sq_tup, sq_ls, sq_ref, dr_ref, da_ref, sr_tup, sr_ls, sr_str, sr_ref, sl_ls, sl_ref, rv_tup, rv_ref, la_ref, it_non, it_bl, it_int, it_str, it_tup, it_ls, it_ref, ix_tup, ix_ls, ix_str, ix_ref, ixC_l, ixC_d, atN, at0, at1, at2, at3, at4, at5, at6, at7, at8, at9, at10, at11, at12, at13, at14, atm1, atm2, on1_, on2_, len_str, len_tup, len_ls, len_ref, lnC_l, lnC_d, int_i, int_b, int_s, str_i, str_s, bool_i, bool_b, abs_i, max_i, min_i, ofL_s, lst1, tpl1, all_r, any_r, sum_r, sl_str, sl_tup, slo_ref, slo_ls, ty_l, ty_s, ty_d, ty_appM, ty_popM, ty_revM, ty_extM, ty_joinM, ty_splitM, ty_getM, ty_insM, go_app, apC_s, go_ext, exC_s, go_rev, rvM_s, go_get1, go_get2, gtC_s, go_join, jnC_s, go_split, go_ins, inC_s, go_pop, so_ref, stC_d, stC_l, go_dic, goC_d, goC_l, in_str1, in_tup, in_ls, in_ref, ioC_l, ioC_d, kOk_s, kOk_i, kOk_t, k1_s, k1_i, r1, r2, eq_ss, eq_ii, eq_nbl, eq_bln, eq_nint, eq_intn, eq_nstr, eq_strn, eq_nn, eq_is, eq_si, go_some, kit_NoneType_str, kit_NoneType_int, kit_NoneType_bool, kit_NoneType_tuple, kit_NoneType_list, kit_NoneType_dict, kit_bool_str, kit_bool_int, kit_bool_bool, kit_bool_tuple, kit_bool_list, kit_bool_dict, kit_int_str, kit_int_int, kit_int_bool, kit_int_tuple, kit_int_list, kit_int_dict, kit_str_str, kit_str_int, kit_str_bool, kit_str_tuple, kit_str_list, kit_str_dict, kit_tuple_str, kit_tuple_int, kit_tuple_bool, kit_tuple_tuple, kit_tuple_list, kit_tuple_dict, kit_list_str, kit_list_int, kit_list_bool, kit_list_tuple, kit_list_list, kit_list_dict, kit_dict_str, kit_dict_int, kit_dict_bool, kit_dict_tuple, kit_dict_list, kit_dict_dict, rp0, rp1, rp2, rp3, rp4, rp5, rp6, rp7, rp8, rp9, rp10, rp11, rp12, rp13, rp14, rp15, rp16, rp17, rp18, rp19, rp20, rp21, rp22, rp23, rp24, rp25, rp26, rp27, rp28, rp29, rp30])
theorem w_dsp1 {QD : D → Hs → Prop} {E : Ex → Hs → Prop} (a : List Nat) (d : D) (env : Env) (h : Hs) : (dspE [(kE (.str a), kE d)] env h).wp QD E = QD (.ref h.length) (h ++ [.dic false false [(.str a, d)]]) := id rfl
theorem enO_s (i : Int) : enO (some i) = .int i := rfl
theorem enO_n : enO none = .non := rfl
/-! ### unlike -/
def GoodT (q : Pln) (t : Spn × (Nm → Int)) : Prop := Meets (arcsP q.rows) t.2 ∧ t.2 zro = 0 ∧ (∀ m ∈ q.marks, (t.2 m).natAbs ≤ 9999999) ∧ outS q t.1 = some (t.2 t.1.b - t.2 t.1.a)
def enU (q : Pln) (t : Spn × (Nm → Int)) : D := .tup [.str t.1.name, enD q.marks t.2]
def notSaid (q : Pln) (s : Spn) : Bool := (outS q s).isSome
theorem unlike_ok {p q : Pln} {h : Hs} {Q : D → Hs → Prop} {E : Ex → Hs → Prop} (w : WP q) (nn : NoNeg (arcsP q.rows)) (b : SmB q.rows) (hm : q.marks.length ≤ 7) (hr : q.rows.length ≤ 30) (hp : ∀ s ∈ p.rows, (s.a ∈ zro :: q.marks ∧ s.b ∈ zro :: q.marks ∧ s.a ≠ s.b) ∧ SmB [s]) (hl : p.rows.length ≤ 1000)
    (hq : ∀ (ts : List (Spn × (Nm → Int))) h', ts.map (·.1) = p.rows.filter (notSaid q) → (∀ t ∈ ts, GoodT q t) → Fr [] h h' → Q (.tup (ts.map (enU q))) h') : (P16.fn_unlike.go [enP p, enP q] h).wp Q E := by
  unfold P16.fn_unlike
  rw [w_defn]
  unfold P16.s_unlike
  wp_walk
  rw [w_seqF]
  wp_walk
  rw [w_seqF]
  have g0 : (h ++ [Cell.lst []])[h.length]? = some (.lst []) := get_new1
  have F0 : Fr [] h (h ++ [Cell.lst []]) := .app
  have hnew : ∀ n ∈ [h.length], h.length ≤ n := fun n m => by rw [List.mem_singleton.mp m]; exact Nat.le_refl _
  generalize hrl : h.length = rl at *
  generalize h ++ [Cell.lst []] = h0 at *
  refine w_for (p.rows.map enS) (fun _ => True) (fun i env h' => (∃ o3 o4 o5 o6 o7 o8 o9, env = [some (enP p), some (enP q), some (.ref rl), o3, o4, o5, o6, o7, o8, o9]) ∧ ∃ ts : List (Spn × (Nm → Int)), ts.map (·.1) = (p.rows.take i).filter (notSaid q) ∧ (∀ t ∈ ts, GoodT q t) ∧ h'[rl]? = some (.lst (ts.map (enU q))) ∧ Fr [rl] h0 h') ?_ (fun _ _ _ _ => trivial) ?_ ?_
  · wp_walk using ixP
    exact ⟨t_seq _ _, ⟨_, _, _, _, _, _, _, rfl⟩, [], rfl, fun _ m => (nomatch m), g0, Fr.refl⟩
  · rintro i x env h1 hx ⟨⟨o3, o4, o5, o6, o7, o8, o9, rfl⟩, ts, et, gt, g1, F1⟩
    obtain ⟨s, hs, rfl⟩ := map_get hx
    have hi := lt_of_get hs
    obtain ⟨ok, bs⟩ := hp s (List.mem_of_getElem? hs)
    rw [take_filter hs]
    have lt : ts.length ≤ i := by
      have := take_filter_len (notSaid q) p.rows i
      rw [← et, List.length_map] at this
      exact this
    rw [enS_e]
    wp_walk
    rw [w_seqF]
    wp_walk
    refine ⟨rfl, outside_ok (s := ⟨false, s.name, s.a, s.b, s.lo, s.hi⟩) w nn ⟨ok.1, ok.2.1⟩ fun h2 F2 => ?_⟩
    rw [show outS q ⟨false, s.name, s.a, s.b, s.lo, s.hi⟩ = outS q s from rfl]
    cases e : outS q s with
    | none =>
      have en : notSaid q s = false := by unfold notSaid; rw [e]; rfl
      wp_walk using enO_n
      exact ⟨⟨_, _, _, _, _, _, _, rfl⟩, ts, by rw [et, en]; simp, gt, F2.get g1, F1.trans F2.up⟩
    | some g =>
      have en : notSaid q s = true := by unfold notSaid; rw [e]; rfl
      obtain ⟨k1, k2, _⟩ := out_gap w nn e
      have g2 := F2.get g1
      wp_walk using enO_s, g2
      refine ⟨rfl, datesWith_ok w nn b ok.1 ok.2.1 ok.2.2 hm hr (gap_bd w nn b hm hr bs ⟨ok.1, ok.2.1⟩ e) k1 k2 fun f h3 mf f0 fg fb F3 => ?_⟩
      have g3 := F3.get (F2.get g1)
      wp_walk using g3
      refine ⟨by omega, ⟨_, _, _, _, _, _, _, rfl⟩, ts ++ [(s, f)], by rw [List.map_append, et, en]; rfl, ?_, by rw [get_set g3, List.map_append]; rfl, (F1.trans (F2.trans F3).up).trans (Fr.set (by simp))⟩
      intro t m
      rcases List.mem_append.mp m with m | m
      · exact gt t m
      · rw [List.mem_singleton.mp m]
        exact ⟨mf, f0, fb, by show outS q s = _; rw [e, fg]⟩
  · rintro env h1 ⟨⟨o3, o4, o5, o6, o7, o8, o9, rfl⟩, ts, et, gt, g1, F1⟩
    rw [List.length_map, List.take_length] at et
    wp_walk using g1
    exact hq ts _ et gt (F0.new F1 (by rw [hrl]; exact hnew))
/-! ### dates -/
theorem dateTable_ok {ms : List Nm} {f : Nm → Int} {h : Hs} {Q : D → Hs → Prop} {E : Ex → Hs → Prop} (hl : ms.length ≤ 100) (f0 : f zro = 0) (hq : ∀ n kvs h', h'[n]? = some (.dic false false kvs) → (∀ x ∈ zro :: ms, dfind kvs (.str x) = some (.int (f x))) → Fr [] h h' → Q (.ref n) h') : (P16.fn__law_date_table.go [enD ms f] h).wp Q E := by
  unfold P16.fn__law_date_table
  rw [w_defn]
  unfold P16.s__law_date_table
  wp_walk
  rw [w_seqF]
  wp_walk using w_dsp1
  unfold enD
  refine w_for (ms.map fun m => .tup [.str m, .int (f m)]) (fun _ => True) (fun i env h' => ∃ kvs, DF .int kvs (fun x => if x ∈ zro :: ms.take i then some (f x) else none) (i + 1) ∧ (∃ o2 o3, env = [some (.tup (ms.map fun m => .tup [.str m, .int (f m)])), some (.ref h.length), o2, o3]) ∧ h' = h ++ [.dic false false kvs]) ?_ (fun _ _ _ _ => trivial) ?_ ?_
  · wp_walk
    refine ⟨t_seq _ _, _, ⟨fun x => ?_, by simp⟩, ⟨_, _, rfl⟩, rfl⟩
    by_cases c : x = zro
    · subst c
      have : dfind [(D.str (cs "zero"), D.int 0)] (.str zro) = some (.int 0) := dfind_put_same [] _ _ (k_str zro)
      rw [this]; simp [f0]
    · have : dfind [(D.str (cs "zero"), D.int 0)] (.str x) = none := by
        have := dfind_put_ne [] (.str zro) (.int 0) (.str x) (fun q => c (D.str.inj q).symm)
        exact this
      rw [this]; simp [c]
  · rintro i x env h1 hx ⟨kvs, d, ⟨o2, o3, rfl⟩, rfl⟩
    obtain ⟨m, hm, rfl⟩ := map_get hx
    have hi := lt_of_get hm
    have g : (h ++ [Cell.dic false false kvs])[h.length]? = some (.dic false false kvs) := get_new1
    have dp := d.put m (f m)
    have ef : setF (fun x => if x ∈ zro :: ms.take i then some (f x) else none) m (f m) = fun x => if x ∈ zro :: ms.take (i + 1) then some (f x) else none := by
      funext y
      have ht : ms.take (i + 1) = ms.take i ++ [m] := by rw [List.take_add_one, hm]; rfl
      rw [ht]
      by_cases c : y = m
      · rw [c, setF_same]; simp
      · rw [setF_ne _ _ c]; simp [c]
    rw [ef] at dp
    wp_walk using g, set_new
    exact ⟨by have := d.2; omega, _, dp, ⟨_, _, rfl⟩, rfl⟩
  · rintro env h1 ⟨kvs, d, ⟨o2, o3, rfl⟩, rfl⟩
    rw [List.length_map, List.take_length] at d
    wp_walk
    refine hq _ kvs _ get_new1 (fun x m => ?_) .app
    rw [d.1 x]; dsimp only; rw [if_pos m]; rfl
def metB (f : Nm → Int) (s : Spn) : Bool := (match s.lo with | none => true | some l => decide (l ≤ f s.b - f s.a)) && (match s.hi with | none => true | some u => decide (f s.b - f s.a ≤ u))
theorem met_ok {s : Spn} {n : Nat} {kvs : List (D × D)} {f : Nm → Int} {h : Hs} {Q : D → Hs → Prop} {E : Ex → Hs → Prop} (e : h[n]? = some (.dic false false kvs)) (ha : dfind kvs (.str s.a) = some (.int (f s.a))) (hb : dfind kvs (.str s.b) = some (.int (f s.b))) (hq : Q (.bl (metB f s)) h) : (P16.fn__law_met.go [enS s, .ref n] h).wp Q E := by
  unfold P16.fn__law_met
  rw [w_defn]
  unfold P16.s__law_met
  rw [enS_e]
  unfold metB at hq
  wp_walk using e, ha, hb
  generalize f s.b - f s.a = d at *
  cases q1 : s.lo with
  | none =>
    rw [q1] at hq
    cases q2 : s.hi with
    | none =>
      rw [q2] at hq
      wp_walk using enO_n
      exact hq
    | some u =>
      rw [q2] at hq
      wp_walk using enO_n, enO_s
      exact hq
  | some l =>
    rw [q1] at hq
    dsimp only at hq
    cases q2 : s.hi with
    | none =>
      rw [q2] at hq
      wp_walk using enO_n, enO_s
      by_cases c : l ≤ d
      · rw [decide_eq_true c] at hq
        rw [decide_eq_true (show d ≥ l from c)]
        wp_walk using enO_n
        exact hq
      · rw [decide_eq_false c] at hq
        rw [decide_eq_false (show ¬ d ≥ l from c)]
        wp_walk
        exact hq
    | some u =>
      rw [q2] at hq
      wp_walk using enO_n, enO_s
      by_cases c : l ≤ d
      · rw [decide_eq_true c] at hq
        rw [decide_eq_true (show d ≥ l from c)]
        wp_walk using enO_s
        exact hq
      · rw [decide_eq_false c] at hq
        rw [decide_eq_false (show ¬ d ≥ l from c)]
        wp_walk
        exact hq
theorem met_true {p : Pln} {f : Nm → Int} {s : Spn} (mt : Meets (arcsP p.rows) f) (hs : s ∈ p.rows) : metB f s = true := by
  have h1 : ∀ l, s.lo = some l → l ≤ f s.b - f s.a := fun l e => by
    have := mt s.b s.a (0 - l) (arcs_mem.mpr ⟨s, hs, arcs_one.mpr (.inl ⟨l, e, rfl, rfl, rfl⟩)⟩)
    omega
  have h2 : ∀ u, s.hi = some u → f s.b - f s.a ≤ u := fun u e => mt s.a s.b u (arcs_mem.mpr ⟨s, hs, arcs_one.mpr (.inr ⟨u, e, rfl, rfl, rfl⟩)⟩)
  unfold metB
  cases q1 : s.lo with
  | none =>
    cases q2 : s.hi with
    | none => rfl
    | some u => simpa using h2 u q2
  | some l =>
    cases q2 : s.hi with
    | none => simpa using h1 l q1
    | some u => simpa using ⟨h1 l q1, h2 u q2⟩
theorem whole_ok {d lo hi : Int} {h : Hs} {Q : D → Hs → Prop} {E : Ex → Hs → Prop} (h1 : lo ≤ d) (h2 : d ≤ hi) (hq : Q (.bl true) h) : (P16.fn__law_whole.go [.int d, .int lo, .int hi] h).wp Q E := by
  unfold P16.fn__law_whole
  rw [w_defn]
  unfold P16.s__law_whole
  wp_walk
  rw [decide_eq_true h1]
  wp_walk
  rw [decide_eq_true h2]
  exact hq
theorem datesRight_x {q : Pln} {f : Nm → Int} {X P : D} {h : Hs} {Q : D → Hs → Prop} {E : Ex → Hs → Prop} (eX : X = enD q.marks f) (eP : P = enP q) (w : WP q) (mt : Meets (arcsP q.rows) f) (f0 : f zro = 0) (hb : ∀ m ∈ q.marks, (f m).natAbs ≤ 9999999) (nm : ∀ m ∈ q.marks, m.length ≤ 10000) (hq : ∀ h', Fr [] h h' → Q (.bl true) h') : (P16.fn__law_dates_right.go [P, X] h).wp Q E := by
  have fm := w.fm
  unfold P16.fn__law_dates_right
  rw [w_defn]
  unfold P16.s__law_dates_right
  refine w_cut (fun env h' => env = [some P, some X, none, none, none] ∧ h = h') ?_ ?_
  · subst eX eP
    unfold enD
    wp_walk using ixP, ne_eq, not_true_eq_false
  rintro _ _ ⟨rfl, rfl⟩
  refine w_cut (fun env h2 => (∃ o2 o3 o4, env = [some P, some X, o2, o3, o4]) ∧ Fr [] h h2) ?_ ?_
  · refine w_for ((List.range q.marks.length).map fun i : Nat => D.int (i : Int)) (fun _ => True) (fun i env h2 => (∃ o2 o3 o4, env = [some P, some X, o2, o3, o4]) ∧ Fr [] h h2) ?_ (fun _ _ _ _ => trivial) ?_ ?_
    · have sm : small (q.marks.length : Int) = true := by unfold small; simp; omega
      subst eX eP
      unfold enD
      wp_walk using sm
      exact ⟨t_rng0 _ _, ⟨_, _, _, rfl⟩, Fr.refl⟩
    · rintro i x env h1 hx ⟨⟨o2, o3, o4, rfl⟩, F⟩
      obtain ⟨j, hj, rfl⟩ := map_get hx
      have hi : i < q.marks.length := by
        have := lt_of_get hj
        simpa using this
      rw [List.getElem?_range hi] at hj
      cases hj
      obtain ⟨m, hm⟩ : ∃ m, q.marks[i]? = some m := ⟨_, List.getElem?_eq_getElem hi⟩
      have mm := List.mem_of_getElem? hm
      have eX2 : X = .tup (q.marks.map fun m => .tup [.str m, .int (f m)]) := eX
      have gi : (q.marks.map fun m => D.tup [.str m, .int (f m)])[i]? = some (.tup [.str m, .int (f m)]) := by rw [List.getElem?_map, hm]; rfl
      have gm : (q.marks.map D.str)[i]? = some (.str m) := by rw [List.getElem?_map, hm]; rfl
      have ix : ∀ hh, ixOp hh X (.int i) = .ok (.tup [.str m, .int (f m)]) hh := fun hh => by
        rw [eX2, ix_tup, atN, gi]; rfl
      have ip : ∀ hh j, ixOp hh P j = ixOp hh (enP q) j := fun hh j => by rw [eP]
      have lk : Lk (.str m) := ⟨nm m mm⟩
      have bd := hb m mm
      wp_walk
      rw [w_seqF]
      wp_walk using ix, ip, ixP, atN, gm, show decide (((2 : Nat) : Int) = 2) = true from rfl
      refine ⟨rfl, ?_⟩
      generalize D.str m = Y at lk ⊢
      refine like_ok lk fun h2 F2 => ?_
      wp_walk
      refine ⟨rfl, whole_ok (by omega) (by omega) ?_⟩
      wp_walk
      exact ⟨⟨_, _, _, rfl⟩, F.trans F2⟩
    · rintro env h1 ⟨⟨o2, o3, o4, rfl⟩, F⟩
      wp_walk
      exact ⟨⟨_, _, _, rfl⟩, F⟩
  rintro _ h2 ⟨⟨o2, o3, o4, rfl⟩, F2⟩
  subst eX eP
  wp_walk
  rw [w_seqF]
  wp_walk
  refine ⟨rfl, dateTable_ok (by omega) f0 fun n kvs h3 e3 d3 F3 => ?_⟩
  wp_walk
  refine w_lc (q.rows.map enS) (fun _ => True) (fun i acc h' => acc = [] ∧ Fr [] h3 h') ?_ (fun _ _ _ _ => trivial) ?_ ?_ ?_
  · wp_walk using ixP
    exact ⟨t_seq _ _, Fr.refl⟩
  · rintro i acc h' ⟨rfl, _⟩
    show _ < 16777217
    simp
  · rintro i x acc h' hx ⟨rfl, F⟩
    obtain ⟨s, hs, rfl⟩ := map_get hx
    have ms := List.mem_of_getElem? hs
    have ok := w.ok s ms
    wp_walk
    refine ⟨rfl, met_ok (F.get e3) (d3 _ ok.1) (d3 _ ok.2.1) ?_⟩
    rw [met_true mt ms]
    wp_walk
    exact F
  · rintro acc h' ⟨rfl, F⟩
    have l1 : ∀ (H : Hs) (a c : Cell), (H ++ [a] ++ [c])[H.length]? = some a := fun H a c => get_old get_new1
    have l2 : ∀ (H : Hs) (a c : Cell), (H ++ [a] ++ [c])[(H ++ [a]).length]? = some c := fun H a c => get_new1
    wp_walk
    rw [eq_refs (l1 _ _ _) (l2 _ _ _) (by rfl) (by rfl)]
    wp_walk using show deqs [] [] = true from rfl
    exact hq _ (F2.trans (F3.trans (F.trans (Fr.app.push))))
theorem datesRight_ok {q : Pln} {f : Nm → Int} {h : Hs} {Q : D → Hs → Prop} {E : Ex → Hs → Prop} (w : WP q) (mt : Meets (arcsP q.rows) f) (f0 : f zro = 0) (hb : ∀ m ∈ q.marks, (f m).natAbs ≤ 9999999) (nm : ∀ m ∈ q.marks, m.length ≤ 10000) (hq : ∀ h', Fr [] h h' → Q (.bl true) h') : (P16.fn__law_dates_right.go [enP q, enD q.marks f] h).wp Q E := datesRight_x rfl rfl w mt f0 hb nm hq
/-! LO: another plan over the same marks. -/
open PySem PySem.Spec PyProof.Rows L2
theorem cutS (a b c d e f : D) : cutD [a, b, c, d, e, f] none (some 4) = [a, b, c, d] := rfl
theorem slS (h : Hs) (s : Spn) (lo hi : Option Int) : slOp h (enS s) lo hi = .ok (.tup (cutD [.str (kindOf s.loose), .str s.name, .str s.a, .str s.b, enO s.lo, enO s.hi] lo hi)) h := rfl
theorem w_src {s : Sv} {t : Tg} {b els : Sf} {env : Env} {h : Hs} {N : Po} (hs : (s env h).wp (fun src h1 => (forF (fun _ h2 => .ok src h2) t b els env h1).wp N) (fun e h1 => N.ex e env h1)) : (forF s t b els env h).wp N := by
  unfold forF
  rw [w_fl]
  refine Res.wp_q hs fun src h1 q => ?_
  unfold forF at q
  rw [w_fl] at q
  exact q
theorem cs_n : cs "n" = [110] := by decide +kernel
structure OP (ms : List Nm) (R : List Spn) : Prop where
  ok : ∀ s ∈ R, s.a ∈ zro :: ms ∧ s.b ∈ zro :: ms ∧ s.a ≠ s.b
  bd : ∀ s ∈ R, OkB s.lo s.hi
  nn : NoNeg (arcsP R)
theorem OkB.sm {s : Spn} (b : OkB s.lo s.hi) : (∀ l, s.lo = some l → l.natAbs ≤ 9) ∧ (∀ u, s.hi = some u → u.natAbs ≤ 9) := ⟨fun l e => by have := b.l l e; omega, fun u e => by have := b.u u e; omega⟩
theorem OP.sm {ms : List Nm} {R : List Spn} (o : OP ms R) : SmB R := fun s m => (o.bd s m).sm
/-- the test whether one more holds -/
theorem add_test {b dg rl i : Nat} {p : Pln} {R : List Spn} {s : Spn} {h : Hs} {Q : D → Hs → Prop} {E : Ex → Hs → Prop} (wn : (zro :: p.marks).Nodup) (fm : p.marks.length ≤ 40) (hR : R.length + 1 ≤ 140) (o : OP p.marks R) (hs : s.a ∈ zro :: p.marks ∧ s.b ∈ zro :: p.marks ∧ s.a ≠ s.b) (bs : OkB s.lo s.hi)
    (hq : ∀ (c : Bool) h', (c = true → OP p.marks (R ++ [s])) → Fr [] h h' → Q (.bl c) h') : (PH.fn__law_holds.go [enP ⟨p.marks, R ++ [s]⟩] h).wp Q E := by
  have wp : WP ⟨p.marks, R ++ [s]⟩ := ⟨wn, fm, by simp; omega, fun r hr => by
    rcases List.mem_append.mp hr with m | m
    · exact o.ok r m
    · rw [List.mem_singleton.mp m]; exact hs⟩
  refine lawHolds_ok wp fun c h' hc F => hq c h' (fun e => ⟨wp.ok, fun r hr => ?_, hc.mp e⟩) F
  rcases List.mem_append.mp hr with m | m
  · exact o.bd r m
  · rw [List.mem_singleton.mp m]; exact bs
theorem otherPlan_ok {b dg : Nat} {p : Pln} {h : Hs} {Q : D → Hs → Prop} {E : Ex → Hs → Prop} (hb : Bx b dg h) (gp : GP p) (m0 : p.marks ≠ []) (hr : p.rows.length ≤ 20)
    (hq : ∀ R h', OP p.marks R → R.length ≤ p.rows.length + 2 → Bx b dg h' → Fr [b] h h' → Q (enP ⟨p.marks, R⟩) h') : (P16.fn__law_other_plan.go [.ref b, enP p] h).wp Q E := by
  have w := gp.wp
  have fm := w.fm
  unfold P16.fn__law_other_plan
  rw [w_defn]
  unfold P16.s__law_other_plan
  wp_walk
  rw [w_seqF]
  wp_walk
  have g0 : (h ++ [Cell.lst []])[h.length]? = some (.lst []) := get_new1
  have F0 : Fr [b] h (h ++ [Cell.lst []]) := .app
  have B0 := hb.fr (Fr.app (g := [Cell.lst []]))
  have lb := hb.lt
  have ld := hb.ltd
  have hRl : h.length ≤ h.length := Nat.le_refl _
  generalize hrl : h.length = rl at *
  generalize h ++ [Cell.lst []] = h0 at *
  have hle : h.length ≤ rl := by omega
  refine w_cut (fun env h' => (∃ o3 o4 o5, env = [some (.ref b), some (enP p), some (.ref rl), o3, o4, o5]) ∧ ∃ R, OP p.marks R ∧ R.length ≤ p.rows.length ∧ h'[rl]? = some (.lst (R.map enS)) ∧ Bx b dg h' ∧ Fr [b] h h') ?_ ?_
  · refine w_for (p.rows.map enS) (fun _ => True) (fun i env h' => (∃ o3 o4 o5, env = [some (.ref b), some (enP p), some (.ref rl), o3, o4, o5]) ∧ ∃ R, OP p.marks R ∧ R.length ≤ i ∧ h'[rl]? = some (.lst (R.map enS)) ∧ Bx b dg h' ∧ Fr [b] h h') ?_ (fun _ _ _ _ => trivial) ?_ ?_
    · wp_walk using ixP
      exact ⟨t_seq _ _, ⟨_, _, _, rfl⟩, [], ⟨fun _ q => (nomatch q), fun _ q => (nomatch q), noNeg_nil⟩, Nat.zero_le _, g0, B0, F0⟩
    · clear g0 B0 F0 h0
      rintro i x env h1 hx ⟨⟨o3, o4, o5, rfl⟩, R, op, lR, gR, B, F⟩
      obtain ⟨s, hs, rfl⟩ := map_get hx
      have hi := lt_of_get hs
      have ms := List.mem_of_getElem? hs
      have ok := w.ok s ms
      have bs := gp.rows.bd s ms
      have nb : rl ∉ [b] := by simp; omega
      wp_walk
      rw [w_seqF]
      wp_walk
      refine w_cut (fun env h2 => ∃ z : Spn, (z.a = s.a ∧ z.b = s.b) ∧ OkB z.lo z.hi ∧ env = [some (.ref b), some (enP p), some (.ref rl), some (enS s), o4, some (enS z)] ∧ h2[rl]? = some (.lst (R.map enS)) ∧ Bx b dg h2 ∧ Fr [b] h h2) ?_ ?_
      · wp_walk using ixS, kind_sp
        cases hlo : s.loose with
        | true =>
          wp_walk
          exact ⟨s, ⟨rfl, rfl⟩, bs, rfl, gR, B, F⟩
        | false =>
          wp_walk
          refine ⟨rfl, draw_ok B (by decide) fun v h2 _ _ B2 F2 => ?_⟩
          wp_walk
          refine wif_d (fun c => ?_) (fun c => ?_)
          · wp_walk using slS, cutS
            refine ⟨rfl, bounds_ok B2 fun lo hi h3 ob B3 F3 => ?_⟩
            wp_walk
            refine ⟨⟨false, s.name, s.a, s.b, lo, hi⟩, ⟨rfl, rfl⟩, ob, by rw [hlo]; rfl, F3.get (F2.get gR nb) nb, B3, F.trans (F2.trans F3)⟩
          · wp_walk
            exact ⟨s, ⟨rfl, rfl⟩, bs, rfl, F2.get gR nb, B2, F.trans F2⟩
      · clear gR B F h1
        rintro _ h1 ⟨z, ⟨ea, eb⟩, bz, rfl, gR, B, F⟩
        have okz : z.a ∈ zro :: p.marks ∧ z.b ∈ zro :: p.marks ∧ z.a ≠ z.b := by rw [ea, eb]; exact ok
        wp_walk
        refine ⟨rfl, draw_ok B (by decide) fun v h2 _ _ B2 F2 => ?_⟩
        have g2 := F2.get gR nb
        wp_walk
        refine wif_d (fun c => ?_) (fun c => ?_)
        · have l1 : (h2 ++ [Cell.lst [enS z]])[rl]? = some (.lst (R.map enS)) := get_old g2
          have l2 : (h2 ++ [Cell.lst [enS z]])[h2.length]? = some (.lst [enS z]) := get_new1
          have l3 : (h2 ++ [Cell.lst [enS z]] ++ [Cell.lst (R.map enS ++ [enS z])])[(h2 ++ [Cell.lst [enS z]]).length]? = some (.lst (R.map enS ++ [enS z])) := get_new1
          wp_walk using ixP, l1, l2, l3
          rw [show D.tup [.str (cs "plan"), .tup (p.marks.map .str), .tup (R.map enS ++ [enS z])] = enP ⟨p.marks, R ++ [z]⟩ by unfold enP; simp]
          refine ⟨by omega, rfl, add_test (b := b) (dg := dg) (rl := rl) (i := i) w.nd fm (by omega) op okz bz fun c h3 hc F3 => ?_⟩
          have G3 : Fr [] h2 h3 := (Fr.app.push).trans F3
          have g3 := G3.get g2
          cases c with
          | true =>
            wp_walk using g3
            refine ⟨by omega, ⟨_, _, _, rfl⟩, R ++ [z], hc rfl, by simp; omega, by rw [get_set g3, List.map_append]; rfl, (B2.fr G3).set (by omega) (by omega), (F.trans (F2.trans G3.up)).setNew hle⟩
          | false =>
            wp_walk
            exact ⟨⟨_, _, _, rfl⟩, R, op, by omega, g3, B2.fr G3, F.trans (F2.trans G3.up)⟩
        · wp_walk using decide_eq_false c
          exact ⟨⟨_, _, _, rfl⟩, R, op, by omega, g2, B2, F.trans F2⟩
    · rintro env h1 ⟨⟨o3, o4, o5, rfl⟩, R, op, lR, gR, B, F⟩
      rw [List.length_map] at lR
      wp_walk
      exact ⟨⟨_, _, _, rfl⟩, R, op, lR, gR, B, F⟩
  clear g0 B0 F0 h0
  rintro env h1 ⟨⟨o3, o4, o5, rfl⟩, R0, op0, lR0, gR0, B0, F0⟩
  have nb : rl ∉ [b] := by simp; omega
  refine w_cut (fun env h' => (∃ o3 o4 o5, env = [some (.ref b), some (enP p), some (.ref rl), o3, o4, o5]) ∧ ∃ R, OP p.marks R ∧ R.length ≤ p.rows.length + 2 ∧ h'[rl]? = some (.lst (R.map enS)) ∧ Bx b dg h' ∧ Fr [b] h h') ?_ ?_
  · have src : ∀ (o3 o4 o5 : Option D) (Z : Src → Hs → Prop), (∀ k h', k ≤ 2 → h'[rl]? = some (.lst (R0.map enS)) → Bx b dg h' → Fr [b] h h' → Z (rngSrc 0 1 k) h') → (rS (aCons (fE (aCons (vE 0) (aCons (kE (.int 3)) aNil)) PH.fn__law_draw) aNil) rng1Of [some (.ref b), some (enP p), some (.ref rl), o3, o4, o5] h1).wp Z E := fun o3 o4 o5 Z hZ => by
      wp_walk
      refine ⟨rfl, draw_ok B0 (by decide) fun v h2 p1 p2 B2 F2 => ?_⟩
      obtain ⟨n, rfl⟩ := Int.eq_ofNat_of_zero_le p1
      have sm : small (n : Int) = true := by unfold small; simp; omega
      wp_walk using sm
      exact hZ n h2 (by omega) (F2.get gR0 nb) B2 (F0.trans F2)
    refine w_src (src _ _ _ _ fun k h2 hk g2 B2 F2 => ?_)
    refine w_for ((List.range k).map fun i : Nat => D.int (i : Int)) (fun _ => True) (fun i env h' => (∃ o3 o4 o5, env = [some (.ref b), some (enP p), some (.ref rl), o3, o4, o5]) ∧ ∃ R, OP p.marks R ∧ R.length ≤ p.rows.length + i ∧ h'[rl]? = some (.lst (R.map enS)) ∧ Bx b dg h' ∧ Fr [b] h h') ?_ (fun _ _ _ _ => trivial) ?_ ?_
    · rw [w_ok]
      exact ⟨t_rng0 _ _, ⟨_, _, _, rfl⟩, R0, op0, lR0, g2, B2, F2⟩
    · clear g2 B2 F2 h2 gR0 B0 F0
      rintro i x env h2 hx ⟨⟨o3, o4, o5, rfl⟩, R, op, lR, gR, B, F⟩
      obtain ⟨hi, rfl⟩ := range_get0 hx
      have ln := num_len i (by omega)
      wp_walk
      rw [w_seqF]
      wp_walk using ixP, num_log (show i < 1900 by omega)
      refine ⟨by rw [cs_n, show ([110] : List Nat).length = 1 from rfl]; omega, rfl, span_ok B w.nd m0 (by omega) fun x y lo hi h3 hx hy hxy ob B3 F3 => ?_⟩
      have g3 := F3.get gR nb
      generalize (cs "n" ++ cs (toString (i : Int)) : Nm) = nm at *
      have okz : (⟨false, nm, x, y, lo, hi⟩ : Spn).a ∈ zro :: p.marks ∧ (⟨false, nm, x, y, lo, hi⟩ : Spn).b ∈ zro :: p.marks ∧ (⟨false, nm, x, y, lo, hi⟩ : Spn).a ≠ (⟨false, nm, x, y, lo, hi⟩ : Spn).b := ⟨hx, hy, hxy⟩
      have bz : OkB (⟨false, nm, x, y, lo, hi⟩ : Spn).lo (⟨false, nm, x, y, lo, hi⟩ : Spn).hi := ob
      generalize (⟨false, nm, x, y, lo, hi⟩ : Spn) = z at *
      have l1 : (h3 ++ [Cell.lst [enS z]])[rl]? = some (.lst (R.map enS)) := get_old g3
      have l2 : (h3 ++ [Cell.lst [enS z]])[h3.length]? = some (.lst [enS z]) := get_new1
      have l3 : (h3 ++ [Cell.lst [enS z]] ++ [Cell.lst (R.map enS ++ [enS z])])[(h3 ++ [Cell.lst [enS z]]).length]? = some (.lst (R.map enS ++ [enS z])) := get_new1
      wp_walk using ixP, l1, l2, l3
      rw [show D.tup [.str (cs "plan"), .tup (p.marks.map .str), .tup (R.map enS ++ [enS z])] = enP ⟨p.marks, R ++ [z]⟩ by unfold enP; simp]
      refine ⟨by omega, rfl, add_test (b := b) (dg := dg) (rl := rl) (i := i) w.nd fm (by omega) op okz bz fun c h4 hc F4 => ?_⟩
      have G4 : Fr [] h3 h4 := (Fr.app.push).trans F4
      have g4 := G4.get g3
      cases c with
      | true =>
        wp_walk using g4
        refine ⟨by omega, ⟨_, _, _, rfl⟩, R ++ [z], hc rfl, by simp; omega, by rw [get_set g4, List.map_append]; rfl, (B3.fr G4).set (by omega) (by omega), (F.trans (F3.trans G4.up)).setNew hle⟩
      | false =>
        wp_walk
        exact ⟨⟨_, _, _, rfl⟩, R, op, by omega, g4, B3.fr G4, F.trans (F3.trans G4.up)⟩
    · rintro env h2 ⟨⟨o3, o4, o5, rfl⟩, R, op, lR, gR, B, F⟩
      rw [List.length_map, List.length_range] at lR
      wp_walk
      exact ⟨⟨_, _, _, rfl⟩, R, op, by omega, gR, B, F⟩
  rintro env h2 ⟨⟨o3, o4, o5, rfl⟩, R, op, lR, gR, B, F⟩
  wp_walk using ixP, gR
  rw [show D.tup [.str (cs "plan"), .tup (p.marks.map .str), .tup (R.map enS)] = enP ⟨p.marks, R⟩ from rfl]
  exact hq R h2 op lR B F
/-! LK: the law k08. -/
open PySem PySem.Spec PyProof.Rows L2
theorem Bx.frS {S : List Nat} {b dg : Nat} {h h' : Hs} (x : Bx b dg h) (f : Fr S h h') (h1 : b ∉ S) (h2 : dg ∉ S) : Bx b dg h' :=
  let ⟨ds, i, a, c, e1, e2⟩ := x
  ⟨ds, i, a, c, f.get e1 h1, f.get e2 h2⟩
def Ev1 (ns : List Int) (b : Nat) (env : Env) : Prop := ∃ o2 o3 o4 o5 o6 o7 o8 o9 o10 o11 o12 o13 o14 o15 o16 o17 o18 o19 o20, env = [some (.ls (ns.map .int)), some (.ref b), o2, o3, o4, o5, o6, o7, o8, o9, o10, o11, o12, o13, o14, o15, o16, o17, o18, o19, o20]
def Ev2 (ns : List Int) (b : Nat) (p : Pln) (tb du : Nat) (env : Env) : Prop := ∃ o2 o6 o7 o8 o9 o10 o11 o12 o13 o14 o15 o16 o17 o18 o19 o20, env = [some (.ls (ns.map .int)), some (.ref b), o2, some (enP p), some (.ref tb), some (.ref du), o6, o7, o8, o9, o10, o11, o12, o13, o14, o15, o16, o17, o18, o19, o20]
def Ev3 (ns : List Int) (b : Nat) (p : Pln) (env : Env) : Prop := ∃ o2 o4 o5 o6 o7 o8 o9 o10 o11 o12 o13 o14 o15 o16 o17 o18 o19 o20, env = [some (.ls (ns.map .int)), some (.ref b), o2, some (enP p), o4, o5, o6, o7, o8, o9, o10, o11, o12, o13, o14, o15, o16, o17, o18, o19, o20]
def Ev4 (ns : List Int) (b : Nat) (p : Pln) (lr : Nat) (env : Env) : Prop := ∃ o2 o4 o5 o6 o8 o9 o10 o11 o12 o13 o14 o15 o16 o17 o18 o19 o20, env = [some (.ls (ns.map .int)), some (.ref b), o2, some (enP p), o4, o5, o6, some (.ref lr), o8, o9, o10, o11, o12, o13, o14, o15, o16, o17, o18, o19, o20]
theorem lkO (o : Option Int) (d : Nat) : lkOk (d + 1) (enO o) := by cases o <;> exact trivial
theorem lkStrs (d : Nat) (xs : List Nm) (hl : xs.length ≤ 10000) (h : ∀ x ∈ xs, x.length ≤ 10000) : lkOk (d + 2) (.tup (xs.map .str)) := by
  refine ⟨by rw [List.length_map]; exact hl, fun x m => ?_⟩
  obtain ⟨y, hy, rfl⟩ := List.mem_map.mp m
  exact h y hy
theorem nm_small {n : Nat} : ∀ x ∈ zro :: abc.take n, x.length ≤ 10000 := fun x m => by
  have h : ∀ x ∈ zro :: abc, x.length ≤ 10000 := by decide +kernel
  rcases List.mem_cons.mp m with rfl | m
  · exact h _ List.mem_cons_self
  · exact h _ (List.mem_cons_of_mem _ (List.mem_of_mem_take m))
theorem lkS {d : Nat} {s : Spn} (h1 : s.name.length ≤ 10000) (h2 : s.a.length ≤ 10000) (h3 : s.b.length ≤ 10000) : lkOk (d + 2) (enS s) := by
  refine ⟨by simp, fun x m => ?_⟩
  simp only [List.mem_cons, List.not_mem_nil, or_false] at m
  rcases m with rfl | rfl | rfl | rfl | rfl | rfl
  · show (kindOf s.loose).length ≤ 10000
    cases s.loose <;> decide +kernel
  · exact h1
  · exact h2
  · exact h3
  · exact lkO _ _
  · exact lkO _ _
theorem lkP {p : Pln} (g : GP p) : lkOk 12 (enP p) := by
  obtain ⟨n, hn, e⟩ := g.n
  have sm : ∀ x ∈ zro :: p.marks, x.length ≤ 10000 := by rw [e]; exact nm_small
  refine ⟨by simp, fun x m => ?_⟩
  simp only [List.mem_cons, List.not_mem_nil, or_false] at m
  rcases m with rfl | rfl | rfl
  · show (cs "plan").length ≤ 10000
    decide +kernel
  · exact lkStrs 9 _ (by rw [e, List.length_take]; omega) fun x m => sm x (List.mem_cons_of_mem _ m)
  · refine ⟨by rw [List.length_map]; have := g.few; omega, fun x m => ?_⟩
    obtain ⟨s, hs, rfl⟩ := List.mem_map.mp m
    have ok := g.rows.ok s hs
    exact lkS (Nat.le_trans (g.rows.nl s hs) (by decide)) (sm _ ok.1) (sm _ ok.2.1)
theorem GP.sub {p : Pln} {rows : List Spn} (g : GP p) (s : rows.Sublist p.rows) : GP ⟨p.marks, rows⟩ := ⟨g.n, g.rows.sub s, Nat.le_trans s.length_le g.few⟩
theorem law08 (ns : List Int) (hns : ns.length ≤ 63) : ∃ h', PH.fn_law.go [.ls (ns.map .int)] [] = .ok (.bl true) h' := by
  have key : (PH.fn_law.go [.ls (ns.map .int)] []).wp (fun d _ => d = .bl true) (fun _ _ => False) := by
    unfold PH.fn_law
    rw [w_defn]
    unfold PH.s_law
    wp_walk
    rw [w_seqF]
    wp_walk
    refine ⟨rfl, digits_ok fun ds dg h1 hdg F1 edg _ => ?_⟩
    wp_walk
    rw [w_seqF]
    have B0 : Bx h1.length dg (h1 ++ [Cell.lst [.ref dg, .int 0]]) := ⟨ds, 0, by have := get_lt hdg; omega, by decide, get_new1, get_old hdg⟩
    generalize hb : h1.length = b at *
    generalize h1 ++ [Cell.lst [.ref dg, .int 0]] = h2 at *
    clear hdg F1 edg hb h1
    refine w_for ((List.range 2).map fun i => .int ((i : Nat) : Int)) (fun _ => True) (fun i env h' => Ev1 ns b env ∧ Bx b dg h') ?_ (fun _ _ _ _ => trivial) ?_ ?_
    · wp_walk using show small 2 = true from rfl
      exact ⟨t_rng0 2 _, ⟨_, _, _, _, _, _, _, _, _, _, _, _, _, _, _, _, _, _, _, rfl⟩, B0⟩
    · clear B0 h2
      rintro k x env h0 hx ⟨⟨o2, o3, o4, o5, o6, o7, o8, o9, o10, o11, o12, o13, o14, o15, o16, o17, o18, o19, o20, rfl⟩, B0⟩
      wp_walk
      rw [w_seqF]
      wp_walk
      refine ⟨rfl, draw_ok B0 (by decide) fun v1 h1 p1 q1 B1 _ => ?_⟩
      wp_walk
      refine ⟨rfl, draw_ok B1 (by decide) fun v2 h2 p2 q2 B2 _ => ?_⟩
      wp_walk
      refine ⟨rfl, draw_ok B2 (by decide) fun v3 h3 p3 q3 B3 _ => ?_⟩
      obtain ⟨n1, rfl⟩ := Int.eq_ofNat_of_zero_le p1
      obtain ⟨n2, rfl⟩ := Int.eq_ofNat_of_zero_le p2
      obtain ⟨n3, rfl⟩ := Int.eq_ofNat_of_zero_le p3
      wp_walk
      rw [show (1 : Int) + (n1 : Int) = ((1 + n1 : Nat) : Int) by omega, show (2 : Int) + (n2 : Int) = ((2 + n2 : Nat) : Int) by omega]
      refine ⟨rfl, lawHolding_ok B3 (by omega) (by omega) (by omega) fun p h4 gp em lr _ nn B4 _ => ?_⟩
      clear B0 B1 B2 B3
      have w := gp.wp
      have fr := gp.few
      have fm : p.marks.length ≤ 7 := by rw [em, List.length_take]; omega
      have m0 : p.marks ≠ [] := by rw [em]; intro q; have := congrArg List.length q; rw [List.length_take] at this; simp [abc] at this
      have sm : ∀ x ∈ zro :: p.marks, x.length ≤ 10000 := by rw [em]; exact nm_small
      wp_walk
      rw [w_seqF]
      wp_walk
      refine ⟨rfl, lawSteps_ok (by omega) ?_⟩
      wp_walk
      refine ⟨rfl, lawClosure_ok (by omega) get_new1 (fun t ht => ⟨(w.step ht).1, (w.step ht).2.1⟩) fun kvs tb h5 ta e5 F5 => ?_⟩
      have B5 := (B4.fr .app).fr F5
      have nd7 := gp.rows.nd
      have ta : TabA kvs (tblP p) (fun x y => x ∈ zro :: p.marks ∧ y ∈ zro :: p.marks) 2000 := ta
      wp_walk
      rw [w_seqF]
      wp_walk
      have e6 : (h5 ++ [Cell.lst []])[tb]? = some (.dic true false kvs) := get_old e5
      have d6 : (h5 ++ [Cell.lst []])[h5.length]? = some (.lst []) := get_new1
      have B6 := B5.fr (Fr.app (g := [Cell.lst []]))
      have nb : b ≠ h5.length := by have := B5.lt; omega
      have nd : dg ≠ h5.length := by have := B5.ltd; omega
      generalize h5.length = du at *
      generalize h5 ++ [Cell.lst []] = h6 at *
      have ntd : tb ≠ du := fun e => by (rw [e, d6] at e6; cases e6)
      clear e5 F5 B5 B4
      -- each span
      refine w_cut (fun env h' => Ev2 ns b p tb du env ∧ h'[du]? = some (.lst ((p.rows.filter (tightB (tblP p))).map fun s => .str s.name)) ∧ Bx b dg h') ?_ ?_
      · refine w_for (p.rows.map enS) (fun _ => True) (fun i env h' => Ev2 ns b p tb du env ∧ h'[du]? = some (.lst (((p.rows.take i).filter (tightB (tblP p))).map fun s => .str s.name)) ∧ Fr [du] h6 h') ?_ (fun _ _ _ _ => trivial) ?_ ?_
        · wp_walk using ixP
          exact ⟨t_seq _ _, ⟨_, _, _, _, _, _, _, _, _, _, _, _, _, _, _, _, rfl⟩, d6, Fr.refl⟩
        · rintro i x env h7 hx ⟨⟨o2, o6, o7, o8, o9, o10, o11, o12, o13, o14, o15, o16, o17, o18, o19, o20, rfl⟩, gd, F⟩
          obtain ⟨s, hs, rfl⟩ := map_get hx
          have hi := lt_of_get hs
          have ms := List.mem_of_getElem? hs
          have ok := w.ok s ms
          have e7 := F.get e6 (by simp [ntd])
          have f1 := ta.1 _ _ ⟨ok.1, ok.2.1⟩
          have f2 := ta.1 _ _ ⟨ok.2.1, ok.1⟩
          have tl := take_filter_len (tightB (tblP p)) p.rows i
          rw [take_filter hs]
          rw [enS_e]
          wp_walk
          refine w_cut (fun env h' => env = [some (.ls (ns.map .int)), some (.ref b), o2, some (enP p), some (.ref tb), some (.ref du), o6, o7, o8, some (.str (kindOf s.loose)), some (.str s.name), some (.str s.a), some (.str s.b), some (enO s.lo), some (enO s.hi), o15, o16, o17, some (enO (tblP p s.a s.b)), some (enO (tblP p s.b s.a)), o20] ∧ h7 = h') ?_ ?_
          · wp_walk using e7, f1, f2
          rintro _ _ ⟨rfl, rfl⟩
          refine w_cut (fun env h' => env = [some (.ls (ns.map .int)), some (.ref b), o2, some (enP p), some (.ref tb), some (.ref du), o6, o7, o8, some (.str (kindOf s.loose)), some (.str s.name), some (.str s.a), some (.str s.b), some (enO s.lo), some (enO s.hi), some (enO (spO s.lo (tblP p s.a s.b))), o16, o17, some (enO (tblP p s.a s.b)), some (enO (tblP p s.b s.a)), o20] ∧ h7 = h') ?_ ?_
          · cases e1 : tblP p s.a s.b <;> cases e3 : s.lo <;> (wp_walk using enO, spO)
          rintro _ _ ⟨rfl, rfl⟩
          refine w_cut (fun env h' => env = [some (.ls (ns.map .int)), some (.ref b), o2, some (enP p), some (.ref tb), some (.ref du), o6, o7, o8, some (.str (kindOf s.loose)), some (.str s.name), some (.str s.a), some (.str s.b), some (enO s.lo), some (enO s.hi), some (enO (spO s.lo (tblP p s.a s.b))), some (enO (loO s.hi (tblP p s.b s.a))), o17, some (enO (tblP p s.a s.b)), some (enO (tblP p s.b s.a)), o20] ∧ h7 = h') ?_ ?_
          · cases e1 : tblP p s.b s.a <;> cases e3 : s.hi <;> (wp_walk using enO, loO)
          rintro _ _ ⟨rfl, rfl⟩
          have lk : Lk (.tup [enO (spO s.lo (tblP p s.a s.b)), enO (loO s.hi (tblP p s.b s.a))]) := ⟨⟨by simp, fun x m => by
            simp only [List.mem_cons, List.not_mem_nil, or_false] at m
            rcases m with rfl | rfl
            · exact lkO _ _
            · exact lkO _ _⟩⟩
          rw [w_seqF]
          wp_walk
          refine ⟨rfl, spare_ok w nn nd7 ms fun h8 F8 => ?_⟩
          wp_walk
          refine ⟨rfl, ?_⟩
          generalize D.tup [enO (spO s.lo (tblP p s.a s.b)), enO (loO s.hi (tblP p s.b s.a))] = X at lk ⊢
          refine like_ok lk fun h9 F9 => ?_
          wp_walk
          have G9 := F8.trans F9
          have gd9 := G9.get gd
          cases e1 : tblP p s.a s.b with
          | none =>
            have ht : tightB (tblP p) s = false := by unfold tightB; rw [e1]
            rw [ht]
            wp_walk using enO
            exact ⟨⟨_, _, _, _, _, _, _, _, _, _, _, _, _, _, _, _, rfl⟩, by rw [gd9]; simp, F.trans G9.up⟩
          | some x =>
            cases e2 : tblP p s.b s.a with
            | none =>
              have ht : tightB (tblP p) s = false := by unfold tightB; rw [e1, e2]
              rw [ht]
              wp_walk using enO
              exact ⟨⟨_, _, _, _, _, _, _, _, _, _, _, _, _, _, _, _, rfl⟩, by rw [gd9]; simp, F.trans G9.up⟩
            | some y =>
              have ht : tightB (tblP p) s = decide (x + y = 0) := by unfold tightB; rw [e1, e2]
              rw [ht]
              wp_walk using enO
              refine wif_d (fun c => ?_) (fun c => ?_)
              · wp_walk using gd9, c
                exact ⟨by omega, ⟨_, _, _, _, _, _, _, _, _, _, _, _, _, _, _, _, rfl⟩, by rw [get_set gd9, List.map_append]; rfl, (F.trans G9.up).trans (Fr.set (by simp))⟩
              · wp_walk using c
                exact ⟨⟨_, _, _, _, _, _, _, _, _, _, _, _, _, _, _, _, rfl⟩, by rw [gd9]; simp, F.trans G9.up⟩
        · rintro env h' ⟨⟨o2, o6, o7, o8, o9, o10, o11, o12, o13, o14, o15, o16, o17, o18, o19, o20, rfl⟩, gd, F⟩
          rw [List.length_map, List.take_length] at gd
          wp_walk
          exact ⟨⟨_, _, _, _, _, _, _, _, _, _, _, _, _, _, _, _, rfl⟩, gd, B6.frS F (by simp [nb]) (by simp [nd])⟩
      · clear B6 d6 e6 h6
        rintro env h6 ⟨⟨o2, o6, o7, o8, o9, o10, o11, o12, o13, o14, o15, o16, o17, o18, o19, o20, rfl⟩, gd, B6⟩
        refine w_cut (fun env h' => Ev3 ns b p env ∧ Bx b dg h') ?_ ?_
        · wp_walk
          refine ⟨rfl, tight_ok w nn fun h7 F7 => ?_⟩
          have gd7 := F7.get gd
          wp_walk using gd7
          have lk : Lk (.tup ((p.rows.filter (tightB (tblP p))).map fun s => .str s.name)) := by
            have := lkStrs 10 ((p.rows.filter (tightB (tblP p))).map Spn.name) (by have := List.length_filter_le (tightB (tblP p)) p.rows; rw [List.length_map]; omega) (fun x m => by
              obtain ⟨s, hs, rfl⟩ := List.mem_map.mp m
              exact Nat.le_trans (gp.rows.nl s (List.mem_filter.mp hs).1) (by decide))
            rw [List.map_map] at this
            exact ⟨this⟩
          refine ⟨rfl, ?_⟩
          generalize D.tup ((p.rows.filter (tightB (tblP p))).map fun s => .str s.name) = X at lk ⊢
          refine like_ok lk fun h9 F9 => ?_
          wp_walk
          exact ⟨⟨_, _, _, _, _, _, _, _, _, _, _, _, _, _, _, _, _, _, rfl⟩, (B6.fr F7).fr F9⟩
        · clear B6 gd h6
          rintro env h6 ⟨⟨o2, o4, o5, o6, o7, o8, o9, o10, o11, o12, o13, o14, o15, o16, o17, o18, o19, o20, rfl⟩, B6⟩
          -- new spans
          refine w_cut (fun env h' => Ev3 ns b p env ∧ Bx b dg h') ?_ ?_
          · refine w_for ((List.range 3).map fun i => .int ((i : Nat) : Int)) (fun _ => True) (fun i env h' => Ev3 ns b p env ∧ Bx b dg h') ?_ (fun _ _ _ _ => trivial) ?_ ?_
            · wp_walk using show small 3 = true from rfl
              exact ⟨t_rng0 3 _, ⟨_, _, _, _, _, _, _, _, _, _, _, _, _, _, _, _, _, _, rfl⟩, B6⟩
            · clear B6 h6
              rintro i x env h7 hx ⟨⟨o2, o4, o5, o6, o7, o8, o9, o10, o11, o12, o13, o14, o15, o16, o17, o18, o19, o20, rfl⟩, B7⟩
              wp_walk
              rw [w_seqF]
              wp_walk using ixP
              refine ⟨rfl, span_ok B7 w.nd m0 (by omega) fun x y lo hi h8 hx hy _ _ B8 F8 => ?_⟩
              wp_walk
              refine ⟨rfl, says_ok (s := ⟨false, cs "new", x, y, lo, hi⟩) w nn ⟨hx, hy⟩ fun h9 F9 => ?_⟩
              wp_walk using ixP
              refine ⟨rfl, said_ok (p := p) (rows := p.rows) w (.inl rfl) ⟨hx, hy⟩ fun h10 F10 => ?_⟩
              wp_walk
              refine ⟨rfl, ?_⟩
              have lk : ∀ bb : Bool, Lk (.bl bb) := fun _ => ⟨trivial⟩
              have lk := lk (outS ⟨p.marks, p.rows⟩ ⟨false, cs "new", x, y, lo, hi⟩).isNone
              have e0 : (⟨p.marks, p.rows⟩ : Pln) = p := rfl
              rw [e0] at lk ⊢
              generalize D.bl (outS p ⟨false, cs "new", x, y, lo, hi⟩).isNone = X at lk ⊢
              refine like_ok lk fun h11 F11 => ?_
              wp_walk
              exact ⟨⟨_, _, _, _, _, _, _, _, _, _, _, _, _, _, _, _, _, _, rfl⟩, ((B8.fr F9).fr F10).fr F11⟩
            · rintro env h' ⟨⟨o2, o4, o5, o6, o7, o8, o9, o10, o11, o12, o13, o14, o15, o16, o17, o18, o19, o20, rfl⟩, B7⟩
              wp_walk
              exact ⟨⟨_, _, _, _, _, _, _, _, _, _, _, _, _, _, _, _, _, _, rfl⟩, B7⟩
          · clear B6 h6
            rintro env h6 ⟨⟨o2, o4, o5, o6, o7, o8, o9, o10, o11, o12, o13, o14, o15, o16, o17, o18, o19, o20, rfl⟩, B6⟩
            -- what is left
            refine w_cut (fun env h' => ∃ lr, Ev4 ns b p lr env ∧ h'[lr]? = some (.lst (p.rows.map enS)) ∧ Bx b dg h') ?_ ?_
            · have g0 : (h6 ++ [Cell.lst (p.rows.map enS)])[h6.length]? = some (.lst (p.rows.map enS)) := get_new1
              wp_walk using ixP
              exact ⟨_, ⟨_, _, _, _, _, _, _, _, _, _, _, _, _, _, _, _, _, rfl⟩, g0, B6.fr .app⟩
            clear B6 h6
            rintro env h6 ⟨lr, ⟨o2, o4, o5, o6, o8, o9, o10, o11, o12, o13, o14, o15, o16, o17, o18, o19, o20, rfl⟩, g6, B6⟩
            refine w_cut (fun env h' => ∃ lr, Ev4 ns b p lr env ∧ h'[lr]? = some (.lst ((p.rows.foldl (slimF p.marks) p.rows).map enS)) ∧ Bx b dg h') ?_ ?_
            · refine w_for (p.rows.map enS) (fun _ => True) (fun i env h' => ∃ lr, Ev4 ns b p lr env ∧ h'[lr]? = some (.lst (((p.rows.take i).foldl (slimF p.marks) p.rows).map enS)) ∧ Bx b dg h') ?_ (fun _ _ _ _ => trivial) ?_ ?_
              · wp_walk using ixP
                exact ⟨t_seq _ _, _, ⟨_, _, _, _, _, _, _, _, _, _, _, _, _, _, _, _, _, rfl⟩, g6, B6⟩
              · clear g6 B6 h6 lr
                rintro i x env h' hx ⟨lr, ⟨o2, o4, o5, o6, o8, o9, o10, o11, o12, o13, o14, o15, o16, o17, o18, o19, o20, rfl⟩, gl, B⟩
                obtain ⟨s, hs, rfl⟩ := map_get hx
                have hi := lt_of_get hs
                have ok := w.ok s (List.mem_of_getElem? hs)
                have sb := slim_sub (ms := p.marks) (p.rows.take i) p.rows (List.Sublist.refl _)
                rw [fold_take _ _ hs]
                generalize (p.rows.take i).foldl (slimF p.marks) p.rows = left at *
                have ll := sb.length_le
                have so : (oth s left).Sublist left := List.filter_sublist
                have wo : WP ⟨p.marks, oth s left⟩ := WP.sub (ms := p.marks) (r := p.rows) w (so.trans sb)
                wp_walk
                refine w_cut (fun env h2 => ∃ n, env = [some (.ls (ns.map .int)), some (.ref b), o2, some (enP p), o4, o5, o6, some (.ref lr), some (enS s), o9, o10, o11, o12, o13, o14, o15, o16, some (.ref n), o18, o19, o20] ∧ h2[n]? = some (.lst ((oth s left).map enS)) ∧ Fr [] h' h2) ?_ ?_
                · wp_walk
                  refine w_lc (left.map enS) (fun h1 => h1[lr]? = some (.lst (left.map enS))) (fun j acc h1 => acc = (oth s (left.take j)).map enS ∧ h1 = h') ?_ (fun _ _ _ q => by rw [q.2]; exact gl) ?_ ?_ ?_
                  · wp_walk using gl
                    exact ⟨t_cel _ _, rfl⟩
                  · rintro j acc h1 ⟨rfl, _⟩
                    rw [List.length_map]
                    have := List.length_filter_le (fun r => !deq (enS r) (enS s)) (left.take j)
                    have : (left.take j).length ≤ left.length := by rw [List.length_take]; omega
                    show (List.filter _ _).length < 16777217
                    omega
                  · rintro j x acc h1 hx ⟨rfl, rfl⟩
                    obtain ⟨r, hr, rfl⟩ := map_get hx
                    have hj := lt_of_get hr
                    have et : oth s (left.take (j + 1)) = oth s (left.take j) ++ if !deq (enS r) (enS s) then [r] else [] := take_filter hr
                    rw [et]
                    have tl : (oth s (left.take j)).length ≤ j := take_filter_len (fun r => !deq (enS r) (enS s)) left j
                    wp_walk using eq_flat (fltS r) (fltS s)
                    cases c : deq (enS r) (enS s) with
                    | false =>
                      wp_walk
                      exact ⟨by omega, by simp⟩
                    | true =>
                      wp_walk
                      simp
                  · rintro acc h1 ⟨rfl, rfl⟩
                    rw [List.length_map, List.take_length]
                    wp_walk
                    exact ⟨_, rfl, get_new1, .app⟩
                rintro _ h2 ⟨n, rfl, g1, F1⟩
                wp_walk using ixS, kind_sp
                cases hlo : s.loose with
                | true =>
                  have ef : slimF p.marks left s = left := by unfold slimF; rw [if_neg (by rw [hlo]; simp)]
                  rw [ef]
                  wp_walk
                  exact ⟨_, ⟨_, _, _, _, _, _, _, _, _, _, _, _, _, _, _, _, _, rfl⟩, F1.get gl, B.fr F1⟩
                | false =>
                  wp_walk
                  refine ⟨rfl, said_ok (p := p) (rows := oth s left) wo (.inr ⟨_, rfl, g1⟩) ⟨ok.1, ok.2.1⟩ fun h3 F3 => ?_⟩
                  cases c : (outS ⟨p.marks, oth s left⟩ s).isNone with
                  | true =>
                    have ef : slimF p.marks left s = oth s left := by unfold slimF; rw [if_pos ⟨hlo, c⟩]
                    rw [ef]
                    wp_walk
                    exact ⟨_, ⟨_, _, _, _, _, _, _, _, _, _, _, _, _, _, _, _, _, rfl⟩, F3.get g1, (B.fr F1).fr F3⟩
                  | false =>
                    have ef : slimF p.marks left s = left := by unfold slimF; rw [if_neg (by rw [c]; simp)]
                    rw [ef]
                    wp_walk
                    exact ⟨_, ⟨_, _, _, _, _, _, _, _, _, _, _, _, _, _, _, _, _, rfl⟩, (F1.trans F3).get gl, (B.fr F1).fr F3⟩
              · rintro env h' ⟨lr, ⟨o2, o4, o5, o6, o8, o9, o10, o11, o12, o13, o14, o15, o16, o17, o18, o19, o20, rfl⟩, gl, B⟩
                rw [List.length_map, List.take_length] at gl
                wp_walk
                exact ⟨_, ⟨_, _, _, _, _, _, _, _, _, _, _, _, _, _, _, _, _, rfl⟩, gl, B⟩
            clear g6 B6 h6 lr
            rintro env h6 ⟨lr, ⟨o2, o4, o5, o6, o8, o9, o10, o11, o12, o13, o14, o15, o16, o17, o18, o19, o20, rfl⟩, g6, B6⟩
            have si := slim_inv (ms := p.marks) (rows := p.rows) w p.rows p.rows (List.Sublist.refl _) (Imp.refl _)
            have qs := fun (Z : D → Hs → Prop) (h0 : Hs) (q : ∀ h', Fr [] h0 h' → Z (enP ⟨p.marks, p.rows.foldl (slimF p.marks) p.rows⟩) h') => slim_ok (E := fun _ _ => False) w nn q
            generalize p.rows.foldl (slimF p.marks) p.rows = left at *
            have wl : WP ⟨p.marks, left⟩ := WP.sub (ms := p.marks) (r := p.rows) w si.1
            have nl : NoNeg (arcsP left) := nn.sub (arcs_sub si.1)
            have lk : Lk (enP ⟨p.marks, left⟩) := ⟨lkP (gp.sub si.1)⟩
            wp_walk
            refine ⟨rfl, qs _ _ fun h7 F7 => ?_⟩
            have g7 := F7.get g6
            wp_walk using ixP, g7
            rw [show D.tup [.str (cs "plan"), .tup (p.marks.map .str), .tup (left.map enS)] = enP ⟨p.marks, left⟩ from rfl]
            refine ⟨rfl, ?_⟩
            have sa := fun (Z : D → Hs → Prop) (h0 : Hs) (q : ∀ h', Fr [] h0 h' → Z (.bl true) h') => same_ok0 (q := ⟨p.marks, left⟩) (E := fun _ _ => False) w nn wl nl rfl (fun s m => imp_says w nn (Imp.sub (fun q m2 => arcs_mem.mpr ⟨s, si.1.subset m, m2⟩))) (fun s m => imp_says wl nl (Imp.trans (Imp.sub (fun q m2 => arcs_mem.mpr ⟨s, m, m2⟩)) si.2)) q
            generalize hX : enP ⟨p.marks, left⟩ = X at lk ⊢
            refine like_ok lk fun h8 F8 => ?_
            have g8 := F8.get g7
            wp_walk using ixP, g8
            rw [show D.tup [.str (cs "plan"), .tup (p.marks.map .str), .tup (left.map enS)] = enP ⟨p.marks, left⟩ from rfl]
            refine ⟨rfl, sa _ _ fun h9 F9 => ?_⟩
            wp_walk using show (true == true) = true from rfl
            exact ⟨⟨_, _, _, _, _, _, _, _, _, _, _, _, _, _, _, _, _, _, _, rfl⟩, ((B6.fr F7).fr F8).fr F9⟩
    · rintro env h' ⟨⟨o2, o3, o4, o5, o6, o7, o8, o9, o10, o11, o12, o13, o14, o15, o16, o17, o18, o19, o20, rfl⟩, _⟩
      wp_walk
  cases e : PH.fn_law.go [.ls (ns.map .int)] [] with
  | ok d h' => rw [e] at key; exact ⟨h', by rw [show d = .bl true from key]⟩
  | exc x h' => rw [e] at key; exact key.elim
  | bad => rw [e] at key; exact key.elim
/-! LP: the law k16. -/
open PySem PySem.Spec PyProof.Rows L2
def Ev16a (ns : List Int) (b : Nat) (env : Env) : Prop := ∃ o2 o3 o4 o5 o6 o7 o8 o9 o10 o11 o12, env = [some (.ls (ns.map .int)), some (.ref b), o2, o3, o4, o5, o6, o7, o8, o9, o10, o11, o12]
def Ev16b (ns : List Int) (b : Nat) (p q : Pln) (tb du : Nat) (X : D) (env : Env) : Prop := ∃ o2 o6 o7 o10 o11 o12, env = [some (.ls (ns.map .int)), some (.ref b), o2, some (enP p), some (enP q), some (.ref tb), o6, o7, some X, some (.ref du), o10, o11, o12]
def hiBad (hi ah : Option Int) : Bool := match hi with
  | none => false
  | some u => match ah with
    | none => true
    | some a => decide (u < a)
def loBad (lo bk : Option Int) : Bool := match lo with
  | none => false
  | some l => match bk with
    | none => true
    | some b => decide (0 - b < l)
theorem out_bad (lo hi ah bk : Option Int) : (outO lo hi ah bk).isSome = (hiBad hi ah || loBad lo bk) := by
  unfold outO hiBad loBad
  cases hi with
  | none =>
    cases lo with
    | none => rfl
    | some l =>
      cases bk with
      | none => rfl
      | some b =>
        dsimp only
        by_cases c : 0 - b < l
        · rw [if_pos c, decide_eq_true c]; rfl
        · rw [if_neg c, decide_eq_false c]; rfl
  | some u =>
    cases ah with
    | none => rfl
    | some a =>
      dsimp only
      by_cases d : u < a
      · rw [if_pos d, decide_eq_true d]; rfl
      · rw [if_neg d, decide_eq_false d]
        cases lo with
        | none => rfl
        | some l =>
          cases bk with
          | none => rfl
          | some b =>
            dsimp only
            by_cases c : 0 - b < l
            · rw [if_pos c, decide_eq_true c]; rfl
            · rw [if_neg c, decide_eq_false c]; rfl
theorem met_false {s : Spn} {f : Nm → Int} (h : (∃ u, s.hi = some u ∧ u < f s.b - f s.a) ∨ (∃ l, s.lo = some l ∧ f s.b - f s.a < l)) : metB f s = false := by
  unfold metB
  rcases h with ⟨u, e, c⟩ | ⟨l, e, c⟩
  · rw [e]
    simp; intro _; omega
  · rw [e]
    simp; intro d; omega
theorem flts_S : ∀ xs : List Spn, flts 50 (xs.map enS) = true
  | [] => by simp [flts]
  | x :: xs => by simp [flts, fltS x, flts_S xs]
theorem in_due {q : Pln} {rows : List Spn} {i : Nat} {s : Spn} (hn : (rows.map Spn.name).Nodup) (hs : rows[i]? = some s) (h : Hs) : inSeq h (enS s) (((rows.take i).filter (notSaid q) ++ if notSaid q s then [s] else []).map enS) = some (notSaid q s) := by
  rw [in_flat (fltS s) (by
    generalize ((rows.take i).filter (notSaid q) ++ if notSaid q s then [s] else []) = xs
    exact flts_S xs)]
  congr 1
  have hl := lt_of_get hs
  have he : rows[i] = s := (List.getElem?_eq_some_iff.mp hs).2
  cases c : notSaid q s with
  | true =>
    rw [if_pos rfl, List.any_eq_true]
    refine ⟨enS s, ?_, (deq_iff _ _ (purS s) (purS s)).mpr rfl⟩
    rw [List.map_append]
    exact List.mem_append_right _ (List.mem_singleton.mpr rfl)
  | false =>
    rw [if_neg (by simp), List.append_nil, Bool.eq_false_iff]
    intro h
    obtain ⟨y, hy, e⟩ := List.any_eq_true.mp h
    obtain ⟨r, hr, rfl⟩ := List.mem_map.mp hy
    have hr := (List.mem_filter.mp hr).1
    have en := (enS_inj ((deq_iff _ _ (purS r) (purS s)).mp e)).1
    obtain ⟨j, hj, ej⟩ := List.mem_iff_getElem.mp hr
    rw [List.getElem_take] at ej
    have hj2 : j < i := by rw [List.length_take] at hj; omega
    have : (rows.map Spn.name)[j]'(by rw [List.length_map]; omega) = (rows.map Spn.name)[i]'(by rw [List.length_map]; omega) := by
      rw [List.getElem_map, List.getElem_map, ej, he]; exact en
    have := (List.getElem_inj hn).mp this
    omega
theorem law16 (ns : List Int) (hns : ns.length ≤ 63) : ∃ h', P16.fn_law.go [.ls (ns.map .int)] [] = .ok (.bl true) h' := by
  have key : (P16.fn_law.go [.ls (ns.map .int)] []).wp (fun d _ => d = .bl true) (fun _ _ => False) := by
    unfold P16.fn_law
    rw [w_defn]
    unfold P16.s_law
    wp_walk
    rw [w_seqF]
    wp_walk
    refine ⟨rfl, digits_ok fun ds dg h1 hdg F1 edg _ => ?_⟩
    wp_walk
    rw [w_seqF]
    have B0 : Bx h1.length dg (h1 ++ [Cell.lst [.ref dg, .int 0]]) := ⟨ds, 0, by have := get_lt hdg; omega, by decide, get_new1, get_old hdg⟩
    generalize hb : h1.length = b at *
    generalize h1 ++ [Cell.lst [.ref dg, .int 0]] = h2 at *
    clear hdg F1 edg hb h1
    refine w_for ((List.range 3).map fun i => .int ((i : Nat) : Int)) (fun _ => True) (fun i env h' => Ev16a ns b env ∧ Bx b dg h') ?_ (fun _ _ _ _ => trivial) ?_ ?_
    · wp_walk using show small 3 = true from rfl
      exact ⟨t_rng0 3 _, ⟨_, _, _, _, _, _, _, _, _, _, _, rfl⟩, B0⟩
    · clear B0 h2
      rintro k x env h0 hx ⟨⟨o2, o3, o4, o5, o6, o7, o8, o9, o10, o11, o12, rfl⟩, B0⟩
      wp_walk
      rw [w_seqF]
      wp_walk
      refine ⟨rfl, draw_ok B0 (by decide) fun v1 h1 p1 q1 B1 _ => ?_⟩
      wp_walk
      refine ⟨rfl, draw_ok B1 (by decide) fun v2 h2 p2 q2 B2 _ => ?_⟩
      wp_walk
      refine ⟨rfl, draw_ok B2 (by decide) fun v3 h3 p3 q3 B3 _ => ?_⟩
      obtain ⟨n1, rfl⟩ := Int.eq_ofNat_of_zero_le p1
      obtain ⟨n2, rfl⟩ := Int.eq_ofNat_of_zero_le p2
      obtain ⟨n3, rfl⟩ := Int.eq_ofNat_of_zero_le p3
      wp_walk
      rw [show (1 : Int) + (n1 : Int) = ((1 + n1 : Nat) : Int) by omega]
      refine ⟨rfl, lawHolding_ok B3 (by omega) (by omega) (by omega) fun p h4 gp em lr _ nn B4 _ => ?_⟩
      clear B0 B1 B2 B3
      have w := gp.wp
      have fr := gp.few
      have nd7 := gp.rows.nd
      have fm : p.marks.length ≤ 7 := by rw [em, List.length_take]; omega
      have m0 : p.marks ≠ [] := by rw [em]; intro q; have := congrArg List.length q; rw [List.length_take] at this; simp [abc] at this
      have sm : ∀ x ∈ zro :: p.marks, x.length ≤ 10000 := by rw [em]; exact nm_small
      wp_walk
      rw [w_seqF]
      wp_walk
      refine ⟨rfl, otherPlan_ok B4 gp m0 (by omega) fun R h5 op lR B5 _ => ?_⟩
      obtain ⟨q, hq⟩ : ∃ q : Pln, q = ⟨p.marks, R⟩ := ⟨_, rfl⟩
      have qm : q.marks = p.marks := by rw [hq]
      have qr : q.rows = R := by rw [hq]
      rw [← hq]
      rw [← qr] at op lR
      have wq : WP q := ⟨by rw [qm]; exact w.nd, by rw [qm]; omega, by omega, fun s m => by rw [qm]; exact op.ok s m⟩
      have nq := op.nn
      have sq := op.sm
      clear hq qr
      have hpq : ∀ s ∈ p.rows, (s.a ∈ zro :: q.marks ∧ s.b ∈ zro :: q.marks ∧ s.a ≠ s.b) ∧ SmB [s] := fun s m => ⟨by rw [qm]; exact w.ok s m, fun r m2 => by rw [List.mem_singleton.mp m2]; exact (gp.rows.bd s m).sm⟩
      wp_walk
      rw [w_seqF]
      wp_walk
      refine ⟨rfl, lawSteps_ok (by omega) ?_⟩
      wp_walk
      refine ⟨rfl, lawClosure_ok (by rw [qm]; omega) get_new1 (fun t ht => ⟨(wq.step ht).1, (wq.step ht).2.1⟩) fun kvs tb h6 ta e6 F6 => ?_⟩
      have B6 := (B5.fr .app).fr F6
      have ta : TabA kvs (tblP q) (fun x y => x ∈ zro :: q.marks ∧ y ∈ zro :: q.marks) 2000 := ta
      wp_walk
      rw [w_seqF]
      wp_walk
      refine ⟨rfl, unlike_ok wq nq sq (by rw [qm]; exact fm) (by omega) hpq (by omega) fun ts h7 ets gts F7 => ?_⟩
      obtain ⟨X, hX⟩ : ∃ X, X = D.tup (ts.map (enU q)) := ⟨_, rfl⟩
      rw [← hX]
      wp_walk
      have e7 := F7.get e6
      have B7 := B6.fr F7
      have e8 : (h7 ++ [Cell.lst []])[tb]? = some (.dic true false kvs) := get_old e7
      have d8 : (h7 ++ [Cell.lst []])[h7.length]? = some (.lst []) := get_new1
      have B8 := B7.fr (Fr.app (g := [Cell.lst []]))
      have nb : b ≠ h7.length := by have := B7.lt; omega
      have nd : dg ≠ h7.length := by have := B7.ltd; omega
      generalize h7.length = du at *
      generalize h7 ++ [Cell.lst []] = h8 at *
      have ntd : tb ≠ du := fun e => by (rw [e, d8] at e8; cases e8)
      clear e6 F6 B5 B4 B6 B7 e7 F7
      refine w_cut (fun env h' => Ev16b ns b p q tb du X env ∧ h'[du]? = some (.lst ((p.rows.filter (notSaid q)).map enS)) ∧ Bx b dg h') ?_ ?_
      · refine w_for (p.rows.map enS) (fun _ => True) (fun i env h' => Ev16b ns b p q tb du X env ∧ h'[du]? = some (.lst (((p.rows.take i).filter (notSaid q)).map enS)) ∧ Fr [du] h8 h') ?_ (fun _ _ _ _ => trivial) ?_ ?_
        · wp_walk using ixP
          exact ⟨t_seq _ _, ⟨_, _, _, _, _, _, rfl⟩, d8, Fr.refl⟩
        · rintro i x env h9 hx ⟨⟨o2, o6, o7, o10, o11, o12, rfl⟩, gd, F⟩
          obtain ⟨s, hs, rfl⟩ := map_get hx
          have hi := lt_of_get hs
          have ms := List.mem_of_getElem? hs
          have ok := (hpq s ms).1
          have e9 := F.get e8 (by simp [ntd])
          have f1 := ta.1 _ _ ⟨ok.1, ok.2.1⟩
          have f2 := ta.1 _ _ ⟨ok.2.1, ok.1⟩
          have tl := take_filter_len (notSaid q) p.rows i
          have ind := fun h => in_due (q := q) nd7 hs h
          have nsE : notSaid q s = (hiBad s.hi (tblP q s.a s.b) || loBad s.lo (tblP q s.b s.a)) := out_bad _ _ _ _
          rw [take_filter hs]
          wp_walk
          refine w_cut (fun env h' => env = [some (.ls (ns.map .int)), some (.ref b), o2, some (enP p), some (enP q), some (.ref tb), some (enS s), o7, some X, some (.ref du), o10, some (enO (tblP q s.a s.b)), some (enO (tblP q s.b s.a))] ∧ h9 = h') ?_ ?_
          · wp_walk using e9, f1, f2, ixS
          rintro _ _ ⟨rfl, rfl⟩
          refine w_cut (fun env h' => env = [some (.ls (ns.map .int)), some (.ref b), o2, some (enP p), some (enP q), some (.ref tb), some (enS s), o7, some X, some (.ref du), some (.bl (hiBad s.hi (tblP q s.a s.b))), some (enO (tblP q s.a s.b)), some (enO (tblP q s.b s.a))] ∧ h9 = h') ?_ ?_
          · cases e1 : tblP q s.a s.b <;> cases e3 : s.hi <;> (wp_walk using ixS, e1, e3, enO_n, enO_s, hiBad)
          rintro _ _ ⟨rfl, rfl⟩
          have nbd : ∀ (c : Bool), notSaid q s = c → (if notSaid q s = true then [s] else []) = if c = true then [s] else [] := fun c e => by rw [e]
          refine w_cut (fun env h' => env = [some (.ls (ns.map .int)), some (.ref b), o2, some (enP p), some (enP q), some (.ref tb), some (enS s), o7, some X, some (.ref du), some (.bl (hiBad s.hi (tblP q s.a s.b))), some (enO (tblP q s.a s.b)), some (enO (tblP q s.b s.a))] ∧ h'[du]? = some (.lst (((p.rows.take i).filter (notSaid q) ++ if notSaid q s then [s] else []).map enS)) ∧ Fr [du] h8 h') ?_ ?_
          · rw [nsE]
            cases q1 : hiBad s.hi (tblP q s.a s.b) with
            | true =>
              wp_walk using gd
              exact ⟨by omega, by rw [get_set gd, List.map_append]; rfl, F.trans (Fr.set (by simp))⟩
            | false =>
              cases e3 : s.lo with
              | none =>
                wp_walk using ixS, e3, enO_n
                exact ⟨by rw [gd]; simp [loBad], F⟩
              | some l =>
                cases e1 : tblP q s.b s.a with
                | none =>
                  wp_walk using ixS, e1, e3, enO_n, enO_s, gd
                  exact ⟨by omega, by rw [get_set gd, List.map_append]; rfl, F.trans (Fr.set (by simp))⟩
                | some x =>
                  wp_walk using ixS, e1, e3, enO_n, enO_s
                  refine wif_d (fun c => ?_) (fun c => ?_)
                  · wp_walk using gd
                    exact ⟨by omega, by rw [get_set gd, List.map_append, show (false || loBad (some l) (some x)) = true from decide_eq_true c]; rfl, F.trans (Fr.set (by simp))⟩
                  · wp_walk
                    exact ⟨by rw [gd, show (false || loBad (some l) (some x)) = false from decide_eq_false c]; simp, F⟩
          rintro _ h10 ⟨rfl, g10, F10⟩
          have eN : (outS q s).isNone = !notSaid q s := by unfold notSaid; cases outS q s <;> rfl
          wp_walk
          refine ⟨rfl, says_ok wq nq ⟨ok.1, ok.2.1⟩ fun h11 F11 => ?_⟩
          have g11 := F11.get g10
          rw [eN]
          wp_walk using g11, ind
          refine ⟨rfl, ?_⟩
          have lk : Lk (.bl !notSaid q s) := ⟨trivial⟩
          generalize (D.bl !notSaid q s) = Y at lk ⊢
          refine like_ok lk fun h12 F12 => ?_
          wp_walk
          exact ⟨⟨_, _, _, _, _, _, rfl⟩, (F11.trans F12).get g10, F10.trans (F11.trans F12).up⟩
        · rintro env h' ⟨⟨o2, o6, o7, o10, o11, o12, rfl⟩, gd, F⟩
          rw [List.length_map, List.take_length] at gd
          wp_walk
          exact ⟨⟨_, _, _, _, _, _, rfl⟩, gd, B8.frS F (by simp [nb]) (by simp [nd])⟩
      · clear B8 d8 e8 h8
        rintro env h8 ⟨⟨o2, o6, o7, o10, o11, o12, rfl⟩, gd, B8⟩
        have lts : ts.length = (p.rows.filter (notSaid q)).length := by rw [← ets, List.length_map]
        have ldu : (p.rows.filter (notSaid q)).length ≤ 30 := by have := List.length_filter_le (notSaid q) p.rows; omega
        have mdu : ∀ s ∈ p.rows.filter (notSaid q), s ∈ p.rows := fun s m => (List.mem_filter.mp m).1
        generalize p.rows.filter (notSaid q) = dus at *
        refine w_cut (fun env h' => Ev16b ns b p q tb du X env ∧ h8 = h') ?_ ?_
        · subst hX
          wp_walk using gd, lts, ne_eq, not_true_eq_false
          exact ⟨_, _, _, _, _, _, rfl⟩
        rintro env _ ⟨⟨o2, o6, o7, o10, o11, o12, rfl⟩, rfl⟩
        refine w_for ((List.range dus.length).map fun i : Nat => D.int (i : Int)) (fun _ => True) (fun i env h' => Ev16b ns b p q tb du X env ∧ h'[du]? = some (.lst (dus.map enS)) ∧ Bx b dg h') ?_ (fun _ _ _ _ => trivial) ?_ ?_
        · have sm : small (dus.length : Int) = true := by unfold small; simp; omega
          wp_walk using gd, sm
          exact ⟨t_rng0 _ _, ⟨_, _, _, _, _, _, rfl⟩, B8⟩
        · clear gd B8 h8
          rintro i x env h8 hx ⟨⟨o2, o6, o7, o10, o11, o12, rfl⟩, gd, B8⟩
          obtain ⟨hi, rfl⟩ := range_get0 hx
          have hit : i < ts.length := by omega
          obtain ⟨t, et⟩ : ∃ t, ts[i]? = some t := ⟨_, List.getElem?_eq_getElem hit⟩
          have ed : dus[i]? = some t.1 := by rw [← ets, List.getElem?_map, et]; rfl
          obtain ⟨mt, t0, tb9, to⟩ := gts t (List.mem_of_getElem? et)
          have ms := mdu _ (List.mem_of_getElem? ed)
          have ok := (hpq t.1 ms).1
          have mf := met_false (out_gap wq nq to).2.2
          have snm := Nat.le_trans (gp.rows.nl t.1 ms) (show 3 ≤ 10000 by decide)
          have gS : (dus.map enS)[i]? = some (enS t.1) := by rw [List.getElem?_map, ed]; rfl
          obtain ⟨Y, hY⟩ : ∃ Y, Y = enD q.marks t.2 := ⟨_, rfl⟩
          have iX : ∀ hh, ixOp hh X (.int i) = .ok (.tup [.str t.1.name, Y]) hh := fun hh => by
            rw [hX, ix_tup, atN, List.getElem?_map, et, hY]; rfl
          have lk : Lk (.str t.1.name) := ⟨snm⟩
          have smq : ∀ m ∈ q.marks, m.length ≤ 10000 := fun m mm => by rw [qm] at mm; exact sm m (List.mem_cons_of_mem _ mm)
          obtain ⟨P, hP⟩ : ∃ P, P = enP q := ⟨_, rfl⟩
          wp_walk
          refine w_cut (fun env h' => (∃ o2 o6 o10 o11 o12, env = [some (.ls (ns.map .int)), some (.ref b), o2, some (enP p), some (enP q), some (.ref tb), o6, some (.int i), some X, some (.ref du), o10, o11, o12]) ∧ Fr [] h8 h') ?_ ?_
          · wp_walk using iX, gd, atN, gS, ixS, show decide (((2 : Nat) : Int) = 2) = true from rfl
            refine ⟨rfl, ?_⟩
            generalize D.str t.1.name = Z at lk iX ⊢
            refine like_ok lk fun h9 F9 => ?_
            have g9 := F9.get gd
            wp_walk using iX
            refine ⟨rfl, datesRight_x hY rfl wq mt t0 tb9 smq fun h10 F10 => ?_⟩
            wp_walk
            exact ⟨⟨_, _, _, _, _, rfl⟩, F9.trans F10⟩
          rintro env h9 ⟨⟨o2, o6, o10, o11, o12, rfl⟩, F9⟩
          have g9 := F9.get gd
          subst hY
          wp_walk using iX, g9, atN, gS
          refine ⟨rfl, dateTable_ok (by rw [qm]; omega) t0 fun n kv h10 e10 d10 F10 => ?_⟩
          wp_walk
          refine ⟨rfl, met_ok e10 (d10 _ ok.1) (d10 _ ok.2.1) ?_⟩
          rw [mf]
          wp_walk
          exact ⟨⟨_, _, _, _, _, _, rfl⟩, F10.get g9, (B8.fr F9).fr F10⟩
        · rintro env h' ⟨⟨o2, o6, o7, o10, o11, o12, rfl⟩, gd, B⟩
          wp_walk
          exact ⟨⟨_, _, _, _, _, _, _, _, _, _, _, rfl⟩, B⟩
    · rintro env h' ⟨⟨o2, o3, o4, o5, o6, o7, o8, o9, o10, o11, o12, rfl⟩, _⟩
      wp_walk
  cases e : P16.fn_law.go [.ls (ns.map .int)] [] with
  | ok d h' => rw [e] at key; exact ⟨h', by rw [show d = .bl true from key]⟩
  | exc x h' => rw [e] at key; exact key.elim
  | bad => rw [e] at key; exact key.elim
/-! LQ: rings: the search in general. -/
open PySem PySem.Spec PyProof.Rows L2
theorem Bk.next {τ : Type} {into : List Nat → Option (AR τ)} {v w : List Nat} {r : List (AR τ)} (b : Bk into v r w) : ∀ i a c, r[i]? = some a → r[i + 1]? = some c → into a.u = some c := by
  induction b with
  | nil => exact fun _ _ _ h => by simp at h
  | cons h q ih =>
    rename_i v w a r
    intro i x y e1 e2
    cases i with
    | zero =>
      have e1 : a = x := by simpa using e1
      have e2 : r[0]? = some y := by simpa using e2
      subst e1
      cases q with
      | nil => simp at e2
      | cons h2 q2 =>
        have e2 := Option.some.inj e2
        rw [← e2]; exact h2
    | succ i => exact ih i x y (by simpa using e1) (by simpa using e2)
theorem Bk.first {τ : Type} {into : List Nat → Option (AR τ)} {v w : List Nat} {r : List (AR τ)} (b : Bk into v r w) : ∀ a, r[0]? = some a → into v = some a := by
  cases b with
  | nil => exact fun _ h => by simp at h
  | cons h q => exact fun a e => by have := Option.some.inj e; rw [← this]; exact h
theorem Bk.last {τ : Type} {into : List Nat → Option (AR τ)} {v w : List Nat} {r : List (AR τ)} (b : Bk into v r w) : ∀ a, r[r.length - 1]? = some a → a.u = w := by
  induction b with
  | nil => exact fun _ h => by simp at h
  | cons h q ih =>
    rename_i v w a r
    intro x e
    cases q with
    | nil =>
      have e : a = x := by simpa using e
      rw [← e]
    | cons h2 q2 =>
      rename_i c r
      refine ih x ?_
      simpa using e
theorem enA_u (hh : Hs) (a : AR D) : ixOp hh (enA a) (.int 0) = .ok (.str a.u) hh := rfl
theorem ringBehind_ok {ii N n : Nat} {s : DS D} {v w : Nm} {r : List (AR D)} {h : Hs} {Q : D → Hs → Prop} {E : Ex → Hs → Prop} {z : Int} (hz : z = (n : Int)) (hn : n ≤ 60) (ki : List (D × D)) (hi : h[ii]? = some (.dic false false ki)) (d : DF enA ki s.into N)
    (hw : back s.into n v = some w) (bk : Bk s.into w r w) (hr : r ≠ []) (hl : r.length ≤ 60) (hm : ∀ m, 0 < m → m < r.length → back s.into m w ≠ some w)
    (hq : ∀ rl h', h'[rl]? = some (.lst (r.reverse.map enA)) → Fr [] h h' → Q (.ref rl) h') : (PH.fn_ring_behind.go [.ref ii, .str v, .int z] h).wp Q E := by
  unfold PH.fn_ring_behind
  rw [w_defn]
  unfold PH.s_ring_behind
  refine w_cut (fun env h' => (∃ o3 o4, env = [some (.ref ii), some (.str w), some (.int z), o3, o4]) ∧ h = h') ?_ ?_
  · refine w_for ((List.range n).map fun i : Nat => D.int (i : Int)) (fun _ => True) (fun i env h' => ∃ x, back s.into i v = some x ∧ (∃ o3 o4, env = [some (.ref ii), some (.str x), some (.int z), o3, o4]) ∧ h = h') ?_ (fun _ _ _ _ => trivial) ?_ ?_
    · have sm : small (n : Int) = true := by unfold small; simp; omega
      subst hz
      wp_walk using sm
      exact ⟨t_rng0 _ _, v, rfl, _, _, rfl⟩
    · rintro i x env h' hx ⟨x, ex, ⟨o3, o4, rfl⟩, rfl⟩
      obtain ⟨hi2, rfl⟩ := range_get0 hx
      have b1 := back_add (into := s.into) i (n - i) v
      rw [show i + (n - i) = n by omega, hw, ex] at b1
      obtain ⟨m, hm2⟩ : ∃ m, n - i = m + 1 := ⟨n - i - 1, by omega⟩
      rw [hm2] at b1
      cases e : s.into x with
      | none =>
        have : back s.into (m + 1) x = none := by unfold back; rw [e]; rfl
        rw [show (some x).bind (back s.into (m + 1)) = back s.into (m + 1) x from rfl, this] at b1
        cases b1
      | some a =>
        have f := d.some e
        have b2 := back_add (into := s.into) i 1 v
        rw [ex] at b2
        have b3 : back s.into 1 x = some a.u := by unfold back; rw [e]; rfl
        wp_walk using hi, f, enA_u
        exact ⟨a.u, b2.trans b3, _, _, rfl⟩
    · rintro env h' ⟨x, ex, ⟨o3, o4, rfl⟩, rfl⟩
      rw [List.length_map, List.length_range, hw] at ex
      cases ex
      wp_walk
      exact ⟨_, _, rfl⟩
  rintro env _ ⟨⟨o3, o4, rfl⟩, rfl⟩
  have hlen : 0 < r.length := List.length_pos_iff.mpr hr
  obtain ⟨a0, e0⟩ : ∃ a, r[0]? = some a := ⟨_, List.getElem?_eq_getElem hlen⟩
  have f0 := d.some (bk.first a0 e0)
  have gA : ∀ c : Cell, (h ++ [c])[ii]? = some (.dic false false ki) := fun c => get_old hi
  have gL : ∀ c : Cell, (h ++ [c])[h.length]? = some c := fun c => get_new1
  have hF : ∀ c : Cell, Fr [] h (h ++ [c]) := fun c => .app
  refine w_cut (fun env h' => (∃ o3, env = [some (.ref ii), some (.str w), some (.int z), o3, some (.ref h.length)]) ∧ h' = h ++ [.lst [enA a0]]) ?_ ?_
  · wp_walk using hi, f0
    exact ⟨_, rfl⟩
  rintro env h' ⟨⟨o3, rfl⟩, rfl⟩
  have sN : ∀ a b : Cell, (h ++ [a]).set h.length b = h ++ [b] := fun _ _ => set_new
  generalize hhl : h.length = hl2 at *
  refine w_cut (fun env h' => (∃ o3, env = [some (.ref ii), some (.str w), some (.int z), o3, some (.ref hl2)]) ∧ h' = h ++ [.lst (r.map enA)]) ?_ ?_
  · refine w_while (fun m env h' => ∃ j, j + 1 + m = r.length ∧ (∃ o3, env = [some (.ref ii), some (.str w), some (.int z), o3, some (.ref hl2)]) ∧ h' = h ++ [.lst ((r.take (j + 1)).map enA)]) (r.length - 1) ⟨0, by omega, ⟨_, rfl⟩, ?_⟩ ?_
    · rw [List.take_add_one, e0]; rfl
    · rintro m env h' ⟨j, ej, ⟨o3, rfl⟩, rfl⟩
      have hj : j < r.length := by omega
      obtain ⟨rj, erj⟩ : ∃ a, r[j]? = some a := ⟨_, List.getElem?_eq_getElem hj⟩
      have hbk := bk.back_at j rj erj
      obtain ⟨L, eL⟩ : ∃ L, L = (r.take (j + 1)).map enA := ⟨_, rfl⟩
      have lL : L.length = j + 1 := by rw [eL, List.length_map, List.length_take]; omega
      have l1 : (L.length < 1) = False := by rw [lL]; simp
      have l2 : L[L.length - 1]? = some (enA rj) := by
        rw [lL, eL, List.getElem?_map, show j + 1 - 1 = j by omega, List.getElem?_take_of_lt (by omega), erj]; rfl
      have l3 : atI L (-1) = some (enA rj) := by rw [atm1, if_neg (by rw [lL]; omega), l2]
      rw [← eL]
      wp_walk using gL, l3, l1, l2, enA_u
      by_cases c : rj.u = w
      · have hfull : j + 1 = r.length := by
          rcases Nat.lt_or_ge (j + 1) r.length with q | q
          · exact absurd (by rw [hbk, c]) (hm (j + 1) (by omega) q)
          · omega
        rw [decide_eq_true c]
        wp_walk
        refine ⟨⟨_, rfl⟩, ?_⟩
        rw [eL, hfull, List.take_length]
      · rw [decide_eq_false c]
        have hlt : j + 1 < r.length := by
          rcases Nat.lt_or_ge (j + 1) r.length with q | q
          · exact q
          · exact absurd (bk.last rj (by rw [show r.length - 1 = j by omega]; exact erj)) c
        obtain ⟨rk, erk⟩ : ∃ a, r[j + 1]? = some a := ⟨_, List.getElem?_eq_getElem hlt⟩
        have fk := d.some (bk.next j rj rk erj erk)
        wp_walk using gL, gA, l3, l1, l2, enA_u, fk, sN
        refine ⟨by omega, m - 1, by omega, j + 1, by omega, ⟨_, rfl⟩, ?_⟩
        rw [eL, List.take_add_one (i := j + 1), erk]
        simp
  rintro env h' ⟨⟨o3, rfl⟩, rfl⟩
  wp_walk using gL, sN
  rw [← List.map_reverse]
  exact hq _ _ (gL _) (hF _)
theorem BR.ring_cps {P : Prop} {τ : Type} {A : List (AR τ)} {ss ns : List (List Nat)} {s : DS τ} (b : BR A ss ns ns.length s) (hf : s.fallen ≠ none) (hns : ∀ a ∈ A, a.u ∈ ns ∧ a.v ∈ ns) (h0 : ns ≠ [])
    (k : ∀ v w r, s.fallen = some v → back s.into ns.length v = some w → Bk s.into w r w → RingB A r → r.length ≤ ns.length → (∀ m, 0 < m → m < r.length → back s.into m w ≠ some w) → P) : P := by
  obtain ⟨last, b⟩ := b.ex
  obtain ⟨v, ev⟩ := Option.ne_none_iff_exists'.mp hf
  have hv := b.fal v ev
  have hlen : 0 < ns.length := List.length_pos_iff.mpr h0
  have hd : ∀ x, 1 ≤ last x → x ∈ ns := fun x hx => by
    cases q : s.into x with
    | none => have := (b.la x).mp q; omega
    | some a =>
      obtain ⟨q1, q2, _⟩ := b.ina x a q
      rw [← q2]; exact (hns a q1).2
  obtain ⟨w, k1, e1, k0, kl, e2⟩ := b.onRing hv hd (fun a ha => (hns a ha).1) (hd v (by omega))
  obtain ⟨k', k1', kl2, e3, e4⟩ := firstBack k1 k0 e2
  obtain ⟨r, lr, bk, g⟩ := b.ringB k1' e3 e4
  exact k v w r ev e1 bk g (by omega) (by rw [lr]; exact e4)
theorem srd_cps {P : Prop} {di ii N : Nat} {s : DS D} {h : Hs} (sr : SrD di ii s N h) (k : ∀ kd ki, h[di]? = some (.dic false false kd) → h[ii]? = some (.dic false false ki) → DF .int kd s.dist N → DF enA ki s.into N → P) : P := by
  obtain ⟨kd, ki, a, b, c, d⟩ := sr
  exact k kd ki a b c d
theorem distances_gen {al : Nat} {ns ss : List Nm} {A : List (AR D)} {h : Hs} {Q : D → Hs → Prop} {E : Ex → Hs → Prop} (hn : ns ≠ []) (hl : ns.length ≤ 60) (hsl : ss.length ≤ 60) (hA : A.length ≤ 1000) (hss : ∀ x ∈ ss, x ∈ ns) (hns : ∀ a ∈ A, a.u ∈ ns ∧ a.v ∈ ns) (hne : ∀ a ∈ A, a.u ≠ a.v) (ha : h[al]? = some (.lst (A.map enA)))
    (hr : ∀ r di ii rl h', RingB A r → h'[rl]? = some (.lst (r.reverse.map enA)) → Fr [] h h' → Q (.tup [.ref di, .ref ii, .ref rl]) h')
    (hq : ∀ s di ii h', Fin0 A ss ns s → Bd A s ns.length → di ≠ ii → SrD di ii s 1000000 h' → Fr [] h h' → Q (.tup [.ref di, .ref ii, .non]) h') : (PH.fn_distances.go [.tup (ns.map .str), .ref al, .tup (ss.map .str)] h).wp Q E := by
  unfold PH.fn_distances
  rw [w_defn]
  unfold PH.s_distances
  have rb := @ringBehind_ok
  have n3 : 3 = PH.fn_ring_behind.n := rfl
  generalize PH.fn_ring_behind = RB at rb n3 ⊢
  wp_walk
  rw [w_seqF]
  wp_walk
  refine w_dc (ss.map .str) (fun _ => True) (fun i acc h' => DF .int acc (fun x => if x ∈ ss.take i then some 0 else none) i ∧ h' = h) ?_ (fun _ _ _ _ => trivial) ?_ ?_
  · wp_walk
    exact ⟨t_seq _ _, fun x => by simp [dfind], by simp⟩
  · rintro i x acc h' hx ⟨d, rfl⟩
    obtain ⟨x, hx', rfl⟩ := map_get hx
    have hi : i < ss.length := (List.getElem?_eq_some_iff.mp hx').1
    have dp := d.put x 0
    have ht : ss.take (i + 1) = ss.take i ++ [x] := by rw [List.take_add_one, hx']; rfl
    have ef : setF (fun x => if x ∈ ss.take i then some (0 : Int) else none) x 0 = fun y => if y ∈ ss.take (i + 1) then some 0 else none := by
      funext y
      rw [ht]
      by_cases c : y = x
      · rw [c, setF_same]; simp
      · rw [setF_ne _ _ c]; simp [c]
    rw [ef] at dp
    wp_walk
    exact ⟨by have := d.2; omega, dp⟩
  · rintro kd h1 ⟨d, rfl⟩
    rw [List.length_map, List.take_length] at d
    wp_walk
    rw [w_seqF]
    wp_walk
    rw [w_seqF]
    wp_walk
    rw [w_seqF]
    generalize hdi : h1.length = di at *
    generalize hii : (h1 ++ [Cell.dic false false kd]).length = ii at *
    have hne2 : di ≠ ii := by rw [← hii, ← hdi]; simp
    have F0 : Fr [] h1 (h1 ++ [Cell.dic false false kd] ++ [Cell.dic false false []]) := (Fr.app).push
    have s0 : SrD di ii (start0 ss) (ss.length + 0 * A.length) (h1 ++ [Cell.dic false false kd] ++ [Cell.dic false false []]) := by
      refine ⟨kd, [], by rw [← hdi]; exact get_old get_new1, by rw [← hii]; exact get_new1, d.mono (by omega), ⟨fun x => by simp [dfind, start0], by simp⟩⟩
    generalize h1 ++ [Cell.dic false false kd] ++ [Cell.dic false false []] = h2 at *
    have hnew : ∀ n ∈ [di, ii], h1.length ≤ n := by
      intro n m
      have : (h1 ++ [Cell.dic false false kd]).length = h1.length + 1 := by simp
      rcases List.mem_cons.mp m with e | m
      · omega
      · rcases List.mem_cons.mp m with e | m
        · omega
        · exact nomatch m
    have hb0 := BR.start A ss ns hss
    have hd0 := Bd.start A ss
    refine w_for (ns.map .str) (fun _ => True) (fun i env h' => ∃ s, (BR A ss ns i s ∧ Bd A s i) ∧ (1 ≤ i → s.fallen ≠ none) ∧ SrD di ii s (ss.length + i * A.length) h' ∧ DsE ns ss al di ii s env ∧ Fr [] h1 h') ?_ (fun _ _ _ _ => trivial) ?_ ?_
    · wp_walk
      exact ⟨t_seq _ _, _, ⟨hb0, hd0⟩, fun q => absurd q (by decide), s0, ⟨_, _, rfl⟩, F0⟩
    · rintro i x env h' hx ⟨s, ⟨hb, hbd⟩, _, sr, ⟨o6, o7, rfl⟩, F⟩
      obtain ⟨x, hx', rfl⟩ := map_get hx
      have hi : i < ns.length := (List.getElem?_eq_some_iff.mp hx').1
      have hm : (i + 1) * A.length ≤ 60 * 1000 := Nat.mul_le_mul (by omega) hA
      have hm2 : (i + 1) * A.length = i * A.length + A.length := Nat.succ_mul _ _
      wp_walk
      rw [w_seqF]
      wp_walk
      refine ⟨rfl, relaxed_ok hne2 sr (F.get ha) (by omega) fun h3 sr3 F3 => ?_⟩
      have hb2 := hb.round hns hne
      have F4 := F.new F3 hnew
      cases ef : (rnd A s).fallen with
      | none =>
        unfold enF
        wp_walk
        refine hq _ _ _ _ (hb2.rest (by omega) ef) (hbd.round.mono (by omega)) hne2 ?_ F4
        obtain ⟨k1, k2, a1, a2, a3, a4⟩ := sr3
        exact ⟨k1, k2, a1, a2, a3.mono (by omega), a4.mono (by omega)⟩
      | some v =>
        unfold enF
        wp_walk
        refine ⟨rnd A s, ⟨hb2, hbd.round⟩, fun _ => by rw [ef]; simp, ?_, ⟨_, _, by rw [ef]; rfl⟩, F4⟩
        rw [hm2, ← Nat.add_assoc]
        exact sr3
    · rintro env h' ⟨s, ⟨hb, _⟩, hf, sr, ⟨o6, o7, rfl⟩, F⟩
      rw [List.length_map] at hb hf
      refine BR.ring_cps hb (hf (List.length_pos_iff.mpr hn)) hns hn fun v w r ev e1 bk g lr e4 => ?_
      refine srd_cps sr fun kd ki g1 g2 d1 d2 => ?_
      rw [ev]
      unfold enF
      wp_walk
      generalize hz : (ns.length : Int) = z
      refine ⟨n3, rb hz.symm hl ki g2 d2 e1 bk g.ne (by omega) e4 fun rl h3 e5 F3 => ?_⟩
      wp_walk
      exact hr r _ _ _ _ g e5 (F.trans F3)
/-- the paper in general -/
def BdF (p : Pln) (f : Nm → Int) : Prop := ∀ M : Nat, (∀ a ∈ armsP p.rows, a.l.natAbs ≤ M) → ∀ m, (f m).natAbs ≤ 2 * ((p.marks.length + 1) * ((armsP p.rows).length * M))
def PapD (p : Pln) (d : D) : Prop := (∃ f, NoNeg (arcsP p.rows) ∧ Meets (arcsP p.rows) f ∧ f zro = 0 ∧ BdF p f ∧ d = .tup [.str (cs "dates"), enD p.marks f]) ∨ (∃ r, RingB (armsP p.rows) r ∧ ¬ NoNeg (arcsP p.rows) ∧ d = .tup [.str (cs "ring"), .tup (r.reverse.map AR.t)])
theorem labels_ok {al : Nat} {A : List (AR D)} {h : Hs} {Q : D → Hs → Prop} {E : Ex → Hs → Prop} (hA : A.length ≤ 100000) (ha : h[al]? = some (.lst (A.map enA))) (hq : ∀ h', Fr [] h h' → Q (.tup (A.map AR.t)) h') : (PH.fn_labels_of.go [.ref al] h).wp Q E := by
  unfold PH.fn_labels_of
  rw [w_defn]
  unfold PH.s_labels_of
  wp_walk
  refine w_lc (A.map enA) (fun h => h[al]? = some (.lst (A.map enA))) (fun i acc h' => acc = (A.take i).map AR.t ∧ h' = h) ?_ (fun _ _ _ q => by rw [q.2]; exact ha) ?_ ?_ ?_
  · wp_walk using ha
    exact ⟨t_cel _ _, rfl⟩
  · rintro i acc h' ⟨rfl, _⟩
    rw [List.length_map, List.length_take]
    show _ < 16777217
    omega
  · rintro i x acc h' hx ⟨rfl, rfl⟩
    obtain ⟨a, ea, rfl⟩ := map_get hx
    have hi := lt_of_get ea
    have e : A.take (i + 1) = A.take i ++ [a] := by rw [List.take_add_one, ea]; rfl
    unfold enA
    wp_walk using List.length_take
    rw [e]
    refine ⟨by omega, ?_⟩
    rw [List.map_append]; rfl
  · rintro acc h' ⟨rfl, rfl⟩
    rw [List.length_map, List.take_length]
    have g : ∀ xs : List D, (h' ++ [Cell.lst xs])[h'.length]? = some (.lst xs) := fun xs => get_new1
    wp_walk using g
    exact hq _ .app
theorem paper_gen {p : Pln} {h : Hs} {Q : D → Hs → Prop} {E : Ex → Hs → Prop} (w : WP p) (hq : ∀ d h', PapD p d → Fr [] h h' → Q d h') : (PH.fn_paper.go [enP p] h).wp Q E := by
  have fm := w.fm
  have fr := w.fr
  have wa := w.arms
  have l1 := stepsOf_len p.rows
  have lA : (armsP p.rows).length ≤ 280 := by unfold armsP; rw [List.length_map]; omega
  unfold PH.fn_paper
  rw [w_defn]
  unfold PH.s_paper
  wp_walk
  rw [w_seqF]
  wp_walk
  refine ⟨rfl, nodes_ok (by omega) ?_⟩
  wp_walk
  rw [w_seqF]
  wp_walk
  refine ⟨rfl, steps_ok (by omega) fun h1 F1 => ?_⟩
  wp_walk
  refine ⟨rfl, arcs_ok (by omega) fun al h2 ha F2 => ?_⟩
  wp_walk
  refine ⟨rfl, ?_⟩
  have e0 : D.str zro :: p.marks.map .str = (zro :: p.marks).map .str := rfl
  rw [e0]
  refine distances_gen (A := armsP p.rows) (by simp) (by simp; omega) (by simp; omega) (by omega) (fun x m => m) (fun a m => (wa a m).1) (fun a m => (wa a m).2) ha (fun r di ii rl h3 g e3 F3 => ?_) fun s di ii h3 fin bd hne sr F3 => ?_
  · have ng := g.neg'
    rw [armsP_arcs] at ng
    have lr : r.length ≤ 100000 := by
      have : (r.map AR.u).length ≤ (zro :: p.marks).length := by
        rcases Nat.lt_or_ge (zro :: p.marks).length (r.map AR.u).length with q | q
        · obtain ⟨i, j, hij, hj, e⟩ := pigeon (zro :: p.marks) (r.map AR.u) (fun x m => by
            obtain ⟨a, ha, rfl⟩ := List.mem_map.mp m
            exact (wa a (g.mem a ha)).1.1) q
          rw [List.getElem?_eq_getElem hj, List.getElem?_eq_getElem (Nat.lt_trans hij hj)] at e
          have := (List.getElem_inj g.nd).mp (Option.some.inj e)
          omega
        · exact q
      rw [List.length_map, List.length_cons] at this
      omega
    wp_walk
    rw [w_seqF]
    wp_walk
    refine ⟨rfl, labels_ok (by rw [List.length_reverse]; exact lr) e3 fun h4 F4 => ?_⟩
    wp_walk
    exact hq _ _ (.inr ⟨r, g, ng, rfl⟩) (F1.trans (F2.trans (F3.trans F4)))
  · obtain ⟨kd, ki, e1, e2, d1, d2⟩ := sr
    wp_walk
    rw [w_seqF]
    wp_walk
    have hd : ∀ x ∈ zro :: p.marks, s.dist x ≠ none := fun x m => by
      obtain ⟨d, e, _⟩ := fin.st x m
      rw [e]; simp
    refine ⟨rfl, datesFrom_ok (by omega) e1 d1 hd fun h4 F4 => ?_⟩
    wp_walk
    have mt := fin.meets fun a m => (wa a m).1
    rw [armsP_arcs] at mt
    exact hq _ _ (.inl ⟨fun x => (s.dist x).getD 0 - (s.dist zro).getD 0, mt.noNeg, fun u v l m => by have := mt u v l m; dsimp only at this ⊢; omega, Int.sub_self _, fun M hM m => by
      have hg : ∀ v, ((s.dist v).getD 0).natAbs ≤ (p.marks.length + 1) * ((armsP p.rows).length * M) := fun v => by
        cases e : s.dist v with
        | none => simp
        | some d => exact bd M hM v d e
      have := hg m
      have := hg zro
      dsimp only
      omega, rfl⟩) (F1.trans (F2.trans (F3.trans F4)))
theorem holds_gen {p : Pln} {h : Hs} {Q : D → Hs → Prop} {E : Ex → Hs → Prop} (w : WP p) (hq : ∀ (b : Bool) h', (b = true ↔ NoNeg (arcsP p.rows)) → Fr [] h h' → Q (.bl b) h') : (PH.fn_holds.go [enP p] h).wp Q E := by
  unfold PH.fn_holds
  rw [w_defn]
  unfold PH.s_holds
  wp_walk
  refine ⟨rfl, paper_gen w fun d h1 pd F => ?_⟩
  rcases pd with ⟨f, nn, _, _, _, rfl⟩ | ⟨r, _, nn, rfl⟩
  · wp_walk
    exact hq true _ ⟨fun _ => nn, fun _ => rfl⟩ F
  · wp_walk using show decide (cs "ring" = cs "dates") = false from by decide +kernel
    exact hq false _ ⟨fun q => by simp at q, fun q => absurd q nn⟩ F
/-! LR: apart in general. -/
open PySem PySem.Spec PyProof.Rows L2
/-- small plans -/
structure Sml (p : Pln) : Prop where
  w : WP p
  b : SmB p.rows
  m : p.marks.length ≤ 7
  r : p.rows.length ≤ 30
def GoodF (p : Pln) (f : Nm → Int) : Prop := Meets (arcsP p.rows) f ∧ f zro = 0 ∧ ∀ m ∈ p.marks, (f m).natAbs ≤ 9999999
theorem BdF.good {p : Pln} {f : Nm → Int} (b : BdF p f) (s : Sml p) : ∀ m ∈ p.marks, (f m).natAbs ≤ 9999999 := fun m _ => by
  have := b 9 s.b.arms m
  have l1 : (armsP p.rows).length ≤ 60 := by unfold armsP; rw [List.length_map]; have := stepsOf_len p.rows; have := s.r; omega
  have : (p.marks.length + 1) * ((armsP p.rows).length * 9) ≤ 8 * (60 * 9) := Nat.mul_le_mul (by have := s.m; omega) (Nat.mul_le_mul_right _ l1)
  omega
theorem beyond_gen {p q : Pln} {h : Hs} {Q : D → Hs → Prop} {E : Ex → Hs → Prop} (sp : Sml p) (sq : Sml q) (em : q.marks = p.marks) (nn : NoNeg (arcsP p.rows))
    (h0 : ∀ h', (∀ s ∈ q.rows, outS p s = none) → Fr [] h h' → Q .non h')
    (h1 : ∀ f s h', s ∈ q.rows → metB f s = false → GoodF p f → Fr [] h h' → Q (enD p.marks f) h') : (PH.fn_beyond.go [enP p, enP q] h).wp Q E := by
  unfold PH.fn_beyond
  rw [w_defn]
  unfold PH.s_beyond
  rw [w_seqF]
  have ok : ∀ s ∈ q.rows, s.a ∈ zro :: p.marks ∧ s.b ∈ zro :: p.marks ∧ s.a ≠ s.b := fun s m => by rw [← em]; exact sq.w.ok s m
  refine w_for (q.rows.map enS) (fun _ => True) (fun i env h' => (∃ o2 o3, env = [some (enP p), some (enP q), o2, o3]) ∧ (∀ s ∈ q.rows.take i, outS p s = none) ∧ Fr [] h h') ?_ (fun _ _ _ _ => trivial) ?_ ?_
  · wp_walk using ixP
    exact ⟨t_seq _ _, ⟨_, _, rfl⟩, fun s m => by simp at m, Fr.refl⟩
  · rintro i x env h' hx ⟨⟨o2, o3, rfl⟩, hn, F⟩
    obtain ⟨s, hs', rfl⟩ := map_get hx
    have ms := List.mem_of_getElem? hs'
    have oks := ok s ms
    wp_walk
    rw [w_seqF]
    wp_walk
    refine ⟨rfl, outside_ok sp.w nn ⟨oks.1, oks.2.1⟩ fun h2 F2 => ?_⟩
    cases e : outS p s with
    | none =>
      wp_walk using enO_n
      refine ⟨⟨_, _, rfl⟩, fun r m => ?_, F.trans F2⟩
      rcases take_mem hs' m with m | rfl
      · exact hn r m
      · exact e
    | some g =>
      obtain ⟨k1, k2, k3⟩ := out_gap sp.w nn e
      wp_walk using enO_s, ixS
      refine ⟨rfl, datesWith_ok sp.w nn sp.b oks.1 oks.2.1 oks.2.2 sp.m sp.r (gap_bd sp.w nn sp.b sp.m sp.r (fun r m => by rw [List.mem_singleton.mp m]; exact sq.b s ms) ⟨oks.1, oks.2.1⟩ e) k1 k2 fun f h3 mf f0 fg fb F3 => ?_⟩
      wp_walk
      exact h1 f s _ ms (met_false (by rw [fg]; exact k3)) ⟨mf, f0, fb⟩ (F.trans (F2.trans F3))
  · rintro env h' ⟨⟨o2, o3, rfl⟩, hn, F⟩
    rw [List.length_map, List.take_length] at hn
    wp_walk
    exact h0 _ hn F
/-- what apart tells -/
inductive ApD (p q : Pln) : D → Prop
  | both : NoNeg (arcsP p.rows) → NoNeg (arcsP q.rows) → (∀ s ∈ q.rows, outS p s = none) → (∀ s ∈ p.rows, outS q s = none) → ApD p q .non
  | none : ¬ NoNeg (arcsP p.rows) → ¬ NoNeg (arcsP q.rows) → ApD p q .non
  | one (f : Nm → Int) : NoNeg (arcsP p.rows) → GoodF p f → (¬ NoNeg (arcsP q.rows) ∨ ∃ s ∈ q.rows, metB f s = false) → ApD p q (enD p.marks f)
  | other (f : Nm → Int) : NoNeg (arcsP q.rows) → GoodF q f → (¬ NoNeg (arcsP p.rows) ∨ ∃ s ∈ p.rows, metB f s = false) → ApD p q (enD q.marks f)
theorem isD (ms : List Nm) (f : Nm → Int) : isOp (enD ms f) .non = some false := rfl
theorem apart_gen {p q : Pln} {h : Hs} {Q : D → Hs → Prop} {E : Ex → Hs → Prop} (sp : Sml p) (sq : Sml q) (em : q.marks = p.marks) (hq : ∀ d h', ApD p q d → Fr [] h h' → Q d h') : (PH.fn_apart.go [enP p, enP q] h).wp Q E := by
  unfold PH.fn_apart
  rw [w_defn]
  unfold PH.s_apart
  wp_walk
  rw [w_seqF]
  wp_walk
  refine ⟨rfl, paper_gen sp.w fun d h1 pd F1 => ?_⟩
  rcases pd with ⟨f, nn, mt, f0, bf, rfl⟩ | ⟨r, _, nn, rfl⟩
  · wp_walk using show decide (cs "dates" = cs "ring") = false from by decide +kernel
    refine ⟨rfl, holds_gen sq.w fun c h2 hc F2 => ?_⟩
    cases c with
    | false =>
      wp_walk
      exact hq _ _ (.one f nn ⟨mt, f0, bf.good sp⟩ (.inl fun q => by have := hc.mpr q; simp at this)) (F1.trans F2)
    | true =>
      have nq := hc.mp rfl
      wp_walk
      rw [w_seqF]
      wp_walk
      refine ⟨rfl, beyond_gen sp sq em nn (fun h3 hn F3 => ?_) fun f s h3 ms mf gf F3 => ?_⟩
      · wp_walk
        refine ⟨rfl, beyond_gen sq sp em.symm nq (fun h4 hn2 F4 => ?_) fun f s h4 ms mf gf F4 => ?_⟩
        · wp_walk
          exact hq _ _ (.both nn nq hn hn2) (F1.trans (F2.trans (F3.trans F4)))
        · wp_walk
          exact hq _ _ (.other f nq gf (.inr ⟨s, ms, mf⟩)) (F1.trans (F2.trans (F3.trans F4)))
      · wp_walk using isD
        exact hq _ _ (.one f nn gf (.inr ⟨s, ms, mf⟩)) (F1.trans (F2.trans F3))
  · wp_walk using show decide (cs "ring" = cs "ring") = true from by decide +kernel
    refine ⟨rfl, paper_gen sq.w fun d h2 pd F2 => ?_⟩
    rcases pd with ⟨f, nq, mt, f0, bf, rfl⟩ | ⟨r, _, nq, rfl⟩
    · wp_walk
      exact hq _ _ (.other f nq ⟨mt, f0, bf.good sq⟩ (.inl nn)) (F1.trans F2)
    · wp_walk using show decide (cs "ring" = cs "dates") = false from by decide +kernel
      exact hq _ _ (.none nn nq) (F1.trans F2)
theorem imp_one {p : Pln} {f : Nm → Int} {s : Spn} (mt : Meets (arcsP p.rows) f) (i : Imp (arcsP [s]) (arcsP p.rows)) : metB f s = true := by
  refine met_true (p := ⟨p.marks, [s]⟩) (fun u v l m => ?_) (List.mem_singleton.mpr rfl)
  obtain ⟨L, hL, wk⟩ := i u v l m
  have := mt.wk wk
  omega
theorem same_gen {p q : Pln} {h : Hs} {Q : D → Hs → Prop} {E : Ex → Hs → Prop} (sp : Sml p) (sq : Sml q) (em : q.marks = p.marks) (hq : ∀ d h', ApD p q d → Fr [] h h' → Q (.bl (match d with | .non => true | _ => false)) h') : (PH.fn_same.go [enP p, enP q] h).wp Q E := by
  unfold PH.fn_same
  rw [w_defn]
  unfold PH.s_same
  wp_walk
  refine ⟨rfl, apart_gen sp sq em fun d h1 ad F1 => ?_⟩
  have fin := hq d h1 ad F1
  cases ad with
  | both => wp_walk; exact fin
  | none => wp_walk; exact fin
  | one f => wp_walk using isD; exact fin
  | other f => wp_walk using isD; exact fin
/-- one span more: the same plan, exactly if the plan says it -/
theorem same_more {p : Pln} {s : Spn} {h : Hs} {Q : D → Hs → Prop} {E : Ex → Hs → Prop} (sp : Sml p) (sq : Sml ⟨p.marks, p.rows ++ [s]⟩) (nn : NoNeg (arcsP p.rows)) (hq : ∀ h', Fr [] h h' → Q (.bl (outS p s).isNone) h') : (PH.fn_same.go [enP p, enP ⟨p.marks, p.rows ++ [s]⟩] h).wp Q E := by
  refine same_gen sp sq rfl fun d h1 ad F1 => ?_
  have fin := hq h1 F1
  have sub1 : ∀ x ∈ arcsP p.rows, x ∈ arcsP (p.rows ++ [s]) := arcs_sub (List.sublist_append_left _ _)
  have yes : outS p s = none → Imp (arcsP (p.rows ++ [s])) (arcsP p.rows) := fun e u v l m => by
    obtain ⟨r, hr, m⟩ := arcs_mem.mp m
    rcases List.mem_append.mp hr with hr | hr
    · exact ⟨l, Int.le_refl _, Wk.one (arcs_mem.mpr ⟨r, hr, m⟩)⟩
    · rw [List.mem_singleton.mp hr] at m
      exact says_imp sp.w e u v l m
  have no : ∀ f, GoodF p f → (¬ NoNeg (arcsP (p.rows ++ [s])) ∨ ∃ r ∈ p.rows ++ [s], metB f r = false) → outS p s ≠ none := fun f gf hh e => by
    rcases hh with hn | ⟨r, hr, mf⟩
    · refine hn fun x L wk => ?_
      obtain ⟨L', hl, wk'⟩ := (yes e).wk wk
      have := nn x L' wk'
      omega
    · have : metB f r = true := imp_one gf.1 fun u v l m => yes e u v l (arcs_mem.mpr ⟨r, hr, m⟩)
      rw [mf] at this; cases this
  cases ad with
  | both _ _ h1 _ =>
    have e := h1 s (List.mem_append_right _ (List.mem_singleton.mpr rfl))
    rw [e] at fin
    exact fin
  | none a _ => exact absurd nn a
  | one f _ gf hh =>
    have e := no f gf hh
    rw [show (outS p s).isNone = false by cases q : outS p s with | none => exact absurd q e | some g => rfl] at fin
    exact fin
  | other f _ gf hh =>
    rcases hh with a | ⟨r, hr, mf⟩
    · exact absurd nn a
    · have : metB f r = true := met_true gf.1 (List.mem_append_left _ hr)
      rw [mf] at this; cases this
end M

namespace P64
open PySem PySem.Spec PyProof.Rows L2 M
/-- _law_moved(plan, name, least, most): slots ['plan', 'name', 'least', 'most', 'row'] -/
noncomputable def s__law_moved : Sf :=
  retF (tupE (aCons (kE (.str (cs "plan"))) (aCons (bE (vE 0) (kE (.int 1)) ixOp) (aCons (cE (aCons (lcE (vS (bE (vE 0) (kE (.int 2)) ixOp)) (.nm 4) none (ifE (bE (bE (vE 4) (kE (.int 1)) ixOp) (vE 1) (cmpR .Eq)) (bE (slE (vE 4) none (some (kE (.int 4)))) (tupE (aCons (vE 2) (aCons (vE 3) aNil))) (binOp .Add)) (vE 4)) [4]) aNil) (on1 tuple1)) aNil))))
noncomputable def fn__law_moved : Fn := defn 4 5 s__law_moved
/-- law(script): slots ['script', 'box', 'turn', 'plan', 'row', 'kind', 'name', 'a', 'b', 'least', 'most', 'first', 'second', 'high', 'low', 'near', 'far'] -/
noncomputable def s_law : Sf :=
  seqF (asgF (lstE (aCons (fE (aCons (vE 0) (aCons (kE (.int 0)) (aCons (kE (.int 63)) aNil))) PH.fn__law_digits) (aCons (kE (.int 0)) aNil))) (asgT (.nm 1))) (
  seqF (forF (rS (aCons (kE (.int 3)) aNil) rng1Of) (.nm 2) (
    seqF (asgF (fE (aCons (vE 1) (aCons (bE (kE (.int 1)) (fE (aCons (vE 1) (aCons (kE (.int 6)) aNil)) PH.fn__law_draw) (binOp .Add)) (aCons (bE (kE (.int 1)) (fE (aCons (vE 1) (aCons (kE (.int 8)) aNil)) PH.fn__law_draw) (binOp .Add)) (aCons (kE (.int 0)) aNil)))) PH.fn__law_holding) (asgT (.nm 3))) (
    seqF (ifF (bE (bE (vE 3) (kE (.int 2)) ixOp) (tupE aNil) (cmpR .Eq)) (ctF) (nextF)) (
    seqF (asgF (bE (bE (vE 3) (kE (.int 2)) ixOp) (bE (fE (aCons (vE 1) (aCons (kE (.int 900)) aNil)) PH.fn__law_draw) (cE (aCons (bE (vE 3) (kE (.int 2)) ixOp) aNil) (on1 len1)) (binOp .Mod)) ixOp) (asgT (.tp [.nm 5, .nm 6, .nm 7, .nm 8, .nm 9, .nm 10]))) (
    seqF (asgF (fE (aCons (vE 3) (aCons (vE 6) aNil)) PH.fn_spare) (asgT (.tp [.nm 11, .nm 12]))) (
    seqF (ifF (bE (vE 11) (kE .non) (cmpR .IsNot)) (seqF (parF [15, 16] (aCons (fE (aCons (vE 3) (aCons (vE 6) (aCons (bE (vE 9) (vE 11) (binOp .Add)) (aCons (vE 10) aNil)))) P64.fn__law_moved) (aCons (tupE (aCons (kE (.str (cs "plan"))) (aCons (bE (vE 3) (kE (.int 1)) ixOp) (aCons (bE (bE (vE 3) (kE (.int 2)) ixOp) (tupE (aCons (tupE (aCons (kE (.str (cs "span"))) (aCons (kE (.str (cs "far"))) (aCons (vE 7) (aCons (vE 8) (aCons (bE (bE (vE 9) (vE 11) (binOp .Add)) (kE (.int 1)) (binOp .Add)) (aCons (kE .non) aNil))))))) aNil)) (binOp .Add)) aNil)))) aNil))) (
      ifF (orE (bE (vE 11) (kE (.int 0)) (cmpR .Lt)) (orE (notE (fE (aCons (fE (aCons (vE 15) aNil) PH.fn_holds) (aCons (kE (.bl true)) aNil)) PH.fn__law_like)) (orE (notE (fE (aCons (vE 15) aNil) PH.fn__law_holds)) (orE (bE (fE (aCons (vE 16) aNil) PH.fn_holds) (kE (.bl false)) (cmpR .IsNot)) (bE (bE (fE (aCons (vE 16) aNil) PH.fn_paper) (kE (.int 0)) ixOp) (kE (.str (cs "ring"))) (cmpR .NotEq)))))) (retF (kE (.bl false))) (nextF))) (nextF)) (
    seqF (ifF (bE (vE 12) (kE .non) (cmpR .IsNot)) (seqF (parF [15, 16] (aCons (fE (aCons (vE 3) (aCons (vE 6) (aCons (vE 9) (aCons (bE (vE 10) (vE 12) (binOp .Sub)) aNil)))) P64.fn__law_moved) (aCons (tupE (aCons (kE (.str (cs "plan"))) (aCons (bE (vE 3) (kE (.int 1)) ixOp) (aCons (bE (bE (vE 3) (kE (.int 2)) ixOp) (tupE (aCons (tupE (aCons (kE (.str (cs "span"))) (aCons (kE (.str (cs "far"))) (aCons (vE 7) (aCons (vE 8) (aCons (kE .non) (aCons (bE (bE (vE 10) (vE 12) (binOp .Sub)) (kE (.int 1)) (binOp .Sub)) aNil))))))) aNil)) (binOp .Add)) aNil)))) aNil))) (
      ifF (orE (bE (vE 12) (kE (.int 0)) (cmpR .Lt)) (orE (notE (fE (aCons (fE (aCons (vE 15) aNil) PH.fn_holds) (aCons (kE (.bl true)) aNil)) PH.fn__law_like)) (orE (notE (fE (aCons (vE 15) aNil) PH.fn__law_holds)) (bE (fE (aCons (vE 16) aNil) PH.fn_holds) (kE (.bl false)) (cmpR .IsNot))))) (retF (kE (.bl false))) (nextF))) (nextF)) (
    seqF (parF [13, 14] (aCons (fE (aCons (vE 3) (aCons (vE 7) (aCons (vE 8) aNil))) PH.fn_widest) (aCons (fE (aCons (vE 3) (aCons (vE 8) (aCons (vE 7) aNil))) PH.fn_widest) aNil))) (
    seqF (ifF (bE (bE (vE 6) (fE (aCons (vE 3) aNil) PH.fn_tight) (cmpR .In)) (andE (bE (vE 13) (kE .non) (cmpR .IsNot)) (andE (bE (vE 14) (kE .non) (cmpR .IsNot)) (bE (bE (vE 13) (vE 14) (binOp .Add)) (kE (.int 0)) (cmpR .Eq)))) (cmpR .NotEq)) (retF (kE (.bl false))) (nextF)) (
    seqF (asgF (fE (aCons (vE 1) (aCons (kE (.str (cs "new"))) (aCons (bE (vE 3) (kE (.int 1)) ixOp) (aCons (kE (.bl false)) aNil)))) PH.fn__law_span) (asgT (.nm 4))) (
    ifF (notE (fE (aCons (fE (aCons (vE 3) (aCons (vE 4) aNil)) PH.fn_says) (aCons (fE (aCons (vE 3) (aCons (tupE (aCons (kE (.str (cs "plan"))) (aCons (bE (vE 3) (kE (.int 1)) ixOp) (aCons (bE (bE (vE 3) (kE (.int 2)) ixOp) (tupE (aCons (vE 4) aNil)) (binOp .Add)) aNil)))) aNil)) PH.fn_same) aNil)) PH.fn__law_like)) (retF (kE (.bl false))) (nextF))))))))))) (nextF)) (
  retF (kE (.bl true))))
noncomputable def fn_law : Fn := defn 1 17 s_law
end P64

namespace P06
open PySem PySem.Spec PyProof.Rows L2 M
/-- way_to(into, node): slots ['into', 'node', 'arcs'] -/
noncomputable def s_way_to : Sf :=
  seqF (asgF (lstE aNil) (asgT (.nm 2))) (
  seqF (whF (bE (vE 1) (vE 0) (cmpR .In)) (
    seqF (dropF (mE (vE 2) (aCons (bE (vE 0) (vE 1) ixOp) aNil) appM)) (
    asgF (bE (bE (vE 0) (vE 1) ixOp) (kE (.int 0)) ixOp) (asgT (.nm 1)))) (nextF)) (
  seqF (dropF (mE (vE 2) aNil revM)) (
  retF (vE 2))))
noncomputable def fn_way_to : Fn := defn 2 3 s_way_to
/-- back_arcs(steps): slots ['steps', 'name', 'side', 'begin', 'end', 'length'] -/
noncomputable def s_back_arcs : Sf :=
  retF (lcE (vS (vE 0)) (.tp [.nm 1, .nm 2, .nm 3, .nm 4, .nm 5]) none (tupE (aCons (vE 4) (aCons (vE 3) (aCons (vE 5) (aCons (tupE (aCons (vE 1) (aCons (vE 2) aNil))) aNil))))) [1, 2, 3, 4, 5])
noncomputable def fn_back_arcs : Fn := defn 1 6 s_back_arcs
/-- table_of(steps): slots ['steps', 'name', 'side', 'begin', 'end', 'length'] -/
noncomputable def s_table_of : Sf :=
  retF (dtE (vS (vE 0)) (.tp [.nm 1, .nm 2, .nm 3, .nm 4, .nm 5]) none (tupE (aCons (vE 1) (aCons (vE 2) aNil))) (tupE (aCons (vE 3) (aCons (vE 4) (aCons (vE 5) aNil)))) [1, 2, 3, 4, 5])
noncomputable def fn_table_of : Fn := defn 1 6 s_table_of
/-- are_steps(table, thing): slots ['table', 'thing', 'step'] -/
noncomputable def s_are_steps : Sf :=
  seqF (ifF (notE (isiE (vE 1) "tuple")) (retF (kE (.bl false))) (nextF)) (
  seqF (forF (vS (vE 1)) (.nm 2) (
    seqF (ifF (orE (notE (isiE (vE 2) "tuple")) (bE (cE (aCons (vE 2) aNil) (on1 len1)) (kE (.int 2)) (cmpR .NotEq))) (retF (kE (.bl false))) (nextF)) (
    ifF (orE (notE (isiE (bE (vE 2) (kE (.int 0)) ixOp) "str")) (orE (notE (isiE (bE (vE 2) (kE (.int 1)) ixOp) "str")) (bE (vE 2) (vE 0) (cmpR .NotIn)))) (retF (kE (.bl false))) (nextF))) (nextF)) (
  retF (kE (.bl true))))
noncomputable def fn_are_steps : Fn := defn 2 3 s_are_steps
/-- is_way(plan, x, y, steps): slots ['plan', 'x', 'y', 'steps', 'nodes', 'table', 'at', 'step', 'begin', 'end', '_'] -/
noncomputable def s_is_way : Sf :=
  seqF (asgF (fE (aCons (vE 0) aNil) PH.fn_nodes_of) (asgT (.nm 4))) (
  seqF (asgF (fE (aCons (fE (aCons (vE 0) aNil) PH.fn_steps_of) aNil) P06.fn_table_of) (asgT (.nm 5))) (
  seqF (ifF (orE (bE (vE 1) (vE 4) (cmpR .NotIn)) (orE (bE (vE 2) (vE 4) (cmpR .NotIn)) (notE (fE (aCons (vE 5) (aCons (vE 3) aNil)) P06.fn_are_steps)))) (retF (kE (.bl false))) (nextF)) (
  seqF (asgF (vE 1) (asgT (.nm 6))) (
  seqF (forF (vS (vE 3)) (.nm 7) (
    seqF (asgF (bE (vE 5) (vE 7) ixOp) (asgT (.tp [.nm 8, .nm 9, .nm 10]))) (
    seqF (ifF (bE (vE 8) (vE 6) (cmpR .NotEq)) (retF (kE (.bl false))) (nextF)) (
    asgF (vE 9) (asgT (.nm 6))))) (nextF)) (
  retF (bE (vE 6) (vE 2) (cmpR .Eq)))))))
noncomputable def fn_is_way : Fn := defn 4 11 s_is_way
/-- length_of(plan, steps): slots ['plan', 'steps', 'table', 'step'] -/
noncomputable def s_length_of : Sf :=
  seqF (asgF (fE (aCons (fE (aCons (vE 0) aNil) PH.fn_steps_of) aNil) P06.fn_table_of) (asgT (.nm 2))) (
  retF (cE (aCons (lcE (vS (vE 1)) (.nm 3) none (bE (bE (vE 2) (vE 3) ixOp) (kE (.int 2)) ixOp) [3]) aNil) (on1 sum1)))
noncomputable def fn_length_of : Fn := defn 2 4 s_length_of
/-- distances_to(plan, y): slots ['plan', 'y'] -/
noncomputable def s_distances_to : Sf :=
  retF (bE (fE (aCons (fE (aCons (vE 0) aNil) PH.fn_nodes_of) (aCons (fE (aCons (fE (aCons (vE 0) aNil) PH.fn_steps_of) aNil) P06.fn_back_arcs) (aCons (tupE (aCons (vE 1) aNil)) aNil))) PH.fn_distances) (kE (.int 0)) ixOp)
noncomputable def fn_distances_to : Fn := defn 2 2 s_distances_to
/-- way(plan, x, y): slots ['plan', 'x', 'y', 'dist', 'into', '_'] -/
noncomputable def s_way : Sf :=
  seqF (asgF (fE (aCons (fE (aCons (vE 0) aNil) PH.fn_nodes_of) (aCons (fE (aCons (fE (aCons (vE 0) aNil) PH.fn_steps_of) aNil) PH.fn_arcs_of) (aCons (tupE (aCons (vE 1) aNil)) aNil))) PH.fn_distances) (asgT (.tp [.nm 3, .nm 4, .nm 5]))) (
  retF (ifE (bE (vE 2) (vE 3) (cmpR .In)) (fE (aCons (fE (aCons (vE 4) (aCons (vE 2) aNil)) P06.fn_way_to) aNil) PH.fn_labels_of) (kE .non)))
noncomputable def fn_way : Fn := defn 3 6 s_way
/-- windows(plan): slots ['plan', 'ahead', 'back', 'mark'] -/
noncomputable def s_windows : Sf :=
  seqF (asgF (fE (aCons (vE 0) (aCons (kE (.str (cs "zero"))) aNil)) PH.fn_distances_from) (asgT (.nm 1))) (
  seqF (asgF (fE (aCons (vE 0) (aCons (kE (.str (cs "zero"))) aNil)) P06.fn_distances_to) (asgT (.nm 2))) (
  retF (cE (aCons (lcE (vS (bE (vE 0) (kE (.int 1)) ixOp)) (.nm 3) none (tupE (aCons (vE 3) (aCons (ifE (bE (vE 3) (vE 2) (cmpR .In)) (bE (kE (.int 0)) (bE (vE 2) (vE 3) ixOp) (binOp .Sub)) (kE .non)) (aCons (mE (vE 1) (aCons (vE 3) aNil) getM) aNil)))) [3]) aNil) (on1 tuple1))))
noncomputable def fn_windows : Fn := defn 1 4 s_windows
/-- window(plan, mark): slots ['plan', 'mark', 'back'] -/
noncomputable def s_window : Sf :=
  seqF (asgF (fE (aCons (vE 0) (aCons (vE 1) (aCons (kE (.str (cs "zero"))) aNil))) PH.fn_widest) (asgT (.nm 2))) (
  retF (tupE (aCons (ifE (bE (vE 2) (kE .non) (cmpR .Is)) (kE .non) (bE (kE (.int 0)) (vE 2) (binOp .Sub))) (aCons (fE (aCons (vE 0) (aCons (kE (.str (cs "zero"))) (aCons (vE 1) aNil))) PH.fn_widest) aNil))))
noncomputable def fn_window : Fn := defn 2 3 s_window
/-- earliest(plan): slots ['plan', 'back', 'mark'] -/
noncomputable def s_earliest : Sf :=
  seqF (asgF (fE (aCons (vE 0) (aCons (kE (.str (cs "zero"))) aNil)) P06.fn_distances_to) (asgT (.nm 1))) (
  seqF (ifF (notE (cE (aCons (lcE (vS (bE (vE 0) (kE (.int 1)) ixOp)) (.nm 2) none (bE (vE 2) (vE 1) (cmpR .In)) [2]) aNil) (on1 all1))) (retF (kE .non)) (nextF)) (
  retF (cE (aCons (lcE (vS (bE (vE 0) (kE (.int 1)) ixOp)) (.nm 2) none (tupE (aCons (vE 2) (aCons (bE (kE (.int 0)) (bE (vE 1) (vE 2) ixOp) (binOp .Sub)) aNil))) [2]) aNil) (on1 tuple1))))
noncomputable def fn_earliest : Fn := defn 1 3 s_earliest
/-- _law_step_of(steps, thing): slots ['steps', 'thing', 'found', 'row'] -/
noncomputable def s__law_step_of : Sf :=
  seqF (ifF (orE (notE (isiE (vE 1) "tuple")) (orE (bE (cE (aCons (vE 1) aNil) (on1 len1)) (kE (.int 2)) (cmpR .NotEq)) (orE (notE (isiE (bE (vE 1) (kE (.int 0)) ixOp) "str")) (notE (isiE (bE (vE 1) (kE (.int 1)) ixOp) "str"))))) (retF (kE .non)) (nextF)) (
  seqF (asgF (lcE (vS (vE 0)) (.nm 3) (some (bE (slE (vE 3) none (some (kE (.int 2)))) (vE 1) (cmpR .Eq))) (vE 3) [3]) (asgT (.nm 2))) (
  retF (ifE (bE (vE 2) (lstE aNil) (cmpR .NotEq)) (bE (vE 2) (kE (.int 0)) ixOp) (kE .non))))
noncomputable def fn__law_step_of : Fn := defn 2 4 s__law_step_of
/-- _law_walk(steps, thing): slots ['steps', 'thing', 'rows', 'pair', 'k'] -/
noncomputable def s__law_walk : Sf :=
  seqF (ifF (notE (isiE (vE 1) "tuple")) (retF (kE .non)) (nextF)) (
  seqF (asgF (lcE (vS (vE 1)) (.nm 3) none (fE (aCons (vE 0) (aCons (vE 3) aNil)) P06.fn__law_step_of) [3]) (asgT (.nm 2))) (
  seqF (ifF (orE (bE (kE .non) (vE 2) (cmpR .In)) (bE (lcE (rS (aCons (kE (.int 1)) (aCons (cE (aCons (vE 2) aNil) (on1 len1)) aNil)) rng2Of) (.nm 4) (some (bE (bE (bE (vE 2) (vE 4) ixOp) (kE (.int 2)) ixOp) (bE (bE (vE 2) (bE (vE 4) (kE (.int 1)) (binOp .Sub)) ixOp) (kE (.int 3)) ixOp) (cmpR .NotEq))) (kE (.int 1)) [4]) (lstE aNil) (cmpR .NotEq))) (retF (kE .non)) (nextF)) (
  retF (vE 2))))
noncomputable def fn__law_walk : Fn := defn 2 5 s__law_walk
/-- _law_ring_right(steps, thing): slots ['steps', 'thing', 'rows', 'row'] -/
noncomputable def s__law_ring_right : Sf :=
  seqF (asgF (fE (aCons (vE 0) (aCons (vE 1) aNil)) P06.fn__law_walk) (asgT (.nm 2))) (
  seqF (ifF (orE (bE (vE 2) (kE .non) (cmpR .Is)) (orE (bE (vE 2) (lstE aNil) (cmpR .Eq)) (bE (bE (bE (vE 2) (uE (kE (.int 1)) negD) ixOp) (kE (.int 3)) ixOp) (bE (bE (vE 2) (kE (.int 0)) ixOp) (kE (.int 2)) ixOp) (cmpR .NotEq)))) (retF (kE (.bl false))) (nextF)) (
  retF (andE (bE (lsE (lcE (vS (vE 2)) (.nm 3) none (bE (vE 3) (kE (.int 2)) ixOp) [3])) (cE (aCons (vE 2) aNil) (on1 len1)) (cmpR .Eq)) (bE (cE (aCons (lcE (vS (vE 2)) (.nm 3) none (bE (vE 3) (kE (.int 4)) ixOp) [3]) aNil) (on1 sum1)) (kE (.int 0)) (cmpR .Lt)))))
noncomputable def fn__law_ring_right : Fn := defn 2 4 s__law_ring_right
/-- _law_paper_right(plan, thing): slots ['plan', 'thing'] -/
noncomputable def s__law_paper_right : Sf :=
  seqF (ifF (orE (notE (isiE (vE 1) "tuple")) (bE (cE (aCons (vE 1) aNil) (on1 len1)) (kE (.int 2)) (cmpR .NotEq))) (retF (kE (.bl false))) (nextF)) (
  seqF (ifF (fE (aCons (bE (vE 1) (kE (.int 0)) ixOp) (aCons (kE (.str (cs "dates"))) aNil)) PH.fn__law_like) (retF (fE (aCons (vE 0) (aCons (bE (vE 1) (kE (.int 1)) ixOp) aNil)) P16.fn__law_dates_right)) (nextF)) (
  retF (andE (fE (aCons (bE (vE 1) (kE (.int 0)) ixOp) (aCons (kE (.str (cs "ring"))) aNil)) PH.fn__law_like) (fE (aCons (fE (aCons (vE 0) aNil) PH.fn__law_steps) (aCons (bE (vE 1) (kE (.int 1)) ixOp) aNil)) P06.fn__law_ring_right))))
noncomputable def fn__law_paper_right : Fn := defn 2 2 s__law_paper_right
/-- _law_less(number): slots ['number'] -/
noncomputable def s__law_less : Sf :=
  retF (ifE (bE (vE 0) (kE .non) (cmpR .Is)) (kE .non) (bE (kE (.int 0)) (vE 0) (binOp .Sub)))
noncomputable def fn__law_less : Fn := defn 1 1 s__law_less
/-- law(script): slots ['script', 'box', 'turn', 'plan', 'right', 'told', 'table', 'x', 'found', 'due', 'steps', 'names', 'y', 'rows', 'mark', 'row'] -/
noncomputable def s_law : Sf :=
  seqF (asgF (lstE (aCons (fE (aCons (vE 0) (aCons (kE (.int 0)) (aCons (kE (.int 63)) aNil))) PH.fn__law_digits) (aCons (kE (.int 0)) aNil))) (asgT (.nm 1))) (
  seqF (forF (rS (aCons (kE (.int 3)) aNil) rng1Of) (.nm 2) (
    seqF (asgF (fE (aCons (vE 1) (aCons (fE (aCons (vE 1) (aCons (kE (.int 7)) aNil)) PH.fn__law_draw) (aCons (fE (aCons (vE 1) (aCons (kE (.int 8)) aNil)) PH.fn__law_draw) (aCons (fE (aCons (vE 1) (aCons (kE (.int 3)) aNil)) PH.fn__law_draw) aNil)))) PH.fn__law_holding) (asgT (.nm 3))) (
    seqF (ifF (bE (fE (aCons (vE 1) (aCons (kE (.int 2)) aNil)) PH.fn__law_draw) (kE (.int 0)) (cmpR .Eq)) (asgF (fE (aCons (vE 1) (aCons (fE (aCons (vE 1) (aCons (kE (.int 6)) aNil)) PH.fn__law_draw) (aCons (fE (aCons (vE 1) (aCons (kE (.int 8)) aNil)) PH.fn__law_draw) (aCons (fE (aCons (vE 1) (aCons (kE (.int 3)) aNil)) PH.fn__law_draw) aNil)))) PH.fn__law_plan) (asgT (.nm 3))) (nextF)) (
    seqF (parF [10, 11] (aCons (fE (aCons (vE 3) aNil) PH.fn__law_steps) (aCons (bE (lstE (aCons (kE (.str (cs "zero"))) aNil)) (cE (aCons (bE (vE 3) (kE (.int 1)) ixOp) aNil) (on1 list1)) (binOp .Add)) aNil))) (
    seqF (asgF (fE (aCons (vE 3) aNil) PH.fn__law_holds) (asgT (.nm 4))) (
    seqF (ifF (orE (notE (fE (aCons (fE (aCons (vE 3) aNil) PH.fn_steps_of) (aCons (cE (aCons (vE 10) aNil) (on1 tuple1)) aNil)) PH.fn__law_like)) (notE (fE (aCons (fE (aCons (vE 3) aNil) PH.fn_holds) (aCons (vE 4) aNil)) PH.fn__law_like))) (retF (kE (.bl false))) (nextF)) (
    seqF (asgF (fE (aCons (vE 3) aNil) PH.fn_paper) (asgT (.nm 5))) (
    seqF (ifF (orE (notE (fE (aCons (vE 3) (aCons (vE 5) aNil)) P06.fn__law_paper_right)) (bE (bE (vE 5) (kE (.int 0)) ixOp) (ifE (vE 4) (kE (.str (cs "dates"))) (kE (.str (cs "ring")))) (cmpR .NotEq))) (retF (kE (.bl false))) (nextF)) (
    seqF (ifF (notE (vE 4)) (ctF) (nextF)) (
    seqF (asgF (fE (aCons (vE 3) (aCons (vE 10) aNil)) PH.fn__law_closure) (asgT (.nm 6))) (
    seqF (forF (vS (vE 11)) (.nm 7) (
      forF (vS (vE 11)) (.nm 12) (
        ifF (notE (fE (aCons (fE (aCons (vE 3) (aCons (vE 7) (aCons (vE 12) aNil))) PH.fn_widest) (aCons (bE (vE 6) (tupE (aCons (vE 7) (aCons (vE 12) aNil))) ixOp) aNil)) PH.fn__law_like)) (retF (kE (.bl false))) (nextF)) (nextF)) (nextF)) (
    seqF (parF [7, 12] (aCons (bE (vE 11) (bE (fE (aCons (vE 1) (aCons (kE (.int 900)) aNil)) PH.fn__law_draw) (cE (aCons (vE 11) aNil) (on1 len1)) (binOp .Mod)) ixOp) (aCons (bE (vE 11) (bE (fE (aCons (vE 1) (aCons (kE (.int 900)) aNil)) PH.fn__law_draw) (cE (aCons (vE 11) aNil) (on1 len1)) (binOp .Mod)) ixOp) aNil))) (
    seqF (asgF (fE (aCons (vE 3) (aCons (vE 7) (aCons (vE 12) aNil))) P06.fn_way) (asgT (.nm 8))) (
    seqF (ifF (bE (bE (vE 8) (kE .non) (cmpR .Is)) (bE (bE (vE 6) (tupE (aCons (vE 7) (aCons (vE 12) aNil))) ixOp) (kE .non) (cmpR .Is)) (cmpR .NotEq)) (retF (kE (.bl false))) (nextF)) (
    seqF (ifF (bE (vE 8) (kE .non) (cmpR .IsNot)) (seqF (asgF (fE (aCons (vE 10) (aCons (vE 8) aNil)) P06.fn__law_walk) (asgT (.nm 13))) (
      seqF (ifF (orE (bE (vE 13) (kE .non) (cmpR .Is)) (orE (andE (bE (vE 13) (lstE aNil) (cmpR .NotEq)) (orE (bE (bE (bE (vE 13) (kE (.int 0)) ixOp) (kE (.int 2)) ixOp) (vE 7) (cmpR .NotEq)) (bE (bE (bE (vE 13) (uE (kE (.int 1)) negD) ixOp) (kE (.int 3)) ixOp) (vE 12) (cmpR .NotEq)))) (andE (bE (vE 13) (lstE aNil) (cmpR .Eq)) (bE (vE 7) (vE 12) (cmpR .NotEq))))) (retF (kE (.bl false))) (nextF)) (
      ifF (orE (bE (cE (aCons (lcE (vS (vE 13)) (.nm 15) none (bE (vE 15) (kE (.int 4)) ixOp) [15]) aNil) (on1 sum1)) (bE (vE 6) (tupE (aCons (vE 7) (aCons (vE 12) aNil))) ixOp) (cmpR .NotEq)) (orE (bE (fE (aCons (vE 3) (aCons (vE 7) (aCons (vE 12) (aCons (vE 8) aNil)))) P06.fn_is_way) (kE (.bl true)) (cmpR .IsNot)) (bE (fE (aCons (vE 3) (aCons (vE 8) aNil)) P06.fn_length_of) (bE (vE 6) (tupE (aCons (vE 7) (aCons (vE 12) aNil))) ixOp) (cmpR .NotEq)))) (retF (kE (.bl false))) (nextF)))) (nextF)) (
    seqF (asgF (lcE (vS (bE (vE 3) (kE (.int 1)) ixOp)) (.nm 14) none (tupE (aCons (vE 14) (aCons (fE (aCons (bE (vE 6) (tupE (aCons (vE 14) (aCons (kE (.str (cs "zero"))) aNil))) ixOp) aNil) P06.fn__law_less) (aCons (bE (vE 6) (tupE (aCons (kE (.str (cs "zero"))) (aCons (vE 14) aNil))) ixOp) aNil)))) [14]) (asgT (.nm 9))) (
    seqF (ifF (orE (notE (fE (aCons (fE (aCons (vE 3) aNil) P06.fn_windows) (aCons (cE (aCons (vE 9) aNil) (on1 tuple1)) aNil)) PH.fn__law_like)) (bE (lcE (vS (vE 9)) (.nm 15) (some (notE (fE (aCons (fE (aCons (vE 3) (aCons (bE (vE 15) (kE (.int 0)) ixOp) aNil)) P06.fn_window) (aCons (slE (vE 15) (some (kE (.int 1))) none) aNil)) PH.fn__law_like))) (kE (.int 1)) [15]) (lstE aNil) (cmpR .NotEq))) (retF (kE (.bl false))) (nextF)) (
    ifF (notE (fE (aCons (fE (aCons (vE 3) aNil) P06.fn_earliest) (aCons (ifE (bE (kE .non) (lcE (vS (vE 9)) (.nm 15) none (bE (vE 15) (kE (.int 1)) ixOp) [15]) (cmpR .In)) (kE .non) (cE (aCons (lcE (vS (vE 9)) (.nm 15) none (slE (vE 15) none (some (kE (.int 2)))) [15]) aNil) (on1 tuple1))) aNil)) PH.fn__law_like)) (retF (kE (.bl false))) (nextF)))))))))))))))))) (nextF)) (
  retF (kE (.bl true))))
noncomputable def fn_law : Fn := defn 1 16 s_law
end P06

/-! WA: steps by their names; what the law walks. -/
namespace M
open PySem PySem.Spec PyProof.Rows L2
local macro_rules | `(tactic| wp_walk using $ts,*) => do let xs := Lean.Syntax.TSepArray.getElems ts; `(tactic| simp only [w_ok, w_exc, w_bind, w_of, w_cond, w_kE, w_vE, w_bE, w_uE, w_tst, w_andE, w_orE, w_notE, w_ifE, w_chE, w_ch3E, w_cmpR, w_aNil, w_aCons, w_aStar, w_tupE, w_lstE, w_cE, w_isiE, w_lsE, w_fE, w_mE, w_slE, w_ptN, w_ptS, w_newD, w_nextF, w_bkF, w_ctF, w_seqF, w_fl, w_dropF, w_retF, w_retNF, w_ifF, w_asgF, w_nm, w_tp, w_ts0, w_ts1, w_gS, w_augF, w_augS, w_parF, w_vS, w_rS, w_eS, w_zS, w_revS, w_iteS, w_lcN, w_lcS, wif_t, wif_f, wo_some, wo_map,
  defn_n, recn_n, List.getElem?_cons_zero, List.getElem?_cons_succ, Option.join_some, List.set_cons_zero, List.set_cons_succ, List.length_cons, List.length_nil, List.length_map, List.map_cons, List.map_nil, List.cons_append, List.nil_append, Nat.reduceAdd, Nat.reduceSub, Nat.zero_add, Option.map_some, Option.isSome_some, wipeE, parSet, Bool.not_true, Bool.not_false, decide_true, decide_false, Nat.reduceLeDiff, lim, Bool.true_eq_false, Bool.false_eq_true, if_true, if_false, true_and, and_true, eq_self, and_self, List.all_cons, List.all_nil, Bool.and_self, Bool.and_true, Bool.true_and, Int.reduceLT, Int.reduceLE, Nat.reduceLT, Int.reduceNeg, Int.reduceAdd, Int.reduceSub, Int.reduceMul, bo_add, bo_sub, bo_mul, bo_fd, bo_mod, bo_pow, ia_add, ia_sub, inD_i, add_i, iadd_i, add_s, iadd_s, add_t, add_r, adC_s, sub_i, mul_i, fd_i, mod_i, pow_i, neg_i, co_eq, co_ne, co_in, co_ni, co_is, co_isn, oi_Lt, os_Lt, oi_LtE, os_LtE, oi_Gt, os_Gt, oi_GtE, os_GtE, is_non_non, is_non_bl, is_non_int, is_non_str, is_non_tup, is_non_ls, is_non_ref, is_bl_non, is_bl_bl, is_bl_int, is_bl_str, is_bl_tup, is_bl_ls, is_bl_ref, trC_l, sqC_l, sqC_d, dcC_l, dcC_d, daC_l, daC_d, srC_l, laC_l, tyC_l, tyC_d, rvC_l, tr_non, tr_bl, tr_int, tr_str, tr_tup, tr_ref, tr_ls, sq_tup, sq_ls, sq_ref, dr_ref, da_ref, sr_tup, sr_ls, sr_str, sr_ref, sl_ls, sl_ref, rv_tup, rv_ref, la_ref, it_non, it_bl, it_int, it_str, it_tup, it_ls, it_ref, ix_tup, ix_ls, ix_str, ix_ref, ixC_l, ixC_d, atN, at0, at1, at2, at3, at4, at5, at6, at7, at8, at9, at10, at11, at12, at13, at14, atm1, atm2, on1_, on2_, len_str, len_tup, len_ls, len_ref, lnC_l, lnC_d, int_i, int_b, int_s, str_i, str_s, bool_i, bool_b, abs_i, max_i, min_i, ofL_s, lst1, tpl1, all_r, any_r, sum_r, sl_str, sl_tup, slo_ref, slo_ls, ty_l, ty_s, ty_d, ty_appM, ty_popM, ty_revM, ty_extM, ty_joinM, ty_splitM, ty_getM, ty_insM, go_app, apC_s, go_ext, exC_s, go_rev, rvM_s, go_get1, go_get2, gtC_s, go_join, jnC_s, go_split, go_ins, inC_s, go_pop, so_ref, stC_d, stC_l, go_dic, goC_d, goC_l, in_str1, in_tup, in_ls, in_ref, ioC_l, ioC_d, kOk_s, kOk_i, kOk_t, k1_s, k1_i, r1, r2, eq_ss, eq_ii, eq_nbl, eq_bln, eq_nint, eq_intn, eq_nstr, eq_strn, eq_nn, eq_is, eq_si, go_some, kit_NoneType_str, kit_NoneType_int, kit_NoneType_bool, kit_NoneType_tuple, kit_NoneType_list, kit_NoneType_dict, kit_bool_str, kit_bool_int, kit_bool_bool, kit_bool_tuple, kit_bool_list, kit_bool_dict, kit_int_str, kit_int_int, kit_int_bool, kit_int_tuple, kit_int_list, kit_int_dict, kit_str_str, kit_str_int, kit_str_bool, kit_str_tuple, kit_str_list, kit_str_dict, kit_tuple_str, kit_tuple_int, kit_tuple_bool, kit_tuple_tuple, kit_tuple_list, kit_tuple_dict, kit_list_str, kit_list_int, kit_list_bool, kit_list_tuple, kit_list_list, kit_list_dict, kit_dict_str, kit_dict_int, kit_dict_bool, kit_dict_tuple, kit_dict_list, kit_dict_dict, rp0, rp1, rp2, rp3, rp4, rp5, rp6, rp7, rp8, rp9, rp10, rp11, rp12, rp13, rp14, rp15, rp16, rp17, rp18, rp19, rp20, rp21, rp22, rp23, rp24, rp25, rp26, rp27, rp28, rp29, rp30, $[$xs:term],*])
local macro_rules | `(tactic| wp_walk) => `(tactic| simp only [w_ok, w_exc, w_bind, w_of, w_cond, w_kE, w_vE, w_bE, w_uE, w_tst, w_andE, w_orE, w_notE, w_ifE, w_chE, w_ch3E, w_cmpR, w_aNil, w_aCons, w_aStar, w_tupE, w_lstE, w_cE, w_isiE, w_lsE, w_fE, w_mE, w_slE, w_ptN, w_ptS, w_newD, w_nextF, w_bkF, w_ctF, w_fl, w_dropF, w_retF, w_retNF, w_ifF, w_asgF, w_nm, w_tp, w_ts0, w_ts1, w_gS, w_augF, w_augS, w_parF, w_vS, w_rS, w_eS, w_zS, w_revS, w_iteS, w_lcN, w_lcS, wif_t, wif_f, wo_some, wo_map,
  defn_n, recn_n, List.getElem?_cons_zero, List.getElem?_cons_succ, Option.join_some, List.set_cons_zero, List.set_cons_succ, List.length_cons, List.length_nil, List.length_map, List.map_cons, List.map_nil, List.cons_append, List.nil_append, Nat.reduceAdd, Nat.reduceSub, Nat.zero_add, Option.map_some, Option.isSome_some, wipeE, parSet, Bool.not_true, Bool.not_false, decide_true, decide_false, Nat.reduceLeDiff, lim, Bool.true_eq_false, Bool.false_eq_true, if_true, if_false, true_and, and_true, eq_self, and_self, List.all_cons, List.all_nil, Bool.and_self, Bool.and_true, Bool.true_and, Int.reduceLT, Int.reduceLE, Nat.reduceLT, Int.reduceNeg, Int.reduceAdd, Int.reduceSub, Int.reduceMul, bo_add, bo_sub, bo_mul, bo_fd, bo_mod, bo_pow, ia_add, ia_sub, inD_i, add_i, iadd_i, add_s, iadd_s, add_t, add_r, adC_s, sub_i, mul_i, fd_i, mod_i, pow_i, neg_i, co_eq, co_ne, co_in, co_ni, co_is, co_isn, oi_Lt, os_Lt, oi_LtE, os_LtE, oi_Gt, os_Gt, oi_GtE, os_GtE, is_non_non, is_non_bl, is_non_int, is_non_str, is_non_tup, is_non_ls, is_non_ref, is_bl_non, is_bl_bl, is_bl_int, is_bl_str, is_bl_tup, is_bl_ls, is_bl_ref, trC_l, sqC_l, sqC_d, dcC_l, dcC_d, daC_l, daC_d, srC_l, laC_l, tyC_l, tyC_d, rvC_l, tr_non, tr_bl, tr_int, tr_str, tr_tup, tr_ref, tr_ls, sq_tup, sq_ls, sq_ref, dr_ref, da_ref, sr_tup, sr_ls, sr_str, sr_ref, sl_ls, sl_ref, rv_tup, rv_ref, la_ref, it_non, it_bl, it_int, it_str, it_tup, it_ls, it_ref, ix_tup, ix_ls, ix_str, ix_ref, ixC_l, ixC_d, atN, at0, at1, at2, at3, at4, at5, at6, at7, at8, at9, at10, at11, at12, at13, at14, atm1, atm2, on1_, on2_, len_str, len_tup, len_ls, len_ref, lnC_l, lnC_d, int_i, int_b, int_s, str_i, str_s, bool_i, bool_b, abs_i, max_i, min_i, ofL_s, lst1, tpl1, all_r, any_r, sum_r, sl_str, sl_tup, slo_ref, slo_ls, ty_l, ty_s, ty_d, ty_appM, ty_popM, ty_revM, ty_extM, ty_joinM, ty_splitM, ty_getM, ty_insM, go_app, apC_s, go_ext, exC_s, go_rev, rvM_s, go_get1, go_get2, gtC_s, go_join, jnC_s, go_split, go_ins, inC_s, go_pop, so_ref, stC_d, stC_l, go_dic, goC_d, goC_l, in_str1, in_tup, in_ls, in_ref, ioC_l, ioC_d, kOk_s, kOk_i, kOk_t, k1_s, k1_i, r1, r2, eq_ss, eq_ii, eq_nbl, eq_bln, eq_nint, eq_intn, eq_nstr, eq_strn, eq_nn, eq_is, eq_si, go_some, kit_NoneType_str, kit_NoneType_int, kit_NoneType_bool, kit_NoneType_tuple, kit_NoneType_list, kit_NoneType_dict, kit_bool_str, kit_bool_int, kit_bool_bool, kit_bool_tuple, kit_bool_list, kit_bool_dict, kit_int_str, kit_int_int, kit_int_bool, kit_int_tuple, kit_int_list, kit_int_dict, kit_str_str, kit_str_int, kit_str_bool, kit_str_tuple, kit_str_list, kit_str_dict, kit_tuple_str, kit_tuple_int, kit_tuple_bool, kit_tuple_tuple, kit_tuple_list, kit_tuple_dict, kit_list_str, kit_list_int, kit_list_bool, kit_list_tuple, kit_list_list, kit_list_dict, kit_dict_str, kit_dict_int, kit_dict_bool, kit_dict_tuple, kit_dict_list, kit_dict_dict, rp0, rp1, rp2, rp3, rp4, rp5, rp6, rp7, rp8, rp9, rp10, rp11, rp12, rp13, rp14, rp15, rp16, rp17, rp18, rp19, rp20, rp21, rp22, rp23, rp24, rp25, rp26, rp27, rp28, rp29, rp30])
theorem nc2 : ((2 : Nat) : Int) = 2 := rfl
theorem nc5 : ((5 : Nat) : Int) = 5 := rfl
def enK (t : Stp) : D := .tup [.str t.name, .str (sideOf t.most)]
theorem side_inj : ∀ {a b : Bool}, sideOf a = sideOf b → a = b
  | true, true, _ => rfl
  | false, false, _ => rfl
  | true, false, h => absurd h (by decide +kernel)
  | false, true, h => absurd h (by decide +kernel)
theorem enK_inj {t u : Stp} (h : enK t = enK u) : t.name = u.name ∧ t.most = u.most := by
  have h := D.tup.inj h
  simp only [List.cons.injEq, D.str.injEq, and_true] at h
  exact ⟨h.1, side_inj h.2⟩
theorem enK_pur (t : Stp) : pur (enK t) = true := by simp [enK, pur, purs]
theorem enK_flt (t : Stp) (n : Nat) : flt (n + 1) (enK t) = true := by
  unfold enK
  cases n <;> simp [flt, flts]
theorem enK_deq (t u : Stp) : deq (enK t) (enK u) = true ↔ enK t = enK u := deq_iff _ _ (enK_pur t) (enK_pur u)
theorem enK_kEq (t : Stp) : kEq (enK t) (enK t) = true := by simp [enK, kEq, kEqs]
theorem enK_kOk (t : Stp) : kOk true (enK t) = true := rfl
theorem steps_nd {rows : List Spn} (hn : (rows.map Spn.name).Nodup) : ((stepsOf rows).map enK).Nodup := by
  induction rows with
  | nil => exact List.nodup_nil
  | cons s rows ih =>
    rw [List.map_cons, List.nodup_cons] at hn
    have e : stepsOf (s :: rows) = stepS s ++ stepsOf rows := rfl
    rw [e, List.map_append, List.nodup_append]
    refine ⟨?_, ih hn.2, ?_⟩
    · unfold stepS stepLo stepHi
      cases s.lo <;> cases s.hi <;> simp [enK]
      decide +kernel
    · intro a ha b hb q
      subst q
      obtain ⟨t, ht, rfl⟩ := List.mem_map.mp ha
      obtain ⟨u, hu, e⟩ := List.mem_map.mp hb
      obtain ⟨r, hr, en, _⟩ := step_mem hu
      obtain ⟨r', hr', en', _⟩ := step_mem (rows := [s]) (t := t) (by show t ∈ stepS s ++ []; simpa using ht)
      rw [List.mem_singleton.mp hr'] at en'
      have := (enK_inj e).1
      rw [en, en'] at this
      exact hn.1 (this ▸ List.mem_map_of_mem hr)
theorem key_one {st : List Stp} {t : Stp} (hn : (st.map enK).Nodup) (h : t ∈ st) : st.filter (fun u => deq (enK u) (enK t)) = [t] := by
  induction st with
  | nil => exact nomatch h
  | cons r st ih =>
    rw [List.map_cons, List.nodup_cons] at hn
    rcases List.mem_cons.mp h with e | m
    · subst e
      rw [List.filter_cons_of_pos (by exact (enK_deq _ _).mpr rfl)]
      congr 1
      rw [List.filter_eq_nil_iff]
      intro q hq c
      exact hn.1 (by rw [← (enK_deq _ _).mp c]; exact List.mem_map_of_mem hq)
    · rw [List.filter_cons_of_neg, ih hn.2 m]
      intro c
      exact hn.1 (by rw [(enK_deq _ _).mp c]; exact List.mem_map_of_mem m)
/-- the table of steps -/
def enV (t : Stp) : D := .tup [.str t.x, .str t.y, .int t.len]
def TabK (kvs : List (D × D)) (st : List Stp) : Prop := (∀ t ∈ st, dfind kvs (enK t) = some (enV t)) ∧ kvs.length ≤ st.length
theorem table_ok {st : List Stp} {h : Hs} {Q : D → Hs → Prop} {E : Ex → Hs → Prop} (hn : (st.map enK).Nodup) (hl : st.length ≤ 10000) (hq : ∀ n kvs h', h'[n]? = some (.dic true false kvs) → TabK kvs st → Fr [] h h' → Q (.ref n) h') : (P06.fn_table_of.go [.tup (st.map enT)] h).wp Q E := by
  unfold P06.fn_table_of
  rw [w_defn]
  unfold P06.s_table_of
  wp_walk
  refine w_dt (st.map enT) (fun _ => True) (fun i acc h' => TabK acc (st.take i) ∧ h' = h) ?_ (fun _ _ _ _ => trivial) ?_ ?_
  · wp_walk
    exact ⟨t_seq _ _, fun t m => by simp at m, by simp⟩
  · rintro i x acc h' hx ⟨tk, rfl⟩
    obtain ⟨t, ht, rfl⟩ := map_get hx
    have hi := lt_of_get ht
    have e : st.take (i + 1) = st.take i ++ [t] := by rw [List.take_add_one, ht]; rfl
    have l1 : (st.take i).length ≤ i := by rw [List.length_take]; omega
    unfold enT
    wp_walk
    have l2 := tk.2
    refine ⟨by omega, fun u m => ?_, ?_⟩
    · show dfind (dput acc (enK t) (enV t)) (enK u) = _
      rw [e] at m
      rcases List.mem_append.mp m with m | m
      · rw [dfind_put_ne _ _ _ _ fun q => ?_]
        · exact tk.1 u m
        · obtain ⟨j, hj, ej⟩ := List.mem_iff_getElem.mp m
          rw [List.length_take] at hj
          rw [List.getElem_take] at ej
          have a1 : (st.map enK)[j]? = (st.map enK)[i]? := by
            rw [List.getElem?_map, List.getElem?_map, ht, List.getElem?_eq_getElem (by omega), ej]
            exact congrArg some q.symm
          rw [List.getElem?_eq_getElem (by rw [List.length_map]; omega), List.getElem?_eq_getElem (by rw [List.length_map]; omega)] at a1
          have := (List.getElem_inj hn).mp (Option.some.inj a1)
          omega
      · rw [List.mem_singleton.mp m]
        exact dfind_put_same _ _ _ (enK_kEq t)
    · rw [e, List.length_append]
      have := dput_len acc (enK t) (enV t)
      show (dput acc (enK t) (enV t)).length ≤ _
      simp only [List.length_cons, List.length_nil]
      omega
  · rintro acc h' ⟨tk, rfl⟩
    rw [List.length_map, List.take_length] at tk
    exact hq _ acc _ get_new1 tk .app
/-- steps that lead on from x to y -/
inductive Led : Nm → List Stp → Nm → Prop
  | nil (x : Nm) : Led x [] x
  | cons {x : Nm} {t : Stp} {ts : List Stp} {y : Nm} : x = t.x → Led t.y ts y → Led x (t :: ts) y
theorem areSteps_ok {st ts : List Stp} {n : Nat} {kvs : List (D × D)} {h : Hs} {Q : D → Hs → Prop} {E : Ex → Hs → Prop} (e : h[n]? = some (.dic true false kvs)) (tk : TabK kvs st) (hs : ∀ t ∈ ts, t ∈ st) (hq : Q (.bl true) h) : (P06.fn_are_steps.go [.ref n, .tup (ts.map enK)] h).wp Q E := by
  unfold P06.fn_are_steps
  rw [w_defn]
  unfold P06.s_are_steps
  wp_walk
  rw [w_seqF]
  wp_walk
  rw [w_seqF]
  refine w_for (ts.map enK) (fun _ => True) (fun i env h' => (∃ o2, env = [some (.ref n), some (.tup (ts.map enK)), o2]) ∧ h' = h) ?_ (fun _ _ _ _ => trivial) ?_ ?_
  · wp_walk
    exact ⟨t_seq _ _, _, rfl⟩
  · rintro i x env h' hx ⟨⟨o2, rfl⟩, rfl⟩
    obtain ⟨t, ht, rfl⟩ := map_get hx
    have f := tk.1 t (hs t (List.mem_of_getElem? ht))
    have f : dfind kvs (.tup [.str t.name, .str (sideOf t.most)]) = some (enV t) := f
    rw [show enK t = .tup [.str t.name, .str (sideOf t.most)] from rfl]
    wp_walk
    rw [w_seqF]
    wp_walk using e, f, kOk_t, nc2
    exact ⟨_, rfl⟩
  · rintro env h' ⟨⟨o2, rfl⟩, rfl⟩
    wp_walk
    exact hq
/-! WB: is_way, length_of; the law's own walk, rings, papers. -/
open PySem PySem.Spec PyProof.Rows L2
theorem enK_e (t : Stp) : enK t = .tup [.str t.name, .str (sideOf t.most)] := rfl
theorem Led.at {x y : Nm} {t : Stp} {ts : List Stp} (l : Led x (t :: ts) y) : x = t.x ∧ Led t.y ts y := by cases l with | cons e h => exact ⟨e, h⟩
theorem Led.fin {x y : Nm} (l : Led x [] y) : x = y := by cases l; rfl
theorem Led.snoc {x : Nm} : ∀ {ts : List Stp} {y : Nm} {t : Stp}, Led x ts y → t.x = y → Led x (ts ++ [t]) t.y := by
  intro ts y t l
  induction l with
  | nil => intro e; exact .cons e.symm (.nil _)
  | cons q _ ih => intro e; exact .cons q (ih e)
theorem Led.on {x y : Nm} {ts : List Stp} (l : Led x ts y) : ∀ k a b, ts[k]? = some a → ts[k + 1]? = some b → b.x = a.y := by
  induction l with
  | nil => intro k a b e; simp at e
  | cons _ l ih =>
    intro k a b e1 e2
    cases k with
    | zero =>
      cases l with
      | nil => simp at e2
      | cons q _ => simp at e1 e2; rw [← e1, ← e2]; exact q.symm
    | succ k => exact ih k a b (by simpa using e1) (by simpa using e2)
theorem Led.first {x y : Nm} {ts : List Stp} (l : Led x ts y) {t : Stp} (e : ts[0]? = some t) : t.x = x := by
  cases l with
  | nil => simp at e
  | cons q _ => simp at e; rw [← e]; exact q.symm
theorem Led.last {x y : Nm} {ts : List Stp} (l : Led x ts y) : ∀ {t : Stp}, ts[ts.length - 1]? = some t → t.y = y := by
  induction l with
  | nil => intro t e; simp at e
  | cons _ l ih =>
    intro t e
    cases l with
    | nil => simp at e; rw [e]
    | cons _ _ => exact ih (by simpa using e)
theorem drop_get {α : Type} {xs : List α} {i : Nat} {a : α} (h : xs[i]? = some a) : xs.drop i = a :: xs.drop (i + 1) := by
  obtain ⟨l, rfl⟩ := List.getElem?_eq_some_iff.mp h
  exact List.drop_eq_getElem_cons l
theorem isWay_ok {p : Pln} {x y : Nm} {ts : List Stp} {h : Hs} {Q : D → Hs → Prop} {E : Ex → Hs → Prop} (w : WP p) (hn : (p.rows.map Spn.name).Nodup) (hx : x ∈ zro :: p.marks) (hy : y ∈ zro :: p.marks) (hs : ∀ t ∈ ts, t ∈ stepsOf p.rows) (l : Led x ts y) (hq : ∀ h', Fr [] h h' → Q (.bl true) h') :
    (P06.fn_is_way.go [enP p, .str x, .str y, .tup (ts.map enK)] h).wp Q E := by
  have fm := w.fm
  have fr := w.fr
  have sl := stepsOf_len p.rows
  unfold P06.fn_is_way
  rw [w_defn]
  unfold P06.s_is_way
  wp_walk
  rw [w_seqF]
  wp_walk
  refine ⟨rfl, nodes_ok (by omega) ?_⟩
  wp_walk
  rw [w_seqF]
  wp_walk
  refine ⟨rfl, steps_ok (by omega) fun h1 F1 => ?_⟩
  wp_walk
  refine ⟨rfl, table_ok (steps_nd hn) (by omega) fun n kvs h2 e2 tk F2 => ?_⟩
  wp_walk
  rw [w_seqF]
  have e0 : D.str zro :: p.marks.map .str = (zro :: p.marks).map .str := rfl
  rw [e0]
  generalize zro :: p.marks = ns at *
  wp_walk using in_strs, hx, hy
  refine ⟨rfl, areSteps_ok e2 tk hs ?_⟩
  wp_walk
  rw [w_seqF]
  wp_walk
  rw [w_seqF]
  refine w_for (ts.map enK) (fun _ => True) (fun i env h' => (∃ (at_ : Nm) (o7 o8 o9 o10 : Option D), env = [some (enP p), some (.str x), some (.str y), some (.tup (ts.map enK)), some (.tup (ns.map .str)), some (.ref n), some (.str at_), o7, o8, o9, o10] ∧ Led at_ (ts.drop i) y) ∧ h' = h2) ?_ (fun _ _ _ _ => trivial) ?_ ?_
  · wp_walk
    exact ⟨t_seq _ _, _, _, _, _, _, rfl, by simpa using l⟩
  · rintro i z env h' hz ⟨⟨at_, o7, o8, o9, o10, rfl, ll⟩, rfl⟩
    obtain ⟨t, ht, rfl⟩ := map_get hz
    rw [drop_get ht] at ll
    obtain ⟨ea, l2⟩ := ll.at
    subst ea
    have f := tk.1 t (hs t (List.mem_of_getElem? ht))
    rw [enK_e] at f
    unfold enV at f
    rw [enK_e]
    wp_walk
    rw [w_seqF]
    wp_walk using e2, f, kOk_t
    exact ⟨_, _, _, _, _, rfl, l2⟩
  · rintro env h' ⟨⟨at_, o7, o8, o9, o10, rfl, ll⟩, rfl⟩
    rw [List.length_map, List.drop_length] at ll
    rw [ll.fin]
    wp_walk
    exact hq _ (F1.trans F2)
def lenT (ts : List Stp) : Int := (ts.map Stp.len).sum
theorem lengthOf_ok {p : Pln} {ts : List Stp} {h : Hs} {Q : D → Hs → Prop} {E : Ex → Hs → Prop} (w : WP p) (hn : (p.rows.map Spn.name).Nodup) (hs : ∀ t ∈ ts, t ∈ stepsOf p.rows) (hl : ts.length ≤ 10000) (hq : ∀ h', Fr [] h h' → Q (.int (lenT ts)) h') :
    (P06.fn_length_of.go [enP p, .tup (ts.map enK)] h).wp Q E := by
  have fm := w.fm
  have fr := w.fr
  have sl := stepsOf_len p.rows
  unfold P06.fn_length_of
  rw [w_defn]
  unfold P06.s_length_of
  wp_walk
  rw [w_seqF]
  wp_walk
  refine ⟨rfl, steps_ok (by omega) fun h1 F1 => ?_⟩
  wp_walk
  refine ⟨rfl, table_ok (steps_nd hn) (by omega) fun n kvs h2 e2 tk F2 => ?_⟩
  wp_walk
  refine w_lc (ts.map enK) (fun _ => True) (fun i acc h' => acc = (ts.take i).map (fun t => D.int t.len) ∧ h' = h2) ?_ (fun _ _ _ _ => trivial) ?_ ?_ ?_
  · wp_walk
    exact ⟨t_seq _ _, rfl⟩
  · rintro i acc h' ⟨rfl, _⟩
    rw [List.length_map, List.length_take]
    show _ < 16777217
    omega
  · rintro i z acc h' hz ⟨rfl, rfl⟩
    obtain ⟨t, ht, rfl⟩ := map_get hz
    have e : ts.take (i + 1) = ts.take i ++ [t] := by rw [List.take_add_one, ht]; rfl
    have f := tk.1 t (hs t (List.mem_of_getElem? ht))
    rw [enK_e] at f
    unfold enV at f
    rw [enK_e]
    wp_walk using e2, f, kOk_t, List.length_take
    rw [e]
    refine ⟨by omega, ?_⟩
    rw [List.map_append]; rfl
  · rintro acc h' ⟨rfl, rfl⟩
    rw [List.length_map, List.take_length]
    have g : ∀ xs : List D, (h' ++ [Cell.lst xs])[h'.length]? = some (.lst xs) := fun xs => get_new1
    have ei : intsD (ts.map fun t => D.int t.len) = some (ts.map Stp.len) := by
      rw [show (ts.map fun t => D.int t.len) = (ts.map Stp.len).map D.int by rw [List.map_map]; rfl]
      exact intsD_map _
    wp_walk using g, ei
    exact hq _ (F1.trans (F2.trans .app))
/-! ### the law's walk -/
theorem eqK2 (h : Hs) (a b c d : Nm) : eqOp h (.tup [.str a, .str b]) (.tup [.str c, .str d]) = some (deq (.tup [.str a, .str b]) (.tup [.str c, .str d])) := eq_flat (by rfl) (by rfl)
theorem cutT (a b c d e : D) : cutD [a, b, c, d, e] none (some 2) = [a, b] := rfl
theorem enT_e (t : Stp) : enT t = .tup [.str t.name, .str (sideOf t.most), .str t.x, .str t.y, .int t.len] := rfl
theorem fltT (t : Stp) (n : Nat) : flt (n + 1) (enT t) = true := by
  unfold enT
  cases n <;> simp [flt, flts]
theorem flts_T : ∀ xs : List Stp, flts 50 (xs.map enT) = true
  | [] => by simp [flts]
  | x :: xs => by simp [flts, fltT x, flts_T xs]
theorem stepOf_ok {st : List Stp} {t : Stp} {sl : Nat} {h : Hs} {Q : D → Hs → Prop} {E : Ex → Hs → Prop} (hn : (st.map enK).Nodup) (hl : st.length ≤ 10000) (ht : t ∈ st) (e : h[sl]? = some (.lst (st.map enT))) (hq : ∀ h', Fr [] h h' → Q (enT t) h') : (P06.fn__law_step_of.go [.ref sl, enK t] h).wp Q E := by
  unfold P06.fn__law_step_of
  rw [w_defn]
  unfold P06.s__law_step_of
  rw [enK_e]
  wp_walk
  rw [w_seqF]
  wp_walk using nc2
  refine w_lc (st.map enT) (fun h => h[sl]? = some (.lst (st.map enT))) (fun i acc h' => acc = ((st.take i).filter fun u => deq (enK u) (enK t)).map enT ∧ h' = h) ?_ (fun _ _ _ q => by rw [q.2]; exact e) ?_ ?_ ?_
  · wp_walk using e
    exact ⟨t_cel _ _, rfl⟩
  · rintro i acc h' ⟨rfl, _⟩
    rw [List.length_map]
    have := take_filter_len (fun u => deq (enK u) (enK t)) st i
    have := List.length_filter_le (fun u => deq (enK u) (enK t)) (st.take i)
    rw [List.length_take] at this
    show _ < 16777217
    omega
  · rintro i z acc h' hz ⟨rfl, rfl⟩
    obtain ⟨u, hu, rfl⟩ := map_get hz
    have ef := take_filter (p := fun u => deq (enK u) (enK t)) hu
    have hl2 := List.length_filter_le (fun u => deq (enK u) (enK t)) (st.take i)
    rw [List.length_take] at hl2
    rw [enT_e]
    wp_walk using cutT, eqK2
    rw [← enK_e, ← enK_e]
    cases c : deq (enK u) (enK t) with
    | true =>
      simp only [c] at ef
      wp_walk
      refine ⟨by omega, ?_⟩
      rw [ef, List.map_append]; rfl
    | false =>
      simp only [c] at ef
      wp_walk
      rw [ef]; simp
  · rintro acc h' ⟨rfl, rfl⟩
    rw [List.length_map, List.take_length, key_one hn ht]
    wp_walk
    have l1 : ∀ (H : Hs) (a c : Cell), (H ++ [a] ++ [c])[H.length]? = some a := fun H a c => get_old get_new1
    have l2 : ∀ (H : Hs) (a c : Cell), (H ++ [a] ++ [c])[(H ++ [a]).length]? = some c := fun H a c => get_new1
    rw [eq_refs (l1 _ _ _) (l2 _ _ _) (by simp [flts, fltT]) (by rfl)]
    have d0 : deqs [enT t] [] = false := rfl
    wp_walk using d0, l1
    exact hq _ (Fr.app.push)
theorem in_none {α : Type} (f : α → D) (h : Hs) : ∀ xs : List α, flts 50 (xs.map f) = true → (∀ x ∈ xs, deq (f x) .non = false) → inSeq h .non (xs.map f) = some false := fun xs h1 h2 => by
  rw [in_flat (by rfl) h1]
  congr 1
  rw [List.any_eq_false]
  intro y hy
  obtain ⟨x, hx, rfl⟩ := List.mem_map.mp hy
  rw [h2 x hx]; simp
theorem rng1_get {n k : Nat} {x : D} (h : ((List.range n).map fun i => D.int (1 + (i : Nat)))[k]? = some x) : k < n ∧ x = .int ((k + 1 : Nat) : Int) := by
  have hk : k < n := by
    have := (List.getElem?_eq_some_iff.mp h).1
    simpa using this
  rw [List.getElem?_map, List.getElem?_range hk] at h
  have := Option.some.inj h
  exact ⟨hk, by rw [← this]; exact congrArg D.int (by omega)⟩
theorem lawWalk_ok {st ts : List Stp} {x y : Nm} {sl : Nat} {h : Hs} {Q : D → Hs → Prop} {E : Ex → Hs → Prop} (hn : (st.map enK).Nodup) (hl : st.length ≤ 10000) (hl2 : ts.length ≤ 10000) (hs : ∀ t ∈ ts, t ∈ st) (l : Led x ts y) (e : h[sl]? = some (.lst (st.map enT)))
    (hq : ∀ n h', h'[n]? = some (.lst (ts.map enT)) → Fr [] h h' → Q (.ref n) h') : (P06.fn__law_walk.go [.ref sl, .tup (ts.map enK)] h).wp Q E := by
  unfold P06.fn__law_walk
  rw [w_defn]
  unfold P06.s__law_walk
  have so := @stepOf_ok
  have n2 : 2 = P06.fn__law_step_of.n := rfl
  generalize P06.fn__law_step_of = SO at so n2 ⊢
  wp_walk
  rw [w_seqF]
  wp_walk
  rw [w_seqF]
  wp_walk
  refine w_lc (ts.map enK) (fun _ => True) (fun i acc h' => acc = (ts.take i).map enT ∧ Fr [] h h') ?_ (fun _ _ _ _ => trivial) ?_ ?_ ?_
  · wp_walk
    exact ⟨t_seq _ _, rfl, Fr.refl⟩
  · rintro i acc h' ⟨rfl, _⟩
    rw [List.length_map, List.length_take]
    show _ < 16777217
    omega
  · rintro i z acc h' hz ⟨rfl, F⟩
    obtain ⟨t, ht, rfl⟩ := map_get hz
    have et : ts.take (i + 1) = ts.take i ++ [t] := by rw [List.take_add_one, ht]; rfl
    wp_walk
    refine ⟨n2, so hn hl (hs t (List.mem_of_getElem? ht)) (F.get e) fun h2 F2 => ?_⟩
    wp_walk using List.length_take
    rw [et]
    refine ⟨by omega, ?_, F.trans F2⟩
    rw [List.map_append]; rfl
  · rintro acc h1 ⟨rfl, F⟩
    rw [List.length_map, List.take_length]
    have g1 : (h1 ++ [Cell.lst (ts.map enT)])[h1.length]? = some (.lst (ts.map enT)) := get_new1
    generalize hH : h1 ++ [Cell.lst (ts.map enT)] = h2 at *
    have F2 : Fr [] h h2 := by rw [← hH]; exact F.push
    have i0 : ∀ hh, inSeq hh .non (ts.map enT) = some false := fun hh => in_none enT hh ts (flts_T ts) fun t _ => rfl
    have sm : small (ts.length : Int) = true := by unfold small; simp; omega
    wp_walk
    rw [w_seqF]
    wp_walk using g1, i0
    refine w_lc ((List.range ((ts.length : Int) - 1).toNat).map fun i => .int (1 + (i : Nat))) (fun _ => True) (fun i (acc : List D) h' => acc = [] ∧ h' = h2) ?_ (fun _ _ _ _ => trivial) ?_ ?_ ?_
    · wp_walk using g1, sm, show small 1 = true from rfl
      exact t_rng _ _ _
    · rintro i acc h' ⟨rfl, _⟩
      show _ < 16777217
      simp
    · rintro i z acc h' hz ⟨rfl, rfl⟩
      obtain ⟨hi, rfl⟩ := rng1_get hz
      have h1' : i + 1 < ts.length := by omega
      obtain ⟨a, ha⟩ : ∃ a, ts[i]? = some a := ⟨_, List.getElem?_eq_getElem (by omega)⟩
      obtain ⟨b, hb⟩ : ∃ b, ts[i + 1]? = some b := ⟨_, List.getElem?_eq_getElem h1'⟩
      have ga : (ts.map enT)[i]? = some (enT a) := by rw [List.getElem?_map, ha]; rfl
      have gb : (ts.map enT)[i + 1]? = some (enT b) := by rw [List.getElem?_map, hb]; rfl
      rw [enT_e] at ga gb
      have es : ((i + 1 : Nat) : Int) - 1 = (i : Int) := by omega
      wp_walk using g1, atN, ga, gb, es, l.on i a b ha hb
    · rintro acc h' ⟨rfl, rfl⟩
      have l1 : ∀ (H : Hs) (a c : Cell), (H ++ [a] ++ [c])[H.length]? = some a := fun H a c => get_old get_new1
      have l2 : ∀ (H : Hs) (a c : Cell), (H ++ [a] ++ [c])[(H ++ [a]).length]? = some c := fun H a c => get_new1
      wp_walk
      rw [eq_refs (l1 _ _ _) (l2 _ _ _) (by rfl) (by rfl)]
      wp_walk using show deqs [] [] = true from rfl
      exact hq _ _ (get_old (get_old g1)) (F2.trans (Fr.app.push))
/-! WC: rings and papers judged; the program's ways. -/
open PySem PySem.Spec PyProof.Rows L2
theorem dsN_new {σ : List (List Nat)} {v : List Nat} (h : v ∉ σ) : dsN σ v = σ ++ [v] := by unfold dsN; rw [if_neg h]
theorem ddN_nd : ∀ (xs σ : List (List Nat)), (σ ++ xs).Nodup → xs.foldl dsN σ = σ ++ xs
  | [], σ, _ => by simp
  | x :: xs, σ, h => by
    have hx : x ∉ σ := fun m => by
      have := List.nodup_append.mp h
      exact this.2.2 x m x List.mem_cons_self rfl
    rw [List.foldl_cons, dsN_new hx, ddN_nd xs (σ ++ [x]) (by simpa using h)]
    simp
theorem ddN_len_nd {xs : List (List Nat)} (h : xs.Nodup) : (ddN xs).length = xs.length := by
  unfold ddN
  rw [ddN_nd xs [] (by simpa using h)]
  simp
/-- likeness of texts -/
theorem like_str {a b : Nm} {h : Hs} {Q : D → Hs → Prop} {E : Ex → Hs → Prop} (ha : a.length ≤ 10000) (hq : ∀ h', Fr [] h h' → Q (.bl (decide (a = b))) h') : (PH.fn__law_like.go [.str a, .str b] h).wp Q E := by
  show ((defn 2 3 (PH.s__law_like (recn 2 3 PH.s__law_like 11))).go [.str a, .str b] h).wp Q E
  generalize recn 2 3 PH.s__law_like 11 = self
  rw [w_defn]
  unfold PH.s__law_like
  have g : (h ++ [Cell.lst [D.str a]])[h.length]? = some (.lst [.str a]) := get_new1
  wp_walk
  rw [w_seqF]
  wp_walk
  rw [w_seqF]
  wp_walk
  rw [w_seqF]
  wp_walk
  rw [w_seqF]
  wp_walk
  rw [w_seqF]
  wp_walk using g
  have e1 : strsD [D.str a] = some [a] := rfl
  have e2 : cs "" = [] := by decide +kernel
  rw [e1, jnC_s, e2, if_pos (by simp only [List.map_cons, List.map_nil, List.sum_cons, List.sum_nil, List.length_nil, List.length_cons, lim]; omega)]
  have e3 : TL.joinL [] [a] = a := by simp [TL.joinL]
  rw [e3]
  wp_walk
  exact hq _ .app
theorem ringRight_ok {st ts : List Stp} {x : Nm} {sl : Nat} {h : Hs} {Q : D → Hs → Prop} {E : Ex → Hs → Prop} (hn : (st.map enK).Nodup) (hl : st.length ≤ 10000) (hl2 : ts.length ≤ 4000) (h0 : ts ≠ []) (hs : ∀ t ∈ ts, t ∈ st) (l : Led x ts x) (nd : (ts.map Stp.x).Nodup) (neg : lenT ts < 0) (e : h[sl]? = some (.lst (st.map enT)))
    (hq : ∀ h', Fr [] h h' → Q (.bl true) h') : (P06.fn__law_ring_right.go [.ref sl, .tup (ts.map enK)] h).wp Q E := by
  unfold P06.fn__law_ring_right
  rw [w_defn]
  unfold P06.s__law_ring_right
  wp_walk
  rw [w_seqF]
  wp_walk
  refine ⟨rfl, lawWalk_ok hn hl (by omega) hs l e fun n h1 g1 F1 => ?_⟩
  wp_walk
  rw [w_seqF]
  have lp := List.length_pos_iff.mpr h0
  obtain ⟨a, ha⟩ : ∃ a, ts[0]? = some a := ⟨_, List.getElem?_eq_getElem lp⟩
  obtain ⟨b, hb⟩ : ∃ b, ts[ts.length - 1]? = some b := ⟨_, List.getElem?_eq_getElem (by omega)⟩
  have ga : (ts.map enT)[0]? = some (enT a) := by rw [List.getElem?_map, ha]; rfl
  have gb : (ts.map enT)[ts.length - 1]? = some (enT b) := by rw [List.getElem?_map, hb]; rfl
  rw [enT_e] at ga gb
  have l2 : ∀ (H : Hs) (c : Cell), (H ++ [c])[H.length]? = some c := fun H c => get_new1
  wp_walk using g1
  rw [eq_refs (get_old g1) (l2 _ _) (flts_T ts) (by rfl)]
  have d0 : deqs (ts.map enT) [] = false := by
    cases ts with
    | nil => exact absurd rfl h0
    | cons _ _ => rfl
  have g2 := get_old (g := [Cell.lst []]) g1
  generalize hH : h1 ++ [Cell.lst []] = h2 at *
  have F2 : Fr [] h h2 := by rw [← hH]; exact F1.push
  rw [d0]
  wp_walk using g2, ga, gb, l.first ha, l.last hb, show ¬ ts.length < 1 by omega
  refine w_lc (ts.map enT) (fun h => h[n]? = some (.lst (ts.map enT))) (fun i acc h' => acc = (ts.take i).map (fun t => D.str t.x) ∧ h' = h2) ?_ (fun _ _ _ q => by rw [q.2]; exact g2) ?_ ?_ ?_
  · wp_walk using g2
    exact ⟨t_cel _ _, rfl⟩
  · rintro i acc h' ⟨rfl, _⟩
    rw [List.length_map, List.length_take]
    show _ < 16777217
    omega
  · rintro i z acc h' hz ⟨rfl, rfl⟩
    obtain ⟨t, ht, rfl⟩ := map_get hz
    have et : ts.take (i + 1) = ts.take i ++ [t] := by rw [List.take_add_one, ht]; rfl
    rw [enT_e]
    wp_walk using List.length_take
    rw [et]
    refine ⟨by omega, ?_⟩
    rw [List.map_append]; rfl
  · rintro acc h' ⟨rfl, rfl⟩
    rw [List.length_map, List.take_length]
    have er : refL (h' ++ [Cell.lst (ts.map fun t => D.str t.x)]) (.ref h'.length) = some (ts.map Stp.x) := by
      show (seqH _ _).bind strsD = _
      rw [sq_ref, get_new1, sqC_l]
      show strsD _ = _
      rw [show (ts.map fun t => D.str t.x) = (ts.map Stp.x).map D.str by rw [List.map_map]; rfl]
      exact strsD_map _
    rw [er]
    unfold lsR
    dsimp only
    rw [if_pos (by rw [List.length_map]; exact hl2), ddN_len_nd nd, List.length_map]
    have g3 := get_old (g := [Cell.lst (ts.map fun t => D.str t.x)]) g2
    generalize hH3 : h' ++ [Cell.lst (ts.map fun t => D.str t.x)] = h3 at *
    have F3 : Fr [] h h3 := by rw [← hH3]; exact F2.push
    wp_walk using g3
    refine w_lc (ts.map enT) (fun h => h[n]? = some (.lst (ts.map enT))) (fun i acc h' => acc = (ts.take i).map (fun t => D.int t.len) ∧ h' = h3) ?_ (fun _ _ _ q => by rw [q.2]; exact g3) ?_ ?_ ?_
    · wp_walk using g3
      exact ⟨t_cel _ _, rfl⟩
    · rintro i acc h' ⟨rfl, _⟩
      rw [List.length_map, List.length_take]
      show _ < 16777217
      omega
    · rintro i z acc h' hz ⟨rfl, rfl⟩
      obtain ⟨t, ht, rfl⟩ := map_get hz
      have et : ts.take (i + 1) = ts.take i ++ [t] := by rw [List.take_add_one, ht]; rfl
      rw [enT_e]
      wp_walk using List.length_take
      rw [et]
      refine ⟨by omega, ?_⟩
      rw [List.map_append]; rfl
    · rintro acc h4 ⟨rfl, rfl⟩
      rw [List.length_map, List.take_length]
      have g : ∀ xs : List D, (h4 ++ [Cell.lst xs])[h4.length]? = some (.lst xs) := fun xs => get_new1
      have ei : intsD (ts.map fun t => D.int t.len) = some (ts.map Stp.len) := by
        rw [show (ts.map fun t => D.int t.len) = (ts.map Stp.len).map D.int by rw [List.map_map]; rfl]
        exact intsD_map _
      wp_walk using g, ei
      have : decide ((ts.map Stp.len).sum < 0) = true := decide_eq_true neg
      rw [this]
      exact hq _ (F3.push)
/-- arcs that are steps' -/
theorem pick {α β : Type} (f : α → β) (st : List α) : ∀ r : List β, (∀ a ∈ r, a ∈ st.map f) → ∃ us : List α, us.map f = r ∧ ∀ u ∈ us, u ∈ st
  | [], _ => ⟨[], rfl, fun _ m => nomatch m⟩
  | a :: r, h => by
    obtain ⟨u, hu, e⟩ := List.mem_map.mp (h a List.mem_cons_self)
    obtain ⟨us, e2, m⟩ := pick f st r fun b hb => h b (List.mem_cons_of_mem _ hb)
    exact ⟨u :: us, by rw [List.map_cons, e, e2], fun v hv => (List.mem_cons.mp hv).elim (fun q => q ▸ hu) (m v)⟩
theorem led_chain : ∀ (us : List Stp), (∀ i a b, us[i]? = some a → us[i + 1]? = some b → a.x = b.y) → ∀ a z, us[0]? = some a → us[us.length - 1]? = some z → Led z.x us.reverse a.y
  | [], _, a, _, e, _ => by simp at e
  | [u], _, a, z, e1, e2 => by
    simp at e1 e2
    subst e1; subst e2
    exact .cons rfl (.nil _)
  | u :: v :: us, h, a, z, e1, e2 => by
    have e1 : u = a := by simpa using e1
    subst e1
    have ih := led_chain (v :: us) (fun i a b x y => h (i + 1) a b (by simpa using x) (by simpa using y)) v z rfl (by simpa using e2)
    rw [List.reverse_cons]
    exact ih.snoc (h 0 u v rfl rfl)
theorem ring_steps {p : Pln} {r : List (AR D)} (g : RingB (armsP p.rows) r) : ∃ (ts : List Stp) (x : Nm), (r.reverse.map AR.t) = ts.map enK ∧ ts ≠ [] ∧ (∀ t ∈ ts, t ∈ stepsOf p.rows) ∧ Led x ts x ∧ (ts.map Stp.x).Nodup ∧ lenT ts < 0 := by
  obtain ⟨us, e, hm⟩ := pick armA (stepsOf p.rows) r g.mem
  subst e
  have h0 : us ≠ [] := fun q => g.ne (by rw [q]; rfl)
  have lp := List.length_pos_iff.mpr h0
  obtain ⟨a, ha⟩ : ∃ a, us[0]? = some a := ⟨_, List.getElem?_eq_getElem lp⟩
  obtain ⟨z, hz⟩ : ∃ z, us[us.length - 1]? = some z := ⟨_, List.getElem?_eq_getElem (by omega)⟩
  have gm : ∀ {i : Nat} {b : Stp}, us[i]? = some b → (us.map armA)[i]? = some (armA b) := fun q => by rw [List.getElem?_map, q]; rfl
  have l := led_chain us (fun i b c e1 e2 => g.on i _ _ (gm e1) (gm e2)) a z ha hz
  have cl : z.x = a.y := g.cl _ _ (gm ha) (by rw [List.length_map]; exact gm hz)
  refine ⟨us.reverse, a.y, ?_, by simpa using h0, fun t m => hm t (List.mem_reverse.mp m), by rw [cl] at l; exact l, ?_, ?_⟩
  · rw [← List.map_reverse, List.map_map]; rfl
  · have := g.nd
    rw [List.map_map] at this
    rw [List.map_reverse]
    exact List.pairwise_reverse.mpr (List.Pairwise.imp (fun q => Ne.symm q) this)
  · have := g.neg
    rw [List.map_map] at this
    unfold lenT
    rw [List.map_reverse, List.sum_reverse]
    exact this
/-! WD: the program's ways, windows. -/
open PySem PySem.Spec PyProof.Rows L2
theorem paperRight_ok {p : Pln} {d : D} {h : Hs} {Q : D → Hs → Prop} {E : Ex → Hs → Prop} (sp : Sml p) (hn : (p.rows.map Spn.name).Nodup) (nm : ∀ m ∈ p.marks, m.length ≤ 10000) (pd : PapD p d) (hq : ∀ h', Fr [] h h' → Q (.bl true) h') : (P06.fn__law_paper_right.go [enP p, d] h).wp Q E := by
  have w := sp.w
  have fr := sp.r
  have sl := stepsOf_len p.rows
  unfold P06.fn__law_paper_right
  rw [w_defn]
  unfold P06.s__law_paper_right
  rcases pd with ⟨f, nn, mt, f0, bf, rfl⟩ | ⟨r, g, nn, rfl⟩
  · have gd := bf.good sp
    have dr := fun h => datesRight_ok (h := h) (Q := Q) (E := E) w mt f0 gd nm
    generalize enD p.marks f = X at *
    wp_walk
    rw [w_seqF]
    wp_walk using nc2
    refine ⟨rfl, like_str (by decide +kernel) fun h1 F1 => ?_⟩
    wp_walk
    exact ⟨rfl, dr _ fun h2 F2 => hq _ (F1.trans F2)⟩
  · obtain ⟨ts, x, e, h0, hs, l, nd, ng⟩ := ring_steps g
    rw [e]
    have ll : ts.length ≤ 4000 := by
      rcases Nat.lt_or_ge (zro :: p.marks).length (ts.map Stp.x).length with q | q
      · obtain ⟨i, j, hij, hj, e⟩ := pigeon (zro :: p.marks) (ts.map Stp.x) (fun x m => by
          obtain ⟨t, ht, rfl⟩ := List.mem_map.mp m
          exact (w.step (hs t ht)).1) q
        rw [List.getElem?_eq_getElem hj, List.getElem?_eq_getElem (Nat.lt_trans hij hj)] at e
        have := (List.getElem_inj nd).mp (Option.some.inj e)
        omega
      · rw [List.length_map, List.length_cons] at q
        have := sp.m
        omega
    have rr := fun (sl : Nat) (h : Hs) => ringRight_ok (sl := sl) (h := h) (Q := Q) (E := E) (steps_nd hn) (by omega) ll h0 hs l nd ng
    generalize D.tup (ts.map enK) = X at *
    wp_walk
    rw [w_seqF]
    wp_walk using nc2
    refine ⟨rfl, like_str (by decide +kernel) fun h1 F1 => ?_⟩
    have e0 : decide (cs "ring" = cs "dates") = false := by decide +kernel
    wp_walk using e0
    refine ⟨rfl, like_str (by decide +kernel) fun h2 F2 => ?_⟩
    wp_walk
    refine ⟨rfl, lawSteps_ok (by omega) ?_⟩
    wp_walk
    exact ⟨rfl, rr _ _ get_new1 fun h3 F3 => hq _ (F1.trans (F2.trans (Fr.trans .app F3)))⟩
/-! ### the program's way -/
theorem bk_root {A : List (AR D)} {ss ns : List Nm} {s : DS D} (f : Fin0 A ss ns s) (hns : ∀ a ∈ A, a.u ∈ ns ∧ a.v ∈ ns) (v : Nm) : ∃ w r, Bk s.into v r w ∧ s.into w = none := by
  have key : ∀ k, ∃ w r, Bk s.into v r w ∧ (s.into w = none ∨ r.length = k) := fun k => by
    induction k with
    | zero => exact ⟨v, [], .nil v, .inr rfl⟩
    | succ k ih =>
      obtain ⟨w, r, b, h⟩ := ih
      cases e : s.into w with
      | none => exact ⟨w, r, b, .inl e⟩
      | some a =>
        rcases h with h | h
        · rw [e] at h; cases h
        · exact ⟨a.u, r ++ [a], b.append (.cons e (.nil _)), .inr (by simp [h])⟩
  obtain ⟨w, r, b, h⟩ := key (ns.length + 1)
  rcases h with h | h
  · exact ⟨w, r, b, h⟩
  · have := f.short hns b
    omega
theorem wayTo_ok {ii N : Nat} {s : DS D} {y w : Nm} {r : List (AR D)} {ki : List (D × D)} {h : Hs} {Q : D → Hs → Prop} {E : Ex → Hs → Prop} (hi : h[ii]? = some (.dic false false ki)) (d : DF enA ki s.into N) (b : Bk s.into y r w) (hw : s.into w = none) (hl : r.length ≤ 10000)
    (hq : ∀ n h', h'[n]? = some (.lst (r.reverse.map enA)) → Fr [] h h' → Q (.ref n) h') : (P06.fn_way_to.go [.ref ii, .str y] h).wp Q E := by
  unfold P06.fn_way_to
  rw [w_defn]
  unfold P06.s_way_to
  wp_walk
  rw [w_seqF]
  wp_walk
  rw [w_seqF]
  have li := get_lt hi
  refine w_while (fun n env h' => ∃ (q r' : List (AR D)) (v : Nm), r = q ++ r' ∧ n = r'.length ∧ Bk s.into v r' w ∧ env = [some (.ref ii), some (.str v), some (.ref h.length)] ∧ h' = h ++ [.lst (q.map enA)]) r.length ⟨[], r, y, rfl, rfl, b, rfl, rfl⟩ ?_
  rintro n env h' ⟨q, r', v, er, rfl, bk, rfl, rfl⟩
  have g1 : (h ++ [Cell.lst (q.map enA)])[ii]? = some (.dic false false ki) := get_old hi
  have g2 : (h ++ [Cell.lst (q.map enA)])[h.length]? = some (.lst (q.map enA)) := get_new1
  cases bk with
  | nil =>
    have f := d.none hw
    wp_walk using g1, f, Option.isSome_none
    wp_walk using g2
    rw [List.append_nil] at er
    subst er
    refine hq _ _ ?_ ?_
    · rw [set_new, ← List.map_reverse]; exact get_new1
    · rw [set_new]; exact .app
  | cons e b2 =>
    rename_i a r2
    have f := d.some e
    unfold enA at f
    have lq : q.length < 16777216 := by have := congrArg List.length er; simp at this; omega
    wp_walk using g1, f
    wp_walk using g1, f, g2, set_new
    refine ⟨lq, ?_⟩
    have g3 : ∀ c : Cell, (h ++ [c])[ii]? = some (.dic false false ki) := fun c => get_old hi
    wp_walk using g3, f
    exact ⟨_, by simp, q ++ [a], r2, a.u, by simp [er], rfl, b2, rfl, by rw [List.map_append]; rfl⟩
/-! WE: way, windows, earliest. -/
open PySem PySem.Spec PyProof.Rows L2
theorem way_ok {p : Pln} {x y : Nm} {h : Hs} {Q : D → Hs → Prop} {E : Ex → Hs → Prop} (w : WP p) (nn : NoNeg (arcsP p.rows)) (hx : x ∈ zro :: p.marks)
    (h0 : ∀ h', tblP p x y = none → Fr [] h h' → Q .non h') (h1 : ∀ L ts h', tblP p x y = some L → (∀ t ∈ ts, t ∈ stepsOf p.rows) → Led x ts y → lenT ts = L → ts.length ≤ 1000 → Fr [] h h' → Q (.tup (ts.map enK)) h') : (P06.fn_way.go [enP p, .str x, .str y] h).wp Q E := by
  have fm := w.fm
  have fr := w.fr
  have wa := w.arms
  have sl := stepsOf_len p.rows
  unfold P06.fn_way
  rw [w_defn]
  unfold P06.s_way
  wp_walk
  rw [w_seqF]
  wp_walk
  refine ⟨rfl, nodes_ok (by omega) ?_⟩
  wp_walk
  refine ⟨rfl, steps_ok (by omega) fun h2 F1 => ?_⟩
  wp_walk
  refine ⟨rfl, arcs_ok (by omega) fun al h3 ha F2 => ?_⟩
  wp_walk
  refine ⟨rfl, ?_⟩
  have e0 : D.str zro :: p.marks.map .str = (zro :: p.marks).map .str := rfl
  have e1 : [D.str x] = [x].map .str := rfl
  rw [e0, e1]
  refine plan_dist_ok w nn (fun y m => by rw [List.mem_singleton.mp m]; exact hx) (by simp) ha fun s di ii h4 fin _ hne sr F3 => ?_
  have hA : ∀ u v l, (u, v, l) ∈ arcsL (armsP p.rows) → u ∈ zro :: p.marks ∧ v ∈ zro :: p.marks := by rw [armsP_arcs]; exact w.arc
  have nnL : NoNeg (arcsL (armsP p.rows)) := by rw [armsP_arcs]; exact nn
  have ls : s.dist y = tblP p x y := by
    have := fin.least w.nd hA nnL y hx
    rw [armsP_arcs] at this
    exact this
  obtain ⟨kd, ki, g1, g2, d1, d2⟩ := sr
  have F := F1.trans (F2.trans F3)
  cases e : tblP p x y with
  | none =>
    rw [e] at ls
    have f := d1.none ls
    wp_walk using g1, f, Option.isSome_none
    exact h0 _ e F
  | some L =>
    rw [e] at ls
    have f := d1.some ls
    wp_walk using g1, f
    obtain ⟨z, r, bk, hz⟩ := bk_root fin (fun a m => (wa a m).1) y
    have sh := fin.short (fun a m => (wa a m).1) bk
    rw [List.length_cons] at sh
    obtain ⟨hm, dz, ez, eL⟩ := fin.way nnL bk L ls
    have zx := List.mem_singleton.mp (fin.bg z dz ez hz)
    subst zx
    rw [fin.zero nnL] at ez
    cases ez
    obtain ⟨us, rfl, hu⟩ := pick armA (stepsOf p.rows) r hm
    rw [List.length_map] at sh
    refine ⟨rfl, wayTo_ok g2 d2 bk hz (by rw [List.length_map]; omega) fun n h5 g5 F5 => ?_⟩
    wp_walk
    refine ⟨rfl, labels_ok (by rw [List.length_reverse, List.length_map]; omega) g5 fun h6 F6 => ?_⟩
    rw [← List.map_reverse, List.map_map]
    refine h1 L us.reverse h6 e (fun t m => hu t (List.mem_reverse.mp m)) ?_ ?_ (by rw [List.length_reverse]; omega) (F.trans (F5.trans F6))
    · have ch := bk.chain fun v a e => (fin.ina v a e).2.1
      have gm : ∀ {i : Nat} {b : Stp}, us[i]? = some b → (us.map armA)[i]? = some (armA b) := fun q => by rw [List.getElem?_map, q]; rfl
      by_cases hE : us = []
      · subst hE
        cases bk
        exact .nil _
      · have lp := List.length_pos_iff.mpr hE
        obtain ⟨a, ha⟩ : ∃ a, us[0]? = some a := ⟨_, List.getElem?_eq_getElem lp⟩
        obtain ⟨b, hb⟩ : ∃ b, us[us.length - 1]? = some b := ⟨_, List.getElem?_eq_getElem (by omega)⟩
        have l := led_chain us (fun i b c e1 e2 => ch.1 i _ _ (gm e1) (gm e2)) a b ha hb
        have q1 : b.x = z := ch.2.2 _ (by rw [List.length_map]; exact gm hb)
        have q2 : a.y = y := ch.2.1 _ (gm ha)
        rw [q1, q2] at l
        exact l
    · unfold lenT
      rw [List.map_reverse, List.sum_reverse]
      rw [List.map_map] at eL
      have eL : L = 0 + (us.map Stp.len).sum := eL
      omega
/-! ### backwards -/
def rvA (a : Arc) : Arc := (a.2.1, a.1, a.2.2)
theorem Wk.rev {A : List Arc} {x y : Nm} {L : Int} (w : Wk A x y L) : Wk (A.map rvA) y x L := by
  induction w with
  | nil => exact .nil _
  | snoc _ m ih =>
    have := (Wk.one (List.mem_map.mpr ⟨_, m, rfl⟩ : _ ∈ A.map rvA)).trans ih
    rw [Int.add_comm] at this
    exact this
theorem rv_rv (A : List Arc) : (A.map rvA).map rvA = A := by
  rw [List.map_map]
  have : rvA ∘ rvA = id := by funext a; rfl
  rw [this, List.map_id]
theorem Wk.unrev {A : List Arc} {x y : Nm} {L : Int} (w : Wk (A.map rvA) y x L) : Wk A x y L := by
  have := w.rev
  rwa [rv_rv] at this
theorem NoNeg.rev {A : List Arc} (n : NoNeg A) : NoNeg (A.map rvA) := fun x L w => n x L w.unrev
theorem closure_rev {ns : List Nm} {A : List Arc} (hn : ns.Nodup) (hA : ∀ u v l, (u, v, l) ∈ A → u ∈ ns ∧ v ∈ ns) (n : NoNeg A) (x y : Nm) : closure ns (A.map rvA) y x = closure ns A x y := by
  have hB : ∀ u v l, (u, v, l) ∈ A.map rvA → u ∈ ns ∧ v ∈ ns := fun u v l m => by
    obtain ⟨a, ha, e⟩ := List.mem_map.mp m
    unfold rvA at e
    cases e
    have := hA a.1 a.2.1 a.2.2 ha
    exact ⟨this.2, this.1⟩
  cases e1 : closure ns (A.map rvA) y x with
  | none =>
    cases e2 : closure ns A x y with
    | none => rfl
    | some L =>
      obtain ⟨c, e3, _⟩ := closure_least hn hB n.rev (closure_walk hn hA e2).rev
      rw [e1] at e3; cases e3
  | some L =>
    obtain ⟨c, e3, l3⟩ := closure_least hn hA n (closure_walk hn hB e1).unrev
    obtain ⟨c', e4, l4⟩ := closure_least hn hB n.rev (closure_walk hn hA e3).rev
    rw [e1] at e4; cases e4
    rw [e3]
    congr 1
    omega
def armB (t : Stp) : AR D := ⟨t.y, t.x, t.len, .tup [.str t.name, .str (sideOf t.most)]⟩
theorem armB_arcs (st : List Stp) : arcsL (st.map armB) = (st.map stArc).map rvA := by
  unfold arcsL
  rw [List.map_map, List.map_map]; rfl
theorem backArcs_ok {st : List Stp} {h : Hs} {Q : D → Hs → Prop} {E : Ex → Hs → Prop} (hl : st.length ≤ 10000) (hq : ∀ n h', h'[n]? = some (.lst ((st.map armB).map enA)) → Fr [] h h' → Q (.ref n) h') : (P06.fn_back_arcs.go [.tup (st.map enT)] h).wp Q E := by
  unfold P06.fn_back_arcs
  rw [w_defn]
  unfold P06.s_back_arcs
  wp_walk
  refine w_lc (st.map enT) (fun _ => True) (fun i acc h' => acc = ((st.take i).map armB).map enA ∧ h' = h) ?_ (fun _ _ _ _ => trivial) ?_ ?_ ?_
  · wp_walk
    exact ⟨t_seq _ _, rfl⟩
  · rintro i acc h' ⟨rfl, _⟩
    rw [List.length_map, List.length_map, List.length_take]
    show _ < 16777217
    omega
  · rintro i x acc h' hx ⟨rfl, rfl⟩
    obtain ⟨t, ht, rfl⟩ := map_get hx
    have e : st.take (i + 1) = st.take i ++ [t] := by rw [List.take_add_one, ht]; rfl
    unfold enT
    wp_walk using List.length_take
    rw [e]
    refine ⟨by omega, ?_⟩
    rw [List.map_append, List.map_append]; rfl
  · rintro acc h' ⟨rfl, rfl⟩
    rw [List.length_map, List.take_length]
    wp_walk
    exact hq _ _ get_new1 .app
theorem distTo_ok {p : Pln} {y : Nm} {h : Hs} {Q : D → Hs → Prop} {E : Ex → Hs → Prop} (w : WP p) (nn : NoNeg (arcsP p.rows)) (hy : y ∈ zro :: p.marks) (hq : ∀ n kd h', h'[n]? = some (.dic false false kd) → DF .int kd (fun x => tblP p x y) 1000000 → Fr [] h h' → Q (.ref n) h') : (P06.fn_distances_to.go [enP p, .str y] h).wp Q E := by
  have fm := w.fm
  have fr := w.fr
  unfold P06.fn_distances_to
  rw [w_defn]
  unfold P06.s_distances_to
  wp_walk
  refine ⟨rfl, nodes_ok (by omega) ?_⟩
  wp_walk
  refine ⟨rfl, steps_ok (by omega) fun h1 F1 => ?_⟩
  wp_walk
  have l1 := stepsOf_len p.rows
  refine ⟨rfl, backArcs_ok (by omega) fun al h2 ha F2 => ?_⟩
  wp_walk
  refine ⟨rfl, ?_⟩
  have e0 : D.str zro :: p.marks.map .str = (zro :: p.marks).map .str := rfl
  have e1 : [D.str y] = [y].map .str := rfl
  rw [e0, e1]
  have hb : ∀ a ∈ (stepsOf p.rows).map armB, (a.u ∈ zro :: p.marks ∧ a.v ∈ zro :: p.marks) ∧ a.u ≠ a.v := fun a m => by
    obtain ⟨t, ht, rfl⟩ := List.mem_map.mp m
    have := w.step ht
    exact ⟨⟨this.2.1, this.1⟩, fun q => this.2.2 q.symm⟩
  have nb : NoNeg (arcsL ((stepsOf p.rows).map armB)) := by rw [armB_arcs]; exact nn.rev
  refine distances_ok (A := (stepsOf p.rows).map armB) (by simp) (by simp; omega) (by simp) (by rw [List.length_map]; omega) (fun x m => by rw [List.mem_singleton.mp m]; exact hy) (fun a m => (hb a m).1) (fun a m => (hb a m).2) nb ha fun s di ii h3 fin _ hne sr F3 => ?_
  obtain ⟨kd, ki, e1, e2, d1, d2⟩ := sr
  have ls : s.dist = fun x => tblP p x y := by
    funext x
    have hA : ∀ u v l, (u, v, l) ∈ arcsL ((stepsOf p.rows).map armB) → u ∈ zro :: p.marks ∧ v ∈ zro :: p.marks := fun u v l m => by
      obtain ⟨a, ha, e⟩ := List.mem_map.mp m
      unfold AR.arc at e
      cases e
      exact (hb a ha).1
    rw [fin.least w.nd hA nb x hy, armB_arcs]
    exact closure_rev w.nd w.arc nn x y
  rw [ls] at d1
  wp_walk
  exact hq _ _ _ e1 d1 (F1.trans (F2.trans F3))
def ngO (o : Option Int) : Option Int := o.map fun i => 0 - i
theorem less_ok {o : Option Int} {h : Hs} {Q : D → Hs → Prop} {E : Ex → Hs → Prop} (hq : Q (enO (ngO o)) h) : (P06.fn__law_less.go [enO o] h).wp Q E := by
  unfold P06.fn__law_less
  rw [w_defn]
  unfold P06.s__law_less
  cases o with
  | none => wp_walk using enO_n; exact hq
  | some i => wp_walk using enO_s; exact hq
/-- a window's row -/
def enW (p : Pln) (m : Nm) : D := .tup [.str m, enO (ngO (tblP p m zro)), enO (tblP p zro m)]
theorem windows_ok {p : Pln} {h : Hs} {Q : D → Hs → Prop} {E : Ex → Hs → Prop} (w : WP p) (nn : NoNeg (arcsP p.rows)) (hq : ∀ h', Fr [] h h' → Q (.tup (p.marks.map (enW p))) h') : (P06.fn_windows.go [enP p] h).wp Q E := by
  have fm := w.fm
  unfold P06.fn_windows
  rw [w_defn]
  unfold P06.s_windows
  wp_walk
  rw [w_seqF]
  wp_walk
  refine ⟨rfl, distFrom_ok w nn List.mem_cons_self fun n kd h1 e1 d1 F1 => ?_⟩
  wp_walk
  rw [w_seqF]
  wp_walk
  refine ⟨rfl, distTo_ok w nn List.mem_cons_self fun n2 kd2 h2 e2 d2 F2 => ?_⟩
  wp_walk
  have e1 := F2.get e1
  refine w_lc (p.marks.map .str) (fun _ => True) (fun i acc h' => acc = (p.marks.take i).map (enW p) ∧ h' = h2) ?_ (fun _ _ _ _ => trivial) ?_ ?_ ?_
  · wp_walk using ixP
    exact ⟨t_seq _ _, rfl⟩
  · rintro i acc h' ⟨rfl, _⟩
    rw [List.length_map, List.length_take]
    show _ < 16777217
    omega
  · rintro i x acc h' hx ⟨rfl, rfl⟩
    obtain ⟨m, hm, rfl⟩ := map_get hx
    have et : p.marks.take (i + 1) = p.marks.take i ++ [m] := by rw [List.take_add_one, hm]; rfl
    have f1 : dfind kd (.str m) = (tblP p zro m).map D.int := d1.1 m
    have f2 : dfind kd2 (.str m) = (tblP p m zro).map D.int := d2.1 m
    have fin : ∀ a b, enO a = enO (ngO (tblP p m zro)) → enO b = enO (tblP p zro m) → (p.marks.take i).map (enW p) ++ [D.tup [.str m, enO a, enO b]] = (p.marks.take (i + 1)).map (enW p) := fun a b ea eb => by
      rw [et, List.map_append, ea, eb]; rfl
    cases c1 : tblP p m zro with
    | none =>
      have f2 : dfind kd2 (.str m) = none := by rw [c1] at f2; exact f2
      cases c2 : tblP p zro m with
      | none =>
        have f1 : dfind kd (.str m) = none := by rw [c2] at f1; exact f1
        wp_walk using e1, e2, f1, f2, Option.isSome_none, Option.getD_none, List.length_take
        exact ⟨by omega, fin none none (by rw [c1]; rfl) (by rw [c2])⟩
      | some b =>
        have f1 : dfind kd (.str m) = some (.int b) := by rw [c2] at f1; exact f1
        wp_walk using e1, e2, f1, f2, Option.isSome_none, Option.getD_some, List.length_take
        exact ⟨by omega, fin none (some b) (by rw [c1]; rfl) (by rw [c2])⟩
    | some a =>
      have f2 : dfind kd2 (.str m) = some (.int a) := by rw [c1] at f2; exact f2
      cases c2 : tblP p zro m with
      | none =>
        have f1 : dfind kd (.str m) = none := by rw [c2] at f1; exact f1
        wp_walk using e1, e2, f1, f2, Option.getD_none, List.length_take
        exact ⟨by omega, fin (some (0 - a)) none (by rw [c1]; rfl) (by rw [c2])⟩
      | some b =>
        have f1 : dfind kd (.str m) = some (.int b) := by rw [c2] at f1; exact f1
        wp_walk using e1, e2, f1, f2, Option.getD_some, List.length_take
        exact ⟨by omega, fin (some (0 - a)) (some b) (by rw [c1]; rfl) (by rw [c2])⟩
  · rintro acc h' ⟨rfl, rfl⟩
    rw [List.length_map, List.take_length]
    have g : ∀ xs : List D, (h' ++ [Cell.lst xs])[h'.length]? = some (.lst xs) := fun xs => get_new1
    wp_walk using g
    exact hq _ (F1.trans (F2.trans .app))
theorem window_ok {p : Pln} {m : Nm} {h : Hs} {Q : D → Hs → Prop} {E : Ex → Hs → Prop} (w : WP p) (nn : NoNeg (arcsP p.rows)) (hm : m ∈ zro :: p.marks) (hq : ∀ h', Fr [] h h' → Q (.tup [enO (ngO (tblP p m zro)), enO (tblP p zro m)]) h') : (P06.fn_window.go [enP p, .str m] h).wp Q E := by
  unfold P06.fn_window
  rw [w_defn]
  unfold P06.s_window
  wp_walk
  rw [w_seqF]
  wp_walk
  refine ⟨rfl, widest_ok w nn hm fun h1 F1 => ?_⟩
  wp_walk
  cases c : tblP p m zro with
  | none =>
    rw [c] at hq
    have c : tblP p m (cs "zero") = none := c
    wp_walk using c, enO_n
    refine ⟨rfl, widest_ok w nn List.mem_cons_self fun h2 F2 => ?_⟩
    wp_walk
    exact hq _ (F1.trans F2)
  | some a =>
    rw [c] at hq
    have c : tblP p m (cs "zero") = some a := c
    wp_walk using c, enO_s
    refine ⟨rfl, widest_ok w nn List.mem_cons_self fun h2 F2 => ?_⟩
    wp_walk
    exact hq _ (F1.trans F2)
/-- the earliest dates -/
def erl (p : Pln) : Option D := if p.marks.all (fun m => (tblP p m zro).isSome) then some (.tup (p.marks.map fun m => .tup [.str m, enO (ngO (tblP p m zro))])) else none
theorem earliest_ok {p : Pln} {h : Hs} {Q : D → Hs → Prop} {E : Ex → Hs → Prop} (w : WP p) (nn : NoNeg (arcsP p.rows)) (hq : ∀ h', Fr [] h h' → Q ((erl p).getD .non) h') : (P06.fn_earliest.go [enP p] h).wp Q E := by
  have fm := w.fm
  unfold P06.fn_earliest
  rw [w_defn]
  unfold P06.s_earliest
  wp_walk
  rw [w_seqF]
  wp_walk
  refine ⟨rfl, distTo_ok w nn List.mem_cons_self fun n kd h1 e1 d1 F1 => ?_⟩
  wp_walk
  rw [w_seqF]
  have fd : ∀ m, (dfind kd (.str m)).isSome = (tblP p m zro).isSome := fun m => by rw [d1.1 m, Option.isSome_map]; rfl
  wp_walk
  refine w_lc (p.marks.map .str) (fun _ => True) (fun i acc h' => acc = (p.marks.take i).map (fun m => D.bl (tblP p m zro).isSome) ∧ h' = h1) ?_ (fun _ _ _ _ => trivial) ?_ ?_ ?_
  · wp_walk using ixP
    exact ⟨t_seq _ _, rfl⟩
  · rintro i acc h' ⟨rfl, _⟩
    rw [List.length_map, List.length_take]
    show _ < 16777217
    omega
  · rintro i x acc h' hx ⟨rfl, rfl⟩
    obtain ⟨m, hm, rfl⟩ := map_get hx
    have et : p.marks.take (i + 1) = p.marks.take i ++ [m] := by rw [List.take_add_one, hm]; rfl
    wp_walk using e1, fd, List.length_take
    rw [et, List.map_append]
    exact ⟨by omega, rfl⟩
  · rintro acc h' ⟨rfl, rfl⟩
    rw [List.length_map, List.take_length]
    have g : ∀ xs : List D, (h' ++ [Cell.lst xs])[h'.length]? = some (.lst xs) := fun xs => get_new1
    have eb : blsD (p.marks.map fun m => D.bl (tblP p m zro).isSome) = some (p.marks.map fun m => (tblP p m zro).isSome) := by
      rw [show (p.marks.map fun m => D.bl (tblP p m zro).isSome) = (p.marks.map fun m => (tblP p m zro).isSome).map D.bl by rw [List.map_map]; rfl]
      exact blsD_map _
    have ea : (p.marks.map fun m => (tblP p m zro).isSome).all id = p.marks.all fun m => (tblP p m zro).isSome := by
      rw [List.all_map]; rfl
    wp_walk using g, eb, ea
    have e1 := get_old (g := [Cell.lst (p.marks.map fun m => D.bl (tblP p m zro).isSome)]) e1
    generalize hH : h' ++ [Cell.lst (p.marks.map fun m => D.bl (tblP p m zro).isSome)] = h2 at *
    have F2 : Fr [] h h2 := by rw [← hH]; exact F1.push
    unfold erl at hq
    cases c : p.marks.all fun m => (tblP p m zro).isSome with
    | false =>
      rw [c] at hq
      wp_walk
      exact hq _ F2
    | true =>
      rw [c] at hq
      wp_walk
      refine w_lc (p.marks.map .str) (fun _ => True) (fun i acc h' => acc = (p.marks.take i).map (fun m => D.tup [.str m, enO (ngO (tblP p m zro))]) ∧ h' = h2) ?_ (fun _ _ _ _ => trivial) ?_ ?_ ?_
      · wp_walk using ixP
        exact ⟨t_seq _ _, rfl⟩
      · rintro i acc h' ⟨rfl, _⟩
        rw [List.length_map, List.length_take]
        show _ < 16777217
        omega
      · rintro i x acc h3 hx ⟨rfl, rfl⟩
        obtain ⟨m, hm, rfl⟩ := map_get hx
        have et : p.marks.take (i + 1) = p.marks.take i ++ [m] := by rw [List.take_add_one, hm]; rfl
        obtain ⟨a, ea⟩ := Option.isSome_iff_exists.mp (List.all_eq_true.mp c m (List.mem_of_getElem? hm))
        have f : dfind kd (.str m) = some (.int a) := d1.some ea
        wp_walk using e1, f, List.length_take
        rw [et, List.map_append]
        refine ⟨by omega, ?_⟩
        simp only [List.map_cons, List.map_nil, ea]
        rfl
      · rintro acc h3 ⟨rfl, rfl⟩
        rw [List.length_map, List.take_length]
        have g : ∀ xs : List D, (h3 ++ [Cell.lst xs])[h3.length]? = some (.lst xs) := fun xs => get_new1
        wp_walk using g
        exact hq _ F2.push
/-! WF: the law k06 holds (printed by genWF.py). -/
open PySem PySem.Spec PyProof.Rows L2
def E6a (ns : List Int) (b : Nat) (env : Env) : Prop := ∃ o2 o3 o4 o5 o6 o7 o8 o9 o10 o11 o12 o13 o14 o15, env = [some (.ls (ns.map .int)), some (.ref b), o2, o3, o4, o5, o6, o7, o8, o9, o10, o11, o12, o13, o14, o15]
def E6b (ns : List Int) (b : Nat) (p : Pln) (env : Env) : Prop := ∃ o2 o4 o5 o6 o7 o8 o9 o10 o11 o12 o13 o14 o15, env = [some (.ls (ns.map .int)), some (.ref b), o2, some (enP p), o4, o5, o6, o7, o8, o9, o10, o11, o12, o13, o14, o15]
def E6c (ns : List Int) (b : Nat) (p : Pln) (sl nl : Nat) (env : Env) : Prop := ∃ o2 o4 o5 o6 o7 o8 o9 o12 o13 o14 o15, env = [some (.ls (ns.map .int)), some (.ref b), o2, some (enP p), o4, o5, o6, o7, o8, o9, some (.ref sl), some (.ref nl), o12, o13, o14, o15]
def E6d (ns : List Int) (b : Nat) (p : Pln) (sl nl tb : Nat) (env : Env) : Prop := ∃ o2 o4 o5 o7 o8 o9 o12 o13 o14 o15, env = [some (.ls (ns.map .int)), some (.ref b), o2, some (enP p), o4, o5, some (.ref tb), o7, o8, o9, some (.ref sl), some (.ref nl), o12, o13, o14, o15]
def E6e (ns : List Int) (b : Nat) (p : Pln) (sl nl tb : Nat) (x y : Nm) (env : Env) : Prop := ∃ o2 o4 o5 o8 o9 o13 o14 o15, env = [some (.ls (ns.map .int)), some (.ref b), o2, some (enP p), o4, o5, some (.ref tb), some (.str x), o8, o9, some (.ref sl), some (.ref nl), some (.str y), o13, o14, o15]
def E6f (ns : List Int) (b : Nat) (p : Pln) (sl nl tb du : Nat) (env : Env) : Prop := ∃ o2 o4 o5 o7 o8 o12 o13 o14 o15, env = [some (.ls (ns.map .int)), some (.ref b), o2, some (enP p), o4, o5, some (.ref tb), o7, o8, some (.ref du), some (.ref sl), some (.ref nl), o12, o13, o14, o15]
theorem lkT {d : Nat} {t : Stp} (h1 : t.name.length ≤ 10000) (h2 : t.x.length ≤ 10000) (h3 : t.y.length ≤ 10000) : lkOk (d + 2) (enT t) := by
  refine ⟨by simp, fun z m => ?_⟩
  simp only [List.mem_cons, List.not_mem_nil, or_false] at m
  rcases m with rfl | rfl | rfl | rfl | rfl
  · exact h1
  · show (sideOf t.most).length ≤ 10000
    cases t.most <;> decide +kernel
  · exact h2
  · exact h3
  · trivial
theorem lk_map {α : Type} {d : Nat} {f : α → D} {xs : List α} (hl : xs.length ≤ 10000) (h : ∀ x ∈ xs, lkOk d (f x)) : lkOk (d + 1) (.tup (xs.map f)) := by
  refine ⟨by rw [List.length_map]; exact hl, fun z m => ?_⟩
  obtain ⟨x, hx, rfl⟩ := List.mem_map.mp m
  exact h x hx
theorem lkW {d : Nat} {p : Pln} {m : Nm} (h : m.length ≤ 10000) : lkOk (d + 2) (enW p m) := by
  refine ⟨by simp, fun z q => ?_⟩
  simp only [List.mem_cons, List.not_mem_nil, or_false] at q
  rcases q with rfl | rfl | rfl
  · exact h
  · exact lkO _ _
  · exact lkO _ _
/-- what a turn's plan is -/
structure T6 (p : Pln) : Prop where
  sp : Sml p
  nd : (p.rows.map Spn.name).Nodup
  nm : ∀ x ∈ zro :: p.marks, x.length ≤ 10000
  rn : ∀ s ∈ p.rows, s.name.length ≤ 10000
theorem T6.steps {p : Pln} (t : T6 p) : (∀ s ∈ stepsOf p.rows, lkOk 11 (enT s)) ∧ (stepsOf p.rows).length ≤ 60 := by
  have sl := stepsOf_len p.rows
  refine ⟨fun s m => ?_, by have := t.sp.r; omega⟩
  obtain ⟨r, hr, en, _⟩ := step_mem m
  have := t.sp.w.step m
  exact lkT (by rw [en]; exact t.rn r hr) (t.nm _ this.1) (t.nm _ this.2.1)
/-- the lists of a turn -/
def L6 (p : Pln) (sl nl : Nat) (h : Hs) : Prop := h[sl]? = some (.lst ((stepsOf p.rows).map enT)) ∧ h[nl]? = some (.lst ((zro :: p.marks).map .str))
theorem L6.fr {p : Pln} {sl nl : Nat} {S : List Nat} {h h' : Hs} (l : L6 p sl nl h) (f : Fr S h h') (h1 : sl ∉ S := by simp) (h2 : nl ∉ S := by simp) : L6 p sl nl h' := ⟨f.get l.1 h1, f.get l.2 h2⟩
theorem L6.frb {b dg : Nat} {p : Pln} {sl nl : Nat} {h h' : Hs} (l : L6 p sl nl h) (B : Bx b dg h) (f : Fr [b] h h') : L6 p sl nl h' := by
  obtain ⟨ds, i, _, _, e1, e2⟩ := B
  refine l.fr f ?_ ?_
  · intro q
    rw [List.mem_singleton.mp q] at l
    have := l.1
    rw [e1] at this
    generalize stepsOf p.rows = st at this
    have := Cell.lst.inj (Option.some.inj this)
    cases st with
    | nil => cases this
    | cons a st => cases this
  · intro q
    rw [List.mem_singleton.mp q] at l
    have := l.2
    rw [e1] at this
    cases this
theorem GP.t6 {p : Pln} (g : GP p) : T6 p := by
  obtain ⟨n, hn, e⟩ := g.n
  exact ⟨⟨g.wp, fun s m => (g.rows.bd s m).sm, by rw [e, List.length_take]; omega, g.few⟩, g.rows.nd, by rw [e]; exact nm_small, fun s m => by have := g.rows.nl s m; omega⟩
theorem seqF_as (s t u : Sf) : seqF s (seqF t u) = seqF (seqF s t) u := by
  funext env h
  unfold seqF
  cases s env h <;> rfl
theorem eq_bl2 (h : Hs) (a b : Bool) : eqOp h (.bl a) (.bl b) = some (a == b) := by cases a <;> cases b <;> rfl
theorem isO (o : Option Int) : isOp (enO o) .non = some o.isNone := by cases o <;> rfl
theorem eqI (h : Hs) (o : Option Int) (i : Int) : eqOp h (.int i) (enO o) = some (decide (o = some i)) := by
  cases o with
  | none => rw [enO_n, eq_intn]; simp
  | some j => rw [enO_s, eq_ii]; simp [eq_comm]
theorem sub_slW (h : Hs) (p : Pln) (m : Nm) : slOp h (enW p m) (some 1) none = .ok (.tup [enO (ngO (tblP p m zro)), enO (tblP p zro m)]) h := rfl
theorem sub_slW2 (h : Hs) (p : Pln) (m : Nm) : slOp h (enW p m) none (some 2) = .ok (.tup [.str m, enO (ngO (tblP p m zro))]) h := rfl
theorem ixW0 (h : Hs) (p : Pln) (m : Nm) : ixOp h (enW p m) (.int 0) = .ok (.str m) h := rfl
theorem ixW1 (h : Hs) (p : Pln) (m : Nm) : ixOp h (enW p m) (.int 1) = .ok (enO (ngO (tblP p m zro))) h := rfl
theorem flts_O {α : Type} (f : α → Option Int) : ∀ xs : List α, flts 50 (xs.map fun x => enO (f x)) = true
  | [] => by simp [flts]
  | x :: xs => by
    have : flt 50 (enO (f x)) = true := by cases f x <;> rfl
    simp [flts, this, flts_O f xs]
theorem in_noneO {α : Type} (f : α → Option Int) (h : Hs) (xs : List α) : inSeq h .non (xs.map fun x => enO (f x)) = some (!xs.all fun x => (f x).isSome) := by
  rw [in_flat (by rfl) (flts_O f xs)]
  congr 1
  induction xs with
  | nil => rfl
  | cons x xs ih =>
    rw [List.map_cons, List.any_cons, List.all_cons, ih]
    cases f x <;> simp [enO, deq]

/-- the way of a turn is right -/
theorem law06 (ns : List Int) (hns : ns.length ≤ 63) : ∃ h', P06.fn_law.go [.ls (ns.map .int)] [] = .ok (.bl true) h' := by
  have key : (P06.fn_law.go [.ls (ns.map .int)] []).wp (fun d _ => d = .bl true) (fun _ _ => False) := by
    unfold P06.fn_law
    rw [w_defn]
    unfold P06.s_law
    wp_walk
    rw [w_seqF]
    wp_walk
    refine ⟨rfl, digits_ok fun ds dg h1 hdg F1 edg _ => ?_⟩
    wp_walk
    rw [w_seqF]
    have B0 : Bx h1.length dg (h1 ++ [Cell.lst [.ref dg, .int 0]]) := ⟨ds, 0, by have := get_lt hdg; omega, by decide, get_new1, get_old hdg⟩
    generalize hb : h1.length = b at *
    generalize h1 ++ [Cell.lst [.ref dg, .int 0]] = h2 at *
    clear hdg F1 edg hb h1
    refine w_for ((List.range 3).map fun i => .int ((i : Nat) : Int)) (fun _ => True) (fun i env h' => E6a ns b env ∧ Bx b dg h') ?_ (fun _ _ _ _ => trivial) ?_ ?_
    · wp_walk using show small 3 = true from rfl
      exact ⟨t_rng0 3 _, ⟨_, _, _, _, _, _, _, _, _, _, _, _, _, _, rfl⟩, B0⟩
    · clear B0 h2
      rintro k x env h0 hx ⟨⟨o2, o3, o4, o5, o6, o7, o8, o9, o10, o11, o12, o13, o14, o15, rfl⟩, B0⟩
      clear hx
      wp_walk
      rw [w_seqF]
      wp_walk
      refine ⟨rfl, draw_ok B0 (by decide) fun v1 h1 p1 q1 B1 _ => ?_⟩
      wp_walk
      refine ⟨rfl, draw_ok B1 (by decide) fun v2 h2 p2 q2 B2 _ => ?_⟩
      wp_walk
      refine ⟨rfl, draw_ok B2 (by decide) fun v3 h3 p3 q3 B3 _ => ?_⟩
      obtain ⟨n1, rfl⟩ := Int.eq_ofNat_of_zero_le p1
      obtain ⟨n2, rfl⟩ := Int.eq_ofNat_of_zero_le p2
      obtain ⟨n3, rfl⟩ := Int.eq_ofNat_of_zero_le p3
      wp_walk
      refine ⟨rfl, lawHolding_ok B3 (by omega) (by omega) (by omega) fun p h4 gp em lr _ nn B4 _ => ?_⟩
      have t0 := gp.t6
      clear B0 B1 B2 B3 em lr nn gp q1 q2 q3
      wp_walk
      refine w_cut (fun env h' => ∃ p, T6 p ∧ E6b ns b p env ∧ Bx b dg h') ?_ ?_
      · wp_walk
        refine ⟨rfl, draw_ok B4 (by decide) fun v5 h5 p5 q5 B5 _ => ?_⟩
        wp_walk
        refine wif_d (fun _ => ?_) (fun _ => ?_)
        · wp_walk
          refine ⟨rfl, draw_ok B5 (by decide) fun v1 h1 p1 q1 B1 _ => ?_⟩
          wp_walk
          refine ⟨rfl, draw_ok B1 (by decide) fun v2 h2 p2 q2 B2 _ => ?_⟩
          wp_walk
          refine ⟨rfl, draw_ok B2 (by decide) fun v3 h3 p3 q3 B3 _ => ?_⟩
          obtain ⟨n1, rfl⟩ := Int.eq_ofNat_of_zero_le p1
          obtain ⟨n2, rfl⟩ := Int.eq_ofNat_of_zero_le p2
          obtain ⟨n3, rfl⟩ := Int.eq_ofNat_of_zero_le p3
          wp_walk
          refine ⟨rfl, plan_ok B3 (by omega) (by omega) (by omega) fun p h4 gp _ _ _ _ B4 _ => ?_⟩
          wp_walk
          exact ⟨p, gp.t6, ⟨_, _, _, _, _, _, _, _, _, _, _, _, _, rfl⟩, B4⟩
        · wp_walk
          exact ⟨p, t0, ⟨_, _, _, _, _, _, _, _, _, _, _, _, _, rfl⟩, B5⟩
      clear B4 t0
      rintro env h4 ⟨p, t6, ⟨o2, o4, o5, o6, o7, o8, o9, o10, o11, o12, o13, o14, o15, rfl⟩, B4⟩
      have w := t6.sp.w
      have fm := t6.sp.m
      have fr := t6.sp.r
      have ⟨tl, tn⟩ := t6.steps
      have nd := t6.nd
      have nm := t6.nm
      -- steps, names
      refine w_cut (fun env h' => ∃ sl nl, E6c ns b p sl nl env ∧ L6 p sl nl h' ∧ Bx b dg h') ?_ ?_
      · wp_walk
        refine ⟨rfl, lawSteps_ok (by omega) ?_⟩
        have g0 : (h4 ++ [Cell.lst ((stepsOf p.rows).map enT)])[h4.length]? = some (.lst ((stepsOf p.rows).map enT)) := get_new1
        have B5 := B4.fr (Fr.app (g := [Cell.lst ((stepsOf p.rows).map enT)]))
        generalize h4.length = sl at *
        generalize h4 ++ [Cell.lst ((stepsOf p.rows).map enT)] = h5 at *
        have g1 : (h5 ++ [Cell.lst [D.str (cs "zero")]] ++ [Cell.lst (p.marks.map .str)])[h5.length]? = some (.lst [.str (cs "zero")]) := get_old get_new1
        have g2 : (h5 ++ [Cell.lst [D.str (cs "zero")]] ++ [Cell.lst (p.marks.map .str)])[(h5 ++ [Cell.lst [D.str (cs "zero")]]).length]? = some (.lst (p.marks.map .str)) := get_new1
        have g3 : (h5 ++ [Cell.lst [D.str (cs "zero")]] ++ [Cell.lst (p.marks.map .str)] ++ [Cell.lst (D.str (cs "zero") :: p.marks.map .str)])[(h5 ++ [Cell.lst [D.str (cs "zero")]] ++ [Cell.lst (p.marks.map .str)]).length]? = some (.lst ((zro :: p.marks).map .str)) := get_new1
        wp_walk using ixP, g1, g2
        refine ⟨by omega, sl, _, ⟨_, _, _, _, _, _, _, _, _, _, _, rfl⟩, ⟨get_old (get_old (get_old g0)), g3⟩, B5.fr ((Fr.app.push).push)⟩
      clear B4
      rintro env h4 ⟨sl, nl, ⟨o2, o4, o5, o6, o7, o8, o9, o12, o13, o14, o15, rfl⟩, l4, B4⟩
      -- right
      rw [w_seqF]
      wp_walk
      refine ⟨rfl, lawHolds_ok w fun c h5 hc F5 => ?_⟩
      have l5 := l4.fr F5
      have B5 := B4.fr F5
      clear l4 B4 F5
      wp_walk
      rw [w_seqF]
      have lkst : Lk (.tup ((stepsOf p.rows).map enT)) := ⟨lk_map (by omega) tl⟩
      have g5 := l5.1
      wp_walk
      refine ⟨rfl, steps_ok (by omega) fun h6 F6 => ?_⟩
      have l6 := l5.fr F6
      have B6 := B5.fr F6
      clear l5 B5 F6 g5
      have g6 := l6.1
      wp_walk using g6
      refine ⟨rfl, ?_⟩
      generalize D.tup ((stepsOf p.rows).map enT) = Y at lkst ⊢
      refine like_ok lkst fun h7 F7 => ?_
      have l7 := l6.fr F7
      have B7 := B6.fr F7
      clear l6 B6 F7 g6
      wp_walk
      refine ⟨rfl, holds_gen w fun c2 h8 hc2 F8 => ?_⟩
      have ec : c2 = c := by
        cases c <;> cases c2 <;> simp_all
      subst ec
      wp_walk
      refine ⟨rfl, ?_⟩
      have lk : Lk (.bl c2) := ⟨trivial⟩
      generalize hY : D.bl c2 = Y2 at lk ⊢
      refine like_ok lk fun h9 F9 => ?_
      subst hY
      have l9 := l7.fr (F8.trans F9)
      have B9 := B7.fr (F8.trans F9)
      clear l7 B7 F8 F9
      wp_walk
      -- the paper
      rw [w_seqF]
      wp_walk
      refine ⟨rfl, paper_gen w fun d h10 pd F10 => ?_⟩
      wp_walk
      rw [w_seqF]
      have pr := fun h Q E hq => paperRight_ok (h := h) (Q := Q) (E := E) t6.sp nd (fun m q => nm m (List.mem_cons_of_mem _ q)) pd hq
      have e0 : ∀ h, ixOp h d (.int 0) = .ok (.str (if c2 = true then cs "dates" else cs "ring")) h := fun h => by
        rcases pd with ⟨f, nn, _, _, _, rfl⟩ | ⟨r, _, nn, rfl⟩
        · rw [hc.mpr nn, if_pos rfl]; rfl
        · have : c2 = false := Bool.eq_false_iff.mpr fun q => nn (hc.mp q)
          rw [this, if_neg (by decide)]; rfl
      clear pd
      wp_walk
      refine ⟨rfl, pr _ _ _ fun h11 F11 => ?_⟩
      have l11 := l9.fr (F10.trans F11)
      have B11 := B9.fr (F10.trans F11)
      clear l9 B9 F10 F11 pr
      cases c2 with
      | false =>
        wp_walk using e0
        exact ⟨⟨_, _, _, _, _, _, _, _, _, _, _, _, _, _, rfl⟩, B11⟩
      | true =>
        have nn := hc.mp rfl
        wp_walk using e0
        -- the closure
        refine ⟨rfl, lawClosure_ok (by omega) l11.1 (fun t ht => ⟨(w.step ht).1, (w.step ht).2.1⟩) fun kvs tb h12 ta g12 F12 => ?_⟩
        have l12 := l11.fr F12
        have B12 := B11.fr F12
        have ta : TabA kvs (tblP p) (fun x y => x ∈ zro :: p.marks ∧ y ∈ zro :: p.marks) 2000 := ta
        clear l11 B11 F12
        wp_walk
        refine w_cut (fun env h' => E6d ns b p sl nl tb env ∧ L6 p sl nl h' ∧ h'[tb]? = some (.dic true false kvs) ∧ Bx b dg h') ?_ ?_
        · refine w_for ((zro :: p.marks).map .str) (fun h => h[nl]? = some (.lst ((zro :: p.marks).map .str))) (fun i env h' => E6d ns b p sl nl tb env ∧ L6 p sl nl h' ∧ h'[tb]? = some (.dic true false kvs) ∧ Bx b dg h') ?_ (fun _ _ _ q => q.2.1.2) ?_ ?_
          · have gl := l12.2
            wp_walk using gl
            exact ⟨t_cel _ _, ⟨_, _, _, _, _, _, _, _, _, _, rfl⟩, l12, g12, B12⟩
          · clear l12 g12 B12
            rintro i z env h13 hz ⟨⟨o2, o4, o5, o7, o8, o9, o12, o13, o14, o15, rfl⟩, l13, g13, B13⟩
            obtain ⟨x, hx, rfl⟩ := map_get hz
            have mx := List.mem_of_getElem? hx
            wp_walk
            refine w_for ((zro :: p.marks).map .str) (fun h => h[nl]? = some (.lst ((zro :: p.marks).map .str))) (fun i env h' => (∃ o2 o4 o5 o8 o9 o12 o13 o14 o15, env = [some (.ls (ns.map .int)), some (.ref b), o2, some (enP p), o4, o5, some (.ref tb), some (.str x), o8, o9, some (.ref sl), some (.ref nl), o12, o13, o14, o15]) ∧ L6 p sl nl h' ∧ h'[tb]? = some (.dic true false kvs) ∧ Bx b dg h') ?_ (fun _ _ _ q => q.2.1.2) ?_ ?_
            · have gl := l13.2
              wp_walk using gl
              exact ⟨t_cel _ _, ⟨_, _, _, _, _, _, _, _, _, rfl⟩, l13, g13, B13⟩
            · clear l13 g13 B13
              rintro j z env h14 hz ⟨⟨o2, o4, o5, o8, o9, o12, o13, o14, o15, rfl⟩, l14, g14, B14⟩
              obtain ⟨y, hy, rfl⟩ := map_get hz
              have my := List.mem_of_getElem? hy
              have f := ta.1 x y ⟨mx, my⟩
              wp_walk
              refine ⟨rfl, widest_ok w nn mx fun h15 F15 => ?_⟩
              have g15 := F15.get g14
              wp_walk using g15, f, kOk_t
              refine ⟨rfl, ?_⟩
              have lk : Lk (enO (tblP p x y)) := ⟨lkO _ _⟩
              generalize enO (tblP p x y) = Y at lk ⊢
              refine like_ok lk fun h16 F16 => ?_
              wp_walk
              exact ⟨⟨_, _, _, _, _, _, _, _, _, rfl⟩, l14.fr (F15.trans F16), F16.get g15, B14.fr (F15.trans F16)⟩
            · rintro env h14 ⟨⟨o2, o4, o5, o8, o9, o12, o13, o14, o15, rfl⟩, l14, g14, B14⟩
              wp_walk
              exact ⟨⟨_, _, _, _, _, _, _, _, _, _, rfl⟩, l14, g14, B14⟩
          · rintro env h14 ⟨⟨o2, o4, o5, o7, o8, o9, o12, o13, o14, o15, rfl⟩, l14, g14, B14⟩
            wp_walk
            exact ⟨⟨_, _, _, _, _, _, _, _, _, _, rfl⟩, l14, g14, B14⟩
        clear l12 g12 B12
        rintro env h13 ⟨⟨o2, o4, o5, o7, o8, o9, o12, o13, o14, o15, rfl⟩, l13, g13, B13⟩
        have lN : 0 < (zro :: p.marks).length := by simp
        -- two names
        refine w_cut (fun env h' => ∃ x y, x ∈ zro :: p.marks ∧ y ∈ zro :: p.marks ∧ E6e ns b p sl nl tb x y env ∧ L6 p sl nl h' ∧ h'[tb]? = some (.dic true false kvs) ∧ Bx b dg h') ?_ ?_
        · have nb : tb ∉ [b] := by
            intro q
            rw [List.mem_singleton.mp q] at g13
            obtain ⟨_, _, _, _, e1, _⟩ := B13
            rw [e1] at g13; cases g13
          wp_walk
          refine ⟨rfl, draw_ok B13 (by decide) fun v1 h14 p1 q1 B14 F14 => ?_⟩
          have l14 := l13.frb B13 F14
          have g14 := F14.get g13 nb
          have gl := l14.2
          wp_walk using gl
          refine ⟨by omega, ?_⟩
          have x1 := Int.emod_nonneg v1 (show ((p.marks.length + 1 : Nat) : Int) ≠ 0 by omega)
          have x2 := Int.emod_lt_of_pos v1 (show 0 < ((p.marks.length + 1 : Nat) : Int) by omega)
          generalize v1 % ((p.marks.length + 1 : Nat) : Int) = u1 at *
          obtain ⟨i, rfl⟩ := Int.eq_ofNat_of_zero_le x1
          have hi : i < (zro :: p.marks).length := by rw [List.length_cons]; omega
          have gi : (D.str zro :: p.marks.map .str)[i]? = some (.str ((zro :: p.marks)[i])) := by
            show ((zro :: p.marks).map D.str)[i]? = _
            rw [List.getElem?_map, List.getElem?_eq_getElem hi]; rfl
          wp_walk using gl, atN, gi
          refine ⟨rfl, draw_ok B14 (by decide) fun v2 h15 p2 q2 B15 F15 => ?_⟩
          have l15 := l14.frb B14 F15
          have g15 := F15.get g14 nb
          have gl := l15.2
          wp_walk using gl
          refine ⟨by omega, ?_⟩
          have y1 := Int.emod_nonneg v2 (show ((p.marks.length + 1 : Nat) : Int) ≠ 0 by omega)
          have y2 := Int.emod_lt_of_pos v2 (show 0 < ((p.marks.length + 1 : Nat) : Int) by omega)
          generalize v2 % ((p.marks.length + 1 : Nat) : Int) = u2 at *
          obtain ⟨j, rfl⟩ := Int.eq_ofNat_of_zero_le y1
          have hj : j < (zro :: p.marks).length := by rw [List.length_cons]; omega
          have gj : (D.str zro :: p.marks.map .str)[j]? = some (.str ((zro :: p.marks)[j])) := by
            show ((zro :: p.marks).map D.str)[j]? = _
            rw [List.getElem?_map, List.getElem?_eq_getElem hj]; rfl
          wp_walk using gl, atN, gj
          exact ⟨_, _, List.getElem_mem hi, List.getElem_mem hj, ⟨_, _, _, _, _, _, _, _, rfl⟩, l15, g15, B15⟩
        clear l13 g13 B13
        rintro env h13 ⟨x, y, mx, my, ⟨o2, o4, o5, o8, o9, o13, o14, o15, rfl⟩, l13, g13, B13⟩
        have ft := ta.1 x y ⟨mx, my⟩
        -- the way
        rw [seqF_as, seqF_as]
        refine w_cut (fun env h' => E6d ns b p sl nl tb env ∧ L6 p sl nl h' ∧ h'[tb]? = some (.dic true false kvs) ∧ Bx b dg h') ?_ ?_
        · rw [w_seqF, w_seqF]
          wp_walk
          refine ⟨rfl, way_ok w nn mx (fun h14 e F14 => ?_) (fun L ts h14 e hts ld eL ll F14 => ?_)⟩
          · have l14 := l13.fr F14
            have g14 := F14.get g13
            have B14 := B13.fr F14
            rw [e] at ft
            have ft : dfind kvs (.tup [.str x, .str y]) = some .non := ft
            wp_walk using g14, ft, kOk_t, eq_bl2, beq_self_eq_true
            exact ⟨⟨_, _, _, _, _, _, _, _, _, _, rfl⟩, l14, B14⟩
          · have l14 := l13.fr F14
            have g14 := F14.get g13
            have B14 := B13.fr F14
            rw [e] at ft
            have ft : dfind kvs (.tup [.str x, .str y]) = some (.int L) := ft
            have lw := fun (h : Hs) Q E e hq => lawWalk_ok (h := h) (Q := Q) (E := E) (sl := sl) (steps_nd nd) (by omega) (by omega) hts ld e hq
            have iw := fun (h : Hs) Q E hq => isWay_ok (h := h) (Q := Q) (E := E) w nd mx my hts ld hq
            have lo := fun (h : Hs) Q E hq => lengthOf_ok (h := h) (Q := Q) (E := E) w nd hts (by omega) hq
            have nn : isOp (.tup (ts.map enK)) .non = some false := rfl
            generalize D.tup (ts.map enK) = Y at *
            wp_walk using g14, ft, kOk_t, eq_bl2, beq_self_eq_true, nn
            refine ⟨rfl, lw _ _ _ l14.1 fun n h15 g15 F15 => ?_⟩
            have l15 := l14.fr F15
            have gt15 := F15.get g14
            have B15 := B14.fr F15
            have l2 : ∀ (H : Hs) (c : Cell), (H ++ [c])[H.length]? = some c := fun H c => get_new1
            have ee : ∀ (h : Hs) (m : Nat), h[n]? = some (.lst (ts.map enT)) → h[m]? = some (.lst []) → eqOp h (.ref n) (.ref m) = some ts.isEmpty := fun h m a c => by
              rw [eq_refs a c (flts_T ts) (by rfl)]
              cases ts <;> rfl
            have e1 := ee _ _ (get_old (g := [Cell.lst []]) g15) (l2 h15 (.lst []))
            have e2 := ee _ _ (get_old (g := [Cell.lst []]) (get_old (g := [Cell.lst []]) g15)) (l2 (h15 ++ [.lst []]) (.lst []))
            wp_walk
            refine w_cut (fun env h' => (∃ o2 o4 o5 o9 o14 o15, env = [some (.ls (ns.map .int)), some (.ref b), o2, some (enP p), o4, o5, some (.ref tb), some (.str x), some Y, o9, some (.ref sl), some (.ref nl), some (.str y), some (.ref n), o14, o15]) ∧ L6 p sl nl h' ∧ h'[tb]? = some (.dic true false kvs) ∧ h'[n]? = some (.lst (ts.map enT)) ∧ Bx b dg h') ?_ ?_
            · cases ts with
              | nil =>
                have exy := ld.fin
                have e1 : eqOp (h15 ++ [Cell.lst []]) (.ref n) (.ref h15.length) = some true := e1
                have e2 : eqOp (h15 ++ [Cell.lst []] ++ [Cell.lst []]) (.ref n) (.ref (h15 ++ [Cell.lst []]).length) = some true := e2
                subst exy
                wp_walk using e1, e2
                have F16 := (Fr.app (S := []) (h := h15) (g := [Cell.lst []])).push (g := [Cell.lst []])
                exact ⟨⟨_, _, _, _, _, _, rfl⟩, l15.fr F16, F16.get gt15, F16.get g15, B15.fr F16⟩
              | cons t0 ts0 =>
                have g15' : (h15 ++ [Cell.lst []])[n]? = some (.lst ((t0 :: ts0).map enT)) := get_old g15
                have hE : (t0 :: ts0).isEmpty = false := rfl
                have hL0 : ¬ (t0 :: ts0).length < 1 := by simp
                have ga : ((t0 :: ts0).map enT)[0]? = some (enT t0) := rfl
                have tx : t0.x = x := ld.first rfl
                obtain ⟨tz, hz⟩ : ∃ z, (t0 :: ts0)[(t0 :: ts0).length - 1]? = some z := ⟨_, List.getElem?_eq_getElem (by simp)⟩
                have ty : tz.y = y := ld.last hz
                have gb : ((t0 :: ts0).map enT)[(t0 :: ts0).length - 1]? = some (enT tz) := by rw [List.getElem?_map, hz]; rfl
                generalize t0 :: ts0 = tt at *
                rw [hE] at e1 e2
                rw [enT_e] at ga gb
                wp_walk using e1, g15', ga, gb, tx, ty, hL0, e2
                have F16 := (Fr.app (S := []) (h := h15) (g := [Cell.lst []])).push (g := [Cell.lst []])
                exact ⟨⟨_, _, _, _, _, _, rfl⟩, l15.fr F16, F16.get gt15, F16.get g15, B15.fr F16⟩
            rintro env h16 ⟨⟨o2, o4, o5, o9, o14, o15, rfl⟩, l16, gt16, g16, B16⟩
            wp_walk
            refine w_lc (ts.map enT) (fun h => h[n]? = some (.lst (ts.map enT))) (fun i acc h' => acc = (ts.take i).map (fun t => D.int t.len) ∧ h' = h16) ?_ (fun _ _ _ q => by rw [q.2]; exact g16) ?_ ?_ ?_
            · wp_walk using g16
              exact ⟨t_cel _ _, rfl⟩
            · rintro i acc h' ⟨rfl, _⟩
              rw [List.length_map, List.length_take]
              show _ < 16777217
              omega
            · rintro i z acc h' hz ⟨rfl, rfl⟩
              obtain ⟨t, ht, rfl⟩ := map_get hz
              have et : ts.take (i + 1) = ts.take i ++ [t] := by rw [List.take_add_one, ht]; rfl
              rw [enT_e]
              wp_walk using List.length_take
              rw [et]
              refine ⟨by omega, ?_⟩
              rw [List.map_append]; rfl
            · rintro acc h17 ⟨rfl, rfl⟩
              rw [List.length_map, List.take_length]
              have g : ∀ xs : List D, (h17 ++ [Cell.lst xs])[h17.length]? = some (.lst xs) := fun xs => get_new1
              have ei : intsD (ts.map fun t => D.int t.len) = some (ts.map Stp.len) := by
                rw [show (ts.map fun t => D.int t.len) = (ts.map Stp.len).map D.int by rw [List.map_map]; rfl]
                exact intsD_map _
              have eL' : (ts.map Stp.len).sum = L := eL
              have gt17 := get_old (g := [Cell.lst (ts.map fun t => D.int t.len)]) gt16
              wp_walk using g, ei, gt17, ft, kOk_t, eL'
              refine ⟨rfl, iw _ _ _ fun h18 F18 => ?_⟩
              wp_walk using beq_self_eq_true
              refine ⟨rfl, lo _ _ _ fun h19 F19 => ?_⟩
              have F20 := (Fr.app (S := []) (h := h17) (g := [Cell.lst (ts.map fun t => D.int t.len)])).trans (F18.trans F19)
              have gt19 := F20.get gt16
              wp_walk using gt19, ft, kOk_t, eL
              exact ⟨⟨_, _, _, _, _, _, _, _, _, _, rfl⟩, l16.fr F20, B16.fr F20⟩
        clear l13 g13 B13 ft
        rintro env h13 ⟨⟨o2, o4, o5, o7, o8, o9, o12, o13, o14, o15, rfl⟩, l13, g13, B13⟩
        -- what is due
        refine w_cut (fun env h' => ∃ du, E6f ns b p sl nl tb du env ∧ h'[du]? = some (.lst (p.marks.map (enW p))) ∧ Bx b dg h') ?_ ?_
        · wp_walk
          refine w_lc (p.marks.map .str) (fun _ => True) (fun i acc h' => acc = (p.marks.take i).map (enW p) ∧ h' = h13) ?_ (fun _ _ _ _ => trivial) ?_ ?_ ?_
          · wp_walk using ixP
            exact ⟨t_seq _ _, rfl⟩
          · rintro i acc h' ⟨rfl, _⟩
            rw [List.length_map, List.length_take]
            show _ < 16777217
            omega
          · rintro i z acc h' hz ⟨rfl, rfl⟩
            obtain ⟨m, hm, rfl⟩ := map_get hz
            have mm := List.mem_cons_of_mem zro (List.mem_of_getElem? hm)
            have et : p.marks.take (i + 1) = p.marks.take i ++ [m] := by rw [List.take_add_one, hm]; rfl
            have f1 : dfind kvs (.tup [.str m, .str (cs "zero")]) = some (enO (tblP p m zro)) := ta.1 m zro ⟨mm, List.mem_cons_self⟩
            have f2 : dfind kvs (.tup [.str (cs "zero"), .str m]) = some (enO (tblP p zro m)) := ta.1 zro m ⟨List.mem_cons_self, mm⟩
            wp_walk using g13, f1, kOk_t
            refine ⟨rfl, less_ok ?_⟩
            wp_walk using g13, f2, kOk_t, List.length_take
            rw [et, List.map_append]
            exact ⟨by omega, rfl⟩
          · rintro acc h14 ⟨rfl, rfl⟩
            rw [List.length_map, List.take_length]
            wp_walk
            exact ⟨_, ⟨_, _, _, _, _, _, _, _, _, rfl⟩, get_new1, B13.fr .app⟩
        clear l13 g13 B13
        rintro env h13 ⟨du, ⟨o2, o4, o5, o7, o8, o12, o13, o14, o15, rfl⟩, g13, B13⟩
        have lkw : Lk (.tup (p.marks.map (enW p))) := ⟨lk_map (by omega) fun m q => lkW (nm m (List.mem_cons_of_mem _ q))⟩
        -- windows
        refine w_cut (fun env h' => E6f ns b p sl nl tb du env ∧ h'[du]? = some (.lst (p.marks.map (enW p))) ∧ Bx b dg h') ?_ ?_
        · wp_walk
          refine ⟨rfl, windows_ok w nn fun h14 F14 => ?_⟩
          have g14 := F14.get g13
          wp_walk using g14
          refine ⟨rfl, ?_⟩
          generalize D.tup (p.marks.map (enW p)) = Y at lkw ⊢
          refine like_ok lkw fun h15 F15 => ?_
          have F16 := F14.trans F15
          have g15 := F16.get g13
          have B15 := B13.fr F16
          wp_walk
          refine w_lc (p.marks.map (enW p)) (fun h => h[du]? = some (.lst (p.marks.map (enW p)))) (fun i (acc : List D) h' => acc = [] ∧ h'[du]? = some (.lst (p.marks.map (enW p))) ∧ Bx b dg h') ?_ (fun _ _ _ q => q.2.1) ?_ ?_ ?_
          · wp_walk using g15
            exact ⟨t_cel _ _, B15⟩
          · rintro i acc h' ⟨rfl, _⟩
            show _ < 16777217
            simp
          · rintro i z acc h17 hz ⟨rfl, g17, B17⟩
            obtain ⟨m, hm, rfl⟩ := map_get hz
            have mm := List.mem_cons_of_mem zro (List.mem_of_getElem? hm)
            wp_walk using ixW0
            refine ⟨rfl, window_ok w nn mm fun h18 F18 => ?_⟩
            wp_walk using sub_slW
            refine ⟨rfl, ?_⟩
            have lk : Lk (.tup [enO (ngO (tblP p m zro)), enO (tblP p zro m)]) := ⟨by
              refine ⟨by simp, fun z q => ?_⟩
              simp only [List.mem_cons, List.not_mem_nil, or_false] at q
              rcases q with rfl | rfl
              · exact lkO _ _
              · exact lkO _ _⟩
            generalize D.tup [enO (ngO (tblP p m zro)), enO (tblP p zro m)] = Y3 at lk ⊢
            refine like_ok lk fun h19 F19 => ?_
            wp_walk
            exact ⟨F19.get (F18.get g17), B17.fr (F18.trans F19)⟩
          · rintro acc h17 ⟨rfl, g17, B17⟩
            have l1 : ∀ (H : Hs) (a c : Cell), (H ++ [a] ++ [c])[H.length]? = some a := fun H a c => get_old get_new1
            have l2 : ∀ (H : Hs) (a c : Cell), (H ++ [a] ++ [c])[(H ++ [a]).length]? = some c := fun H a c => get_new1
            wp_walk
            rw [eq_refs (l1 _ _ _) (l2 _ _ _) (by rfl) (by rfl)]
            wp_walk using show deqs [] [] = true from rfl
            exact ⟨⟨_, _, _, _, _, _, _, _, _, rfl⟩, get_old (get_old g17), B17.fr (Fr.app.push)⟩
        clear g13 B13
        rintro env h13 ⟨⟨o2, o4, o5, o7, o8, o12, o13, o14, o15, rfl⟩, g13, B13⟩
        -- the earliest
        wp_walk
        refine ⟨rfl, earliest_ok w nn fun h14 F14 => ?_⟩
        have g14 := F14.get g13
        wp_walk
        refine w_lc (p.marks.map (enW p)) (fun h => h[du]? = some (.lst (p.marks.map (enW p)))) (fun i acc h' => acc = (p.marks.take i).map (fun m => enO (ngO (tblP p m zro))) ∧ h' = h14) ?_ (fun _ _ _ q => by rw [q.2]; exact g14) ?_ ?_ ?_
        · wp_walk using g14
          exact ⟨t_cel _ _, rfl⟩
        · rintro i acc h' ⟨rfl, _⟩
          rw [List.length_map, List.length_take]
          show _ < 16777217
          omega
        · rintro i z acc h17 hz ⟨rfl, rfl⟩
          obtain ⟨m, hm, rfl⟩ := map_get hz
          have et : p.marks.take (i + 1) = p.marks.take i ++ [m] := by rw [List.take_add_one, hm]; rfl
          wp_walk using ixW1, List.length_take
          rw [et, List.map_append]
          exact ⟨by omega, rfl⟩
        · rintro acc h17 ⟨rfl, rfl⟩
          rw [List.length_map, List.take_length]
          have g : ∀ xs : List D, (h17 ++ [Cell.lst xs])[h17.length]? = some (.lst xs) := fun xs => get_new1
          have en : (p.marks.all fun m => (ngO (tblP p m zro)).isSome) = p.marks.all fun m => (tblP p m zro).isSome := by
            congr 1; funext m; cases tblP p m zro <;> rfl
          have ie : ∀ h, inSeq h .non (p.marks.map fun m => enO (ngO (tblP p m zro))) = some (!p.marks.all fun m => (tblP p m zro).isSome) := fun h => by rw [in_noneO, en]
          have g18 := get_old (g := [Cell.lst (p.marks.map fun m => enO (ngO (tblP p m zro)))]) g14
          have F18 := F14.push (g := [Cell.lst (p.marks.map fun m => enO (ngO (tblP p m zro)))])
          wp_walk using g, ie
          unfold erl
          generalize h17 ++ [Cell.lst (p.marks.map fun m => enO (ngO (tblP p m zro)))] = h18 at *
          cases c : p.marks.all fun m => (tblP p m zro).isSome with
          | false =>
            wp_walk
            refine ⟨rfl, ?_⟩
            have lk : Lk .non := ⟨trivial⟩
            rw [Option.getD_none]
            generalize D.non = Y at lk ⊢
            refine like_ok lk fun h19 F19 => ?_
            wp_walk
            exact ⟨⟨_, _, _, _, _, _, _, _, _, _, _, _, _, _, rfl⟩, B13.fr (F18.trans F19)⟩
          | true =>
            wp_walk
            refine w_lc (p.marks.map (enW p)) (fun h => h[du]? = some (.lst (p.marks.map (enW p)))) (fun i acc h' => acc = (p.marks.take i).map (fun m => D.tup [.str m, enO (ngO (tblP p m zro))]) ∧ h' = h18) ?_ (fun _ _ _ q => by rw [q.2]; exact g18) ?_ ?_ ?_
            · wp_walk using g18
              exact ⟨t_cel _ _, rfl⟩
            · rintro i acc h' ⟨rfl, _⟩
              rw [List.length_map, List.length_take]
              show _ < 16777217
              omega
            · rintro i z acc h17 hz ⟨rfl, rfl⟩
              obtain ⟨m, hm, rfl⟩ := map_get hz
              have et : p.marks.take (i + 1) = p.marks.take i ++ [m] := by rw [List.take_add_one, hm]; rfl
              wp_walk using sub_slW2, List.length_take
              rw [et, List.map_append]
              exact ⟨by omega, rfl⟩
            · rintro acc h20 ⟨rfl, rfl⟩
              rw [List.length_map, List.take_length]
              have g : ∀ xs : List D, (h20 ++ [Cell.lst xs])[h20.length]? = some (.lst xs) := fun xs => get_new1
              wp_walk using g
              refine ⟨rfl, ?_⟩
              rw [Option.getD_some]
              have lk : Lk (.tup (p.marks.map fun m => D.tup [.str m, enO (ngO (tblP p m zro))])) := ⟨lk_map (by omega) fun m q => by
                refine ⟨by simp, fun z r => ?_⟩
                simp only [List.mem_cons, List.not_mem_nil, or_false] at r
                rcases r with rfl | rfl
                · exact nm m (List.mem_cons_of_mem _ q)
                · exact lkO _ _⟩
              generalize D.tup (p.marks.map fun m => D.tup [.str m, enO (ngO (tblP p m zro))]) = Y at lk ⊢
              refine like_ok lk fun h21 F21 => ?_
              wp_walk
              exact ⟨⟨_, _, _, _, _, _, _, _, _, _, _, _, _, _, rfl⟩, B13.fr (F18.push.trans F21)⟩
    · rintro env h' ⟨⟨o2, o3, o4, o5, o6, o7, o8, o9, o10, o11, o12, o13, o14, o15, rfl⟩, _⟩
      wp_walk
  cases e : P06.fn_law.go [.ls (ns.map .int)] [] with
  | ok d h' => rw [e] at key; exact ⟨h', by rw [show d = .bl true from key]⟩
  | exc x h' => rw [e] at key; exact key.elim
  | bad => rw [e] at key; exact key.elim
end M

namespace K06
theorem law_true (ns : List Int) (h : ns.length ≤ 63) : ∃ h', P06.fn_law.go [M.D.ls (ns.map M.D.int)] [] = M.Res.ok (M.D.bl true) h' := M.law06 ns h
open PySem PySem.Spec PyProof.Rows L2 M
def top (i : Nat) : Stmt := PySem.Challenge.pw_planholds_k06_way_said.main.body.getD i (.Pass ⟨0, 0, 0, 0⟩)
def dd_relaxed : He.DefD := ⟨("relaxed", none), "relaxed", "relaxed", defArgs (top 1), defBody (top 1), defScope (top 1), [], []⟩
def dd_ring_behind : He.DefD := ⟨("ring_behind", none), "ring_behind", "ring_behind", defArgs (top 2), defBody (top 2), defScope (top 2), [], []⟩
def dd_distances : He.DefD := ⟨("distances", none), "distances", "distances", defArgs (top 3), defBody (top 3), defScope (top 3), [], []⟩
def dd_way_to : He.DefD := ⟨("way_to", none), "way_to", "way_to", defArgs (top 4), defBody (top 4), defScope (top 4), [], []⟩
def dd_nodes_of : He.DefD := ⟨("nodes_of", none), "nodes_of", "nodes_of", defArgs (top 7), defBody (top 7), defScope (top 7), [], []⟩
def dd_steps_of : He.DefD := ⟨("steps_of", none), "steps_of", "steps_of", defArgs (top 8), defBody (top 8), defScope (top 8), [], []⟩
def dd_arcs_of : He.DefD := ⟨("arcs_of", none), "arcs_of", "arcs_of", defArgs (top 9), defBody (top 9), defScope (top 9), [], []⟩
def dd_back_arcs : He.DefD := ⟨("back_arcs", none), "back_arcs", "back_arcs", defArgs (top 10), defBody (top 10), defScope (top 10), [], []⟩
def dd_labels_of : He.DefD := ⟨("labels_of", none), "labels_of", "labels_of", defArgs (top 11), defBody (top 11), defScope (top 11), [], []⟩
def dd_table_of : He.DefD := ⟨("table_of", none), "table_of", "table_of", defArgs (top 12), defBody (top 12), defScope (top 12), [], []⟩
def dd_dates_from : He.DefD := ⟨("dates_from", none), "dates_from", "dates_from", defArgs (top 13), defBody (top 13), defScope (top 13), [], []⟩
def dd_are_steps : He.DefD := ⟨("are_steps", none), "are_steps", "are_steps", defArgs (top 14), defBody (top 14), defScope (top 14), [], []⟩
def dd_is_way : He.DefD := ⟨("is_way", none), "is_way", "is_way", defArgs (top 15), defBody (top 15), defScope (top 15), [], []⟩
def dd_length_of : He.DefD := ⟨("length_of", none), "length_of", "length_of", defArgs (top 16), defBody (top 16), defScope (top 16), [], []⟩
def dd_paper : He.DefD := ⟨("paper", none), "paper", "paper", defArgs (top 17), defBody (top 17), defScope (top 17), [], []⟩
def dd_holds : He.DefD := ⟨("holds", none), "holds", "holds", defArgs (top 18), defBody (top 18), defScope (top 18), [], []⟩
def dd_distances_from : He.DefD := ⟨("distances_from", none), "distances_from", "distances_from", defArgs (top 19), defBody (top 19), defScope (top 19), [], []⟩
def dd_distances_to : He.DefD := ⟨("distances_to", none), "distances_to", "distances_to", defArgs (top 20), defBody (top 20), defScope (top 20), [], []⟩
def dd_widest : He.DefD := ⟨("widest", none), "widest", "widest", defArgs (top 21), defBody (top 21), defScope (top 21), [], []⟩
def dd_way : He.DefD := ⟨("way", none), "way", "way", defArgs (top 22), defBody (top 22), defScope (top 22), [], []⟩
def dd_windows : He.DefD := ⟨("windows", none), "windows", "windows", defArgs (top 23), defBody (top 23), defScope (top 23), [], []⟩
def dd_window : He.DefD := ⟨("window", none), "window", "window", defArgs (top 24), defBody (top 24), defScope (top 24), [], []⟩
def dd_earliest : He.DefD := ⟨("earliest", none), "earliest", "earliest", defArgs (top 25), defBody (top 25), defScope (top 25), [], []⟩
def dd__law_cell : He.DefD := ⟨("_law_cell", none), "_law_cell", "_law_cell", defArgs (top 27), defBody (top 27), defScope (top 27), [], []⟩
def dd__law_digits : He.DefD := ⟨("_law_digits", none), "_law_digits", "_law_digits", defArgs (top 28), defBody (top 28), defScope (top 28), [], []⟩
def dd__law_draw : He.DefD := ⟨("_law_draw", none), "_law_draw", "_law_draw", defArgs (top 29), defBody (top 29), defScope (top 29), [], []⟩
def dd__law_wide : He.DefD := ⟨("_law_wide", none), "_law_wide", "_law_wide", defArgs (top 30), defBody (top 30), defScope (top 30), [], []⟩
def dd__law_like : He.DefD := ⟨("_law_like", none), "_law_like", "_law_like", defArgs (top 31), defBody (top 31), defScope (top 31), [], []⟩
def dd__law_whole : He.DefD := ⟨("_law_whole", none), "_law_whole", "_law_whole", defArgs (top 32), defBody (top 32), defScope (top 32), [], []⟩
def dd__law_bounds : He.DefD := ⟨("_law_bounds", none), "_law_bounds", "_law_bounds", defArgs (top 33), defBody (top 33), defScope (top 33), [], []⟩
def dd__law_span : He.DefD := ⟨("_law_span", none), "_law_span", "_law_span", defArgs (top 34), defBody (top 34), defScope (top 34), [], []⟩
def dd__law_plan : He.DefD := ⟨("_law_plan", none), "_law_plan", "_law_plan", defArgs (top 35), defBody (top 35), defScope (top 35), [], []⟩
def dd__law_steps : He.DefD := ⟨("_law_steps", none), "_law_steps", "_law_steps", defArgs (top 36), defBody (top 36), defScope (top 36), [], []⟩
def dd__law_closure : He.DefD := ⟨("_law_closure", none), "_law_closure", "_law_closure", defArgs (top 37), defBody (top 37), defScope (top 37), [], []⟩
def dd__law_holds : He.DefD := ⟨("_law_holds", none), "_law_holds", "_law_holds", defArgs (top 38), defBody (top 38), defScope (top 38), [], []⟩
def dd__law_holding : He.DefD := ⟨("_law_holding", none), "_law_holding", "_law_holding", defArgs (top 39), defBody (top 39), defScope (top 39), [], []⟩
def dd__law_date_table : He.DefD := ⟨("_law_date_table", none), "_law_date_table", "_law_date_table", defArgs (top 40), defBody (top 40), defScope (top 40), [], []⟩
def dd__law_met : He.DefD := ⟨("_law_met", none), "_law_met", "_law_met", defArgs (top 41), defBody (top 41), defScope (top 41), [], []⟩
def dd__law_dates_right : He.DefD := ⟨("_law_dates_right", none), "_law_dates_right", "_law_dates_right", defArgs (top 42), defBody (top 42), defScope (top 42), [], []⟩
def dd__law_step_of : He.DefD := ⟨("_law_step_of", none), "_law_step_of", "_law_step_of", defArgs (top 43), defBody (top 43), defScope (top 43), [], []⟩
def dd__law_walk : He.DefD := ⟨("_law_walk", none), "_law_walk", "_law_walk", defArgs (top 44), defBody (top 44), defScope (top 44), [], []⟩
def dd__law_ring_right : He.DefD := ⟨("_law_ring_right", none), "_law_ring_right", "_law_ring_right", defArgs (top 45), defBody (top 45), defScope (top 45), [], []⟩
def dd__law_paper_right : He.DefD := ⟨("_law_paper_right", none), "_law_paper_right", "_law_paper_right", defArgs (top 46), defBody (top 46), defScope (top 46), [], []⟩
def dd__law_less : He.DefD := ⟨("_law_less", none), "_law_less", "_law_less", defArgs (top 47), defBody (top 47), defScope (top 47), [], []⟩
def dd_law : He.DefD := ⟨("law", none), "law", "law", defArgs (top 48), defBody (top 48), defScope (top 48), [], []⟩
def fn : List He.DefD := [dd_relaxed, dd_ring_behind, dd_distances, dd_way_to, dd_nodes_of, dd_steps_of, dd_arcs_of, dd_back_arcs, dd_labels_of, dd_table_of, dd_dates_from, dd_are_steps, dd_is_way, dd_length_of, dd_paper, dd_holds, dd_distances_from, dd_distances_to, dd_widest, dd_way, dd_windows, dd_window, dd_earliest, dd__law_cell, dd__law_digits, dd__law_draw, dd__law_wide, dd__law_like, dd__law_whole, dd__law_bounds, dd__law_span, dd__law_plan, dd__law_steps, dd__law_closure, dd__law_holds, dd__law_holding, dd__law_date_table, dd__law_met, dd__law_dates_right, dd__law_step_of, dd__law_walk, dd__law_ring_right, dd__law_paper_right, dd__law_less, dd_law]
def fa : List He.Fa := [.glo "relaxed", .glo "ring_behind", .glo "distances", .glo "way_to", .glo "nodes_of", .glo "steps_of", .glo "arcs_of", .glo "back_arcs", .glo "labels_of", .glo "table_of", .glo "dates_from", .glo "are_steps", .glo "is_way", .glo "length_of", .glo "paper", .glo "holds", .glo "distances_from", .glo "distances_to", .glo "widest", .glo "way", .glo "windows", .glo "window", .glo "earliest", .glo "_law_cell", .glo "_law_digits", .glo "_law_draw", .glo "_law_wide", .glo "_law_like", .glo "_law_whole", .glo "_law_bounds", .glo "_law_span", .glo "_law_plan", .glo "_law_steps", .glo "_law_closure", .glo "_law_holds", .glo "_law_holding", .glo "_law_date_table", .glo "_law_met", .glo "_law_dates_right", .glo "_law_step_of", .glo "_law_walk", .glo "_law_ring_right", .glo "_law_paper_right", .glo "_law_less", .glo "law", .free "all", .free "bool", .free "int", .free "isinstance", .free "len", .free "list", .free "min", .free "range", .free "set", .free "str", .free "sum", .free "tuple", .str "ZERO" "zero"]
section
variable {P : Program} {w : World} {K : PySem.W.Frag} {mg : Str → Option Value} {base : Heap}
noncomputable def C_relaxed : Cn := ⟨["dist", "into", "arcs", "fallen", "arc", "begin", "end", "length", "_"], defScope (top 1), fun _ => true, [], [], [], []⟩
theorem e_relaxed : dSs (dS 60 C_relaxed) (defBody (top 1)) = PH.s_relaxed := by kernel_rfl
theorem d_relaxed (c : Wd K mg fa fn) : DefOk P w K mg base ⟨K, mg, none⟩ 1 "relaxed" PH.fn_relaxed := by
  obtain ⟨fd, F⟩ := c.d 0 _ rfl
  exact def_ok (C := C_relaxed) (ps := ["dist", "into", "arcs"]) F (c.glo 0 _ rfl) ⟨rfl, rfl, rfl, by decide +kernel, rfl, by decide +kernel, by decide +kernel⟩ rfl rfl GOk.nil e_relaxed rfl (fun _ _ _ _ _ _ us hl => match us, hl with | [_, _, _], _ => rfl)
noncomputable def C_ring_behind : Cn := ⟨["into", "node", "many", "_", "ring"], defScope (top 2), fun _ => true, [], [], ["range"], []⟩
theorem e_ring_behind : dSs (dS 60 C_ring_behind) (defBody (top 2)) = PH.s_ring_behind := by kernel_rfl
theorem d_ring_behind (c : Wd K mg fa fn) : DefOk P w K mg base ⟨K, mg, none⟩ 1 "ring_behind" PH.fn_ring_behind := by
  obtain ⟨fd, F⟩ := c.d 1 _ rfl
  exact def_ok (C := C_ring_behind) (ps := ["into", "node", "many"]) F (c.glo 1 _ rfl) ⟨rfl, rfl, rfl, by decide +kernel, rfl, by decide +kernel, by decide +kernel⟩ rfl rfl (GOk.nil.f1 (c.free 52 _ rfl)) e_ring_behind rfl (fun _ _ _ _ _ _ us hl => match us, hl with | [_, _, _], _ => rfl)
noncomputable def C_distances : Cn := ⟨["nodes", "arcs", "starts", "dist", "into", "fallen", "_", "node"], defScope (top 3), fun _ => true, [("relaxed", PH.fn_relaxed), ("ring_behind", PH.fn_ring_behind)], [], ["len"], []⟩
theorem e_distances : dSs (dS 60 C_distances) (defBody (top 3)) = PH.s_distances := by kernel_rfl
theorem d_distances (c : Wd K mg fa fn) : DefOk P w K mg base ⟨K, mg, none⟩ 2 "distances" PH.fn_distances := by
  obtain ⟨fd, F⟩ := c.d 2 _ rfl
  exact def_ok (C := C_distances) (ps := ["nodes", "arcs", "starts"]) F (c.glo 2 _ rfl) ⟨rfl, rfl, rfl, by decide +kernel, rfl, by decide +kernel, by decide +kernel⟩ rfl rfl (((GOk.nil.f1 (c.free 49 _ rfl)).df ((d_ring_behind c).mono (by decide))).df ((d_relaxed c).mono (by decide))) e_distances rfl (fun _ _ _ _ _ _ us hl => match us, hl with | [_, _, _], _ => rfl)
noncomputable def C_way_to : Cn := ⟨["into", "node", "arcs"], defScope (top 4), fun _ => true, [], [], [], []⟩
theorem e_way_to : dSs (dS 60 C_way_to) (defBody (top 4)) = P06.s_way_to := by kernel_rfl
theorem d_way_to (c : Wd K mg fa fn) : DefOk P w K mg base ⟨K, mg, none⟩ 1 "way_to" P06.fn_way_to := by
  obtain ⟨fd, F⟩ := c.d 3 _ rfl
  exact def_ok (C := C_way_to) (ps := ["into", "node"]) F (c.glo 3 _ rfl) ⟨rfl, rfl, rfl, by decide +kernel, rfl, by decide +kernel, by decide +kernel⟩ rfl rfl GOk.nil e_way_to rfl (fun _ _ _ _ _ _ us hl => match us, hl with | [_, _], _ => rfl)
noncomputable def C_nodes_of : Cn := ⟨["plan"], defScope (top 7), fun _ => true, [], [("ZERO", .str (cs "zero"))], [], []⟩
theorem e_nodes_of : dSs (dS 60 C_nodes_of) (defBody (top 7)) = PH.s_nodes_of := by kernel_rfl
theorem d_nodes_of (c : Wd K mg fa fn) : DefOk P w K mg base ⟨K, mg, none⟩ 1 "nodes_of" PH.fn_nodes_of := by
  obtain ⟨fd, F⟩ := c.d 4 _ rfl
  exact def_ok (C := C_nodes_of) (ps := ["plan"]) F (c.glo 4 _ rfl) ⟨rfl, rfl, rfl, by decide +kernel, rfl, by decide +kernel, by decide +kernel⟩ rfl rfl (GOk.nil.ct (c.str 57 _ _ rfl) (by decide +kernel)) e_nodes_of rfl (fun _ _ _ _ _ _ us hl => match us, hl with | [_], _ => rfl)
noncomputable def C_steps_of : Cn := ⟨["plan", "rows", "_", "name", "a", "b", "least", "most"], defScope (top 8), fun _ => true, [], [], ["tuple"], []⟩
theorem e_steps_of : dSs (dS 60 C_steps_of) (defBody (top 8)) = PH.s_steps_of := by kernel_rfl
theorem d_steps_of (c : Wd K mg fa fn) : DefOk P w K mg base ⟨K, mg, none⟩ 1 "steps_of" PH.fn_steps_of := by
  obtain ⟨fd, F⟩ := c.d 5 _ rfl
  exact def_ok (C := C_steps_of) (ps := ["plan"]) F (c.glo 5 _ rfl) ⟨rfl, rfl, rfl, by decide +kernel, rfl, by decide +kernel, by decide +kernel⟩ rfl rfl (GOk.nil.f1 (c.free 56 _ rfl)) e_steps_of rfl (fun _ _ _ _ _ _ us hl => match us, hl with | [_], _ => rfl)
noncomputable def C_arcs_of : Cn := ⟨["steps", "name", "side", "begin", "end", "length"], defScope (top 9), fun _ => true, [], [], [], []⟩
theorem e_arcs_of : dSs (dS 60 C_arcs_of) (defBody (top 9)) = PH.s_arcs_of := by kernel_rfl
theorem d_arcs_of (c : Wd K mg fa fn) : DefOk P w K mg base ⟨K, mg, none⟩ 1 "arcs_of" PH.fn_arcs_of := by
  obtain ⟨fd, F⟩ := c.d 6 _ rfl
  exact def_ok (C := C_arcs_of) (ps := ["steps"]) F (c.glo 6 _ rfl) ⟨rfl, rfl, rfl, by decide +kernel, rfl, by decide +kernel, by decide +kernel⟩ rfl rfl GOk.nil e_arcs_of rfl (fun _ _ _ _ _ _ us hl => match us, hl with | [_], _ => rfl)
noncomputable def C_back_arcs : Cn := ⟨["steps", "name", "side", "begin", "end", "length"], defScope (top 10), fun _ => true, [], [], [], []⟩
theorem e_back_arcs : dSs (dS 60 C_back_arcs) (defBody (top 10)) = P06.s_back_arcs := by kernel_rfl
theorem d_back_arcs (c : Wd K mg fa fn) : DefOk P w K mg base ⟨K, mg, none⟩ 1 "back_arcs" P06.fn_back_arcs := by
  obtain ⟨fd, F⟩ := c.d 7 _ rfl
  exact def_ok (C := C_back_arcs) (ps := ["steps"]) F (c.glo 7 _ rfl) ⟨rfl, rfl, rfl, by decide +kernel, rfl, by decide +kernel, by decide +kernel⟩ rfl rfl GOk.nil e_back_arcs rfl (fun _ _ _ _ _ _ us hl => match us, hl with | [_], _ => rfl)
noncomputable def C_labels_of : Cn := ⟨["arcs", "arc"], defScope (top 11), fun _ => true, [], [], ["tuple"], []⟩
theorem e_labels_of : dSs (dS 60 C_labels_of) (defBody (top 11)) = PH.s_labels_of := by kernel_rfl
theorem d_labels_of (c : Wd K mg fa fn) : DefOk P w K mg base ⟨K, mg, none⟩ 1 "labels_of" PH.fn_labels_of := by
  obtain ⟨fd, F⟩ := c.d 8 _ rfl
  exact def_ok (C := C_labels_of) (ps := ["arcs"]) F (c.glo 8 _ rfl) ⟨rfl, rfl, rfl, by decide +kernel, rfl, by decide +kernel, by decide +kernel⟩ rfl rfl (GOk.nil.f1 (c.free 56 _ rfl)) e_labels_of rfl (fun _ _ _ _ _ _ us hl => match us, hl with | [_], _ => rfl)
noncomputable def C_table_of : Cn := ⟨["steps", "name", "side", "begin", "end", "length"], defScope (top 12), fun _ => true, [], [], [], [54]⟩
theorem e_table_of : dSs (dS 60 C_table_of) (defBody (top 12)) = P06.s_table_of := by kernel_rfl
theorem d_table_of (c : Wd K mg fa fn) : DefOk P w K mg base ⟨K, mg, none⟩ 1 "table_of" P06.fn_table_of := by
  obtain ⟨fd, F⟩ := c.d 9 _ rfl
  exact def_ok (C := C_table_of) (ps := ["steps"]) F (c.glo 9 _ rfl) ⟨rfl, rfl, rfl, by decide +kernel, rfl, by decide +kernel, by decide +kernel⟩ rfl rfl GOk.nil e_table_of rfl (fun _ _ _ _ _ _ us hl => match us, hl with | [_], _ => rfl)
noncomputable def C_dates_from : Cn := ⟨["plan", "dist", "mark"], defScope (top 13), fun _ => true, [], [("ZERO", .str (cs "zero"))], ["tuple"], []⟩
theorem e_dates_from : dSs (dS 60 C_dates_from) (defBody (top 13)) = PH.s_dates_from := by kernel_rfl
theorem d_dates_from (c : Wd K mg fa fn) : DefOk P w K mg base ⟨K, mg, none⟩ 1 "dates_from" PH.fn_dates_from := by
  obtain ⟨fd, F⟩ := c.d 10 _ rfl
  exact def_ok (C := C_dates_from) (ps := ["plan", "dist"]) F (c.glo 10 _ rfl) ⟨rfl, rfl, rfl, by decide +kernel, rfl, by decide +kernel, by decide +kernel⟩ rfl rfl ((GOk.nil.f1 (c.free 56 _ rfl)).ct (c.str 57 _ _ rfl) (by decide +kernel)) e_dates_from rfl (fun _ _ _ _ _ _ us hl => match us, hl with | [_, _], _ => rfl)
noncomputable def C_are_steps : Cn := ⟨["table", "thing", "step"], defScope (top 14), fun _ => true, [], [], ["isinstance", "tuple", "len", "str"], []⟩
theorem e_are_steps : dSs (dS 60 C_are_steps) (defBody (top 14)) = P06.s_are_steps := by kernel_rfl
theorem d_are_steps (c : Wd K mg fa fn) : DefOk P w K mg base ⟨K, mg, none⟩ 1 "are_steps" P06.fn_are_steps := by
  obtain ⟨fd, F⟩ := c.d 11 _ rfl
  exact def_ok (C := C_are_steps) (ps := ["table", "thing"]) F (c.glo 11 _ rfl) ⟨rfl, rfl, rfl, by decide +kernel, rfl, by decide +kernel, by decide +kernel⟩ rfl rfl ((((GOk.nil.f1 (c.free 54 _ rfl)).f1 (c.free 49 _ rfl)).f1 (c.free 56 _ rfl)).f1 (c.free 48 _ rfl)) e_are_steps rfl (fun _ _ _ _ _ _ us hl => match us, hl with | [_, _], _ => rfl)
noncomputable def C_is_way : Cn := ⟨["plan", "x", "y", "steps", "nodes", "table", "at", "step", "begin", "end", "_"], defScope (top 15), fun _ => true, [("nodes_of", PH.fn_nodes_of), ("table_of", P06.fn_table_of), ("steps_of", PH.fn_steps_of), ("are_steps", P06.fn_are_steps)], [], [], []⟩
theorem e_is_way : dSs (dS 60 C_is_way) (defBody (top 15)) = P06.s_is_way := by kernel_rfl
theorem d_is_way (c : Wd K mg fa fn) : DefOk P w K mg base ⟨K, mg, none⟩ 2 "is_way" P06.fn_is_way := by
  obtain ⟨fd, F⟩ := c.d 12 _ rfl
  exact def_ok (C := C_is_way) (ps := ["plan", "x", "y", "steps"]) F (c.glo 12 _ rfl) ⟨rfl, rfl, rfl, by decide +kernel, rfl, by decide +kernel, by decide +kernel⟩ rfl rfl ((((GOk.nil.df ((d_are_steps c).mono (by decide))).df ((d_steps_of c).mono (by decide))).df ((d_table_of c).mono (by decide))).df ((d_nodes_of c).mono (by decide))) e_is_way rfl (fun _ _ _ _ _ _ us hl => match us, hl with | [_, _, _, _], _ => rfl)
noncomputable def C_length_of : Cn := ⟨["plan", "steps", "table", "step"], defScope (top 16), fun _ => true, [("table_of", P06.fn_table_of), ("steps_of", PH.fn_steps_of)], [], ["sum"], []⟩
theorem e_length_of : dSs (dS 60 C_length_of) (defBody (top 16)) = P06.s_length_of := by kernel_rfl
theorem d_length_of (c : Wd K mg fa fn) : DefOk P w K mg base ⟨K, mg, none⟩ 2 "length_of" P06.fn_length_of := by
  obtain ⟨fd, F⟩ := c.d 13 _ rfl
  exact def_ok (C := C_length_of) (ps := ["plan", "steps"]) F (c.glo 13 _ rfl) ⟨rfl, rfl, rfl, by decide +kernel, rfl, by decide +kernel, by decide +kernel⟩ rfl rfl (((GOk.nil.f1 (c.free 55 _ rfl)).df ((d_steps_of c).mono (by decide))).df ((d_table_of c).mono (by decide))) e_length_of rfl (fun _ _ _ _ _ _ us hl => match us, hl with | [_, _], _ => rfl)
noncomputable def C_paper : Cn := ⟨["plan", "nodes", "dist", "_", "ring"], defScope (top 17), fun _ => true, [("nodes_of", PH.fn_nodes_of), ("distances", PH.fn_distances), ("arcs_of", PH.fn_arcs_of), ("dates_from", PH.fn_dates_from), ("steps_of", PH.fn_steps_of), ("labels_of", PH.fn_labels_of)], [], [], []⟩
theorem e_paper : dSs (dS 60 C_paper) (defBody (top 17)) = PH.s_paper := by kernel_rfl
theorem d_paper (c : Wd K mg fa fn) : DefOk P w K mg base ⟨K, mg, none⟩ 3 "paper" PH.fn_paper := by
  obtain ⟨fd, F⟩ := c.d 14 _ rfl
  exact def_ok (C := C_paper) (ps := ["plan"]) F (c.glo 14 _ rfl) ⟨rfl, rfl, rfl, by decide +kernel, rfl, by decide +kernel, by decide +kernel⟩ rfl rfl ((((((GOk.nil.df ((d_labels_of c).mono (by decide))).df ((d_steps_of c).mono (by decide))).df ((d_dates_from c).mono (by decide))).df ((d_arcs_of c).mono (by decide))).df ((d_distances c).mono (by decide))).df ((d_nodes_of c).mono (by decide))) e_paper rfl (fun _ _ _ _ _ _ us hl => match us, hl with | [_], _ => rfl)
noncomputable def C_holds : Cn := ⟨["plan"], defScope (top 18), fun _ => true, [("paper", PH.fn_paper)], [], [], []⟩
theorem e_holds : dSs (dS 60 C_holds) (defBody (top 18)) = PH.s_holds := by kernel_rfl
theorem d_holds (c : Wd K mg fa fn) : DefOk P w K mg base ⟨K, mg, none⟩ 4 "holds" PH.fn_holds := by
  obtain ⟨fd, F⟩ := c.d 15 _ rfl
  exact def_ok (C := C_holds) (ps := ["plan"]) F (c.glo 15 _ rfl) ⟨rfl, rfl, rfl, by decide +kernel, rfl, by decide +kernel, by decide +kernel⟩ rfl rfl (GOk.nil.df ((d_paper c).mono (by decide))) e_holds rfl (fun _ _ _ _ _ _ us hl => match us, hl with | [_], _ => rfl)
noncomputable def C_distances_from : Cn := ⟨["plan", "x"], defScope (top 19), fun _ => true, [("distances", PH.fn_distances), ("nodes_of", PH.fn_nodes_of), ("arcs_of", PH.fn_arcs_of), ("steps_of", PH.fn_steps_of)], [], [], []⟩
theorem e_distances_from : dSs (dS 60 C_distances_from) (defBody (top 19)) = PH.s_distances_from := by kernel_rfl
theorem d_distances_from (c : Wd K mg fa fn) : DefOk P w K mg base ⟨K, mg, none⟩ 3 "distances_from" PH.fn_distances_from := by
  obtain ⟨fd, F⟩ := c.d 16 _ rfl
  exact def_ok (C := C_distances_from) (ps := ["plan", "x"]) F (c.glo 16 _ rfl) ⟨rfl, rfl, rfl, by decide +kernel, rfl, by decide +kernel, by decide +kernel⟩ rfl rfl ((((GOk.nil.df ((d_steps_of c).mono (by decide))).df ((d_arcs_of c).mono (by decide))).df ((d_nodes_of c).mono (by decide))).df ((d_distances c).mono (by decide))) e_distances_from rfl (fun _ _ _ _ _ _ us hl => match us, hl with | [_, _], _ => rfl)
noncomputable def C_distances_to : Cn := ⟨["plan", "y"], defScope (top 20), fun _ => true, [("distances", PH.fn_distances), ("nodes_of", PH.fn_nodes_of), ("back_arcs", P06.fn_back_arcs), ("steps_of", PH.fn_steps_of)], [], [], []⟩
theorem e_distances_to : dSs (dS 60 C_distances_to) (defBody (top 20)) = P06.s_distances_to := by kernel_rfl
theorem d_distances_to (c : Wd K mg fa fn) : DefOk P w K mg base ⟨K, mg, none⟩ 3 "distances_to" P06.fn_distances_to := by
  obtain ⟨fd, F⟩ := c.d 17 _ rfl
  exact def_ok (C := C_distances_to) (ps := ["plan", "y"]) F (c.glo 17 _ rfl) ⟨rfl, rfl, rfl, by decide +kernel, rfl, by decide +kernel, by decide +kernel⟩ rfl rfl ((((GOk.nil.df ((d_steps_of c).mono (by decide))).df ((d_back_arcs c).mono (by decide))).df ((d_nodes_of c).mono (by decide))).df ((d_distances c).mono (by decide))) e_distances_to rfl (fun _ _ _ _ _ _ us hl => match us, hl with | [_, _], _ => rfl)
noncomputable def C_widest : Cn := ⟨["plan", "x", "y"], defScope (top 21), fun _ => true, [("distances_from", PH.fn_distances_from)], [], [], []⟩
theorem e_widest : dSs (dS 60 C_widest) (defBody (top 21)) = PH.s_widest := by kernel_rfl
theorem d_widest (c : Wd K mg fa fn) : DefOk P w K mg base ⟨K, mg, none⟩ 4 "widest" PH.fn_widest := by
  obtain ⟨fd, F⟩ := c.d 18 _ rfl
  exact def_ok (C := C_widest) (ps := ["plan", "x", "y"]) F (c.glo 18 _ rfl) ⟨rfl, rfl, rfl, by decide +kernel, rfl, by decide +kernel, by decide +kernel⟩ rfl rfl (GOk.nil.df ((d_distances_from c).mono (by decide))) e_widest rfl (fun _ _ _ _ _ _ us hl => match us, hl with | [_, _, _], _ => rfl)
noncomputable def C_way : Cn := ⟨["plan", "x", "y", "dist", "into", "_"], defScope (top 22), fun _ => true, [("distances", PH.fn_distances), ("nodes_of", PH.fn_nodes_of), ("arcs_of", PH.fn_arcs_of), ("labels_of", PH.fn_labels_of), ("steps_of", PH.fn_steps_of), ("way_to", P06.fn_way_to)], [], [], []⟩
theorem e_way : dSs (dS 60 C_way) (defBody (top 22)) = P06.s_way := by kernel_rfl
theorem d_way (c : Wd K mg fa fn) : DefOk P w K mg base ⟨K, mg, none⟩ 3 "way" P06.fn_way := by
  obtain ⟨fd, F⟩ := c.d 19 _ rfl
  exact def_ok (C := C_way) (ps := ["plan", "x", "y"]) F (c.glo 19 _ rfl) ⟨rfl, rfl, rfl, by decide +kernel, rfl, by decide +kernel, by decide +kernel⟩ rfl rfl ((((((GOk.nil.df ((d_way_to c).mono (by decide))).df ((d_steps_of c).mono (by decide))).df ((d_labels_of c).mono (by decide))).df ((d_arcs_of c).mono (by decide))).df ((d_nodes_of c).mono (by decide))).df ((d_distances c).mono (by decide))) e_way rfl (fun _ _ _ _ _ _ us hl => match us, hl with | [_, _, _], _ => rfl)
noncomputable def C_windows : Cn := ⟨["plan", "ahead", "back", "mark"], defScope (top 23), fun _ => true, [("distances_from", PH.fn_distances_from), ("distances_to", P06.fn_distances_to)], [("ZERO", .str (cs "zero"))], ["tuple"], []⟩
theorem e_windows : dSs (dS 60 C_windows) (defBody (top 23)) = P06.s_windows := by kernel_rfl
theorem d_windows (c : Wd K mg fa fn) : DefOk P w K mg base ⟨K, mg, none⟩ 4 "windows" P06.fn_windows := by
  obtain ⟨fd, F⟩ := c.d 20 _ rfl
  exact def_ok (C := C_windows) (ps := ["plan"]) F (c.glo 20 _ rfl) ⟨rfl, rfl, rfl, by decide +kernel, rfl, by decide +kernel, by decide +kernel⟩ rfl rfl ((((GOk.nil.f1 (c.free 56 _ rfl)).ct (c.str 57 _ _ rfl) (by decide +kernel)).df ((d_distances_to c).mono (by decide))).df ((d_distances_from c).mono (by decide))) e_windows rfl (fun _ _ _ _ _ _ us hl => match us, hl with | [_], _ => rfl)
noncomputable def C_window : Cn := ⟨["plan", "mark", "back"], defScope (top 24), fun _ => true, [("widest", PH.fn_widest)], [("ZERO", .str (cs "zero"))], [], []⟩
theorem e_window : dSs (dS 60 C_window) (defBody (top 24)) = P06.s_window := by kernel_rfl
theorem d_window (c : Wd K mg fa fn) : DefOk P w K mg base ⟨K, mg, none⟩ 5 "window" P06.fn_window := by
  obtain ⟨fd, F⟩ := c.d 21 _ rfl
  exact def_ok (C := C_window) (ps := ["plan", "mark"]) F (c.glo 21 _ rfl) ⟨rfl, rfl, rfl, by decide +kernel, rfl, by decide +kernel, by decide +kernel⟩ rfl rfl ((GOk.nil.ct (c.str 57 _ _ rfl) (by decide +kernel)).df ((d_widest c).mono (by decide))) e_window rfl (fun _ _ _ _ _ _ us hl => match us, hl with | [_, _], _ => rfl)
noncomputable def C_earliest : Cn := ⟨["plan", "back", "mark"], defScope (top 25), fun _ => true, [("distances_to", P06.fn_distances_to)], [("ZERO", .str (cs "zero"))], ["tuple", "all"], []⟩
theorem e_earliest : dSs (dS 60 C_earliest) (defBody (top 25)) = P06.s_earliest := by kernel_rfl
theorem d_earliest (c : Wd K mg fa fn) : DefOk P w K mg base ⟨K, mg, none⟩ 4 "earliest" P06.fn_earliest := by
  obtain ⟨fd, F⟩ := c.d 22 _ rfl
  exact def_ok (C := C_earliest) (ps := ["plan"]) F (c.glo 22 _ rfl) ⟨rfl, rfl, rfl, by decide +kernel, rfl, by decide +kernel, by decide +kernel⟩ rfl rfl ((((GOk.nil.f1 (c.free 45 _ rfl)).f1 (c.free 56 _ rfl)).ct (c.str 57 _ _ rfl) (by decide +kernel)).df ((d_distances_to c).mono (by decide))) e_earliest rfl (fun _ _ _ _ _ _ us hl => match us, hl with | [_], _ => rfl)
noncomputable def C__law_cell : Cn := ⟨["script", "k"], defScope (top 27), fun _ => true, [], [], ["len"], []⟩
theorem e__law_cell : dSs (dS 60 C__law_cell) (defBody (top 27)) = PH.s__law_cell := by kernel_rfl
theorem d__law_cell (c : Wd K mg fa fn) : DefOk P w K mg base ⟨K, mg, none⟩ 1 "_law_cell" PH.fn__law_cell := by
  obtain ⟨fd, F⟩ := c.d 23 _ rfl
  exact def_ok (C := C__law_cell) (ps := ["script", "k"]) F (c.glo 23 _ rfl) ⟨rfl, rfl, rfl, by decide +kernel, rfl, by decide +kernel, by decide +kernel⟩ rfl rfl (GOk.nil.f1 (c.free 49 _ rfl)) e__law_cell rfl (fun _ _ _ _ _ _ us hl => match us, hl with | [_, _], _ => rfl)
noncomputable def C__law_digits : Cn := ⟨["script", "first", "last", "digits", "k", "cell", "step", "seed"], defScope (top 28), fun _ => true, [("_law_cell", PH.fn__law_cell)], [], ["range", "len", "int"], []⟩
theorem e__law_digits : dSs (dS 60 C__law_digits) (defBody (top 28)) = PH.s__law_digits := by kernel_rfl
theorem d__law_digits (c : Wd K mg fa fn) : DefOk P w K mg base ⟨K, mg, none⟩ 2 "_law_digits" PH.fn__law_digits := by
  obtain ⟨fd, F⟩ := c.d 24 _ rfl
  exact def_ok (C := C__law_digits) (ps := ["script", "first", "last"]) F (c.glo 24 _ rfl) ⟨rfl, rfl, rfl, by decide +kernel, rfl, by decide +kernel, by decide +kernel⟩ rfl rfl ((((GOk.nil.f1 (c.free 47 _ rfl)).f1 (c.free 49 _ rfl)).f1 (c.free 52 _ rfl)).df ((d__law_cell c).mono (by decide))) e__law_digits rfl (fun _ _ _ _ _ _ us hl => match us, hl with | [_, _, _], _ => rfl)
noncomputable def C__law_draw : Cn := ⟨["box", "many", "at"], defScope (top 29), fun _ => true, [], [], ["len", "int"], []⟩
theorem e__law_draw : dSs (dS 60 C__law_draw) (defBody (top 29)) = PH.s__law_draw := by kernel_rfl
theorem d__law_draw (c : Wd K mg fa fn) : DefOk P w K mg base ⟨K, mg, none⟩ 1 "_law_draw" PH.fn__law_draw := by
  obtain ⟨fd, F⟩ := c.d 25 _ rfl
  exact def_ok (C := C__law_draw) (ps := ["box", "many"]) F (c.glo 25 _ rfl) ⟨rfl, rfl, rfl, by decide +kernel, rfl, by decide +kernel, by decide +kernel⟩ rfl rfl ((GOk.nil.f1 (c.free 47 _ rfl)).f1 (c.free 49 _ rfl)) e__law_draw rfl (fun _ _ _ _ _ _ us hl => match us, hl with | [_, _], _ => rfl)
noncomputable def C__law_wide : Cn := ⟨["box", "many", "number"], defScope (top 30), fun _ => true, [("_law_draw", PH.fn__law_draw)], [], ["int"], []⟩
theorem e__law_wide : dSs (dS 60 C__law_wide) (defBody (top 30)) = PH.s__law_wide := by kernel_rfl
theorem d__law_wide (c : Wd K mg fa fn) : DefOk P w K mg base ⟨K, mg, none⟩ 2 "_law_wide" PH.fn__law_wide := by
  obtain ⟨fd, F⟩ := c.d 26 _ rfl
  exact def_ok (C := C__law_wide) (ps := ["box", "many"]) F (c.glo 26 _ rfl) ⟨rfl, rfl, rfl, by decide +kernel, rfl, by decide +kernel, by decide +kernel⟩ rfl rfl ((GOk.nil.f1 (c.free 47 _ rfl)).df ((d__law_draw c).mono (by decide))) e__law_wide rfl (fun _ _ _ _ _ _ us hl => match us, hl with | [_, _], _ => rfl)
noncomputable def C__law_like (self : Fn) : Cn := ⟨["told", "due", "k"], defScope (top 31), fun _ => true, [("_law_like", self)], [], ["isinstance", "tuple", "str", "int", "bool", "len", "range"], []⟩
theorem e__law_like (self : Fn) : dSs (dS 60 (C__law_like self)) (defBody (top 31)) = PH.s__law_like self := by kernel_rfl
theorem d__law_like (c : Wd K mg fa fn) : DefOk P w K mg base ⟨K, mg, none⟩ 13 "_law_like" PH.fn__law_like := by
  obtain ⟨fd, F⟩ := c.d 27 _ rfl
  exact def_rec (C := C__law_like) (ps := ["told", "due"]) (N := ["told", "due", "k"]) (j := 0) F (c.glo 27 _ rfl) ⟨rfl, rfl, rfl, by decide +kernel, rfl, by decide +kernel, by decide +kernel⟩ rfl (fun _ => rfl) (fun self i hi sf => ((((((((GOk.nil.f1 (c.free 52 _ rfl)).f1 (c.free 49 _ rfl)).f1 (c.free 46 _ rfl)).f1 (c.free 47 _ rfl)).f1 (c.free 54 _ rfl)).f1 (c.free 56 _ rfl)).f1 (c.free 48 _ rfl)).df (sf.mono (by omega)))) e__law_like (fun _ => rfl) rfl (fun _ _ _ _ _ _ us hl => match us, hl with | [_, _], _ => rfl) 12
noncomputable def C__law_whole : Cn := ⟨["thing", "low", "high"], defScope (top 32), fun _ => true, [], [], ["isinstance", "int", "bool"], []⟩
theorem e__law_whole : dSs (dS 60 C__law_whole) (defBody (top 32)) = P16.s__law_whole := by kernel_rfl
theorem d__law_whole (c : Wd K mg fa fn) : DefOk P w K mg base ⟨K, mg, none⟩ 1 "_law_whole" P16.fn__law_whole := by
  obtain ⟨fd, F⟩ := c.d 28 _ rfl
  exact def_ok (C := C__law_whole) (ps := ["thing", "low", "high"]) F (c.glo 28 _ rfl) ⟨rfl, rfl, rfl, by decide +kernel, rfl, by decide +kernel, by decide +kernel⟩ rfl rfl (((GOk.nil.f1 (c.free 46 _ rfl)).f1 (c.free 47 _ rfl)).f1 (c.free 48 _ rfl)) e__law_whole rfl (fun _ _ _ _ _ _ us hl => match us, hl with | [_, _, _], _ => rfl)
noncomputable def C__law_bounds : Cn := ⟨["box", "wide", "least", "most"], defScope (top 33), fun _ => true, [("_law_draw", PH.fn__law_draw), ("_law_wide", PH.fn__law_wide)], [], ["min"], []⟩
theorem e__law_bounds : dSs (dS 60 C__law_bounds) (defBody (top 33)) = PH.s__law_bounds := by kernel_rfl
theorem d__law_bounds (c : Wd K mg fa fn) : DefOk P w K mg base ⟨K, mg, none⟩ 3 "_law_bounds" PH.fn__law_bounds := by
  obtain ⟨fd, F⟩ := c.d 29 _ rfl
  exact def_ok (C := C__law_bounds) (ps := ["box", "wide"]) F (c.glo 29 _ rfl) ⟨rfl, rfl, rfl, by decide +kernel, rfl, by decide +kernel, by decide +kernel⟩ rfl rfl (((GOk.nil.f1 (c.free 51 _ rfl)).df ((d__law_wide c).mono (by decide))).df ((d__law_draw c).mono (by decide))) e__law_bounds rfl (fun _ _ _ _ _ _ us hl => match us, hl with | [_, _], _ => rfl)
noncomputable def C__law_span : Cn := ⟨["box", "name", "marks", "wide", "ends", "a", "b"], defScope (top 34), fun _ => true, [("_law_draw", PH.fn__law_draw), ("_law_bounds", PH.fn__law_bounds)], [], ["list", "len", "int"], []⟩
theorem e__law_span : dSs (dS 60 C__law_span) (defBody (top 34)) = PH.s__law_span := by kernel_rfl
theorem d__law_span (c : Wd K mg fa fn) : DefOk P w K mg base ⟨K, mg, none⟩ 4 "_law_span" PH.fn__law_span := by
  obtain ⟨fd, F⟩ := c.d 30 _ rfl
  exact def_ok (C := C__law_span) (ps := ["box", "name", "marks", "wide"]) F (c.glo 30 _ rfl) ⟨rfl, rfl, rfl, by decide +kernel, rfl, by decide +kernel, by decide +kernel⟩ rfl rfl (((((GOk.nil.f1 (c.free 47 _ rfl)).f1 (c.free 49 _ rfl)).f1 (c.free 50 _ rfl)).df ((d__law_bounds c).mono (by decide))).df ((d__law_draw c).mono (by decide))) e__law_span rfl (fun _ _ _ _ _ _ us hl => match us, hl with | [_, _, _, _], _ => rfl)
noncomputable def C__law_plan : Cn := ⟨["box", "many", "spans", "loose", "marks", "k", "rows", "ends", "at", "begin", "least"], defScope (top 35), fun _ => true, [("_law_span", PH.fn__law_span), ("_law_draw", PH.fn__law_draw)], [], ["range", "tuple", "str", "list", "len"], []⟩
theorem e__law_plan : dSs (dS 60 C__law_plan) (defBody (top 35)) = PH.s__law_plan := by kernel_rfl
theorem d__law_plan (c : Wd K mg fa fn) : DefOk P w K mg base ⟨K, mg, none⟩ 5 "_law_plan" PH.fn__law_plan := by
  obtain ⟨fd, F⟩ := c.d 31 _ rfl
  exact def_ok (C := C__law_plan) (ps := ["box", "many", "spans", "loose"]) F (c.glo 31 _ rfl) ⟨rfl, rfl, rfl, by decide +kernel, rfl, by decide +kernel, by decide +kernel⟩ rfl rfl (((((((GOk.nil.f1 (c.free 49 _ rfl)).f1 (c.free 50 _ rfl)).f1 (c.free 54 _ rfl)).f1 (c.free 56 _ rfl)).f1 (c.free 52 _ rfl)).df ((d__law_draw c).mono (by decide))).df ((d__law_span c).mono (by decide))) e__law_plan rfl (fun _ _ _ _ _ _ us hl => match us, hl with | [_, _, _, _], _ => rfl)
noncomputable def C__law_steps : Cn := ⟨["plan", "rows", "kind", "name", "a", "b", "least", "most"], defScope (top 36), fun _ => true, [], [], [], []⟩
theorem e__law_steps : dSs (dS 60 C__law_steps) (defBody (top 36)) = PH.s__law_steps := by kernel_rfl
theorem d__law_steps (c : Wd K mg fa fn) : DefOk P w K mg base ⟨K, mg, none⟩ 1 "_law_steps" PH.fn__law_steps := by
  obtain ⟨fd, F⟩ := c.d 32 _ rfl
  exact def_ok (C := C__law_steps) (ps := ["plan"]) F (c.glo 32 _ rfl) ⟨rfl, rfl, rfl, by decide +kernel, rfl, by decide +kernel, by decide +kernel⟩ rfl rfl GOk.nil e__law_steps rfl (fun _ _ _ _ _ _ us hl => match us, hl with | [_], _ => rfl)
noncomputable def C__law_closure : Cn := ⟨["plan", "steps", "names", "table", "x", "z", "y", "name", "side", "length"], defScope (top 37), fun _ => true, [], [], ["list"], [194]⟩
theorem e__law_closure : dSs (dS 60 C__law_closure) (defBody (top 37)) = PH.s__law_closure := by kernel_rfl
theorem d__law_closure (c : Wd K mg fa fn) : DefOk P w K mg base ⟨K, mg, none⟩ 1 "_law_closure" PH.fn__law_closure := by
  obtain ⟨fd, F⟩ := c.d 33 _ rfl
  exact def_ok (C := C__law_closure) (ps := ["plan", "steps"]) F (c.glo 33 _ rfl) ⟨rfl, rfl, rfl, by decide +kernel, rfl, by decide +kernel, by decide +kernel⟩ rfl rfl (GOk.nil.f1 (c.free 50 _ rfl)) e__law_closure rfl (fun _ _ _ _ _ _ us hl => match us, hl with | [_, _], _ => rfl)
noncomputable def C__law_holds : Cn := ⟨["plan", "table", "x"], defScope (top 38), fun _ => true, [("_law_closure", PH.fn__law_closure), ("_law_steps", PH.fn__law_steps)], [], ["list"], []⟩
theorem e__law_holds : dSs (dS 60 C__law_holds) (defBody (top 38)) = PH.s__law_holds := by kernel_rfl
theorem d__law_holds (c : Wd K mg fa fn) : DefOk P w K mg base ⟨K, mg, none⟩ 2 "_law_holds" PH.fn__law_holds := by
  obtain ⟨fd, F⟩ := c.d 34 _ rfl
  exact def_ok (C := C__law_holds) (ps := ["plan"]) F (c.glo 34 _ rfl) ⟨rfl, rfl, rfl, by decide +kernel, rfl, by decide +kernel, by decide +kernel⟩ rfl rfl (((GOk.nil.f1 (c.free 50 _ rfl)).df ((d__law_steps c).mono (by decide))).df ((d__law_closure c).mono (by decide))) e__law_holds rfl (fun _ _ _ _ _ _ us hl => match us, hl with | [_], _ => rfl)
noncomputable def C__law_holding : Cn := ⟨["box", "many", "spans", "loose", "plan", "rows", "row"], defScope (top 39), fun _ => true, [("_law_plan", PH.fn__law_plan), ("_law_holds", PH.fn__law_holds)], [], ["tuple"], []⟩
theorem e__law_holding : dSs (dS 60 C__law_holding) (defBody (top 39)) = PH.s__law_holding := by kernel_rfl
theorem d__law_holding (c : Wd K mg fa fn) : DefOk P w K mg base ⟨K, mg, none⟩ 6 "_law_holding" PH.fn__law_holding := by
  obtain ⟨fd, F⟩ := c.d 35 _ rfl
  exact def_ok (C := C__law_holding) (ps := ["box", "many", "spans", "loose"]) F (c.glo 35 _ rfl) ⟨rfl, rfl, rfl, by decide +kernel, rfl, by decide +kernel, by decide +kernel⟩ rfl rfl (((GOk.nil.f1 (c.free 56 _ rfl)).df ((d__law_holds c).mono (by decide))).df ((d__law_plan c).mono (by decide))) e__law_holding rfl (fun _ _ _ _ _ _ us hl => match us, hl with | [_, _, _, _], _ => rfl)
noncomputable def C__law_date_table : Cn := ⟨["dates", "table", "mark", "date"], defScope (top 40), fun _ => true, [], [], [], []⟩
theorem e__law_date_table : dSs (dS 60 C__law_date_table) (defBody (top 40)) = P16.s__law_date_table := by kernel_rfl
theorem d__law_date_table (c : Wd K mg fa fn) : DefOk P w K mg base ⟨K, mg, none⟩ 1 "_law_date_table" P16.fn__law_date_table := by
  obtain ⟨fd, F⟩ := c.d 36 _ rfl
  exact def_ok (C := C__law_date_table) (ps := ["dates"]) F (c.glo 36 _ rfl) ⟨rfl, rfl, rfl, by decide +kernel, rfl, by decide +kernel, by decide +kernel⟩ rfl rfl GOk.nil e__law_date_table rfl (fun _ _ _ _ _ _ us hl => match us, hl with | [_], _ => rfl)
noncomputable def C__law_met : Cn := ⟨["row", "table", "days"], defScope (top 41), fun _ => true, [], [], [], []⟩
theorem e__law_met : dSs (dS 60 C__law_met) (defBody (top 41)) = P16.s__law_met := by kernel_rfl
theorem d__law_met (c : Wd K mg fa fn) : DefOk P w K mg base ⟨K, mg, none⟩ 1 "_law_met" P16.fn__law_met := by
  obtain ⟨fd, F⟩ := c.d 37 _ rfl
  exact def_ok (C := C__law_met) (ps := ["row", "table"]) F (c.glo 37 _ rfl) ⟨rfl, rfl, rfl, by decide +kernel, rfl, by decide +kernel, by decide +kernel⟩ rfl rfl GOk.nil e__law_met rfl (fun _ _ _ _ _ _ us hl => match us, hl with | [_, _], _ => rfl)
noncomputable def C__law_dates_right : Cn := ⟨["plan", "dates", "k", "table", "row"], defScope (top 42), fun _ => true, [("_law_date_table", P16.fn__law_date_table), ("_law_like", PH.fn__law_like), ("_law_whole", P16.fn__law_whole), ("_law_met", P16.fn__law_met)], [], ["range", "len", "isinstance", "tuple"], []⟩
theorem e__law_dates_right : dSs (dS 60 C__law_dates_right) (defBody (top 42)) = P16.s__law_dates_right := by kernel_rfl
theorem d__law_dates_right (c : Wd K mg fa fn) : DefOk P w K mg base ⟨K, mg, none⟩ 14 "_law_dates_right" P16.fn__law_dates_right := by
  obtain ⟨fd, F⟩ := c.d 38 _ rfl
  exact def_ok (C := C__law_dates_right) (ps := ["plan", "dates"]) F (c.glo 38 _ rfl) ⟨rfl, rfl, rfl, by decide +kernel, rfl, by decide +kernel, by decide +kernel⟩ rfl rfl ((((((((GOk.nil.f1 (c.free 56 _ rfl)).f1 (c.free 48 _ rfl)).f1 (c.free 49 _ rfl)).f1 (c.free 52 _ rfl)).df ((d__law_met c).mono (by decide))).df ((d__law_whole c).mono (by decide))).df ((d__law_like c).mono (by decide))).df ((d__law_date_table c).mono (by decide))) e__law_dates_right rfl (fun _ _ _ _ _ _ us hl => match us, hl with | [_, _], _ => rfl)
noncomputable def C__law_step_of : Cn := ⟨["steps", "thing", "found", "row"], defScope (top 43), fun _ => true, [], [], ["isinstance", "tuple", "len", "str"], []⟩
theorem e__law_step_of : dSs (dS 60 C__law_step_of) (defBody (top 43)) = P06.s__law_step_of := by kernel_rfl
theorem d__law_step_of (c : Wd K mg fa fn) : DefOk P w K mg base ⟨K, mg, none⟩ 1 "_law_step_of" P06.fn__law_step_of := by
  obtain ⟨fd, F⟩ := c.d 39 _ rfl
  exact def_ok (C := C__law_step_of) (ps := ["steps", "thing"]) F (c.glo 39 _ rfl) ⟨rfl, rfl, rfl, by decide +kernel, rfl, by decide +kernel, by decide +kernel⟩ rfl rfl ((((GOk.nil.f1 (c.free 54 _ rfl)).f1 (c.free 49 _ rfl)).f1 (c.free 56 _ rfl)).f1 (c.free 48 _ rfl)) e__law_step_of rfl (fun _ _ _ _ _ _ us hl => match us, hl with | [_, _], _ => rfl)
noncomputable def C__law_walk : Cn := ⟨["steps", "thing", "rows", "pair", "k"], defScope (top 44), fun _ => true, [("_law_step_of", P06.fn__law_step_of)], [], ["isinstance", "tuple", "range", "len"], []⟩
theorem e__law_walk : dSs (dS 60 C__law_walk) (defBody (top 44)) = P06.s__law_walk := by kernel_rfl
theorem d__law_walk (c : Wd K mg fa fn) : DefOk P w K mg base ⟨K, mg, none⟩ 2 "_law_walk" P06.fn__law_walk := by
  obtain ⟨fd, F⟩ := c.d 40 _ rfl
  exact def_ok (C := C__law_walk) (ps := ["steps", "thing"]) F (c.glo 40 _ rfl) ⟨rfl, rfl, rfl, by decide +kernel, rfl, by decide +kernel, by decide +kernel⟩ rfl rfl (((((GOk.nil.f1 (c.free 49 _ rfl)).f1 (c.free 52 _ rfl)).f1 (c.free 56 _ rfl)).f1 (c.free 48 _ rfl)).df ((d__law_step_of c).mono (by decide))) e__law_walk rfl (fun _ _ _ _ _ _ us hl => match us, hl with | [_, _], _ => rfl)
noncomputable def C__law_ring_right : Cn := ⟨["steps", "thing", "rows", "row"], defScope (top 45), fun _ => true, [("_law_walk", P06.fn__law_walk)], [], ["len", "sum", "set"], []⟩
theorem e__law_ring_right : dSs (dS 60 C__law_ring_right) (defBody (top 45)) = P06.s__law_ring_right := by kernel_rfl
theorem d__law_ring_right (c : Wd K mg fa fn) : DefOk P w K mg base ⟨K, mg, none⟩ 3 "_law_ring_right" P06.fn__law_ring_right := by
  obtain ⟨fd, F⟩ := c.d 41 _ rfl
  exact def_ok (C := C__law_ring_right) (ps := ["steps", "thing"]) F (c.glo 41 _ rfl) ⟨rfl, rfl, rfl, by decide +kernel, rfl, by decide +kernel, by decide +kernel⟩ rfl rfl ((((GOk.nil.f1 (c.free 53 _ rfl)).f1 (c.free 55 _ rfl)).f1 (c.free 49 _ rfl)).df ((d__law_walk c).mono (by decide))) e__law_ring_right rfl (fun _ _ _ _ _ _ us hl => match us, hl with | [_, _], _ => rfl)
noncomputable def C__law_paper_right : Cn := ⟨["plan", "thing"], defScope (top 46), fun _ => true, [("_law_like", PH.fn__law_like), ("_law_dates_right", P16.fn__law_dates_right), ("_law_ring_right", P06.fn__law_ring_right), ("_law_steps", PH.fn__law_steps)], [], ["isinstance", "tuple", "len"], []⟩
theorem e__law_paper_right : dSs (dS 60 C__law_paper_right) (defBody (top 46)) = P06.s__law_paper_right := by kernel_rfl
theorem d__law_paper_right (c : Wd K mg fa fn) : DefOk P w K mg base ⟨K, mg, none⟩ 15 "_law_paper_right" P06.fn__law_paper_right := by
  obtain ⟨fd, F⟩ := c.d 42 _ rfl
  exact def_ok (C := C__law_paper_right) (ps := ["plan", "thing"]) F (c.glo 42 _ rfl) ⟨rfl, rfl, rfl, by decide +kernel, rfl, by decide +kernel, by decide +kernel⟩ rfl rfl (((((((GOk.nil.f1 (c.free 49 _ rfl)).f1 (c.free 56 _ rfl)).f1 (c.free 48 _ rfl)).df ((d__law_steps c).mono (by decide))).df ((d__law_ring_right c).mono (by decide))).df ((d__law_dates_right c).mono (by decide))).df ((d__law_like c).mono (by decide))) e__law_paper_right rfl (fun _ _ _ _ _ _ us hl => match us, hl with | [_, _], _ => rfl)
noncomputable def C__law_less : Cn := ⟨["number"], defScope (top 47), fun _ => true, [], [], [], []⟩
theorem e__law_less : dSs (dS 60 C__law_less) (defBody (top 47)) = P06.s__law_less := by kernel_rfl
theorem d__law_less (c : Wd K mg fa fn) : DefOk P w K mg base ⟨K, mg, none⟩ 1 "_law_less" P06.fn__law_less := by
  obtain ⟨fd, F⟩ := c.d 43 _ rfl
  exact def_ok (C := C__law_less) (ps := ["number"]) F (c.glo 43 _ rfl) ⟨rfl, rfl, rfl, by decide +kernel, rfl, by decide +kernel, by decide +kernel⟩ rfl rfl GOk.nil e__law_less rfl (fun _ _ _ _ _ _ us hl => match us, hl with | [_], _ => rfl)
noncomputable def C_law : Cn := ⟨["script", "box", "turn", "plan", "right", "told", "table", "x", "found", "due", "steps", "names", "y", "rows", "mark", "row"], defScope (top 48), fun _ => true, [("_law_digits", PH.fn__law_digits), ("_law_holding", PH.fn__law_holding), ("_law_holds", PH.fn__law_holds), ("paper", PH.fn_paper), ("_law_closure", PH.fn__law_closure), ("way", P06.fn_way), ("_law_draw", PH.fn__law_draw), ("_law_plan", PH.fn__law_plan), ("_law_steps", PH.fn__law_steps), ("_law_walk", P06.fn__law_walk), ("_law_like", PH.fn__law_like), ("_law_paper_right", P06.fn__law_paper_right), ("_law_less", P06.fn__law_less), ("earliest", P06.fn_earliest), ("steps_of", PH.fn_steps_of), ("holds", PH.fn_holds), ("is_way", P06.fn_is_way), ("length_of", P06.fn_length_of), ("windows", P06.fn_windows), ("widest", PH.fn_widest), ("window", P06.fn_window)], [], ["range", "list", "tuple", "len", "sum"], []⟩
theorem e_law : dSs (dS 60 C_law) (defBody (top 48)) = P06.s_law := by kernel_rfl
theorem fn_law_ok {f : Addr} {fd : FuncData} (F : FunD K "law" "law" (defArgs (top 48)) (defBody (top 48)) (defScope (top 48)) [] [] f fd) (c : Wd K mg fa fn) : FnOk P w K mg base (L2N.CX P w) 16 f fd ["script"] (spOf ⟨K, mg, none⟩ P06.fn_law) := by
  exact fn_sound (C := C_law) F ⟨rfl, rfl, rfl, by decide +kernel, rfl, by decide +kernel, by decide +kernel⟩ rfl rfl ((((((((((((((((((((((((((GOk.nil.f1 (c.free 55 _ rfl)).f1 (c.free 49 _ rfl)).f1 (c.free 56 _ rfl)).f1 (c.free 50 _ rfl)).f1 (c.free 52 _ rfl)).df ((d_window c).mono (by decide))).df ((d_widest c).mono (by decide))).df ((d_windows c).mono (by decide))).df ((d_length_of c).mono (by decide))).df ((d_is_way c).mono (by decide))).df ((d_holds c).mono (by decide))).df ((d_steps_of c).mono (by decide))).df ((d_earliest c).mono (by decide))).df ((d__law_less c).mono (by decide))).df ((d__law_paper_right c).mono (by decide))).df ((d__law_like c).mono (by decide))).df ((d__law_walk c).mono (by decide))).df ((d__law_steps c).mono (by decide))).df ((d__law_plan c).mono (by decide))).df ((d__law_draw c).mono (by decide))).df ((d_way c).mono (by decide))).df ((d__law_closure c).mono (by decide))).df ((d_paper c).mono (by decide))).df ((d__law_holds c).mono (by decide))).df ((d__law_holding c).mono (by decide))).df ((d__law_digits c).mono (by decide))) 60 e_law rfl (fun _ _ _ _ => .keep _)
theorem d_law (c : Wd K mg fa fn) : DefOk P w K mg base ⟨K, mg, none⟩ 16 "law" P06.fn_law := by
  obtain ⟨fd, F⟩ := c.d 44 _ rfl
  exact ⟨_, fd, _, fn_law_ok F c, c.glo 44 _ rfl, F.kp, F.bindsN (fun _ _ _ _ _ _ us hl => match us, hl with | [_], _ => rfl)⟩
end
abbrev R : PySem.W.OpenRow := PySem.W.OpenLaw.row PySem.Challenge.rw_planholds_k06_way_said
abbrev hk : PySem.W.Hook := He.hookD 4 fa fn
def ob (s : PySem.W.SharedT) : He.AlD := He.obsDG 4 fa fn (HandSHeadRun.getT s)
theorem ob_eq (s : PySem.W.SharedT) : ob s = hk.obs s.abs := He.obsDG_eq (HandSHeadRun.getT_eq s)
theorem run (w : World) : HandSHeadRun.RunEq R (PySem.W.view R.prog [48]) hk ob 2000 ((["ZERO", "_law_bounds", "_law_cell", "_law_closure", "_law_date_table", "_law_dates_right", "_law_digits", "_law_draw", "_law_holding", "_law_holds", "_law_less", "_law_like", "_law_met", "_law_paper_right", "_law_plan", "_law_ring_right", "_law_span", "_law_step_of", "_law_steps", "_law_walk", "_law_whole", "_law_wide", "arcs_of", "are_steps", "back_arcs", "dates_from", "distances", "distances_from", "distances_to", "earliest"] : List PySem.Str) ++ (["holds", "is_way", "labels_of", "length_of", "nodes_of", "paper", "relaxed", "ring_behind", "steps_of", "table_of", "way", "way_to", "widest", "window", "windows"] : List PySem.Str)) w := by
  intro os
  kernel_rfl
theorem facts {P : Program} {w : World} {K : PySem.W.Frag} {h : Heap} {mg : Str → Option Value} {f : Addr} (X : K.In h) (G : h.Ns mainGlobals mg) (hfa : mg ("law" : Str) = some (.ref f)) (c : He.SaysD fa fn K) :
    ∃ fd : FuncData, (∀ (s : Shared) (v : Value), BindsTo s fd ⟨[v], []⟩ [("script", v)]) ∧ ∀ base : Heap, K.In base → base.Ns mainGlobals mg → FnOk P w K mg base CX0 16 f fd ["script"] (fun vs H Q _ => spOf ⟨K, mg, none⟩ P06.fn_law vs H Q fun _ _ _ => False) := by
  obtain ⟨fd, F⟩ := c.def_ 44 (d := dd_law) rfl
  have e := hfa.symm.trans (He.glo_ok X G (c.fact 44 (f := .glo "law") rfl))
  cases e
  have b := FunD.bindsA (ps := ["script"]) F fun _ _ _ _ _ _ us hl => match us, hl with | [_], _ => rfl
  refine ⟨fd, fun s v => b s [v] rfl, fun base _ _ => ?_⟩
  have c' : Wd K mg fa fn := Wd.of X G c
  exact FnOk.nox (fn_law_ok F c')
end K06
open PySem PySem.W PySem.Calls PyProof.Rows
set_option maxHeartbeats 0 in
theorem PySem.Challenge.cw_planholds_k06_way_said_holds : PySem.Challenge.rw_planholds_k06_way_said.Holds := by
  w_on; o_law
  refine HandSHeadRun.head_any (r := OpenLaw.row PySem.Challenge.rw_planholds_k06_way_said) (q := view (OpenLaw.row PySem.Challenge.rw_planholds_k06_way_said).prog [48]) (H := K06.hk) (ob := K06.ob) (M := 2000) (loose := (["ZERO", "_law_bounds", "_law_cell", "_law_closure", "_law_date_table", "_law_dates_right", "_law_digits", "_law_draw", "_law_holding", "_law_holds", "_law_less", "_law_like", "_law_met", "_law_paper_right", "_law_plan", "_law_ring_right", "_law_span", "_law_step_of", "_law_steps", "_law_walk", "_law_whole", "_law_wide", "arcs_of", "are_steps", "back_arcs", "dates_from", "distances", "distances_from", "distances_to", "earliest"] : List PySem.Str) ++ (["holds", "is_way", "labels_of", "length_of", "nodes_of", "paper", "relaxed", "ring_behind", "steps_of", "table_of", "way", "way_to", "widest", "window", "windows"] : List PySem.Str)) (d := HandSHeadRun.topDef (OpenLaw.row PySem.Challenge.rw_planholds_k06_way_said).prog 48) (kwd := []) K06.ob_eq
    (by kernel_rfl) (fun s => by kernel_rfl) K06.run (by kernel_rfl) (by kernel_rfl) (by kernel_rfl) (by rfl) (by first | assumption | decide +kernel) (by decide +kernel) ⟨rfl, rfl, rfl, rfl, rfl, by decide +kernel⟩ ?hw ?hc
  case hw => w_witness2
  case hc =>
    refine L2.walk_ofE (l := PySem.Challenge.rw_planholds_k06_way_said) (n := 63) (k := 16) (x := "script") (CX := L2.CX0) rfl (by decide) (by kernel_rfl) ⟨rfl, by decide, by decide⟩ ?F (fun _ _ _ _ z => z)
    intro w mg fa h Y G hmg0
    obtain ⟨K, KX, c⟩ := Y
    have hmg : mg ("law" : PySem.Str) = some (.ref fa) := by
      have e : (HandSHeadRun.topDef (OpenLaw.row PySem.Challenge.rw_planholds_k06_way_said).prog 48).name = ("law" : PySem.Str) := by kernel_rfl
      rw [← e]
      exact hmg0
    obtain ⟨fd, hb, hF⟩ := K06.facts (P := (PySem.Challenge.rw_planholds_k06_way_said).prog) (w := w) KX G hmg c
    exact ⟨K, fd, (fun vs H Q _ => M.spOf ⟨K, mg, none⟩ P06.fn_law vs H Q fun _ _ _ => False), KX, hb, fun H a ns hl ho hS => M.law_sp (k := ⟨K, mg, none⟩) rfl ho hS rfl (K06.law_true ns hl), hF⟩

