import PyProof.Rows.All
import Wide.All
import OpenK.AllK
import Wide.FinOn
import HandS.ForMost
import HandS.Defaults
import HandS.TupMul
import HandS.Wide
import HandS.WideBits
import HandS.TupAny
import HandS.IsInst
import HandS.Style
import HandS.Deep
import HandS.TupLe
import HandS.More
import PyProof.ListStr
import HandS.Small
import HandS.Iter
import HandS.Zip
import KE.GoesMore
import KE.GoesEnum
import HandS.ListItems
import KE.KDictZip
import KE.KDictItemsList
import HandS.Dict
import HandS.Text
import HandS.SortInts
import KE.SortData
import HandS.Comp
import HandS.Codes
import HandS.TupSets
import HandS.DictComp
import HandS.Conv
import HandS.Sort
import KE.KRevSl
import PyProof.Rows.StrRev
import PyProof.SliceStr2
import HandS.Exc
import KE.KStateDown
import HandS.Head0
import HandS.Head1
import HandS.Head2
import HandS.HeadEnd
import HandS.HeadHook1
import HandS.HeadHook2
import PySem.Challenge.RW_scanbars_k03_texts_with_so_many_elements
set_option Elab.async false
set_option linter.all false
set_option maxRecDepth 100000
/-! Fx1: data D, how data lies in the abstract heap (Rp, View), cells of a frame (Rel), what a step keeps (Step). -/
namespace Fx
open L2 PyProof.Rows PySem PySem.Spec

/-- a key of a dict -/
inductive DK where
  | i (n : Int) | s (l : List Nat)
  deriving DecidableEq
/-- data -/
inductive D where
  | non | bl (b : Bool) | int (i : Int) | str (s : List Nat) | tup (xs : List D) | lst (xs : List D) | dic (kvs : List (DK × D))

def mkS (l : List Nat) : Str := ⟨l.toArray⟩
def DK.toKey : DK → Key
  | .i n => .inl n
  | .s l => .inr (mkS l)
def DK.toD : DK → D
  | .i n => .int n
  | .s l => .str l

/-- which objects may be read -/
abbrev RdA := Addr → HO → Prop
def SqTA (K : PySem.W.Frag) (A : RdA) (a : Addr) (xs : List V) : Prop :=
  A a (.tup xs) ∨
    (∃ (o : Obj) (its : Array Value) (n : Nat), K.lookup a = some o ∧ o.cls = .type "tuple" ∧ o.data = .seq its n ∧ its.size ≤ sizeLine ∧ Vals xs its.toList)

/-- a list that stood before the law ran -/
def KLst (K : PySem.W.Frag) (a : Addr) (xs : List V) : Prop := ∃ (its : Array Value) (n : Nat), K.lookup a = some { cls := .type "list", data := .seq its n } ∧ its.size ≤ sizeLine ∧ Vals xs its.toList
def LsA (K : PySem.W.Frag) (A : RdA) (a : Addr) (xs : List V) : Prop := A a (.lst xs) ∨ KLst K a xs
def LsH (K : PySem.W.Frag) (H : Hp) (a : Addr) (xs : List V) : Prop := Rd H a (.lst xs) ∨ KLst K a xs
theorem LsH.seq {K : PySem.W.Frag} {H : Hp} {a : Addr} {xs : List V} (h : LsH K H a xs) : SqL K H a xs := by
  rcases h with h | ⟨its, n, h1, h2, h3⟩
  · exact .inl h
  · exact .inr ⟨_, its, n, h1, rfl, rfl, rfl, h2, h3⟩
theorem LsA.mono {K : PySem.W.Frag} {A A' : RdA} (h : ∀ a u, A a u → A' a u) {a : Addr} {xs : List V} (q : LsA K A a xs) : LsA K A' a xs := q.imp (h _ _) id
theorem LsA.heap {K : PySem.W.Frag} {A : RdA} {H : Hp} (h : ∀ a u, A a u → Rd H a u) {a : Addr} {xs : List V} (q : LsA K A a xs) : LsH K H a xs := q.imp (h _ _) id

mutual
/-- v is the data d, through objects that A lets read -/
def Rp (K : PySem.W.Frag) (A : RdA) : D → V → Prop
  | .non, v => v = .non
  | .bl b, v => v = .bl b
  | .int i, v => v = .int i
  | .str s, v => v = .str (mkS s)
  | .tup ds, v => ∃ a xs, v = .ref a ∧ SqTA K A a xs ∧ RpL K A ds xs
  | .lst ds, v => ∃ a xs, v = .ref a ∧ LsA K A a xs ∧ RpL K A ds xs
  | .dic kvs, v => ∃ a ys, v = .ref a ∧ A a (.dK ys) ∧ RpD K A kvs ys
def RpL (K : PySem.W.Frag) (A : RdA) : List D → List V → Prop
  | [], xs => xs = []
  | d :: ds, xs => ∃ x r, xs = x :: r ∧ Rp K A d x ∧ RpL K A ds r
def RpD (K : PySem.W.Frag) (A : RdA) : List (DK × D) → List (Key × V) → Prop
  | [], ys => ys = []
  | (k, d) :: kvs, ys => ∃ x r, ys = (k.toKey, x) :: r ∧ Rp K A d x ∧ RpD K A kvs r
end

section
variable {K : PySem.W.Frag} {A A' : RdA}
theorem SqTA.mono (h : ∀ a u, A a u → A' a u) {a : Addr} {xs : List V} (q : SqTA K A a xs) : SqTA K A' a xs := q.imp (h _ _) id
mutual
theorem Rp.mono (h : ∀ a u, A a u → A' a u) : ∀ (d : D) (v : V), Rp K A d v → Rp K A' d v
  | .non, _, q => by simpa [Rp] using q
  | .bl b, _, q => by simpa [Rp] using q
  | .int i, _, q => by simpa [Rp] using q
  | .str s, _, q => by simpa [Rp] using q
  | .tup ds, v, q => by
    simp only [Rp] at q ⊢
    obtain ⟨a, xs, e, hs, hr⟩ := q
    exact ⟨a, xs, e, hs.mono h, RpL.mono h ds xs hr⟩
  | .lst ds, v, q => by
    simp only [Rp] at q ⊢
    obtain ⟨a, xs, e, hs, hr⟩ := q
    exact ⟨a, xs, e, hs.mono h, RpL.mono h ds xs hr⟩
  | .dic kvs, v, q => by
    simp only [Rp] at q ⊢
    obtain ⟨a, ys, e, hs, hr⟩ := q
    exact ⟨a, ys, e, h _ _ hs, RpD.mono h kvs ys hr⟩
theorem RpL.mono (h : ∀ a u, A a u → A' a u) : ∀ (ds : List D) (xs : List V), RpL K A ds xs → RpL K A' ds xs
  | [], _, q => by simpa [RpL] using q
  | d :: ds, xs, q => by
    simp only [RpL] at q ⊢
    obtain ⟨x, r, e, hd, hr⟩ := q
    exact ⟨x, r, e, Rp.mono h d x hd, RpL.mono h ds r hr⟩
theorem RpD.mono (h : ∀ a u, A a u → A' a u) : ∀ (kvs : List (DK × D)) (ys : List (Key × V)), RpD K A kvs ys → RpD K A' kvs ys
  | [], _, q => by simpa [RpD] using q
  | (k, d) :: kvs, ys, q => by
    simp only [RpD] at q ⊢
    obtain ⟨x, r, e, hd, hr⟩ := q
    exact ⟨x, r, e, Rp.mono h d x hd, RpD.mono h kvs r hr⟩
end
theorem RpL.nil : RpL K A [] [] := by simp [RpL]
theorem RpL.cons {d : D} {ds : List D} {x : V} {xs : List V} (h : Rp K A d x) (t : RpL K A ds xs) : RpL K A (d :: ds) (x :: xs) := by
  simp only [RpL]; exact ⟨x, xs, rfl, h, t⟩
theorem RpL.length : ∀ {ds : List D} {xs : List V}, RpL K A ds xs → xs.length = ds.length
  | [], _, h => by simp only [RpL] at h; subst h; rfl
  | d :: ds, _, h => by
    simp only [RpL] at h
    obtain ⟨x, r, rfl, _, t⟩ := h
    simp [RpL.length t]
theorem RpL.get : ∀ {ds : List D} {xs : List V} {i : Nat} {d : D}, RpL K A ds xs → ds[i]? = some d → ∃ x, xs[i]? = some x ∧ Rp K A d x
  | [], _, i, d, _, e => by simp at e
  | d0 :: ds, _, i, d, h, e => by
    simp only [RpL] at h
    obtain ⟨x, r, rfl, hd, t⟩ := h
    cases i with
    | zero => simp at e; subst e; exact ⟨x, by simp, hd⟩
    | succ i =>
      obtain ⟨y, e1, e2⟩ := RpL.get (i := i) t (by simpa using e)
      exact ⟨y, by simpa using e1, e2⟩
theorem RpL.getV {ds : List D} {xs : List V} {i : Nat} {x : V} (h : RpL K A ds xs) (e : xs[i]? = some x) : ∃ d, ds[i]? = some d ∧ Rp K A d x := by
  have hl := h.length
  have hi : i < ds.length := by rw [← hl]; exact (List.getElem?_eq_some_iff.mp e).1
  obtain ⟨y, e1, r⟩ := h.get (List.getElem?_eq_getElem hi)
  rw [e] at e1; cases e1
  exact ⟨_, List.getElem?_eq_getElem hi, r⟩
theorem RpL.append : ∀ {ds es : List D} {xs ys : List V}, RpL K A ds xs → RpL K A es ys → RpL K A (ds ++ es) (xs ++ ys)
  | [], _, _, _, h, k => by simp only [RpL] at h; subst h; exact k
  | d :: ds, es, _, ys, h, k => by
    simp only [RpL] at h
    obtain ⟨x, r, rfl, hd, t⟩ := h
    exact RpL.cons hd (RpL.append t k)
theorem RpL.take (n : Nat) : ∀ {ds : List D} {xs : List V}, RpL K A ds xs → RpL K A (ds.take n) (xs.take n) := by
  induction n with
  | zero => intro ds xs _; simp [RpL]
  | succ n ih =>
    intro ds xs h
    cases ds with
    | nil => simp only [RpL] at h; subst h; simp [RpL]
    | cons d ds =>
      simp only [RpL] at h
      obtain ⟨x, r, rfl, hd, t⟩ := h
      exact RpL.cons hd (ih t)
theorem RpL.drop (n : Nat) : ∀ {ds : List D} {xs : List V}, RpL K A ds xs → RpL K A (ds.drop n) (xs.drop n) := by
  induction n with
  | zero => intro ds xs h; simpa using h
  | succ n ih =>
    intro ds xs h
    cases ds with
    | nil => simp only [RpL] at h; subst h; simp [RpL]
    | cons d ds =>
      simp only [RpL] at h
      obtain ⟨x, r, rfl, hd, t⟩ := h
      exact ih t
theorem RpL.reverse : ∀ {ds : List D} {xs : List V}, RpL K A ds xs → RpL K A ds.reverse xs.reverse
  | [], _, h => by simp only [RpL] at h; subst h; simp [RpL]
  | d :: ds, _, h => by
    simp only [RpL] at h
    obtain ⟨x, r, rfl, hd, t⟩ := h
    simp only [List.reverse_cons]
    exact RpL.append (RpL.reverse t) (RpL.cons hd RpL.nil)
theorem RpL.set {d : D} {x : V} (hd : Rp K A d x) (n : Nat) : ∀ {ds : List D} {xs : List V}, RpL K A ds xs → RpL K A (ds.set n d) (xs.set n x) := by
  induction n with
  | zero =>
    intro ds xs h
    cases ds with
    | nil => simp only [RpL] at h; subst h; simp [RpL]
    | cons e ds =>
      simp only [RpL] at h
      obtain ⟨y, r, rfl, _, t⟩ := h
      exact RpL.cons hd t
  | succ n ih =>
    intro ds xs h
    cases ds with
    | nil => simp only [RpL] at h; subst h; simp [RpL]
    | cons e ds =>
      simp only [RpL] at h
      obtain ⟨y, r, rfl, he, t⟩ := h
      exact RpL.cons he (ih t)
theorem RpL.eraseIdx (n : Nat) : ∀ {ds : List D} {xs : List V}, RpL K A ds xs → RpL K A (ds.eraseIdx n) (xs.eraseIdx n) := by
  induction n with
  | zero =>
    intro ds xs h
    cases ds with
    | nil => simp only [RpL] at h; subst h; simp [RpL]
    | cons e ds =>
      simp only [RpL] at h
      obtain ⟨y, r, rfl, _, t⟩ := h
      simpa using t
  | succ n ih =>
    intro ds xs h
    cases ds with
    | nil => simp only [RpL] at h; subst h; simp [RpL]
    | cons e ds =>
      simp only [RpL] at h
      obtain ⟨y, r, rfl, he, t⟩ := h
      simpa using RpL.cons he (ih t)
theorem RpD.length : ∀ {kvs : List (DK × D)} {ys : List (Key × V)}, RpD K A kvs ys → ys.length = kvs.length
  | [], _, h => by simp only [RpD] at h; subst h; rfl
  | (k, d) :: kvs, _, h => by
    simp only [RpD] at h
    obtain ⟨x, r, rfl, _, t⟩ := h
    simp [RpD.length t]
end

/-- what is in the heap -/
abbrev All (H : Hp) : RdA := fun a u => Rd H a u
/-- a value looked at: the outer object as the heap has it, what is within through A -/
def View (K : PySem.W.Frag) (A : RdA) (H : Hp) : D → V → Prop
  | .non, v => v = .non
  | .bl b, v => v = .bl b
  | .int i, v => v = .int i
  | .str s, v => v = .str (mkS s)
  | .tup ds, v => ∃ a xs, v = .ref a ∧ SqT K H a xs ∧ RpL K A ds xs
  | .lst ds, v => ∃ a xs, v = .ref a ∧ LsH K H a xs ∧ RpL K A ds xs
  | .dic kvs, v => ∃ a ys, v = .ref a ∧ Rd H a (.dK ys) ∧ RpD K A kvs ys
def ViewL (K : PySem.W.Frag) (A : RdA) (H : Hp) : List D → List V → Prop
  | [], xs => xs = []
  | d :: ds, xs => ∃ x r, xs = x :: r ∧ View K A H d x ∧ ViewL K A H ds r
section
variable {K : PySem.W.Frag} {A A' : RdA} {H H' : Hp}
theorem SqTA.seq (h : ∀ a u, A a u → Rd H a u) {a : Addr} {xs : List V} (q : SqTA K A a xs) : SqT K H a xs := q.imp (h _ _) id
theorem Rp.view (h : ∀ a u, A a u → Rd H a u) {d : D} {v : V} (q : Rp K A d v) : View K A H d v := by
  cases d <;> simp only [Rp, View] at q ⊢ <;> try exact q
  · obtain ⟨a, xs, e, hs, hr⟩ := q; exact ⟨a, xs, e, hs.seq h, hr⟩
  · obtain ⟨a, xs, e, hs, hr⟩ := q; exact ⟨a, xs, e, hs.heap h, hr⟩
  · obtain ⟨a, ys, e, hs, hr⟩ := q; exact ⟨a, ys, e, h _ _ hs, hr⟩
theorem ViewL.length : ∀ {ds : List D} {xs : List V}, ViewL K A H ds xs → xs.length = ds.length
  | [], _, h => by simp only [ViewL] at h; subst h; rfl
  | d :: ds, _, h => by
    simp only [ViewL] at h
    obtain ⟨x, r, rfl, _, t⟩ := h
    simp [ViewL.length t]
/-- all of it, through the heap -/
theorem View.all (h : ∀ a u, A a u → Rd H a u) {d : D} {v : V} (q : View K A H d v) : Rp K (All H) d v := by
  cases d <;> simp only [Rp, View] at q ⊢ <;> try exact q
  · obtain ⟨a, xs, e, hs, hr⟩ := q; exact ⟨a, xs, e, hs, RpL.mono h _ _ hr⟩
  · obtain ⟨a, xs, e, hs, hr⟩ := q; exact ⟨a, xs, e, hs, RpL.mono h _ _ hr⟩
  · obtain ⟨a, ys, e, hs, hr⟩ := q; exact ⟨a, ys, e, hs, RpD.mono h _ _ hr⟩
end

/-! ### cells -/
/-- an object that one slot owns -/
inductive Ob where
  | lst (ds : List D) | dic (kvs : List (DK × D))
def Ob.toD : Ob → D
  | .lst ds => .lst ds
  | .dic kvs => .dic kvs
/-- nothing known; data; an object that the slot owns; one that the caller lent (it stays in its slot) -/
inductive Cell where
  | none | d (x : D) | o (b : Ob) | io (b : Ob)
def Cell.ob : Cell → Option Ob
  | .o b => some b
  | .io b => some b
  | _ => Option.none
abbrev Cells := List Cell
def obAt (env : Cells) (i : Nat) : Option Ob := env[i]?.bind Cell.ob
def putOb (env : Cells) (i : Nat) (b : Ob) : Cells := match env[i]? with
  | some (.io _) => env.set i (.io b)
  | _ => env.set i (.o b)
/-- the value of an expression: data; the object that slot i owns; a new object that nothing else holds -/
inductive R where
  | d (x : D) | own (i : Nat) | new (b : Ob)
def R.get (env : Cells) : R → Option D
  | .d x => some x
  | .own i => match env[i]? with
    | some (.o b) => some b.toD
    | some (.io b) => some b.toD
    | some (.d x) => some x
    | _ => Option.none
  | .new b => some b.toD

def ObR (K : PySem.W.Frag) (A : RdA) (H : Hp) : Ob → Addr → Prop
  | .lst ds, p => ∃ xs, H p = some (.lst xs) ∧ RpL K A ds xs
  | .dic kvs, p => ∃ ys, H p = some (.dK ys) ∧ RpD K A kvs ys
/-- the addresses of what the slots own -/
def Ow (env : Cells) (σ : L2.St) (a : Addr) : Prop := ∃ (i : Nat) (b : Ob), obAt env i = some b ∧ σ[i]? = some (some (.ref a))
/-- what may be read as data: all but what the slots own -/
def Av (O : Addr → Prop) (env : Cells) (σ : L2.St) (H : Hp) : RdA := fun a u => ¬ Ow env σ a ∧ ¬ O a ∧ Rd H a u
/-- O: new objects that nothing holds yet -/
abbrev un (O P : Addr → Prop) : Addr → Prop := fun a => O a ∨ P a
def CellR (K : PySem.W.Frag) (A : RdA) (H : Hp) : Cell → Option (Option V) → Prop
  | .none, _ => True
  | .d x, w => ∃ v, w = some (some v) ∧ Rp K A x v
  | .o b, w => ∃ p, w = some (some (.ref p)) ∧ ObR K A H b p
  | .io b, w => ∃ p, w = some (some (.ref p)) ∧ ObR K A H b p
structure Rel (K : PySem.W.Frag) (O : Addr → Prop) (env : Cells) (σ : L2.St) (H : Hp) : Prop where
  len : env.length = σ.length
  at_ : ∀ (i : Nat) (c : Cell), env[i]? = some c → CellR K (Av O env σ H) H c σ[i]?
  inj : ∀ (i j : Nat) (b b' : Ob) (p : Addr), obAt env i = some b → obAt env j = some b' → σ[i]? = some (some (.ref p)) → σ[j]? = some (some (.ref p)) → i = j
  hid : ∀ a, O a → (∃ o, H a = some o ∧ Mut (some o)) ∧ ¬ Ow env σ a

/-- what stays: what nobody owned; what was not owned is not owned later; what stood stands -/
structure Step (env : Cells) (σ : L2.St) (H : Hp) (env' : Cells) (σ' : L2.St) (H' : Hp) : Prop where
  kp : ∀ a o, H a = some o → ¬ Ow env σ a → H' a = some o
  ow : ∀ a, H a ≠ none → ¬ Ow env σ a → ¬ Ow env' σ' a
  th : ∀ a, H a ≠ none → H' a ≠ none
  io : ∀ (i : Nat) (b : Ob), env[i]? = some (.io b) → σ'[i]? = σ[i]? ∧ ∃ b', env'[i]? = some (.io b')

section
variable {K : PySem.W.Frag} {O : Addr → Prop} {env env1 env2 : Cells} {σ σ1 σ2 : L2.St} {H H1 H2 : Hp}
theorem Step.refl : Step env σ H env σ H := ⟨fun _ _ e _ => e, fun _ _ h => h, fun _ h => h, fun _ _ h => ⟨rfl, _, h⟩⟩
theorem Step.trans (a : Step env σ H env1 σ1 H1) (b : Step env1 σ1 H1 env2 σ2 H2) : Step env σ H env2 σ2 H2 where
  kp := fun x o e n => b.kp x o (a.kp x o e n) (a.ow x (by rw [e]; simp) n)
  ow := fun x e n => b.ow x (a.th x e) (a.ow x e n)
  th := fun x e => b.th x (a.th x e)
  io := fun i x e => by
    obtain ⟨e1, y, e2⟩ := a.io i x e
    obtain ⟨e3, z, e4⟩ := b.io i y e2
    exact ⟨e3.trans e1, z, e4⟩
/-- what may be read may be read later -/
theorem Step.avN {N : Addr → Prop} (s : Step env σ H env1 σ1 H1) (hN : ∀ a, N a → H a = none) (a : Addr) (u : HO) (h : Av O env σ H a u) : Av (un O N) env1 σ1 H1 a u := by
  obtain ⟨n, m, r⟩ := h
  rcases r with r | ⟨od, r⟩
  · exact ⟨s.ow a (by rw [r]; simp) n, fun z => Or.elim z m fun z => (by rw [hN a z] at r; cases r), .inl (s.kp a _ r n)⟩
  · exact ⟨s.ow a (by rw [r]; simp) n, fun z => Or.elim z m fun z => (by rw [hN a z] at r; cases r), .inr ⟨od, s.kp a _ r n⟩⟩
theorem Step.av (s : Step env σ H env1 σ1 H1) (a : Addr) (u : HO) (h : Av O env σ H a u) : Av O env1 σ1 H1 a u := by
  obtain ⟨n, m, r⟩ := h
  rcases r with r | ⟨od, r⟩
  · exact ⟨s.ow a (by rw [r]; simp) n, m, .inl (s.kp a _ r n)⟩
  · exact ⟨s.ow a (by rw [r]; simp) n, m, .inr ⟨od, s.kp a _ r n⟩⟩
theorem av_anti {O' : Addr → Prop} (h : ∀ a, O' a → O a) (a : Addr) (u : HO) (k : Av O env σ H a u) : Av O' env σ H a u := ⟨k.1, fun z => k.2.1 (h a z), k.2.2⟩
theorem Step.rp (s : Step env σ H env1 σ1 H1) {d : D} {v : V} (h : Rp K (Av O env σ H) d v) : Rp K (Av O env1 σ1 H1) d v := Rp.mono s.av d v h
theorem Step.rpL (s : Step env σ H env1 σ1 H1) {d : List D} {v : List V} (h : RpL K (Av O env σ H) d v) : RpL K (Av O env1 σ1 H1) d v := RpL.mono s.av d v h
theorem Step.rpD (s : Step env σ H env1 σ1 H1) {d : List (DK × D)} {v : List (Key × V)} (h : RpD K (Av O env σ H) d v) : RpD K (Av O env1 σ1 H1) d v := RpD.mono s.av d v h
theorem av_rd {a : Addr} {u : HO} (h : Av O env σ H a u) : Rd H a u := h.2.2
theorem obAt_some {env : Cells} {i : Nat} {b : Ob} (h : obAt env i = some b) : env[i]? = some (.o b) ∨ env[i]? = some (.io b) := by
  unfold obAt at h
  cases e : env[i]? with
  | none => (rw [e] at h; cases h)
  | some c =>
    rw [e] at h
    cases c with
    | none => cases h
    | d x => cases h
    | o b' => cases h; exact .inl rfl
    | io b' => cases h; exact .inr rfl
theorem obAt_o {env : Cells} {i : Nat} {b : Ob} (h : env[i]? = some (.o b)) : obAt env i = some b := by unfold obAt; rw [h]; rfl
theorem obAt_io {env : Cells} {i : Nat} {b : Ob} (h : env[i]? = some (.io b)) : obAt env i = some b := by unfold obAt; rw [h]; rfl
/-- an owned object: where, and how it lies -/
theorem Rel.ob (r : Rel K O env σ H) {i : Nat} {b : Ob} (h : obAt env i = some b) : ∃ p, σ[i]? = some (some (.ref p)) ∧ ObR K (Av O env σ H) H b p := by
  rcases obAt_some h with e | e
  · exact r.at_ i _ e
  · exact r.at_ i _ e
theorem Rel.own_there (r : Rel K O env σ H) {a : Addr} (h : Ow env σ a) : H a ≠ none := by
  obtain ⟨i, b, e, e2⟩ := h
  obtain ⟨p, e3, q⟩ := r.ob e
  rw [e2] at e3; cases e3
  cases b with
  | lst ds => obtain ⟨xs, q, _⟩ := q; rw [q]; simp
  | dic kvs => obtain ⟨xs, q, _⟩ := q; rw [q]; simp
theorem Rel.fresh_not (r : Rel K O env σ H) {a : Addr} (h : H a = none) : ¬ Ow env σ a := fun o => r.own_there o h
/-- the heap grows -/
theorem Step.grow (g : Same H H1) : Step env σ H env σ H1 where
  kp := fun a o e _ => g a o e
  ow := fun _ _ h => h
  th := fun a h e => by
    cases q : H a with
    | none => exact h q
    | some o => rw [g a o q] at e; cases e
  io := fun _ _ h => ⟨rfl, _, h⟩
theorem ObR.mono {A A' : RdA} (h : ∀ a u, A a u → A' a u) {b : Ob} {p : Addr} (e : H1 p = H p) (q : ObR K A H b p) : ObR K A' H1 b p := by
  cases b with
  | lst ds => obtain ⟨xs, q, r⟩ := q; exact ⟨xs, e.trans q, RpL.mono h _ _ r⟩
  | dic kvs => obtain ⟨xs, q, r⟩ := q; exact ⟨xs, e.trans q, RpD.mono h _ _ r⟩
theorem ObR.some {A : RdA} {b : Ob} {p : Addr} (q : ObR K A H b p) : ∃ o, H p = some o ∧ Mut (some o) := by
  cases b with
  | lst ds => obtain ⟨xs, q, r⟩ := q; exact ⟨_, q, trivial⟩
  | dic kvs => obtain ⟨xs, q, r⟩ := q; exact ⟨_, q, trivial⟩
theorem Rel.grow (r : Rel K O env σ H) (g : Same H H1) : Rel K O env σ H1 where
  len := r.len
  at_ := fun i c e => by
    have st : Step env σ H env σ H1 := Step.grow g
    have q := r.at_ i c e
    cases c with
    | none => trivial
    | d x => obtain ⟨v, e1, h⟩ := q; exact ⟨v, e1, st.rp h⟩
    | o b =>
      obtain ⟨p, e1, h⟩ := q
      obtain ⟨o, ho, _⟩ := h.some
      exact ⟨p, e1, h.mono st.av ((g p o ho).trans ho.symm)⟩
    | io b =>
      obtain ⟨p, e1, h⟩ := q
      obtain ⟨o, ho, _⟩ := h.some
      exact ⟨p, e1, h.mono st.av ((g p o ho).trans ho.symm)⟩
  inj := r.inj
  hid := fun a h => by
    obtain ⟨⟨o, ho, m⟩, n⟩ := r.hid a h
    exact ⟨⟨o, g a o ho, m⟩, n⟩
/-- fewer are hidden -/
theorem Rel.less {O' : Addr → Prop} (r : Rel K O env σ H) (h : ∀ a, O' a → O a) : Rel K O' env σ H where
  len := r.len
  at_ := fun i c e => by
    have q := r.at_ i c e
    cases c with
    | none => trivial
    | d x => obtain ⟨v, e1, q⟩ := q; exact ⟨v, e1, Rp.mono (av_anti h) _ _ q⟩
    | o b => obtain ⟨p, e1, q⟩ := q; exact ⟨p, e1, q.mono (av_anti h) rfl⟩
    | io b => obtain ⟨p, e1, q⟩ := q; exact ⟨p, e1, q.mono (av_anti h) rfl⟩
  inj := r.inj
  hid := fun a z => r.hid a (h a z)
/-- the heap grows, what is new is hidden -/
theorem Rel.growN {N : Addr → Prop} (r : Rel K O env σ H) (g : Same H H1) (hN : ∀ a, N a → H a = none ∧ ∃ o, H1 a = some o ∧ Mut (some o)) : Rel K (un O N) env σ H1 where
  len := r.len
  at_ := fun i c e => by
    have st : Step env σ H env σ H1 := Step.grow g
    have av := st.avN (O := O) fun a z => (hN a z).1
    have q := r.at_ i c e
    cases c with
    | none => trivial
    | d x => obtain ⟨v, e1, h⟩ := q; exact ⟨v, e1, Rp.mono av _ _ h⟩
    | o b =>
      obtain ⟨p, e1, h⟩ := q
      obtain ⟨o, ho, _⟩ := h.some
      exact ⟨p, e1, h.mono av ((g p o ho).trans ho.symm)⟩
    | io b =>
      obtain ⟨p, e1, h⟩ := q
      obtain ⟨o, ho, _⟩ := h.some
      exact ⟨p, e1, h.mono av ((g p o ho).trans ho.symm)⟩
  inj := r.inj
  hid := fun a h => by
    rcases h with h | h
    · obtain ⟨⟨o, ho, m⟩, n⟩ := r.hid a h
      exact ⟨⟨o, g a o ho, m⟩, n⟩
    · exact ⟨(hN a h).2, r.fresh_not (hN a h).1⟩
theorem same_new {H : Hp} {p : Addr} {o : HO} (h : H p = none) : Same H (upd H p o) := fun b x e => by
  rw [upd_ne (ne_of_none e h)]
  exact e
end

/-- a set of objects to read: within the heap; no tuple is left out -/
structure GoodA (A : RdA) (H : Hp) : Prop where
  rd : ∀ a u, A a u → Rd H a u
  tp : ∀ a xs, Rd H a (.tup xs) → A a (.tup xs)
theorem GoodA.tup {K : PySem.W.Frag} {A : RdA} {H : Hp} (g : GoodA A H) {a : Addr} {xs : List V} (h : SqT K H a xs) : SqTA K A a xs := h.imp (g.tp _ _) id
theorem not_mut {H : Hp} {a : Addr} {xs : List V} (h : Rd H a (.tup xs)) {o : HO} (e : H a = some o) (m : Mut (some o)) : False := by
  rcases h with h | ⟨od, h⟩
  · rw [h] at e; cases e; exact m
  · rw [h] at e; cases e; exact m
theorem av_good {K : PySem.W.Frag} {O : Addr → Prop} {env : Cells} {σ : L2.St} {H : Hp} (rel : Rel K O env σ H) : GoodA (Av O env σ H) H where
  rd := fun _ _ h => h.2.2
  tp := fun a xs h => ⟨fun o => by
    obtain ⟨i, b, e, e2⟩ := o
    obtain ⟨p, e3, q⟩ := rel.ob e
    rw [e2] at e3; cases e3
    obtain ⟨o, ho, m⟩ := q.some
    exact not_mut h ho m, fun z => by
      obtain ⟨⟨o, ho, m⟩, _⟩ := rel.hid a z
      exact not_mut h ho m, h⟩
/-- what an operation hands back: data (old or new), or a new object -/
inductive RO where
  | d (x : D) | new (b : Ob)
/-- through A, and what is new -/
def Gr (A : RdA) (H H' : Hp) : RdA := fun a u => A a u ∨ (H a = none ∧ Rd H' a u)
def ROR (K : PySem.W.Frag) (A : RdA) (H H' : Hp) : RO → V → Prop
  | .d x, v => Rp K (Gr A H H') x v
  | .new b, v => ∃ p, v = .ref p ∧ H p = none ∧ (∃ o, H' p = some o ∧ Mut (some o)) ∧ ObR K A H' b p
def RO.toR : RO → R
  | .d x => .d x
  | .new b => .new b
/-- how the value of an expression lies, behind it; H: the heap ahead of it -/
def RR (K : PySem.W.Frag) (O : Addr → Prop) (env : Cells) (σ : L2.St) (H H' : Hp) : R → V → Prop
  | .d x, v => Rp K (Av O env σ H') x v
  | .own i, v => σ[i]? = some (some v)
  | .new b, v => ∃ p, v = .ref p ∧ H p = none ∧ ObR K (Av O env σ H') H' b p
/-- the new object that a value is -/
def nw : R → V → Addr → Prop
  | .new _, v, a => v = .ref a
  | _, _, _ => False
def nws : List R → List V → Addr → Prop
  | r :: rs, v :: vs, a => nw r v a ∨ nws rs vs a
  | _, _, _ => False
end Fx

set_option Elab.async false
set_option linter.all false
set_option maxRecDepth 100000
/-! Fx0: promises of defs for states in which no repr is under way (guards empty): for repr(..) of containers. -/
namespace Fx
open L2 PyProof.Rows PySem PySem.Spec

structure FnG (P : Program) (w : World) (K : PySem.W.Frag) (mg : Str → Option Value) (base : Heap) (CX : CXT) (k : Nat)
    (f : Addr) (fd : FuncData) (ps : List Str) (sp : Sp) : Prop where
  len : ∀ args H Q E, sp args H Q E → args.length = ps.length
  run : ∀ (A : Around) (fs : List Env) (s : Shared) (H : Hp) (ar : Args) (us : List Value) (vs : List V) (Q : VK) (E : XK),
    Room k A → A.guards = some [] → Env0 P w K mg base A fs s H → BindsTo s fd ar (ps.zip us) → Vals vs us → sp vs H Q E →
    codeAny (model P w) A (.call (.ref f) ar) (CR CX fs P w H s Q E) s

section
variable {P : Program} {w : World} {K : PySem.W.Frag} {mg : Str → Option Value} {base : Heap} {CX : CXT} {k : Nat}
  {f : Addr} {fd : FuncData} {ps : List Str} {sp : Sp}

theorem FnG.up {j : Nat} (F : FnG P w K mg base CX j f fd ps sp) (h : j ≤ k) : FnG P w K mg base CX k f fd ps sp where
  len := F.len
  run := fun A fs s H ar us vs Q E hr => F.run A fs s H ar us vs Q E (hr.mono h)

/-- a def by its body, in a state without guards -/
theorem fnG_of {nm ql : Str} {params : Arguments} {body : List Stmt} {scope : Scope} {dvs : List V} {kws : List (Str × V)} {N : List Str} (F : FunD K nm ql params body scope dvs kws f fd) (S : FnScope N ps scope)
    (len : ∀ args H Q E, sp args H Q E → args.length = ps.length)
    (hbody : ∀ (cd : Value) (A : Around) (fs : List Env) (s : Shared) (H : Hp) (vs : List V) (Q : VK) (E : XK),
      Room k (A.deeper (envOfC ql scope s.heap.objs.size f cd)) → A.guards = some [] → sp vs H Q E →
      ∃ t, PSs (cxOf CX P w K mg base N ql scope f cd A fs s H E) body t ∧
        t { nx := fun _ H' => Q .non H', rt := Q } (start N vs) H) :
    FnG P w K mg base CX (k + 1) f fd ps sp := by
  obtain ⟨oc, od, dV, kV, doc, pm, an, cd, ct, osl, rfl, lk, hcd, _⟩ := F.ex
  constructor
  · exact len
  intro A fs s H ar us vs Q E room hg e0 hb rv hsp
  have lenv := len vs H Q E hsp
  have hin : K.In s.heap := Frag_in e0
  have nolim : s.heap.NoLimit := e0.mod.nolimit.keeps fun b o e => (e0.bs b o e).1
  refine codeAny_call_function room.depth (hin _ _ lk) rfl S.co S.gen rfl (PySem.W.codeRec_of hin hcd) (hb _ _ _ _ ?_)
  refine wpAny_newFunctionEnv_cells S.kind ?_ ?_
  · rintro ⟨n, v⟩ hy
    have hn := (List.of_mem_zip hy).1
    cases S.par n hn with
    | inl q => exact Or.inl q
    | inr q => exact Or.inr ⟨q, PySem.W.cellsFrom_some _ _ _ (Or.inl q)⟩
  · intro env he s1 x
    subst he
    refine ⟨nolim.keeps x.toInCall.keep, codeAny_func ?_⟩
    obtain ⟨t, ht, hq⟩ := hbody cd A fs s H vs Q E (room.deeper _) hg hsp
    have I := inv_start (E := E) (CX := CX) S room.hd e0 lenv rv x
    refine wpAny_mono (ht.run [] s1 (start N vs) H _ I hq) ?_ (fun _ _ h => h)
    intro fl s' hs
    cases fl with
    | ret u =>
      obtain ⟨v, σ2, H2, J, rv2, q⟩ := hs
      exact ⟨v, H2, J.os, J.bare, J.base, J.hok, rv2, q⟩
    | next =>
      obtain ⟨σ2, H2, J, q⟩ := hs
      exact ⟨.non, H2, J.os, J.bare, J.base, J.hok, rfl, q⟩
    | brk => obtain ⟨_, _, _, q⟩ := hs; exact q.elim
    | cont => obtain ⟨_, _, _, q⟩ := hs; exact q.elim
where
  Frag_in {A : Around} {fs : List Env} {s : Shared} {H : Hp} (e0 : Env0 P w K mg base A fs s H) : K.In s.heap :=
    e0.mod.kin.keeps fun b o e => (e0.bs b o e).1
end

section
variable {X : Cx} {CX : CXT} {k : Nat} {f : Addr} {fd : FuncData} {ps : List Str} {sp : Sp} {dvs : List V} {ds : List Value} {E : XK} {x : Str}
  {p pos : Pos} {e : Expr} {es : List Expr} {t : TA}

/-- the callee runs, by values -/
theorem callG (F : FnG X.prog X.w X.K X.mg X.base CX k f fd ps sp) (hr : Room k X.A) (hg : X.A.guards = some []) (hb : Binds X.K fd ps ds) (hd : Vals dvs ds)
    (hx : Passes CX X E) {pns : List (Addr × Obj)} {σ : L2.St} {H : Hp} {s : Shared} {Q : VK} {us : List Value} {vs : List V}
    (I : Inv X pns σ H s) (r : Vals vs us) (h : sp (vs ++ dvs) H Q E) :
    wpAny (model X.prog X.w) X.A (call (.ref f) us) (EP X pns σ Q) X.xe s := by
  have r2 := r.append hd
  have hl : (us ++ ds).length = ps.length := r2.length.symm.trans (F.len _ _ _ _ h)
  have go := F.run X.A X.stack s H ⟨us, []⟩ (us ++ ds) (vs ++ dvs) Q E hr hg I.env0 (hb s us I.kIn hl) r2 h
  refine wpAny_call (codeAny_mono go ?_)
  intro res s' hq
  cases res with
  | error er => exact hx pns σ H s er s' I hq
  | ok fl =>
    cases fl with
    | ret u => exact I.after hq
    | next => exact hq.elim
    | brk => exact hq.elim
    | cont => exact hq.elim
/-- f(e, ..) -/
theorem pe_callG (F : FnG X.prog X.w X.K X.mg X.base CX k f fd ps sp) (hr : Room k X.A) (hg : X.A.guards = some []) (hgl : Gl X x)
    (hm : X.mg x = some (.ref f)) (hk : PySem.W.keepIn X.K (.ref f) = true) (hb : Binds X.K fd ps ds) (hd : Vals dvs ds) (hx : Passes CX X E)
    (ha : PA X (e :: es) t) (hdb : (x == ("__debug__" : Str)) = false)
    (he : starEach (e :: es) X.env = (false, eval e X.env) :: starEach es X.env)
    (hpl : (backTo pos (starEach es X.env)).any (·.1) = false) : PE X (.Call (.Name x p) (e :: es) [] pos) (tCall sp dvs E t) := by
  constructor
  intro pns s σ H Q I h
  refine wpAny_Call_Name_kw (ld_glob I hgl hm ?_ hdb)
  refine PySem.W.callWith_K (h₀ := X.base) I.ok.mod.kin hk ?_ he hpl
  refine thn (ha.run pos pns s σ H _ I h) ?_
  rintro us s1 ⟨vs, H1, I1, r, q⟩
  exact ⟨I1.kIn, callG F hr hg hb hd hx I1 r q⟩
end

/-- the modules' dict is there -/
def SysOk (base : Heap) : Prop := ∃ o es ep, base.get? sysModules = some o ∧ o.data = .dict es ep
/-- the law's call: from the promise of its def to the row's walk -/
theorem lawG {P : Program} {w : World} {K : PySem.W.Frag} {mg mb : Str → Option Value} {CX : CXT} {k : Nat} {fa a : Addr} {fd : FuncData} {x : Str} {sp : Sp}
    {s₁ : Shared} {vs : List Value} {ns : List Int} (KX : K.In s₁.heap) (hns : s₁.heap.Ns mainGlobals mg) (hb : s₁.heap.Ns builtinsNs mb)
    (hbb : ∀ x : Str, x ≠ "__name__" → mb x = bootBuiltins x) (hlim : s₁.heap.NoLimit) (hg : s₁.gens = #[])
    (ha : s₁.heap.get? a = some { cls := .type "list", data := .seq vs.toArray })
    (hi : IntsAre vs ns) (hl : ns.length ≤ sizeLine) (hr : Room k callerA) (hsys : ∃ mods, s₁.heap.Ns sysModules mods)
    (F : ∀ base : Heap, K.In base → base.Ns mainGlobals mg → SysOk base → FnG P w K mg base CX k fa fd [x] sp)
    (hbind : ∀ (s : Shared) (u : Value), BindsTo s fd ⟨[u], []⟩ [(x, u)])
    (hsp : ∀ H : Hp, Only H → LsH K H a (ns.map V.int) → sp [.ref a] H (fun v _ => v = .bl true) fun _ _ _ => False)
    (hCX : ∀ H exc st, CX [] H s₁ (fun _ _ _ => False) exc st → False) :
    codeAny (model P w) callerA (.call (.ref fa) ⟨[.ref a], []⟩)
      (fun r s' => r = .ok (.ret (.bool true)) ∧ OldK s₁.heap s'.heap ∧ s'.os = s₁.os ∧ AllBare s'.gens) s₁ := by
  have rv := vals_ints hi
  have lenV := hi.length
  have core : ∀ H : Hp, Only H → LsH K H a (ns.map V.int) → HOk P w H s₁.heap → (∀ b, H b ≠ none → b = a) → (H a ≠ none → K.lookup a = none) →
      codeAny (model P w) callerA (.call (.ref fa) ⟨[.ref a], []⟩)
        (fun r s' => r = .ok (.ret (.bool true)) ∧ OldK s₁.heap s'.heap ∧ s'.os = s₁.os ∧ AllBare s'.gens) s₁ := by
    intro H only hS hok only_a noK
    have free_of : ∀ b, b ≠ a → H b = none := fun b hb => by
      cases q : H b with
      | none => rfl
      | some u => exact absurd (only_a b (by rw [q]; simp)) hb
    have dict_free : ∀ {b : Addr} {o : Obj} {es : Array DictEntry} {ep : Nat}, s₁.heap.get? b = some o → o.data = .dict es ep → H b = none := by
      intro b o es ep e d
      by_cases hb : b = a
      · subst hb
        rw [ha] at e
        cases e
        exact nomatch (show Data.seq vs.toArray _ = Data.dict es ep from d)
      · exact free_of b hb
    have nsB : ∀ {b : Addr} {m : Str → Option Value}, s₁.heap.Ns b m → (hidT s₁.heap H).Ns b m := by
      rintro b m ⟨o, es, ep, e, d, r⟩
      exact ⟨o, es, ep, hidT_get e (dict_free e d), d, r⟩
    have inB : K.In (hidT s₁.heap H) := by
      intro b o e
      refine hidT_get (KX b o e) ?_
      cases q : H b with
      | none => rfl
      | some u =>
        have hb : b = a := only_a b (by rw [q]; simp)
        subst hb
        rw [noK (by rw [q]; simp)] at e
        cases e
    have hM : Mod K mg (hidT s₁.heap H) := ⟨inB, nsB hns, ⟨mb, nsB hb, hbb⟩, let ⟨mc, q1, q2⟩ := hlim; ⟨mc, nsB q1, q2⟩⟩
    have e0 : Env0 P w K mg (hidT s₁.heap H) callerA [] s₁ H :=
      ⟨rfl, hM, fun b o e => of_hidT e, Nat.le_of_eq (hidT_size _ _), trivial, (fun b z => (List.not_mem_nil (show b ∈ ([] : List Addr) from z)).elim), hok, .of_eq hg⟩
    have sysB : SysOk (hidT s₁.heap H) := by
      obtain ⟨mm, q⟩ := hsys
      obtain ⟨o, es, ep, e, d, _⟩ := nsB q
      exact ⟨o, es, ep, e, d⟩
    refine codeAny_mono ((F _ inB (nsB hns) sysB).run callerA [] s₁ H ⟨[.ref a], []⟩ [.ref a] [.ref a] _ _ hr rfl e0 (hbind s₁ (.ref a)) (.cons rfl .nil) (hsp H only hS)) ?_
    intro r s' h
    cases r with
    | error exc => exact absurd h (hCX H exc s')
    | ok fl =>
      cases fl with
      | next => exact h.elim
      | brk => exact h.elim
      | cont => exact h.elim
      | ret u =>
        obtain ⟨v, H', os, bare, un, hok', isTrue, q⟩ := h
        obtain rfl : v = .bl true := q
        cases (isTrue : u = Value.bool true)
        refine ⟨rfl, OldK.of_keep ?_, os, bare⟩
        intro b o e
        cases q : H b with
        | none => exact un.keep b o e q (fun z => List.not_mem_nil (show b ∈ ([] : List Addr) from z)) (by simp)
        | some u =>
          rcases only b with z | ⟨ob, xs, z⟩
          · rw [q] at z; cases z
          · obtain ⟨e1, _⟩ := hok b _ z
            obtain ⟨e2, _⟩ := hok' b _ (un.frzs b ob _ z)
            rw [e] at e1
            cases e1
            exact e2
  by_cases hk : ∃ o, K.lookup a = some o
  · obtain ⟨o, hk⟩ := hk
    have e := KX a o hk
    rw [ha] at e
    cases e
    refine core (fun _ => none) (fun _ => .inl rfl) (.inr ⟨vs.toArray, _, hk, ?_, by simpa using rv⟩) ?_ (fun b z => absurd rfl z) (fun z => absurd rfl z)
    · rw [List.size_toArray, lenV]; exact hl
    · intro b u z
      exact nomatch (show (none : Option HO) = some u from z)
  · have hk : K.lookup a = none := by
      cases q : K.lookup a with
      | none => rfl
      | some o => exact absurd ⟨o, q⟩ hk
    let H0 : Hp := fun b => if b = a then some (.frz { cls := .type "list", data := .seq vs.toArray } (.lst (ns.map V.int))) else none
    have at_a : H0 a = some (.frz { cls := .type "list", data := .seq vs.toArray } (.lst (ns.map V.int))) := if_pos rfl
    have off_a : ∀ b, b ≠ a → H0 b = none := fun b hb => if_neg hb
    refine core H0 ?_ (.inl (.inr ⟨_, at_a⟩)) ?_ ?_ (fun _ => hk)
    · intro b
      by_cases hb : b = a
      · subst hb; exact .inr ⟨_, _, at_a⟩
      · exact .inl (off_a b hb)
    · intro b u z
      by_cases hb : b = a
      · subst hb
        rw [at_a] at z
        cases z
        have short : (ns.map V.int).length ≤ sizeLine := by rw [List.length_map]; exact hl
        exact ⟨ha, short, vs, _, rv, ha⟩
      · rw [off_a b hb] at z; cases z
    · intro b z
      by_cases hb : b = a
      · exact hb
      · exact absurd (off_a b hb) z

theorem _root_.PySem.Heap.NoSeer.mods2 {h : Heap} (x : h.NoSeer) : ∃ mm, h.Ns sysModules mm := let ⟨mm, q, _⟩ := x.mods; ⟨mm, q⟩
theorem walkG {l : PySem.W.OpenLaw} {n k : Nat} {q : Program} {loose : List Str} {XP : (Str → Option Value) → Heap → Prop} {YP : World → Heap → Prop}
    {d : DefRec} {CX : World → CXT} {x : Str}
    (hn : l.most = some n) (hn2 : n ≤ sizeLine) (hdf : d.params.defaults = []) (hr : Room k callerA) (hno : importsNone q = true)
    (F : ∀ (w : World) (gl : Str → Option Value) (at_f : Addr) (hp : Heap), YP w hp → hp.Ns mainGlobals gl → gl d.name = some (.ref at_f) →
      ∃ (K : PySem.W.Frag) (fd : FuncData) (sp : Sp), K.In hp ∧ (∀ (st : Shared) (u : Value), BindsTo st fd ⟨[u], []⟩ [(x, u)]) ∧
        (∀ (H : Hp) (a : Addr) (ns : List Int), ns.length ≤ n → Only H → LsH K H a (ns.map V.int) → sp [.ref a] H (fun v _ => v = .bl true) fun _ _ _ => False) ∧
        ∀ base : Heap, K.In base → base.Ns mainGlobals gl → SysOk base → FnG l.prog w K gl base (CX w) k at_f fd [x] sp)
    (hCX : ∀ (w : World) (H : Hp) (st : Shared) (exc : Value) (st' : Shared), CX w [] H st (fun _ _ _ => False) exc st' → False) : PySem.W.WalkO q loose XP YP l.row.toRowW d [] (fun f vs => PySem.call f vs) := by
  refine Att.attach_call hn hdf ?_
  intro w s₀ s₁ mg mb fa o pm cd doc a vs ns G Y ho hd hcd hmg hobj hints hlen hg
  rcases F w mg fa _ Y G.T.g hmg with ⟨K, fd, sp, KX, hb, hsp, hF⟩
  exact lawG KX G.T.g G.T.b G.T.builtins G.T.nolimit hg hobj hints (Nat.le_trans hlen hn2) hr (G.T.seer hno).mods2 hF hb (hsp · a ns hlen) (hCX w · s₁)
end Fx

set_option Elab.async false
set_option linter.all false
set_option maxRecDepth 100000
/-! Fx2: the core language and its evaluator on data. -/
namespace Fx
open L2 PyProof.Rows PySem PySem.Spec

inductive Bop where | add | sub | mul | fdiv | mod | pow
  deriving DecidableEq
inductive Cop where | eq | ne | lt | le | gt | ge | isN | notN | isin | notin
  deriving DecidableEq
inductive Ty where | int | bool | str | tuple | list | dict
  deriving DecidableEq
/-- built-in functions by values -/
inductive Blt where | len | abs | max | min | sum | all | any | int | list | tuple | dict | repr | sorted | str
  deriving DecidableEq
/-- methods that change nothing -/
inductive Mth where | join | split | replace | get | index
  deriving DecidableEq
/-- methods that change their object (a list or a dict that a slot owns) -/
inductive Mut1 where | append | extend | pop | insert | remove | clear | update
  deriving DecidableEq

mutual
inductive CE where
  | var (i : Nat)
  | cst (x : D)
  | bin (op : Bop) (a b : CE)
  | neg (a : CE)
  | not (a : CE)
  | cmp (op : Cop) (a b : CE)
  | chain (op op' : Cop) (a b c : CE)
  | and (a b : CE)
  | or (a b : CE)
  | ite (c a b : CE)
  | tup (es : List CE)
  | lst (es : List CE)
  | disp (ks : List (DK × CE))
  | call (f : Nat) (es : List CE)
  | blt (b : Blt) (es : List CE)
  | isinst (a : CE) (t : Ty)
  | mth (m : Mth) (o : CE) (es : List CE)
  | mut (m : Mut1) (i : Nat) (es : List CE)
  | ix (a i : CE)
  | sl (a : CE) (lo hi : Option CE)
  | rev (a : CE)
  | idx (a b : CE)
  | col (es : List CE)
  | lc (el : CE) (t : Tg) (it : It) (c : Option CE) (own : List Nat)
  | lc2 (el : CE) (t : Tg) (it : It) (t2 : Tg) (it2 : It) (own own2 : List Nat)
  | dc (k v : CE) (t : Tg) (it : It) (c : Option CE) (own : List Nat)
  | lck (el : CE) (t : Tg) (i : Nat) (c : CE) (own : List Nat)
  | lrg1 (a : CE)
  | lrg2 (a b : CE)
  | lvs (a : CE)
  | lit (a : CE)
inductive It where
  | e (a : CE)
  | range (es : List CE)
  | enum (es : List CE)
  | zip (es : List CE)
  | items (a : CE)
  | values (a : CE)
inductive Tg where
  | nm (i : Nat)
  | tup (ts : List Tg)
end

inductive CS where
  | asg (t : Tg) (e : CE)
  | par (ts : List Tg) (es : List CE)
  | aug (i : Nat) (op : Bop) (e : CE)
  | set (i : Nat) (j e : CE)
  | augix (i : Nat) (j : CE) (op : Bop) (e : CE)
  | expr (e : CE)
  | ifs (c : CE) (a b : List CS)
  | fors (t : Tg) (it : It) (body : List CS)
  | whl (c : CE) (body : List CS)
  | ret (e : CE)
  | retN
  | brk
  | cnt
  | pas
  | never

/-! ### operations on data -/
def lim : Nat := 1000000
def bits (i : Int) : Nat := i.natAbs.log2
mutual
def eqD : D → D → Bool
  | .non, .non => true
  | .bl a, .bl b => a == b
  | .bl a, .int b => b2i a == b
  | .int a, .bl b => a == b2i b
  | .int a, .int b => a == b
  | .str a, .str b => a == b
  | .tup a, .tup b => eqDs a b
  | .lst a, .lst b => eqDs a b
  | _, _ => false
def eqDs : List D → List D → Bool
  | [], [] => true
  | a :: as, b :: bs => eqD a b && eqDs as bs
  | _, _ => false
end
/-- signs there are -/
def okS (s : List Nat) : Bool := s.all fun c => decide (c < 0x110000)
mutual
/-- no dict within; nesting -/
def flatD : Nat → D → Bool
  | _, .dic _ => false
  | 0, .tup _ => false
  | 0, .lst _ => false
  | n + 1, .tup a => flatDs n a
  | n + 1, .lst a => flatDs n a
  | _, .str s => okS s
  | _, _ => true
def flatDs : Nat → List D → Bool
  | _, [] => true
  | n, a :: as => flatD n a && flatDs n as
end
def keyOf : D → Option DK
  | .int i => some (.i i)
  | .str s => some (.s s)
  | _ => none
def look (k : DK) (kvs : List (DK × D)) : Option D := (kvs.find? fun p => decide (p.1 = k)).map (·.2)
def put (kvs : List (DK × D)) (k : DK) (v : D) : List (DK × D) :=
  if kvs.any (fun p => decide (p.1 = k)) then kvs.map (fun p => if p.1 = k then (p.1, v) else p) else kvs ++ [(k, v)]
def asInts : List D → Option (List Int)
  | [] => some []
  | .int i :: r => (asInts r).map (i :: ·)
  | _ => none
def asBls : List D → Option (List Bool)
  | [] => some []
  | .bl i :: r => (asBls r).map (i :: ·)
  | _ => none
def asStrs : List D → Option (List (List Nat))
  | [] => some []
  | .str i :: r => (asStrs r).map (i :: ·)
  | _ => none
def binD : Bop → D → D → Option RO
  | .add, .int a, .int b => some (.d (.int (a + b)))
  | .add, .str a, .str b => if a.length + b.length ≤ lim then some (.d (.str (a ++ b))) else none
  | .add, .lst a, .lst b => if a.length + b.length ≤ lim then some (.new (.lst (a ++ b))) else none
  | .add, .tup a, .tup b => if a.length + b.length ≤ lim then some (.d (.tup (a ++ b))) else none
  | .sub, .int a, .int b => some (.d (.int (a - b)))
  | .mul, .int a, .int b => if bits a + bits b ≤ lim then some (.d (.int (a * b))) else none
  | .mul, .lst a, .int k => if a.length * k.toNat ≤ lim ∧ k.natAbs ≤ lim then some (.new (.lst (List.replicate k.toNat a).flatten)) else none
  | .mul, .str a, .int k => if a.length * k.toNat ≤ lim ∧ k.natAbs ≤ lim then some (.d (.str (List.replicate k.toNat a).flatten)) else none
  | .mul, .tup a, .int k => if a.length * k.toNat ≤ lim ∧ k.natAbs ≤ lim then some (.d (.tup (List.replicate k.toNat a).flatten)) else none
  | .fdiv, .int a, .int b => if 0 < b ∧ bits b < 9000 then some (.d (.int (a / b))) else none
  | .mod, .int a, .int b => if 0 < b then some (.d (.int (a % b))) else none
  | .pow, .int a, .int b => if 0 ≤ b ∧ (bits a + 1) * b.toNat ≤ lim then some (.d (.int (a ^ b.toNat))) else none
  | _, _, _ => none
/-- order of lists of signs -/
def ltS (a b : List Nat) : Bool := decide (a < b)
def inD : D → D → Option Bool
  | x, .lst ys => if flatD 40 x ∧ flatD 40 (.lst ys) then some (ys.any fun y => eqD y x) else none
  | x, .tup ys => if flatD 40 x ∧ flatD 40 (.tup ys) then some (ys.any fun y => eqD y x) else none
  | x, .dic kvs => (keyOf x).map fun k => (look k kvs).isSome
  | .str [c], .str b => some (b.contains c)
  | _, _ => none
def isNonD : D → Bool
  | .non => true
  | _ => false
def cmpD : Cop → D → D → Option Bool
  | .eq, .str a, .str b => some (a == b)
  | .ne, .str a, .str b => some (!(a == b))
  | .eq, x, y => if flatD 40 x ∧ flatD 40 y then some (eqD x y) else none
  | .ne, x, y => if flatD 40 x ∧ flatD 40 y then some (!eqD x y) else none
  | .lt, .int a, .int b => some (decide (a < b))
  | .le, .int a, .int b => some (decide (a ≤ b))
  | .gt, .int a, .int b => some (decide (b < a))
  | .ge, .int a, .int b => some (decide (b ≤ a))
  | .lt, .str a, .str b => some (ltS a b)
  | .isN, x, .non => some (isNonD x)
  | .notN, x, .non => some (!isNonD x)
  | .isN, .bl a, .bl b => some (decide (a = b))
  | .notN, .bl a, .bl b => some (!decide (a = b))
  | .isin, x, y => inD x y
  | .notin, x, y => (inD x y).map (! ·)
  | _, _, _ => none
def truD : D → Option Bool
  | .non => some false
  | .bl b => some b
  | .int i => some (i != 0)
  | .str s => if s.length ≤ lim then some (!s.isEmpty) else none
  | .tup s => some (!s.isEmpty)
  | .lst s => some (!s.isEmpty)
  | .dic _ => none
def ixD : D → D → Option D
  | .lst xs, .int i => atI xs i
  | .tup xs, .int i => atI xs i
  | .str s, .int i => if s.length ≤ lim then (atI s i).map fun c => .str [c] else none
  | .dic kvs, k => (keyOf k).bind (look · kvs)
  | _, _ => none
def ixRO (x y : D) : Option RO := (ixD x y).map RO.d
def cutG {α : Type} (xs : List α) (lo hi : Option Int) : List α :=
  (xs.drop (HT.sIx xs.length 0 lo)).take (HT.sIx xs.length xs.length hi - HT.sIx xs.length 0 lo)
def slD (x : D) (lo hi : Option Int) : Option RO :=
  match x with
  | .lst xs => some (.new (.lst (cutG xs lo hi)))
  | .tup xs => some (.d (.tup (cutG xs lo hi)))
  | .str s => if s.length ≤ lim then some (.d (.str (cutG s lo hi))) else none
  | _ => none
def revD : D → Option RO
  | .lst xs => some (.new (.lst xs.reverse))
  | .str s => if s.length ≤ lim then some (.d (.str s.reverse)) else none
  | _ => none
def negD : D → Option RO
  | .int i => some (.d (.int (-i)))
  | _ => none
def tyD : Ty → D → Bool
  | .int, .int _ => true
  | .int, .bl _ => true
  | .bool, .bl _ => true
  | .str, .str _ => true
  | .tuple, .tup _ => true
  | .list, .lst _ => true
  | .dict, .dic _ => true
  | _, _ => false
/-- a text of data -/
def natS (n : Nat) : List Nat := (Nat.repr n).toList.map Char.toNat
def intS (i : Int) : List Nat := (toString i).toList.map Char.toNat
mutual
def toPy : D → PyData
  | .non => .none
  | .bl b => .bool b
  | .int i => .int i
  | .str s => .str (mkS s)
  | .tup xs => .tuple (toPys xs)
  | .lst xs => .list (toPys xs)
  | .dic kvs => .dict (toPyk kvs)
def toPys : List D → List PyData
  | [] => []
  | x :: xs => toPy x :: toPys xs
def toPyk : List (DK × D) → List (PyData × PyData)
  | [] => []
  | (k, v) :: r => ((match k with | .i n => PyData.int n | .s l => PyData.str (mkS l)), toPy v) :: toPyk r
end
/-- stable insertion -/
def insBy {α : Type} (lt : α → α → Bool) (x : α) : List α → List α
  | [] => [x]
  | y :: r => if lt x y then x :: y :: r else y :: insBy lt x r
def sortBy {α : Type} (lt : α → α → Bool) : List α → List α
  | [] => []
  | x :: r => insBy lt x (sortBy lt r)
def sortL (xs : List D) : Option (List D) :=
  match asInts xs with
  | some ns => some ((sortBy (fun a b => decide (a ≤ b)) ns).map .int)
  | none => (asStrs xs).bind fun ss => if ss.length ≤ lim then some ((sortBy (fun a b => !ltS b a) ss).map .str) else none
/-- the pairs that dict() takes -/
def asPairs : List D → Option (List (DK × D))
  | [] => some []
  | .tup [k, v] :: r => (keyOf k).bind fun k => (asPairs r).map ((k, v) :: ·)
  | _ => none
def putAll (kvs : List (DK × D)) : List (DK × D) := kvs.foldl (fun acc p => put acc p.1 p.2) []
/-- the keys' texts -/
def keyStrs : List (DK × D) → Option (List (List Nat))
  | [] => some []
  | (.s l, _) :: r => (keyStrs r).map (l :: ·)
  | _ => none
def itemsOf : D → Option (List D)
  | .lst xs => some xs
  | .tup xs => some xs
  | .str s => some (s.map fun c => .str [c])
  | _ => none
/-- what a for walks -/
def walkOf : D → Option (List D)
  | .dic kvs => some (kvs.map fun p => p.1.toD)
  | x => itemsOf x
def maxL : Int → List Int → Int
  | m, [] => m
  | m, x :: r => maxL (if m < x then x else m) r
def minL : Int → List Int → Int
  | m, [] => m
  | m, x :: r => minL (if x < m then x else m) r
def minT : List Nat → List (List Nat) → List Nat
  | m, [] => m
  | m, x :: r => minT (if ltS x m then x else m) r
def bltD : Blt → List D → Option RO
  | .len, [.str s] => if s.length ≤ lim then some (.d (.int s.length)) else none
  | .len, [.lst s] => some (.d (.int s.length))
  | .len, [.tup s] => some (.d (.int s.length))
  | .len, [.dic s] => some (.d (.int s.length))
  | .abs, [.int i] => some (.d (.int (if i < 0 then -i else i)))
  | .max, [.int a, .int b] => some (.d (.int (if b > a then b else a)))
  | .min, [.int a, .int b] => some (.d (.int (if b < a then b else a)))
  | .max, [.lst xs] => (asInts xs).bind fun | [] => none | x :: r => some (.d (.int (maxL x r)))
  | .min, [.lst xs] => (asInts xs).bind fun | [] => none | x :: r => some (.d (.int (minL x r)))
  | .min, [.dic kvs] => (keyStrs kvs).bind fun | [] => none | x :: r => some (.d (.str (minT x r)))
  | .sum, [.lst xs] => (asInts xs).map fun ns => .d (.int ns.sum)
  | .all, [.lst xs] => (asBls xs).map fun bs => .d (.bl (bs.all id))
  | .any, [.lst xs] => (asBls xs).map fun bs => .d (.bl (bs.any id))
  | .int, [.int i] => some (.d (.int i))
  | .int, [.bl b] => some (.d (.int (b2i b)))
  | .list, [.lst xs] => some (.new (.lst xs))
  | .list, [.tup xs] => some (.new (.lst xs))
  | .list, [.dic kvs] => some (.new (.lst (kvs.map fun p => p.1.toD)))
  | .list, [.str s] => if s.length ≤ lim then some (.new (.lst (s.map fun c => .str [c]))) else none
  | .tuple, [.lst xs] => some (.d (.tup xs))
  | .tuple, [.tup xs] => some (.d (.tup xs))
  | .repr, [x] => if (toPy x).showable = true ∧ (toPy x).shown.length ≤ lim ∧ (toPy x).depth ≤ 40 then some (.d (.str (toPy x).shown.cps.toList)) else none
  | .sorted, [.lst xs] => (sortL xs).map fun ys => .new (.lst ys)
  | .sorted, [.dic kvs] => (keyStrs kvs).bind fun ks => if ks.length < 64 then some (.new (.lst ((sortBy (fun a b => !ltS b a) ks).map .str))) else none
  | .dict, [.lst ps] => if ps.length ≤ lim then (asPairs ps).map fun kvs => .new (.dic (putAll kvs)) else none
  | .str, [.int i] => if bits i < 1920 then some (.d (.str (intS i))) else none
  | _, _ => none
def joinL (sep : List Nat) : List (List Nat) → List Nat
  | [] => []
  | [x] => x
  | x :: y :: r => x ++ sep ++ joinL sep (y :: r)
def mthD : Mth → D → List D → Option RO
  | .join, .str s, [.lst xs] => (asStrs xs).bind fun ss => if (ss.map (·.length)).sum + ss.length * s.length ≤ lim then some (.d (.str (joinL s ss))) else none
  | .get, .dic kvs, [k, d] => (keyOf k).map fun k => .d ((look k kvs).getD d)
  | .get, .dic kvs, [k] => (keyOf k).map fun k => .d ((look k kvs).getD .non)
  | _, _, _ => none
/-- the first place of an equal one -/
def idxD : D → D → Option RO
  | .lst xs, y => if flatD 40 (.lst xs) ∧ flatD 40 y then (xs.findIdx? fun x => eqD x y).map fun j => .d (.int (j : Nat)) else none
  | _, _ => none
def isLst : Option D → Bool
  | some (.lst _) => true
  | _ => false
/-- what a changing method hands back, and leaves -/
def mutD : Mut1 → Ob → List D → Option (D × Ob)
  | .append, .lst xs, [x] => if xs.length < lim then some (.non, .lst (xs ++ [x])) else none
  | .extend, .lst xs, [.lst ys] => if xs.length + ys.length ≤ lim then some (.non, .lst (xs ++ ys)) else none
  | .extend, .lst xs, [.tup ys] => if xs.length + ys.length ≤ lim then some (.non, .lst (xs ++ ys)) else none
  | .pop, .lst xs, [] => (xs[xs.length - 1]?).map fun y => (y, .lst xs.dropLast)
  | .pop, .lst xs, [.int i] => (ixN xs.length i).bind fun k => xs[k]?.map fun y => (y, .lst (xs.eraseIdx k))
  | .clear, .lst _, [] => some (.non, .lst [])
  | _, _, _ => none
def setD : Ob → D → D → Option Ob
  | .lst xs, .int i, v => (ixN xs.length i).map fun k => .lst (xs.set k v)
  | .dic kvs, k, v => (keyOf k).bind fun k => if kvs.length < lim then some (.dic (put kvs k v)) else none
  | _, _, _ => none

/-! ### results -/
/-- an exception: its class (by number), its fields -/
structure Exn where
  cls : Nat
  fs : List (List Nat × D)
inductive Res (α : Type) where
  | ok (a : α) (env : Cells)
  | exc (x : Exn) (env : Cells)
  | bad
def Res.bind {α β : Type} (x : Res α) (f : α → Cells → Res β) : Res β :=
  match x with
  | .ok a env => f a env
  | .exc e env => .exc e env
  | .bad => .bad
def ofO {α : Type} (env : Cells) : Option α → Res α
  | some a => .ok a env
  | none => .bad
/-- to data: what a slot owns is owned no more -/
def frz (env : Cells) : R → Option (D × Cells)
  | .d x => some (x, env)
  | .new b => some (b.toD, env)
  | .own i => match env[i]? with
    | some (.o b) => some (b.toD, env.set i (.d b.toD))
    | some (.d x) => some (x, env)
    | _ => none
def frzs (env : Cells) : List R → Option (List D × Cells)
  | [] => some ([], env)
  | r :: rs => match frz env r with
    | some (x, env1) => match frzs env1 rs with
      | some (xs, env2) => some (x :: xs, env2)
      | none => none
    | none => none
def gets (env : Cells) : List R → Option (List D)
  | [] => some []
  | r :: rs => match r.get env with
    | some x => match gets env rs with
      | some xs => some (x :: xs)
      | none => none
    | none => none
/-- an argument: data, or what a slot owns, handed on to be changed -/
inductive Arg where
  | d (x : D) | io (b : Ob)
inductive FRes where
  | ok (r : RO) (ios : List Ob)
  | exc (x : Exn) (ios : List Ob)
  | bad
structure FE where
  modes : List Bool
  dvs : List D
  sem : List Arg → FRes
abbrev FT := List FE
/-- the arguments by the callee's modes: data, or the slots handed on -/
inductive PArg where
  | d (x : D) | io (i : Nat)
def preArgs (env : Cells) : List Bool → List R → Option (List PArg × Cells)
  | [], [] => some ([], env)
  | true :: ms, .own i :: rs => match preArgs env ms rs with
    | some (ps, e) => some (.io i :: ps, e)
    | none => none
  | false :: ms, r :: rs => match frz env r with
    | some (x, env1) => match preArgs env1 ms rs with
      | some (ps, e) => some (.d x :: ps, e)
      | none => none
    | none => none
  | _, _ => none
def ioIdx : List PArg → List Nat
  | [] => []
  | .d _ :: ps => ioIdx ps
  | .io i :: ps => i :: ioIdx ps
def toArgs (env : Cells) : List PArg → Option (List Arg)
  | [] => some []
  | .d x :: ps => match toArgs env ps with
    | some as => some (.d x :: as)
    | none => none
  | .io i :: ps => match obAt env i, toArgs env ps with
    | some b, some as => some (.io b :: as)
    | _, _ => none
def setObs (env : Cells) : List Nat → List Ob → Option Cells
  | [], [] => some env
  | i :: is, b :: bs => setObs (putOb env i b) is bs
  | _, _ => none
def callF (Γ : FT) (f : Nat) (rs : List R) (env : Cells) : Res R :=
  match Γ[f]? with
  | none => .bad
  | some e => match preArgs env e.modes (rs ++ (e.dvs.drop (e.dvs.length + rs.length - e.modes.length)).map .d) with
    | none => .bad
    | some (ps, env1) => if (ioIdx ps).Nodup then match toArgs env1 ps with
      | none => .bad
      | some as => match e.sem as with
        | .ok r ios => match setObs env1 (ioIdx ps) ios with
          | none => .bad
          | some env2 => .ok r.toR env2
        | .exc x ios => match setObs env1 (ioIdx ps) ios with
          | none => .bad
          | some env2 => .exc x env2
        | .bad => .bad
      else .bad
def cellOf : R → Cells → Option (Cell × Cells)
  | .d x, env => some (.d x, env)
  | .new b, env => some (.o b, env)
  | .own i, env => (frz env (.own i)).map fun p => (.d p.1, p.2)
mutual
/-- data stored to a target -/
def asgD : Tg → D → Cells → Option Cells
  | .nm i, x, env => match env[i]? with
    | some (.io _) => none
    | some _ => some (env.set i (.d x))
    | none => none
  | .tup ts, .tup xs, env => asgDs ts xs env
  | _, _, _ => none
def asgDs : List Tg → List D → Cells → Option Cells
  | [], [], env => some env
  | t :: ts, x :: xs, env => match asgD t x env with
    | some env1 => asgDs ts xs env1
    | none => none
  | _, _, _ => none
end
def asgR : Tg → R → Cells → Option Cells
  | .nm i, r, env => match cellOf r env with
    | some (c, env1) => match env1[i]? with
      | some (.io _) => none
      | some _ => some (env1.set i c)
      | none => none
    | none => none
  | .tup ts, r, env => match frz env r with
    | some (x, env1) => asgD (.tup ts) x env1
    | none => none
def isOb (env : Cells) (i : Nat) : Bool := (obAt env i).isSome
def wipeC (env : Cells) : List Nat → Cells
  | [] => env
  | v :: vs => (wipeC env vs).set v .none
/-- the block's own slots as they were before -/
def restC (env0 env : Cells) : List Nat → Cells
  | [] => env
  | v :: vs => (restC env0 env vs).set v (env0[v]?.getD .none)
/-- a comprehension's turns -/
def lcRun (wiped : List Nat) (t : Tg) (c : Cells → Res Bool) (el : Cells → Res R) : List D → List D → Cells → Res (List D)
  | [], acc, env => .ok acc env
  | x :: xs, acc, env => match asgD t x (wipeC env wiped) with
    | none => .bad
    | some env1 => (c env1).bind fun b env2 => if b then
        (el env2).bind fun r env3 => match frz env3 r with
          | none => .bad
          | some (y, env4) => if acc.length < lim ∧ wiped.any (isOb env4) = false then lcRun wiped t c el xs (acc ++ [y]) env4 else .bad
      else if wiped.any (isOb env2) = false then lcRun wiped t c el xs acc env2 else .bad
def dcRun (wiped : List Nat) (t : Tg) (c : Cells → Res Bool) (k el : Cells → Res R) : List D → List (DK × D) → Cells → Res (List (DK × D))
  | [], acc, env => .ok acc env
  | x :: xs, acc, env => match asgD t x (wipeC env wiped) with
    | none => .bad
    | some env1 => (c env1).bind fun b env2 => if b then
        (k env2).bind fun kr env3 => match kr with
          | .d kd => match keyOf kd with
            | some kk => (el env3).bind fun r env4 => match frz env4 r with
              | some (y, env5) => if acc.length < lim ∧ wiped.any (isOb env5) = false then dcRun wiped t c k el xs (put acc kk y) env5 else .bad
              | none => .bad
            | none => .bad
          | _ => .bad
      else if wiped.any (isOb env2) = false then dcRun wiped t c k el xs acc env2 else .bad
def rangeL (lo : Int) (n : Nat) (st : Int) : List D := (List.range n).map fun (i : Nat) => .int (lo + (i : Int) * st)
def rangeD : List D → Option (List D)
  | [.int n] => if n.natAbs ≤ lim then some (rangeL 0 n.toNat 1) else none
  | [.int a, .int b] => if a.natAbs ≤ lim ∧ b.natAbs ≤ lim then some (rangeL a (b - a).toNat 1) else none
  | [.int a, .int b, .int c] => if a.natAbs ≤ lim ∧ b.natAbs ≤ lim ∧ c = -1 then some (rangeL a (a - b).toNat (-1)) else none
  | _ => none
/-- lists of a range, of a dict's values, of its items -/
def rg1D : D → Option RO
  | .int n => if n.natAbs ≤ lim then some (.new (.lst (rangeL 0 n.toNat 1))) else none
  | _ => none
def rg2D : D → D → Option RO
  | .int a, .int b => if a.natAbs ≤ lim ∧ b.natAbs ≤ lim then some (.new (.lst (rangeL a (b - a).toNat 1))) else none
  | _, _ => none
def valsD : D → Option RO
  | .dic kvs => some (.new (.lst (kvs.map fun p => p.2)))
  | _ => none
def itsD : D → Option RO
  | .dic kvs => some (.new (.lst (kvs.map fun p => .tup [p.1.toD, p.2])))
  | _ => none
def enumL : Nat → List D → List D
  | _, [] => []
  | n, x :: xs => .tup [.int n, x] :: enumL (n + 1) xs
def zipL : List D → List D → List D
  | x :: xs, y :: ys => .tup [x, y] :: zipL xs ys
  | _, _ => []

/-- an expression as a value, as a test -/
structure E2 where
  v : Cells → Res R
  t : Cells → Res Bool
/-- the test is the value's truth -/
def E2.of (f : Cells → Res R) : E2 := ⟨f, fun env => (f env).bind fun x env1 => match x.get env1 with
  | some d => ofO env1 (truD d)
  | none => .bad⟩
def doVar (i : Nat) (env : Cells) : Res R :=
  match env[i]? with
  | some (.d x) => .ok (.d x) env
  | some (.o _) => .ok (.own i) env
  | some (.io _) => .ok (.own i) env
  | _ => .bad
/-- two values into one -/
def do2 (f : D → D → Option R) (a b : Cells → Res R) (env : Cells) : Res R :=
  (a env).bind fun x env1 => (b env1).bind fun y env2 => match x.get env2, y.get env2 with
    | some dx, some dy => ofO env2 (f dx dy)
    | _, _ => .bad
def do1 (f : D → Option R) (a : Cells → Res R) (env : Cells) : Res R :=
  (a env).bind fun x env1 => match x.get env1 with
    | some dx => ofO env1 (f dx)
    | none => .bad
def doChain (op op' : Cop) (a b c : Cells → Res R) (env : Cells) : Res R :=
  (a env).bind fun x env1 => (b env1).bind fun y env2 => match x.get env2, y.get env2 with
    | some dx, some dy => match cmpD op dx dy with
      | some true => (c env2).bind fun z env3 => match y.get env3, z.get env3 with
        | some dy', some dz => ofO env3 ((cmpD op' dy' dz).map fun b => .d (.bl b))
        | _, _ => .bad
      | some false => .ok (.d (.bl false)) env2
      | none => .bad
    | _, _ => .bad
def doAnd (a b : Cells → Res R) (env : Cells) : Res R :=
  (a env).bind fun x env1 => match x with
    | .d (.bl true) => b env1
    | .d (.bl false) => .ok (.d (.bl false)) env1
    | _ => .bad
def doOr (a b : Cells → Res R) (env : Cells) : Res R :=
  (a env).bind fun x env1 => match x with
    | .d (.bl true) => .ok (.d (.bl true)) env1
    | .d (.bl false) => b env1
    | _ => .bad
def doNot (a : Cells → Res R) (env : Cells) : Res R :=
  (a env).bind fun x env1 => match x with
    | .d (.bl b) => .ok (.d (.bl (!b))) env1
    | _ => .bad
def toAnd (a b : Cells → Res Bool) (env : Cells) : Res Bool := (a env).bind fun x env1 => if x then b env1 else .ok false env1
def toOr (a b : Cells → Res Bool) (env : Cells) : Res Bool := (a env).bind fun x env1 => if x then .ok true env1 else b env1
def toNot (a : Cells → Res Bool) (env : Cells) : Res Bool := (a env).bind fun x env1 => .ok (!x) env1
def doIte (c : Cells → Res Bool) (a b : Cells → Res R) (env : Cells) : Res R := (c env).bind fun t env1 => if t then a env1 else b env1
def doSeq (f : List D → R) (es : Cells → Res (List R)) (env : Cells) : Res R :=
  (es env).bind fun rs env1 => match frzs env1 rs with
    | some (xs, env2) => if xs.length ≤ lim then .ok (f xs) env2 else .bad
    | none => .bad
def doDisp (ks : Cells → Res (List (DK × D))) (env : Cells) : Res R :=
  (ks env).bind fun kvs env1 => .ok (.new (.dic (kvs.foldl (fun acc p => put acc p.1 p.2) []))) env1
def doCall (Γ : FT) (f : Nat) (es : Cells → Res (List R)) (env : Cells) : Res R := (es env).bind fun rs env1 => callF Γ f rs env1
def doBlt (b : Blt) (es : Cells → Res (List R)) (env : Cells) : Res R :=
  (es env).bind fun rs env1 => match gets env1 rs with
    | some xs => ofO env1 ((bltD b xs).map RO.toR)
    | none => .bad
def doMth (m : Mth) (o : Cells → Res R) (es : Cells → Res (List R)) (env : Cells) : Res R :=
  (o env).bind fun x env1 => (es env1).bind fun rs env2 => match x.get env2, gets env2 rs with
    | some d, some xs => ofO env2 ((mthD m d xs).map RO.toR)
    | _, _ => .bad
def isL (env : Cells) (i : Nat) : Bool := match obAt env i with
  | some (.lst _) => true
  | _ => false
def doMut (m : Mut1) (i : Nat) (es : Cells → Res (List R)) (env : Cells) : Res R :=
  if isL env i then (es env).bind fun rs env1 => match frzs env1 rs with
    | some (xs, env2) => match obAt env2 i with
      | some b => match mutD m b xs with
        | some (y, b') => .ok (.d y) (putOb env2 i b')
        | none => .bad
      | none => .bad
    | none => .bad
  else .bad
def doSl (a : Cells → Res R) (lo hi : Cells → Res (Option Int)) (env : Cells) : Res R :=
  (a env).bind fun x env1 => (lo env1).bind fun l env2 => (hi env2).bind fun h env3 => match x.get env3 with
    | some dx => ofO env3 ((slD dx l h).map RO.toR)
    | none => .bad
def doCol (it : Cells → Res (List D)) (env : Cells) : Res R :=
  (it env).bind fun xs env1 => if xs.length ≤ lim then .ok (.new (.lst xs)) env1 else .bad
def doLc (el : Cells → Res R) (t : Tg) (it : Cells → Res (List D)) (c : Cells → Res Bool) (own : List Nat) (env : Cells) : Res R :=
  (it env).bind fun xs env1 => if own.any (isOb env1) then .bad else (lcRun own t c el xs [] env1).bind fun ys env2 => .ok (.new (.lst ys)) (restC env1 env2 own)
/-- a list, or nothing -/
def chkL (o : Cells → Res R) (env : Cells) : Res R := (o env).bind fun x env1 => if isLst (x.get env1) then .ok x env1 else .bad
def doDc (k v : Cells → Res R) (t : Tg) (it : Cells → Res (List D)) (c : Cells → Res Bool) (own : List Nat) (env : Cells) : Res R :=
  (it env).bind fun xs env1 => if own.any (isOb env1) then .bad else (dcRun own t c k v xs [] env1).bind fun ys env2 => .ok (.new (.dic ys)) (restC env1 env2 own)
def doInt (f : Cells → Res R) (env : Cells) : Res (Option Int) :=
  (f env).bind fun x env1 => match x.get env1 with
    | some (.int i) => .ok (some i) env1
    | _ => .bad
/-- a thing that is walked, its items by f -/
def doIt1 (f : D → Option (List D)) (a : Cells → Res R) (env : Cells) : Res (List D) :=
  (a env).bind fun x env1 => match frz env1 x with
    | some (d, env2) => ofO env2 (f d)
    | none => .bad
/-- a list comprehension over what slot i holds: an owned list is put aside for the walk, and stays owned -/
def doLck (el : Cells → Res R) (t : Tg) (i : Nat) (c : Cells → Res Bool) (own : List Nat) (env : Cells) : Res R :=
  match env[i]? with
  | some (.o (.lst ds)) => if own.contains i || own.any (isOb env) then .bad else
      (lcRun own t c el ds [] (env.set i .none)).bind fun ys env2 => .ok (.new (.lst ys)) ((restC (env.set i .none) env2 own).set i (.o (.lst ds)))
  | _ => doLc el t (doIt1 walkOf (doVar i)) c own env
/-- things that are walked together -/
def doItN (f : List D → Option (List D)) (es : Cells → Res (List R)) (env : Cells) : Res (List D) :=
  (es env).bind fun rs env1 => match frzs env1 rs with
    | some (xs, env2) => ofO env2 (f xs)
    | none => .bad
def enumD : List D → Option (List D)
  | [x] => (itemsOf x).map (enumL 0)
  | _ => none
def zipD : List D → Option (List D)
  | [x, y] => (itemsOf x).bind fun xs => (itemsOf y).map fun ys => zipL xs ys
  | _ => none
def zipD2 : List D → Option (List D)
  | [.lst xs, .lst ys] => some (zipL xs ys)
  | _ => none
def doRange (es : Cells → Res (List R)) (env : Cells) : Res (List D) :=
  (es env).bind fun rs env1 => match gets env1 rs with
    | some xs => ofO env1 (rangeD xs)
    | none => .bad
def itemsL : D → Option (List D)
  | .dic kvs => some (kvs.map fun p => .tup [p.1.toD, p.2])
  | _ => none
def valuesL : D → Option (List D)
  | .dic kvs => some (kvs.map fun p => p.2)
  | _ => none

mutual
def ev (Γ : FT) : CE → E2
  | .var i => .of (doVar i)
  | .cst x => .of fun env => .ok (.d x) env
  | .bin op a b => .of (do2 (fun x y => (binD op x y).map RO.toR) (ev Γ a).v (ev Γ b).v)
  | .neg a => .of (do1 (fun x => (negD x).map RO.toR) (ev Γ a).v)
  | .not a => ⟨doNot (ev Γ a).v, toNot (ev Γ a).t⟩
  | .cmp op a b => .of (do2 (fun x y => (cmpD op x y).map fun b => .d (.bl b)) (ev Γ a).v (ev Γ b).v)
  | .chain op op' a b c => .of (doChain op op' (ev Γ a).v (ev Γ b).v (ev Γ c).v)
  | .and a b => ⟨doAnd (ev Γ a).v (ev Γ b).v, toAnd (ev Γ a).t (ev Γ b).t⟩
  | .or a b => ⟨doOr (ev Γ a).v (ev Γ b).v, toOr (ev Γ a).t (ev Γ b).t⟩
  | .ite c a b => .of (doIte (ev Γ c).t (ev Γ a).v (ev Γ b).v)
  | .tup es => .of (doSeq (fun xs => .d (.tup xs)) (evEs Γ es))
  | .lst es => .of (doSeq (fun xs => .new (.lst xs)) (evEs Γ es))
  | .disp ks => .of (doDisp (evKs Γ ks))
  | .call f es => .of (doCall Γ f (evEs Γ es))
  | .blt b es => .of (doBlt b (evEs Γ es))
  | .isinst a t => .of (do1 (fun d => (some (RO.d (.bl (tyD t d)))).map RO.toR) (ev Γ a).v)
  | .mth m o es => .of (doMth m (ev Γ o).v (evEs Γ es))
  | .mut m i es => .of (doMut m i (evEs Γ es))
  | .ix a i => .of (do2 (fun x y => (ixRO x y).map RO.toR) (ev Γ a).v (ev Γ i).v)
  | .sl a lo hi => .of (doSl (ev Γ a).v (evO Γ lo) (evO Γ hi))
  | .rev a => .of (do1 (fun x => (revD x).map RO.toR) (ev Γ a).v)
  | .idx a b => .of (do2 (fun x y => (idxD x y).map RO.toR) (chkL (ev Γ a).v) (ev Γ b).v)
  | .col es => .of (doCol (doItN zipD2 (evEs Γ es)))
  | .lc el t it c own => .of (doLc (ev Γ el).v t (evI Γ it) (evC Γ c) own)
  | .lc2 _ _ _ _ _ _ _ => .of fun _ => .bad
  | .lrg1 a => .of (do1 (fun x => (rg1D x).map RO.toR) (ev Γ a).v)
  | .lrg2 a b => .of (do2 (fun x y => (rg2D x y).map RO.toR) (ev Γ a).v (ev Γ b).v)
  | .lvs a => .of (do1 (fun x => (valsD x).map RO.toR) (ev Γ a).v)
  | .lit a => .of (do1 (fun x => (itsD x).map RO.toR) (ev Γ a).v)
  | .lck el t i c own => .of (doLck (ev Γ el).v t i (ev Γ c).t own)
  | .dc k v t it c own => .of (doDc (ev Γ k).v (ev Γ v).v t (evI Γ it) (evC Γ c) own)
def evEs (Γ : FT) : List CE → Cells → Res (List R)
  | [], env => .ok [] env
  | e :: es, env => ((ev Γ e).v env).bind fun r env1 => (evEs Γ es env1).bind fun rs env2 => .ok (r :: rs) env2
def evKs (Γ : FT) : List (DK × CE) → Cells → Res (List (DK × D))
  | [], env => .ok [] env
  | (k, e) :: ks, env => ((ev Γ e).v env).bind fun r env1 => match frz env1 r with
      | some (x, env2) => (evKs Γ ks env2).bind fun xs env3 => .ok ((k, x) :: xs) env3
      | none => .bad
def evO (Γ : FT) : Option CE → Cells → Res (Option Int)
  | none, env => .ok none env
  | some e, env => doInt (ev Γ e).v env
def evC (Γ : FT) : Option CE → Cells → Res Bool
  | none, env => .ok true env
  | some e, env => (ev Γ e).t env
def evI (Γ : FT) : It → Cells → Res (List D)
  | .e a, env => doIt1 walkOf (ev Γ a).v env
  | .range es, env => doRange (evEs Γ es) env
  | .enum es, env => doItN enumD (evEs Γ es) env
  | .zip es, env => doItN zipD (evEs Γ es) env
  | .items a, env => doIt1 itemsL (ev Γ a).v env
  | .values a, env => doIt1 valuesL (ev Γ a).v env
end
abbrev evE (Γ : FT) (e : CE) (env : Cells) : Res R := (ev Γ e).v env
abbrev evT (Γ : FT) (e : CE) (env : Cells) : Res Bool := (ev Γ e).t env

inductive Fl where
  | next | brk | cnt | ret (r : R)
def asgRs : List Tg → List R → Cells → Option Cells
  | [], [], env => some env
  | t :: ts, r :: rs, env => match asgR t r env with
    | some env1 => asgRs ts rs env1
    | none => none
  | _, _, _ => none
/-- the turns of a for -/
def forRun (t : Tg) (body : Cells → Res Fl) : List D → Cells → Res Fl
  | [], env => .ok .next env
  | x :: xs, env => match asgD t x env with
    | none => .bad
    | some env1 => (body env1).bind fun f env2 => match f with
      | .next => forRun t body xs env2
      | .cnt => forRun t body xs env2
      | .brk => .ok .next env2
      | .ret r => .ok (.ret r) env2
/-- the turns of a while, at most so many -/
def whlRun (c : Cells → Res Bool) (body : Cells → Res Fl) : Nat → Cells → Res Fl
  | 0, _ => .bad
  | n + 1, env => (c env).bind fun b env1 => if b then
      (body env1).bind fun f env2 => match f with
        | .next => whlRun c body n env2
        | .cnt => whlRun c body n env2
        | .brk => .ok .next env2
        | .ret r => .ok (.ret r) env2
    else .ok .next env1
def fuel : Nat := 10 ^ 2000
def augD : Bop → Int → Int → Option Int
  | .add, x, y => some (x + y)
  | .sub, x, y => some (x - y)
  | _, _, _ => none
def doAug (i : Nat) (op : Bop) (f : Cells → Res R) (env : Cells) : Res Fl :=
  match env[i]? with
  | some (.d (.int x)) => (f env).bind fun r env1 => match r.get env1 with
    | some (.int y) => match augD op x y with
      | some z => match asgD (.nm i) (.int z) env1 with
        | some env2 => .ok .next env2
        | none => .bad
      | none => .bad
    | _ => .bad
  | _ => .bad
/-- to be dropped from the locals: nothing that a list of R would alias -/
def noOwn : List R → Bool
  | [] => true
  | .own _ :: _ => false
  | _ :: rs => noOwn rs
mutual
def evS (Γ : FT) : CS → Cells → Res Fl
  | .asg t e, env => (evE Γ e env).bind fun r env1 => match asgR t r env1 with
      | some env2 => .ok .next env2
      | none => .bad
  | .par ts es, env => (evEs Γ es env).bind fun rs env1 => if noOwn rs then
      (match asgRs ts rs env1 with
        | some env2 => .ok .next env2
        | none => .bad)
      else (match frzs env1 rs with
        | some (xs, env2) => match asgDs ts xs env2 with
          | some env3 => .ok .next env3
          | none => .bad
        | none => .bad)
  | .aug i op e, env => doAug i op (evE Γ e) env
  | .set i j e, env => (evE Γ e env).bind fun r env1 => match frz env1 r with
      | none => .bad
      | some (v, env2) => if (obAt env2 i).isSome then (evE Γ j env2).bind fun k env3 => match k.get env3, obAt env3 i with
        | some dk, some b => match setD b dk v with
          | some b' => .ok .next (putOb env3 i b')
          | none => .bad
        | _, _ => .bad
        else .bad
  | .augix _ _ _ _, _ => .bad
  | .expr e, env => (evE Γ e env).bind fun _ env1 => .ok .next env1
  | .ifs c a b, env => (evT Γ c env).bind fun t env1 => if t then evSs Γ a env1 else evSs Γ b env1
  | .fors t it body, env => (evI Γ it env).bind fun xs env1 => forRun t (evSs Γ body) xs env1
  | .whl c body, env => whlRun (evT Γ c) (evSs Γ body) fuel env
  | .ret e, env => (evE Γ e env).bind fun r env1 => .ok (.ret r) env1
  | .retN, env => .ok (.ret (.d .non)) env
  | .brk, env => .ok .brk env
  | .cnt, env => .ok .cnt env
  | .pas, env => .ok .next env
  | .never, _ => .bad
def evSs (Γ : FT) : List CS → Cells → Res Fl
  | [], env => .ok .next env
  | s :: ss, env => (evS Γ s env).bind fun f env1 => match f with
      | .next => evSs Γ ss env1
      | f => .ok f env1
end
/-! ### defs -/
def argCell : Arg → Cell
  | .d x => .d x
  | .io b => .io b
def ioOf (env : Cells) : List Arg → Nat → Option (List Ob)
  | [], _ => some []
  | .d _ :: as, i => ioOf env as (i + 1)
  | .io _ :: as, i => match env[i]? with
    | some (.io b) => (ioOf env as (i + 1)).map (b :: ·)
    | _ => none
/-- a def's meaning: n slots, the parameters first -/
def runF (Γ : FT) (n : Nat) (body : List CS) (as : List Arg) : FRes :=
  match evSs Γ body (as.map argCell ++ List.replicate (n - as.length) .none) with
  | .ok fl env =>
    let r : Option R := match fl with | .next => some (.d .non) | .ret r => some r | _ => none
    (match r with
    | none => .bad
    | some r =>
      -- what is handed back: data, or the object that a slot of ours (no parameter) owns
      let out : Option (RO × Cells) := match r with
        | .d x => some (.d x, env)
        | .new b => some (.new b, env)
        | .own i => match env[i]? with
          | some (.o b) => some (.new b, env)
          | some (.d x) => some (.d x, env)
          | _ => none
      match out with
      | none => .bad
      | some (o, env) => match ioOf env as 0 with
        | some ios => .ok o ios
        | none => .bad)
  | .exc x env => match ioOf env as 0 with
    | some ios => .exc x ios
    | none => .bad
  | .bad => .bad
end Fx

set_option Elab.async false
set_option linter.all false
set_option maxRecDepth 100000
/-! Fx3: readings by the evaluator, and how they lie in the hand layer's readings. -/
namespace Fx
open L2 PyProof.Rows PySem PySem.Spec

section
variable {K : PySem.W.Frag} {O : Addr → Prop} {env env1 env2 env' : Cells} {σ σ1 σ2 σ' : L2.St} {H H0 H1 H2 H' : Hp}

theorem toD_view {A : RdA} {b : Ob} {p : Addr} (h : ObR K A H b p) : View K A H b.toD (.ref p) := by
  cases b with
  | lst ds => obtain ⟨xs, e, r⟩ := h; exact ⟨p, xs, rfl, .inl (.inl e), r⟩
  | dic kvs => obtain ⟨ys, e, r⟩ := h; exact ⟨p, ys, rfl, .inl e, r⟩
theorem toD_rp {A : RdA} {b : Ob} {p : Addr} (h : ObR K A H b p) (ha : ∀ u, H p = some u → A p u) : Rp K A b.toD (.ref p) := by
  cases b with
  | lst ds => obtain ⟨xs, e, r⟩ := h; simp only [Ob.toD, Rp]; exact ⟨p, xs, rfl, .inl (ha _ e), r⟩
  | dic kvs => obtain ⟨ys, e, r⟩ := h; simp only [Ob.toD, Rp]; exact ⟨p, ys, rfl, ha _ e, r⟩
theorem ObR.step {N : Addr → Prop} (s : Step env σ H env1 σ1 H1) (hN : ∀ a, N a → H a = none) {b : Ob} {p : Addr} (n : ¬ Ow env σ p) (h : ObR K (Av O env σ H) H b p) :
    ObR K (Av (un O N) env1 σ1 H1) H1 b p := by
  obtain ⟨o, ho, _⟩ := h.some
  exact h.mono (s.avN hN) ((s.kp p o ho n).trans ho.symm)
theorem RR.step {N : Addr → Prop} {r : R} {v : V} (rel : Rel K O env σ H1) (s : Step env σ H1 env1 σ H2) (hN : ∀ a, N a → H1 a = none) (hn : ∀ a, nw r v a → O a)
    (h : RR K O env σ H H1 r v) : RR K (un O N) env1 σ H H2 r v := by
  cases r with
  | d x => exact Rp.mono (s.avN hN) _ _ h
  | own i => exact h
  | new b =>
    obtain ⟨p, e, h0, ho⟩ := h
    exact ⟨p, e, h0, ho.step s hN (rel.hid p (hn p e)).2⟩
theorem RR.less {O' : Addr → Prop} (hO : ∀ a, O' a → O a) {r : R} {v : V} (h : RR K O env σ H H1 r v) : RR K O' env σ H H1 r v := by
  cases r with
  | d x => exact Rp.mono (av_anti hO) _ _ h
  | own i => exact h
  | new b =>
    obtain ⟨p, e, h0, ho⟩ := h
    exact ⟨p, e, h0, ho.mono (av_anti hO) rfl⟩
theorem RR.back (hb : ∀ p, H1 p = none → H p = none) {r : R} {v : V} (h : RR K O env σ H1 H2 r v) : RR K O env σ H H2 r v := by
  cases r with
  | d x => exact h
  | own i => exact h
  | new b =>
    obtain ⟨p, e, hn, ho⟩ := h
    exact ⟨p, e, hb p hn, ho⟩
theorem RR.fresh {r : R} {v : V} (h : RR K O env σ H1 H2 r v) (a : Addr) (n : nw r v a) : H1 a = none := by
  cases r with
  | d x => exact n.elim
  | own i => exact n.elim
  | new b =>
    obtain ⟨p, e, hn, ho⟩ := h
    rw [show v = .ref a from n] at e
    cases e
    exact hn
theorem Step.back (s : Step env σ H env1 σ1 H1) {p : Addr} (h : H1 p = none) : H p = none := by
  cases e : H p with
  | none => rfl
  | some o => exact absurd h (s.th p (by rw [e]; simp))
theorem Rel.hidT (rel : Rel K O env σ H) {a : Addr} (h : O a) : H a ≠ none := by
  obtain ⟨⟨o, e, _⟩, _⟩ := rel.hid a h
  rw [e]; simp
/-- a value looked at -/
theorem RR.view (rel : Rel K O env σ H) {r : R} {v : V} {d : D} (h : RR K O env σ H0 H r v) (g : r.get env = some d) : View K (Av O env σ H) H d v := by
  cases r with
  | d x => cases g; exact Rp.view (fun _ _ => av_rd) h
  | own i =>
    have hv : σ[i]? = some (some v) := h
    simp only [R.get] at g
    cases e : env[i]? with
    | none => rw [e] at g; cases g
    | some c =>
      rw [e] at g
      cases c with
      | none => cases g
      | d x =>
        cases g
        obtain ⟨w, e1, q⟩ := rel.at_ i _ e
        rw [hv] at e1
        cases e1
        exact Rp.view (fun _ _ => av_rd) q
      | o b =>
        cases g
        obtain ⟨p, e1, q⟩ := rel.ob (obAt_o e)
        rw [hv] at e1
        cases e1
        exact toD_view q
      | io b =>
        cases g
        obtain ⟨p, e1, q⟩ := rel.ob (obAt_io e)
        rw [hv] at e1
        cases e1
        exact toD_view q
  | new b =>
    cases g
    obtain ⟨p, rfl, _, q⟩ := h
    exact toD_view q

/-! ### giving up an owned object -/
theorem obAt_set_d {i j : Nat} {x : D} : obAt (env.set i (.d x)) j = if i = j then none else obAt env j := by
  unfold obAt
  by_cases h : i = j
  · subst h
    rw [if_pos rfl]
    by_cases hl : i < env.length
    · rw [List.getElem?_set_self hl]; rfl
    · rw [List.getElem?_eq_none (by simpa using hl)]; rfl
  · rw [if_neg h, List.getElem?_set_ne h]
theorem ow_set_d {i : Nat} {x : D} {a : Addr} (h : Ow (env.set i (.d x)) σ a) : Ow env σ a := by
  obtain ⟨j, b, e, e2⟩ := h
  rw [obAt_set_d] at e
  split at e
  · cases e
  · exact ⟨j, b, e, e2⟩
theorem frz_own (rel : Rel K O env σ H) {i : Nat} {b : Ob} {v : V} (e : env[i]? = some (.o b)) (hv : σ[i]? = some (some v)) :
    Rel K O (env.set i (.d b.toD)) σ H ∧ Step env σ H (env.set i (.d b.toD)) σ H ∧ Rp K (Av O (env.set i (.d b.toD)) σ H) b.toD v := by
  have st : Step env σ H (env.set i (.d b.toD)) σ H := by
    refine ⟨fun _ _ h _ => h, fun a _ n o => n (ow_set_d o), fun _ h => h, fun j b' h => ⟨rfl, b', ?_⟩⟩
    have hj : i ≠ j := fun z => by subst z; rw [e] at h; cases h
    rw [List.getElem?_set_ne hj]
    exact h
  obtain ⟨p, e1, q⟩ := rel.ob (obAt_o e)
  rw [hv] at e1
  cases e1
  have hl : i < env.length := (List.getElem?_eq_some_iff.mp e).1
  have nop : ¬ Ow (env.set i (.d b.toD)) σ p := by
    rintro ⟨j, b', h1, h2⟩
    rw [obAt_set_d] at h1
    split at h1
    · cases h1
    · rename_i hj
      exact hj (rel.inj i j b b' p (obAt_o e) h1 hv h2)
  have noO : ¬ O p := fun z => (rel.hid p z).2 ⟨i, b, obAt_o e, hv⟩
  have q' : ObR K (Av O (env.set i (.d b.toD)) σ H) H b p := q.mono st.av rfl
  have hr : Rp K (Av O (env.set i (.d b.toD)) σ H) b.toD (.ref p) := toD_rp q' fun u hu => ⟨nop, noO, .inl hu⟩
  refine ⟨⟨by rw [List.length_set]; exact rel.len, fun j c h => ?_, fun j k b1 b2 pp h1 h2 h3 h4 => ?_, fun a z => ⟨(rel.hid a z).1, fun o => (rel.hid a z).2 (ow_set_d o)⟩⟩, st, hr⟩
  · by_cases hj : i = j
    · subst hj
      rw [List.getElem?_set_self hl] at h
      cases h
      exact ⟨_, hv, hr⟩
    · rw [List.getElem?_set_ne hj] at h
      have z := rel.at_ j c h
      cases c with
      | none => trivial
      | d x => obtain ⟨w, e1, r⟩ := z; exact ⟨w, e1, st.rp r⟩
      | o b' => obtain ⟨w, e1, r⟩ := z; exact ⟨w, e1, r.mono st.av rfl⟩
      | io b' => obtain ⟨w, e1, r⟩ := z; exact ⟨w, e1, r.mono st.av rfl⟩
  · rw [obAt_set_d] at h1 h2
    split at h1
    · cases h1
    · split at h2
      · cases h2
      · exact rel.inj j k b1 b2 pp h1 h2 h3 h4
theorem frz_ok {r : R} {v : V} {d : D} (rel : Rel K (un O (nw r v)) env σ H) (hs : ∀ a, nw r v a → ¬ O a) (h : RR K (un O (nw r v)) env σ H0 H r v)
    (g : frz env r = some (d, env1)) : Rel K O env1 σ H ∧ Step env σ H env1 σ H ∧ Rp K (Av O env1 σ H) d v := by
  have relO := rel.less (O' := O) fun a z => .inl z
  cases r with
  | d x => cases g; exact ⟨relO, Step.refl, Rp.mono (av_anti fun a z => .inl z) _ _ h⟩
  | new b =>
    cases g
    obtain ⟨p, rfl, _, q⟩ := h
    exact ⟨relO, Step.refl, toD_rp (q.mono (av_anti fun a z => .inl z) rfl) fun u hu => ⟨(rel.hid p (.inr rfl)).2, hs p rfl, .inl hu⟩⟩
  | own i =>
    have hv : σ[i]? = some (some v) := h
    simp only [frz] at g
    cases e : env[i]? with
    | none => rw [e] at g; cases g
    | some c =>
      rw [e] at g
      cases c with
      | none => cases g
      | io b => cases g
      | d x =>
        cases g
        obtain ⟨w, e1, q⟩ := relO.at_ i _ e
        rw [hv] at e1
        cases e1
        exact ⟨relO, Step.refl, q⟩
      | o b => cases g; exact frz_own relO e hv

/-! ### lists of values -/
/-- the new objects stand apart -/
def Apart : List R → List V → Prop
  | r :: rs, v :: vs => (∀ a, nw r v a → ¬ nws rs vs a) ∧ Apart rs vs
  | _, _ => True
def RRs (K : PySem.W.Frag) (O : Addr → Prop) (env : Cells) (σ : L2.St) (H H' : Hp) : List R → List V → Prop
  | [], vs => vs = []
  | r :: rs, vs => ∃ x xs, vs = x :: xs ∧ RR K O env σ H H' r x ∧ RRs K O env σ H H' rs xs
theorem RRs.step {N : Addr → Prop} (rel : Rel K O env σ H1) (s : Step env σ H1 env1 σ H2) (hN : ∀ a, N a → H1 a = none) :
    ∀ {rs : List R} {vs : List V}, (∀ a, nws rs vs a → O a) → RRs K O env σ H H1 rs vs → RRs K (un O N) env1 σ H H2 rs vs
  | [], _, _, h => h
  | r :: rs, _, hn, ⟨x, xs, e, h, t⟩ => by
    subst e
    exact ⟨x, xs, rfl, h.step rel s hN fun a z => hn a (.inl z), RRs.step rel s hN (fun a z => hn a (.inr z)) t⟩
theorem RRs.less {O' : Addr → Prop} (hO : ∀ a, O' a → O a) : ∀ {rs : List R} {vs : List V}, RRs K O env σ H H1 rs vs → RRs K O' env σ H H1 rs vs
  | [], _, h => h
  | r :: rs, _, ⟨x, xs, e, h, t⟩ => ⟨x, xs, e, h.less hO, RRs.less hO t⟩
theorem RRs.back (hb : ∀ p, H1 p = none → H p = none) : ∀ {rs : List R} {vs : List V}, RRs K O env σ H1 H2 rs vs → RRs K O env σ H H2 rs vs
  | [], _, h => h
  | r :: rs, _, ⟨x, xs, e, h, t⟩ => ⟨x, xs, e, h.back hb, RRs.back hb t⟩
theorem RRs.fresh : ∀ {rs : List R} {vs : List V}, RRs K O env σ H1 H2 rs vs → ∀ a, nws rs vs a → H1 a = none
  | [], _, h, a, n => n.elim
  | r :: rs, _, ⟨x, xs, e, h, t⟩, a, n => by
    subst e
    exact Or.elim n (h.fresh a) (RRs.fresh t a)
theorem RRs.length : ∀ {rs : List R} {vs : List V}, RRs K O env σ H1 H2 rs vs → vs.length = rs.length
  | [], _, h => by simp only [RRs] at h; subst h; rfl
  | r :: rs, _, ⟨x, xs, e, h, t⟩ => by subst e; simp [RRs.length t]
theorem RRs.views (rel : Rel K O env σ H) : ∀ {rs : List R} {vs : List V} {ds : List D}, RRs K O env σ H0 H rs vs → gets env rs = some ds → ViewL K (Av O env σ H) H ds vs
  | [], _, ds, h, g => by cases g; exact h
  | r :: rs, _, ds, ⟨x, xs, e, h, t⟩, g => by
    unfold gets at g
    cases e1 : r.get env with
    | none => rw [e1] at g; cases g
    | some d =>
      rw [e1] at g
      cases e2 : gets env rs with
      | none => rw [e2] at g; cases g
      | some ds' =>
        rw [e2] at g
        cases g
        exact ⟨x, xs, e, h.view rel e1, RRs.views rel t e2⟩
theorem un_cons {r : R} {rs : List R} {v : V} {vs : List V} : un O (nws (r :: rs) (v :: vs)) = un (un O (nws rs vs)) (nw r v) := by
  funext a
  exact propext ⟨fun z => z.elim (fun z => .inl (.inl z)) fun z => z.elim .inr fun z => .inl (.inr z),
    fun z => z.elim (fun z => z.elim .inl fun z => .inr (.inr z)) fun z => .inr (.inl z)⟩
theorem un_cons' {r : R} {rs : List R} {v : V} {vs : List V} : un O (nws (r :: rs) (v :: vs)) = un (un O (nw r v)) (nws rs vs) := by
  funext a
  exact propext ⟨fun z => z.elim (fun z => .inl (.inl z)) fun z => z.elim (fun z => .inl (.inr z)) .inr,
    fun z => z.elim (fun z => z.elim .inl fun z => .inr (.inl z)) fun z => .inr (.inr z)⟩
theorem un_nil {v : List V} : un O (nws [] v) = O := by
  funext a
  exact propext ⟨fun z => z.elim id fun z => z.elim, .inl⟩
theorem frzs_ok : ∀ {rs : List R} {vs : List V} {ds : List D} {env env1 : Cells}, Rel K (un O (nws rs vs)) env σ H → (∀ a, nws rs vs a → ¬ O a) → Apart rs vs →
    RRs K (un O (nws rs vs)) env σ H0 H rs vs → frzs env rs = some (ds, env1) → Rel K O env1 σ H ∧ Step env σ H env1 σ H ∧ RpL K (Av O env1 σ H) ds vs
  | [], _, ds, env, env1, rel, hs, ap, h, g => by cases g; rw [un_nil] at rel; exact ⟨rel, Step.refl, h⟩
  | r :: rs, _, ds, env, env1, rel, hs, ap, ⟨x, xs, e, h, t⟩, g => by
    subst e
    unfold frzs at g
    cases e1 : frz env r with
    | none => rw [e1] at g; cases g
    | some p =>
      obtain ⟨d, env'⟩ := p
      rw [e1] at g
      simp only at g
      cases e2 : frzs env' rs with
      | none => rw [e2] at g; cases g
      | some p2 =>
        obtain ⟨ds', env''⟩ := p2
        rw [e2] at g
        cases g
        have hs1 : ∀ a, nw r x a → ¬ un O (nws rs xs) a := fun a z n => Or.elim n (hs a (.inl z)) (ap.1 a z)
        have rel' := rel
        rw [un_cons] at rel' h
        obtain ⟨rel1, st1, rp1⟩ := frz_ok rel' hs1 h e1
        have t1 := (RRs.step (N := fun _ => False) rel st1 (fun a z => z.elim) (fun a z => .inr (.inr z)) t).less (O' := un O (nws rs xs))
          fun a z => .inl (z.elim .inl fun z => .inr (.inr z))
        obtain ⟨rel2, st2, rp2⟩ := frzs_ok rel1 (fun a z => hs a (.inr z)) ap.2 t1 e2
        refine ⟨rel2, st1.trans st2, RpL.cons (Rp.mono (fun a u k => ?_) _ _ rp1) rp2⟩
        exact st2.av a u (av_anti (fun a z => .inl z) a u k)

/-! ### what an operation hands back -/
theorem ror_rr {O2 : Addr → Prop} (rel : Rel K O2 env σ H) (hO : ∀ a, O a → O2 a) (g : Same H H1) {ro : RO} {v : V} (h : ROR K (Av O2 env σ H) H H1 ro v) :
    Rel K (un O (nw ro.toR v)) env σ H1 ∧ RR K (un O (nw ro.toR v)) env σ H H1 ro.toR v := by
  have relO := rel.less hO
  cases ro with
  | d x =>
    have hl : ∀ a, un O (nw (RO.d x).toR v) a → O a := fun a z => z.elim id fun z => z.elim
    refine ⟨(relO.grow g).less hl, Rp.mono (fun a u k => ?_) _ _ h⟩
    rcases k with k | ⟨h1, h2⟩
    · exact av_anti hl a u ((Step.grow g).av a u (av_anti hO a u k))
    · exact ⟨relO.fresh_not h1, fun z => relO.hidT (hl a z) h1, h2⟩
  | new b =>
    obtain ⟨p, rfl, hn, hm, q⟩ := h
    refine ⟨relO.growN g fun a z => ?_, p, rfl, hn, q.mono (fun a u k => ?_) rfl⟩
    · have z : V.ref p = .ref a := z
      cases z
      exact ⟨hn, hm⟩
    · refine (Step.grow g).avN (fun a z => ?_) a u (av_anti hO a u k)
      have z : V.ref p = .ref a := z
      cases z
      exact hn
end

/-! ### readings -/
section
variable (K : PySem.W.Frag)
def tE (f : Cells → Res R) : TE := fun σ H Q => ∃ O env, Rel K O env σ H ∧ ∃ r env', f env = .ok r env' ∧
  ∀ v H', Rel K (un O (nw r v)) env' σ H' → Step env σ H env' σ H' → RR K (un O (nw r v)) env' σ H H' r v → Q v H'
def tT (f : Cells → Res Bool) : TT := fun σ H Q => ∃ O env, Rel K O env σ H ∧ ∃ b env', f env = .ok b env' ∧
  ∀ H', Rel K O env' σ H' → Step env σ H env' σ H' → Q b H'
def tA (f : Cells → Res (List R)) : TA := fun σ H Q => ∃ O env, Rel K O env σ H ∧ ∃ rs env', f env = .ok rs env' ∧
  ∀ vs H', Rel K (un O (nws rs vs)) env' σ H' → Step env σ H env' σ H' → RRs K (un O (nws rs vs)) env' σ H H' rs vs → Apart rs vs → Q vs H'
def tO (f : Cells → Res (Option Int)) : TO := fun σ H Q => ∃ O env, Rel K O env σ H ∧ ∃ o env', f env = .ok o env' ∧
  ∀ H', Rel K O env' σ H' → Step env σ H env' σ H' → Q o H'
/-- rules by values: two operands, one, a list of arguments -/
def r2 (f : D → D → Option RO) : R2 := fun x y H Q => ∃ A dx dy ro, GoodA A H ∧ View K A H dx x ∧ View K A H dy y ∧ f dx dy = some ro ∧
  ∀ v H', Same H H' → ROR K A H H' ro v → Q v H'
def r1 (f : D → Option RO) : V → Hp → VK → Prop := fun x H Q => ∃ A dx ro, GoodA A H ∧ View K A H dx x ∧ f dx = some ro ∧
  ∀ v H', Same H H' → ROR K A H H' ro v → Q v H'
def rL (f : List D → Option RO) : List V → Hp → VK → Prop := fun xs H Q => ∃ A ds ro, GoodA A H ∧ ViewL K A H ds xs ∧ f ds = some ro ∧
  ∀ v H', Same H H' → ROR K A H H' ro v → Q v H'
end
section
variable {K : PySem.W.Frag} {σ : L2.St} {H : Hp}
theorem Res.bind_ok {α β : Type} {x : Res α} {f : α → Cells → Res β} {b : β} {env : Cells} (h : x.bind f = .ok b env) : ∃ a env1, x = .ok a env1 ∧ f a env1 = .ok b env := by
  cases x with
  | ok a env1 => exact ⟨a, env1, rfl, h⟩
  | exc e env1 => cases h
  | bad => cases h
theorem ofO_ok {α : Type} {env env1 : Cells} {o : Option α} {a : α} (h : ofO env o = .ok a env1) : o = some a ∧ env1 = env := by
  cases o with
  | none => cases h
  | some b => cases h; exact ⟨rfl, rfl⟩
theorem map_toR {o : Option RO} {r : R} (h : o.map RO.toR = some r) : ∃ ro, o = some ro ∧ r = ro.toR := by
  cases o with
  | none => cases h
  | some ro => cases h; exact ⟨ro, rfl, rfl⟩
/-- two operands -/
theorem tE_do2 {f : D → D → Option RO} {a b : Cells → Res R} {Q : VK} (h : tE K (do2 (fun x y => (f x y).map RO.toR) a b) σ H Q) : tOp (r2 K f) (tE K a) (tE K b) σ H Q := by
  obtain ⟨O, env, rel, r, env', e, q⟩ := h
  obtain ⟨x, env1, e1, e⟩ := Res.bind_ok e
  obtain ⟨y, env2, e2, e⟩ := Res.bind_ok e
  refine ⟨O, env, rel, x, env1, e1, fun v H1 rel1 st1 rr1 => ⟨_, env1, rel1, y, env2, e2, fun u H2 rel2 st2 rr2 => ?_⟩⟩
  cases g1 : x.get env2 with
  | none => rw [g1] at e; cases e
  | some dx =>
    cases g2 : y.get env2 with
    | none => rw [g1, g2] at e; cases e
    | some dy =>
      rw [g1, g2] at e
      obtain ⟨e3, e4⟩ := ofO_ok e
      subst e4
      obtain ⟨ro, e5, rfl⟩ := map_toR e3
      refine ⟨Av _ _ σ H2, dx, dy, ro, av_good rel2, (rr1.step rel1 st2 rr2.fresh fun a z => .inr z).view rel2 g1, rr2.view rel2 g2, e5, fun w H3 g ror => ?_⟩
      obtain ⟨rel3, rr3⟩ := ror_rr (O := O) rel2 (fun a z => .inl (.inl z)) g ror
      exact q w H3 rel3 ((st1.trans st2).trans (Step.grow g)) (rr3.back fun p => (st1.trans st2).back)
/-- one operand -/
theorem tE_do1d {f : D → Option RO} {a : Cells → Res R} {Q : VK} (h : tE K (do1 (fun x => (f x).map RO.toR) a) σ H Q) :
    ∃ dx, tE K a σ H fun v H1 => ∃ A ro, GoodA A H1 ∧ View K A H1 dx v ∧ f dx = some ro ∧ ∀ w H3, Same H1 H3 → ROR K A H1 H3 ro w → Q w H3 := by
  obtain ⟨O, env, rel, r, env', e, q⟩ := h
  obtain ⟨x, env1, e1, e⟩ := Res.bind_ok e
  cases g1 : x.get env1 with
  | none => rw [g1] at e; cases e
  | some dx =>
    refine ⟨dx, O, env, rel, x, env1, e1, fun v H1 rel1 st1 rr1 => ?_⟩
    rw [g1] at e
    obtain ⟨e3, e4⟩ := ofO_ok e
    subst e4
    obtain ⟨ro, e5, rfl⟩ := map_toR e3
    refine ⟨Av _ _ σ H1, ro, av_good rel1, rr1.view rel1 g1, e5, fun w H3 g ror => ?_⟩
    obtain ⟨rel3, rr3⟩ := ror_rr (O := O) rel1 (fun a z => .inl z) g ror
    exact q w H3 rel3 (st1.trans (Step.grow g)) (rr3.back fun p => st1.back)
theorem tE_do1 {f : D → Option RO} {a : Cells → Res R} {Q : VK} (h : tE K (do1 (fun x => (f x).map RO.toR) a) σ H Q) : tUn (r1 K f) (tE K a) σ H Q := by
  obtain ⟨O, env, rel, r, env', e, q⟩ := h
  obtain ⟨x, env1, e1, e⟩ := Res.bind_ok e
  refine ⟨O, env, rel, x, env1, e1, fun v H1 rel1 st1 rr1 => ?_⟩
  cases g1 : x.get env1 with
  | none => rw [g1] at e; cases e
  | some dx =>
    rw [g1] at e
    obtain ⟨e3, e4⟩ := ofO_ok e
    subst e4
    obtain ⟨ro, e5, rfl⟩ := map_toR e3
    refine ⟨Av _ _ σ H1, dx, ro, av_good rel1, rr1.view rel1 g1, e5, fun w H3 g ror => ?_⟩
    obtain ⟨rel3, rr3⟩ := ror_rr (O := O) rel1 (fun a z => .inl z) g ror
    exact q w H3 rel3 (st1.trans (Step.grow g)) (rr3.back fun p => st1.back)
/-- arguments -/
theorem tA_nil {Q : List V → Hp → Prop} (h : tA K (fun env => .ok [] env) σ H Q) : tNil σ H Q := by
  obtain ⟨O, env, rel, rs, env', e, q⟩ := h
  cases e
  exact q [] H (by rw [un_nil]; exact rel) Step.refl rfl trivial
theorem tA_cons {f : Cells → Res R} {g : Cells → Res (List R)} {Q : List V → Hp → Prop}
    (h : tA K (fun env => (f env).bind fun r env1 => (g env1).bind fun rs env2 => .ok (r :: rs) env2) σ H Q) : tCons (tE K f) (tA K g) σ H Q := by
  obtain ⟨O, env, rel, rs, env', e, q⟩ := h
  obtain ⟨x, env1, e1, e⟩ := Res.bind_ok e
  obtain ⟨ys, env2, e2, e⟩ := Res.bind_ok e
  cases e
  refine ⟨O, env, rel, x, env1, e1, fun v H1 rel1 st1 rr1 => ⟨_, env1, rel1, ys, _, e2, fun us H2 rel2 st2 rr2 ap => ?_⟩⟩
  refine q (v :: us) H2 (by rw [un_cons']; exact rel2) (st1.trans st2) ?_ ⟨fun a z n => ?_, ap⟩
  · rw [un_cons']
    exact ⟨v, us, rfl, rr1.step rel1 st2 rr2.fresh fun a z => .inr z, rr2.back fun p => st1.back⟩
  · exact rel1.hidT (.inr z) (rr2.fresh a n)
/-- a built-in by values -/
theorem tE_doBlt {b : Blt} {es : Cells → Res (List R)} {Q : VK} (h : tE K (doBlt b es) σ H Q) : tCB (rL K (bltD b)) (tA K es) σ H Q := by
  obtain ⟨O, env, rel, r, env', e, q⟩ := h
  obtain ⟨rs, env1, e1, e⟩ := Res.bind_ok e
  refine ⟨O, env, rel, rs, env1, e1, fun vs H1 rel1 st1 rr1 _ => ?_⟩
  cases g1 : gets env1 rs with
  | none => rw [g1] at e; cases e
  | some ds =>
    rw [g1] at e
    obtain ⟨e3, e4⟩ := ofO_ok e
    subst e4
    obtain ⟨ro, e5, rfl⟩ := map_toR e3
    refine ⟨Av _ _ σ H1, ds, ro, av_good rel1, rr1.views rel1 g1, e5, fun w H3 g ror => ?_⟩
    obtain ⟨rel3, rr3⟩ := ror_rr (O := O) rel1 (fun a z => .inl z) g ror
    exact q w H3 rel3 (st1.trans (Step.grow g)) (rr3.back fun p => st1.back)
/-- displays -/
theorem hs_of {O : Addr → Prop} {env env' : Cells} {σ : L2.St} {H H' : Hp} {rs : List R} {vs : List V} (rel : Rel K O env σ H)
    (h : RRs K (un O (nws rs vs)) env' σ H H' rs vs) (a : Addr) (n : nws rs vs a) : ¬ O a := fun z => rel.hidT z (h.fresh a n)
theorem hs1_of {O O' : Addr → Prop} {env env' : Cells} {σ : L2.St} {H H' : Hp} {r : R} {v : V} (rel : Rel K O env σ H)
    (h : RR K O' env' σ H H' r v) (a : Addr) (n : nw r v a) : ¬ O a := fun z => rel.hidT z (h.fresh a n)
theorem Rel.plus {O : Addr → Prop} {env : Cells} {x : D} {v : V} (rel : Rel K O env σ H) : Rel K (un O (nw (.d x) v)) env σ H := rel.less fun a z => z.elim id fun z => z.elim
theorem rr_d {O : Addr → Prop} {env : Cells} {H0 : Hp} {x : D} {v : V} (h : Rp K (Av O env σ H) x v) : RR K (un O (nw (.d x) v)) env σ H0 H (.d x) v :=
  Rp.mono (av_anti fun a z => z.elim id fun z => z.elim) _ _ h
theorem tE_tup {es : Cells → Res (List R)} {Q : VK} (h : tE K (doSeq (fun xs => .d (.tup xs)) es) σ H Q) : tTup (tA K es) σ H Q := by
  obtain ⟨O, env, rel, r, env', e, q⟩ := h
  obtain ⟨rs, env1, e1, e⟩ := Res.bind_ok e
  refine ⟨O, env, rel, rs, env1, e1, fun vs H1 rel1 st1 rr1 ap => ?_⟩
  cases g1 : frzs env1 rs with
  | none => rw [g1] at e; cases e
  | some p =>
    obtain ⟨ds, env2⟩ := p
    rw [g1] at e
    simp only at e
    obtain ⟨rel2, st2, rp2⟩ := frzs_ok rel1 (hs_of rel rr1) ap rr1 g1
    split at e
    · rename_i hl
      cases e
      refine ⟨?_, fun p hp => ?_⟩
      · rw [rp2.length]
        exact Nat.le_trans hl (by decide)
      · have g : Same H1 (upd H1 p (.tup vs)) := same_new hp
        have st3 := Step.grow (env := env') (σ := σ) g
        refine q _ _ (rel2.grow g).plus ((st1.trans st2).trans st3) (rr_d ?_)
        simp only [Rp]
        exact ⟨p, vs, rfl, .inl ⟨rel2.fresh_not hp, fun z => rel2.hidT z hp, .inl upd_same⟩, st3.rpL rp2⟩
    · cases e
theorem tE_lst {es : Cells → Res (List R)} {Q : VK} (h : tE K (doSeq (fun xs => .new (.lst xs)) es) σ H Q) : tLst (tA K es) σ H Q := by
  obtain ⟨O, env, rel, r, env', e, q⟩ := h
  obtain ⟨rs, env1, e1, e⟩ := Res.bind_ok e
  refine ⟨O, env, rel, rs, env1, e1, fun vs H1 rel1 st1 rr1 ap => ?_⟩
  cases g1 : frzs env1 rs with
  | none => rw [g1] at e; cases e
  | some p =>
    obtain ⟨ds, env2⟩ := p
    rw [g1] at e
    simp only at e
    obtain ⟨rel2, st2, rp2⟩ := frzs_ok rel1 (hs_of rel rr1) ap rr1 g1
    split at e
    · rename_i hl
      cases e
      refine ⟨?_, fun p hp => ?_⟩
      · rw [rp2.length]
        exact Nat.le_trans hl (by decide)
      · have g : Same H1 (upd H1 p (.lst vs)) := same_new hp
        have ror : ROR K (Av O env' σ H1) H1 (upd H1 p (.lst vs)) (.new (.lst ds)) (.ref p) := ⟨p, rfl, hp, ⟨_, upd_same, trivial⟩, vs, upd_same, rp2⟩
        obtain ⟨rel3, rr3⟩ := ror_rr (O := O) rel2 (fun a z => z) g ror
        exact q _ _ rel3 ((st1.trans st2).trans (Step.grow g)) (rr3.back fun p => (st1.trans st2).back)
    · cases e
/-- a name -/
theorem Rel.own {O : Addr → Prop} {env : Cells} {i : Nat} {v : V} (rel : Rel K O env σ H) : Rel K (un O (nw (.own i) v)) env σ H := rel.less fun a z => z.elim id fun z => z.elim
theorem tE_var {i : Nat} {Q : VK} (h : tE K (doVar i) σ H Q) : tVar i σ H Q := by
  obtain ⟨O, env, rel, r, env', e, q⟩ := h
  unfold doVar at e
  cases e1 : env[i]? with
  | none => rw [e1] at e; cases e
  | some c =>
    rw [e1] at e
    cases c with
    | none => cases e
    | d x =>
      cases e
      obtain ⟨v, e2, rp⟩ := rel.at_ i _ e1
      exact ⟨v, e2, q v H rel.plus Step.refl (rr_d rp)⟩
    | o b =>
      cases e
      obtain ⟨p, e2, rp⟩ := rel.ob (obAt_o e1)
      exact ⟨_, e2, q _ H rel.own Step.refl e2⟩
    | io b =>
      cases e
      obtain ⟨p, e2, rp⟩ := rel.ob (obAt_io e1)
      exact ⟨_, e2, q _ H rel.own Step.refl e2⟩
theorem tE_cst {x : D} {v : V} {Q : VK} (hv : ∀ A, Rp K A x v) (h : tE K (fun env => .ok (.d x) env) σ H Q) : tC v σ H Q := by
  obtain ⟨O, env, rel, r, env', e, q⟩ := h
  cases e
  exact q v H rel.plus Step.refl (rr_d (hv _))
/-- tests -/
theorem tT_and {f g : Cells → Res Bool} {Q : Bool → Hp → Prop} (h : tT K (toAnd f g) σ H Q) : tAnd (tT K f) (tT K g) σ H Q := by
  obtain ⟨O, env, rel, r, env', e, q⟩ := h
  obtain ⟨x, env1, e1, e⟩ := Res.bind_ok e
  refine ⟨O, env, rel, x, env1, e1, fun H1 rel1 st1 => ?_⟩
  cases x with
  | true => rw [if_pos rfl] at e ⊢; exact ⟨_, env1, rel1, r, env', e, fun H2 rel2 st2 => q H2 rel2 (st1.trans st2)⟩
  | false => rw [if_neg Bool.false_ne_true] at e ⊢; cases e; exact q H1 rel1 st1
theorem tT_or {f g : Cells → Res Bool} {Q : Bool → Hp → Prop} (h : tT K (toOr f g) σ H Q) : tOr (tT K f) (tT K g) σ H Q := by
  obtain ⟨O, env, rel, r, env', e, q⟩ := h
  obtain ⟨x, env1, e1, e⟩ := Res.bind_ok e
  refine ⟨O, env, rel, x, env1, e1, fun H1 rel1 st1 => ?_⟩
  cases x with
  | true => rw [if_pos rfl] at e ⊢; cases e; exact q H1 rel1 st1
  | false => rw [if_neg Bool.false_ne_true] at e ⊢; exact ⟨_, env1, rel1, r, env', e, fun H2 rel2 st2 => q H2 rel2 (st1.trans st2)⟩
theorem tT_not {f : Cells → Res Bool} {Q : Bool → Hp → Prop} (h : tT K (toNot f) σ H Q) : tNot (tT K f) σ H Q := by
  obtain ⟨O, env, rel, r, env', e, q⟩ := h
  obtain ⟨x, env1, e1, e⟩ := Res.bind_ok e
  cases e
  exact ⟨O, env, rel, x, _, e1, fun H1 rel1 st1 => q H1 rel1 st1⟩
theorem tT_of {f : Cells → Res R} {Q : Bool → Hp → Prop} (h : tT K (E2.of f).t σ H Q) : tE K f σ H fun x H' => ∃ k, TruV K x H' k ∧ Q k H' := by
  obtain ⟨O, env, rel, r, env', e, q⟩ := h
  obtain ⟨x, env1, e1, e⟩ := Res.bind_ok e
  refine ⟨O, env, rel, x, env1, e1, fun v H1 rel1 st1 rr1 => ?_⟩
  cases g1 : x.get env1 with
  | none => rw [g1] at e; cases e
  | some d =>
    rw [g1] at e
    obtain ⟨e3, e4⟩ := ofO_ok e
    subst e4
    have vw := rr1.view rel1 g1
    refine ⟨r, ?_, q H1 (rel1.less fun a z => .inl z) st1⟩
    cases d with
    | non => cases e3; simp only [View] at vw; subst vw; exact rfl
    | bl b => cases e3; simp only [View] at vw; subst vw; exact rfl
    | int i => cases e3; simp only [View] at vw; subst vw; exact rfl
    | str s =>
      simp only [View] at vw
      subst vw
      simp only [truD] at e3
      split at e3
      · rename_i hl
        cases e3
        refine ⟨Nat.le_trans (by simpa [mkS, Str.length] using hl) (by decide), ?_⟩
        cases s <;> simp [mkS, Str.length]
        omega
      · cases e3
    | tup xs =>
      cases e3
      simp only [View] at vw
      obtain ⟨a, ys, rfl, hs, hr⟩ := vw
      refine .inr (.inl ⟨ys, hs, ?_⟩)
      have := hr.length
      cases xs <;> cases ys <;> simp_all
    | lst xs =>
      cases e3
      simp only [View] at vw
      obtain ⟨a, ys, rfl, hs, hr⟩ := vw
      refine .inl ⟨ys, hs.seq, ?_⟩
      have := hr.length
      cases xs <;> cases ys <;> simp_all
    | dic xs => cases e3
/-- and, or, not as values; a if c else b -/
theorem tE_and {a b : Cells → Res R} {Q : VK} (h : tE K (doAnd a b) σ H Q) : tAndV (tE K a) (tE K b) σ H Q := by
  obtain ⟨O, env, rel, r, env', e, q⟩ := h
  obtain ⟨x, env1, e1, e⟩ := Res.bind_ok e
  refine ⟨O, env, rel, x, env1, e1, fun v H1 rel1 st1 rr1 => ?_⟩
  cases x with
  | own i => cases e
  | new b => cases e
  | d d =>
    cases d with
    | bl c =>
      have hv : v = .bl c := by simpa [RR, Rp] using rr1
      refine ⟨c, hv, ?_⟩
      cases c with
      | true => rw [if_pos rfl]; exact ⟨O, env1, rel1.less fun a z => .inl z, r, env', e, fun w H2 rel2 st2 rr2 => q w H2 rel2 (st1.trans st2) (rr2.back fun p => st1.back)⟩
      | false => rw [if_neg Bool.false_ne_true]; cases e; exact q _ H1 rel1 st1 (by rw [hv] at rr1; exact rr1)
    | _ => cases e
theorem tE_or {a b : Cells → Res R} {Q : VK} (h : tE K (doOr a b) σ H Q) : tOrV (tE K a) (tE K b) σ H Q := by
  obtain ⟨O, env, rel, r, env', e, q⟩ := h
  obtain ⟨x, env1, e1, e⟩ := Res.bind_ok e
  refine ⟨O, env, rel, x, env1, e1, fun v H1 rel1 st1 rr1 => ?_⟩
  cases x with
  | own i => cases e
  | new b => cases e
  | d d =>
    cases d with
    | bl c =>
      have hv : v = .bl c := by simpa [RR, Rp] using rr1
      refine ⟨c, hv, ?_⟩
      cases c with
      | false => rw [if_neg Bool.false_ne_true]; exact ⟨O, env1, rel1.less fun a z => .inl z, r, env', e, fun w H2 rel2 st2 rr2 => q w H2 rel2 (st1.trans st2) (rr2.back fun p => st1.back)⟩
      | true => rw [if_pos rfl]; cases e; exact q _ H1 rel1 st1 (by rw [hv] at rr1; exact rr1)
    | _ => cases e
theorem tE_not {a : Cells → Res R} {Q : VK} (h : tE K (doNot a) σ H Q) : tNotV (tE K a) σ H Q := by
  obtain ⟨O, env, rel, r, env', e, q⟩ := h
  obtain ⟨x, env1, e1, e⟩ := Res.bind_ok e
  refine ⟨O, env, rel, x, env1, e1, fun v H1 rel1 st1 rr1 => ?_⟩
  cases x with
  | own i => cases e
  | new b => cases e
  | d d =>
    cases d with
    | bl c =>
      have hv : v = .bl c := by simpa [RR, Rp] using rr1
      cases e
      exact ⟨c, hv, q _ H1 rel1 st1 (by simp [RR, Rp])⟩
    | _ => cases e
theorem tE_ite {c : Cells → Res Bool} {a b : Cells → Res R} {Q : VK} (h : tE K (doIte c a b) σ H Q) : tIf (tT K c) (tE K a) (tE K b) σ H Q := by
  obtain ⟨O, env, rel, r, env', e, q⟩ := h
  obtain ⟨x, env1, e1, e⟩ := Res.bind_ok e
  refine ⟨O, env, rel, x, env1, e1, fun H1 rel1 st1 => ?_⟩
  cases x with
  | true => rw [if_pos rfl] at e ⊢; exact ⟨_, env1, rel1, r, env', e, fun w H2 rel2 st2 rr2 => q w H2 rel2 (st1.trans st2) (rr2.back fun p => st1.back)⟩
  | false => rw [if_neg Bool.false_ne_true] at e ⊢; exact ⟨_, env1, rel1, r, env', e, fun w H2 rel2 st2 rr2 => q w H2 rel2 (st1.trans st2) (rr2.back fun p => st1.back)⟩
end
end Fx

set_option Elab.async false
set_option linter.all false
set_option maxRecDepth 100000
set_option maxHeartbeats 3000000
/-! Fx26: tuple * int, any number: three cases of the built-in, one road to it. -/
namespace Fx
open L2 PyProof.Rows PySem PySem.Spec
section
variable {l : Addr} {its : Array Value} {n : Nat} {dd : Option Addr} {sl : Array (Option Value)} {k : Int} {t : Tok}
/-- the tuple as it lies -/
abbrev TupAt (l : Addr) (its : Array Value) (n : Nat) (dd : Option Addr) (sl : Array (Option Value)) (s : Shared) : Prop :=
  s.heap.get? l = some { cls := .type "tuple", dict := dd, data := .seq its n, slots := sl }
theorem ff {b : Bool} (h : b = false) : ¬ b = true := fun z => nomatch h.symm.trans z
/-- times one, or nothing in it: itself -/
theorem mul_self (fit : (decide (k < -(2 ^ 63)) || decide (k ≥ 2 ^ 63)) = false) (self : (its.isEmpty || k == 1) = true) :
    Meets (Builtin.«tuple.__mul__» ⟨[.ref l, .int k t], []⟩) (fun _ R s => TupAt l its n dd sl s ∧ R (.ok (.ret (.ref l))) s) := by
  refine .of_wp fun prog w A R st both => ?_
  rcases st with ⟨heap, gens, dirs, toks, os⟩
  rcases both with ⟨at_l, post⟩
  have := AutoSeq1.idx_int
  wp_walk using wpAny_loadPart' at_l
  refine wpAny_ite_false (decide_eq_false (ff fit)) ?_
  wp_walk using wpAny_loadPart' at_l
  exact ⟨_, rfl, post⟩
/-- times nothing: a new empty one -/
theorem mul_none (fit : (decide (k < -(2 ^ 63)) || decide (k ≥ 2 ^ 63)) = false) (self : (its.isEmpty || k == 1) = false) (none : (decide (k ≤ 0) || its.isEmpty) = true) :
    Meets (Builtin.«tuple.__mul__» ⟨[.ref l, .int k t], []⟩) (fun _ R s => TupAt l its n dd sl s ∧
      R (.ok (.ret (.ref s.heap.objs.size))) { s with heap := s.heap.push { cls := .type "tuple", data := .seq #[] } }) := by
  refine .of_wp fun prog w A R st both => ?_
  rcases st with ⟨heap, gens, dirs, toks, os⟩
  rcases both with ⟨at_l, post⟩
  have := AutoSeq1.idx_int
  wp_walk using wpAny_loadPart' at_l
  refine wpAny_ite_false (decide_eq_false (ff fit)) ?_
  wp_walk using wpAny_loadPart' at_l
  exact ⟨_, rfl, post⟩
variable {prog : Program} {w : World} {A : Around} {s : Shared} {E Q : Value → Shared → Prop}
/-- the operator gives way to the built-in -/
theorem to_mul {S : PySem.Spec} (at_l : TupAt l its n dd sl s) (m : Meets (Builtin.«tuple.__mul__» ⟨[.ref l, .int k t], []⟩) S) (go : S A (wants Q E) s) :
    wpAny (model prog w) A (binaryOp .Mult (.ref l) (.int k t)) Q E s := by
  have isT : s.TypeIs (.ref l) "tuple" := ⟨_, at_l, rfl⟩
  have isI : ∀ s' : Shared, s'.TypeIs (.int k t) "int" := fun s' => typeIs_int s' k t
  have slow := call_meets (prog := prog) (w := w) F.slot_tuple_mul isT F.entry_tuple_mul (F.args_tuple_mul_2 _ _) m go
  have fast := int_rmul_tuple k t l its n dd sl
  refine wpAny_binaryOp_repeat_ref (by decide) isT isI noFill_tuple_mul F.fills_int_mul F.slot_int_rmul repeat_tuple F.slot_int_index.lookup ?_
  exact call_meets F.slot_int_rmul (isI s) F.entry_int_rmul (F.args_int_rmul_2 _ _) fast ⟨at_l, rfl, isT, slow⟩
end
section
variable {X : Cx}
/-- the elements as often as asked, given the sizes -/
theorem times_small {its : List Value} {k : Int} (b : its.length * k.toNat ≤ 1000000) (p : 0 < k) :
    ¬ ((its.toArray.size : Nat) : Int) * k > (2 ^ 63 - 1) / 8 ∧ Builtin.Tuple.tupleTooMany (((its.toArray.size : Nat) : Int) * k) = false ∧ (List.replicate k.toNat its).flatten.length ≤ sizeLine := by
  obtain ⟨m, rfl⟩ := Int.eq_ofNat_of_zero_le (Int.le_of_lt p)
  have b : its.length * m ≤ 1000000 := b
  have e : ((its.toArray.size : Nat) : Int) * (m : Int) = ((its.length * m : Nat) : Int) := by simp
  rw [e]
  have sl := sizeLine_eq
  refine ⟨by omega, ?_, ?_⟩
  · simp only [Builtin.Tuple.tupleTooMany, decide_eq_false_iff_not]
    omega
  · show (List.replicate m its).flatten.length ≤ _
    rw [lm_len_rep_flat, Nat.mul_comm]
    omega
theorem op_repT2 : OpR X (binaryOp .Mult) (fun x y H Q => ∃ l k xs, x = .ref l ∧ y = .int k ∧ SqT X.K H l xs ∧ xs.length * k.toNat ≤ 1000000 ∧ k.natAbs ≤ 1000000 ∧ ((xs = [] ∨ k = 1) → Q (.ref l) H) ∧
    (∀ p, H p = none → Q (.ref p) (upd H p (.tup (List.replicate k.toNat xs).flatten)))) := by
  rintro pns s σ H _ _ _ _ Q I rx ry ⟨l, k, xs, rfl, rfl, old, small, kk, same, new⟩
  obtain ⟨t, rfl⟩ := ry
  cases rx
  obtain ⟨its, rv, ⟨ob, at_l, isT, n, ed⟩, _⟩ := I.tuple old
  obtain ⟨cls, dd, data, sl⟩ := ob
  dsimp only at isT ed
  subst isT
  subst ed
  have ln : xs.length = its.length := rv.length
  have fit : (decide (k < -(2 ^ 63)) || decide (k ≥ 2 ^ 63)) = false := by simp; omega
  have made : ∀ ys : List V, ∀ zs : List Value, Vals ys zs → ys.length ≤ sizeLine → (∀ p, H p = none → Q (.ref p) (upd H p (.tup ys))) →
      EP X pns σ Q (.ref s.heap.objs.size) { s with heap := s.heap.push { cls := .type "tuple", data := .seq zs.toArray } } := fun ys zs r b q =>
    ⟨.ref _, _, I.laid (o := .tup ys) (t' := s.toks) (fun _ _ z => Heap.get?_push_of_some _ z) (Nat.le_refl _) ⟨b, zs, r, IsTup.new _ _⟩, rfl, q _ I.fresh⟩
  cases self : (its.toArray.isEmpty || k == 1) with
  | true =>
    refine to_mul at_l (mul_self fit self) ⟨at_l, .ref l, H, I, rfl, same ?_⟩
    simp only [Bool.or_eq_true, beq_iff_eq, List.isEmpty_toArray, List.isEmpty_iff] at self
    exact self.imp (fun z => List.eq_nil_of_length_eq_zero (by rw [ln, z]; rfl)) id
  | false =>
    cases none : (decide (k ≤ 0) || its.toArray.isEmpty) with
    | true =>
      refine to_mul at_l (mul_none fit self none) ⟨at_l, made [] [] .nil (Nat.zero_le _) fun p hp => ?_⟩
      have k0 : k.toNat = 0 := by
        simp only [Bool.or_eq_true, Bool.or_eq_false_iff, decide_eq_true_eq] at self none
        rcases none with z | z
        · omega
        · rw [self.1] at z; exact nomatch z
      have y := new p hp
      rw [k0] at y
      exact y
    | false =>
      have pos : 0 < k := by
        simp only [Bool.or_eq_false_iff, decide_eq_false_iff_not] at none
        omega
      obtain ⟨c3, c4, c5⟩ := times_small (its := its) (by rw [← ln]; exact small) pos
      have fold : List.foldl (fun x1 x2 => x1 ++ x2) #[] (List.replicate k.toNat its.toArray) = (List.replicate k.toNat its).flatten.toArray := L2.size_rep its _
      have whole := tuple_mulW l its.toArray n dd sl k t fit self none c3 c4 (by rw [fold]; exact c5)
      rw [fold] at whole
      exact to_mul at_l whole ⟨at_l, made _ _ (rv.rep k.toNat) (by rw [(rv.rep k.toNat).length]; exact c5) new⟩
end
end Fx

set_option Elab.async false
set_option linter.all false
set_option maxRecDepth 100000
/-! Fx4: operators by values on data. -/
namespace Fx
open L2 PyProof.Rows PySem PySem.Spec
section
variable {X : Cx} {pns : List (Addr × Obj)} {σ : L2.St} {H : Hp} {s : Shared}

/-- a list that may be read, as it lies -/
theorem rd_list (I : Inv X pns σ H s) {l : Addr} {xs : List V} (h : LsH X.K H l xs) :
    xs.length ≤ sizeLine ∧ ∃ (its : List Value) (n : Nat), Vals xs its ∧ xs.length = its.length ∧ s.heap.get? l = some { cls := .type "list", data := .seq its.toArray n } := by
  rcases h with h | ⟨its, n, h1, h2, h3⟩
  · rcases h.ok I.hok with ⟨small, its, n, r, here⟩
    exact ⟨small, its, n, r, r.length, here⟩
  · exact ⟨by rw [h3.length, Array.length_toList]; exact h2, its.toList, n, h3, h3.length, I.kIn _ _ h1⟩
theorem seqL {K : PySem.W.Frag} {a : Addr} {xs : List V} (h : LsH K H a xs) : SqL K H a xs := h.seq
theorem lim_le {n : Nat} (h : n ≤ lim) : n ≤ sizeLine := Nat.le_trans h (by decide)

/-- a new list handed back -/
theorem give_lst {K : PySem.W.Frag} {A : RdA} {ds : List D} {xs : List V} {p : Addr} {Q : VK} (hn : H p = none) (r : RpL K A ds xs)
    (q : ∀ v H', Same H H' → ROR K A H H' (.new (.lst ds)) v → Q v H') : Q (.ref p) (upd H p (.lst xs)) :=
  q _ _ (same_new hn) ⟨p, rfl, hn, ⟨_, upd_same, trivial⟩, xs, upd_same, r⟩
/-- a new tuple -/
theorem give_tup {K : PySem.W.Frag} {A : RdA} {ds : List D} {xs : List V} {p : Addr} {Q : VK} (hn : H p = none) (r : RpL K A ds xs)
    (q : ∀ v H', Same H H' → ROR K A H H' (.d (.tup ds)) v → Q v H') : Q (.ref p) (upd H p (.tup xs)) := by
  refine q _ _ (same_new hn) ?_
  show Rp K _ (.tup ds) (.ref p)
  simp only [Rp]
  exact ⟨p, xs, rfl, .inl (.inr ⟨hn, .inl upd_same⟩), RpL.mono (fun _ _ h => .inl h) _ _ r⟩
/-- the tuple itself -/
theorem give_tup0 {K : PySem.W.Frag} {A : RdA} {ds : List D} {xs : List V} {p : Addr} {Q : VK} (ha : SqTA K A p xs) (r : RpL K A ds xs)
    (q : ∀ v H', Same H H' → ROR K A H H' (.d (.tup ds)) v → Q v H') : Q (.ref p) H := by
  refine q _ _ (Same.refl H) ?_
  show Rp K _ (.tup ds) (.ref p)
  simp only [Rp]
  exact ⟨p, xs, rfl, ha.mono fun _ _ h => .inl h, RpL.mono (fun _ _ h => .inl h) _ _ r⟩
theorem intBits_le (i : Int) : Builtin.Int.intBits i ≤ bits i + 1 := by
  unfold Builtin.Int.intBits bits
  split <;> omega
theorem mkS_app (a b : List Nat) : mkS a ++ mkS b = mkS (a ++ b) := by
  show (⟨(mkS a).cps ++ (mkS b).cps⟩ : Str) = _
  simp [mkS]
theorem mkS_len (a : List Nat) : (mkS a).length = a.length := by simp [mkS, Str.length]
end
section
variable {X : Cx}
theorem op_addG : OpR X (binaryOp .Add) (r2 X.K (binD .add)) := by
  intro pns s σ H x y v u Q I rx ry h
  obtain ⟨A, dx, dy, ro, ga, vx, vy, hf, q⟩ := h
  unfold binD at hf
  split at hf <;> try contradiction
  · rename_i a b _
    cases hf
    simp only [View] at vx vy
    subst vx vy
    exact op_add pns s σ H _ _ v u Q I rx ry ⟨a, b, rfl, rfl, q _ _ (Same.refl H) (by simp [ROR, Rp])⟩
  · rename_i a b _
    split at hf <;> cases hf
    rename_i hl
    simp only [View] at vx vy
    subst vx vy
    refine op_add_str pns s σ H _ _ v u Q I rx ry ⟨mkS a, mkS b, rfl, rfl, ?_, ?_⟩
    · rw [mkS_len, mkS_len]; exact lim_le hl
    · rw [mkS_app]; exact q _ _ (Same.refl H) (by simp [ROR, Rp])
  · rename_i a b _
    split at hf <;> cases hf
    rename_i hl
    simp only [View] at vx vy
    obtain ⟨l, xs, rfl, hx, r1⟩ := vx
    obtain ⟨m, ys, rfl, hy, r2⟩ := vy
    cases rx
    cases ry
    obtain ⟨z, its, n, r, hl1, e⟩ := rd_list I hx
    obtain ⟨z2, its2, n2, r', hl2, e2⟩ := rd_list I hy
    have hle : xs.length + ys.length ≤ sizeLine := by rw [r1.length, r2.length]; exact lim_le hl
    have small : its.toArray.size + its2.toArray.size ≤ sizeLine := by simp only [List.size_toArray]; omega
    refine PySem.P.add_list e e2 ?_ small
    have joined : its.toArray ++ its2.toArray = (its ++ its2).toArray := by simp
    rw [joined]
    exact ⟨.ref _, _, I.lnew (t' := s.toks) (r.append r') (by rw [List.length_append]; exact hle), rfl, give_lst I.fresh (r1.append r2) q⟩
  · rename_i a b _
    split at hf <;> cases hf
    rename_i hl
    simp only [View] at vx vy
    obtain ⟨l, xs, rfl, hx, r1⟩ := vx
    obtain ⟨m, ys, rfl, hy, r2⟩ := vy
    refine op_catA pns s σ H _ _ v u Q I rx ry ⟨l, m, xs, ys, rfl, rfl, hx, hy, by rw [r1.length, r2.length]; exact lim_le hl, fun e => ?_, fun _ e => ?_, fun _ _ p hp => ?_⟩
    · subst e
      have e0 : a = [] := by have := r1.length; cases a <;> simp_all
      subst e0
      exact give_tup0 (ga.tup hy) r2 q
    · subst e
      have e0 : b = [] := by have := r2.length; cases b <;> simp_all
      subst e0
      rw [List.append_nil] at q
      exact give_tup0 (ga.tup hx) r1 q
    · exact give_tup hp (r1.append r2) q

theorem op_subG : OpR X (binaryOp .Sub) (r2 X.K (binD .sub)) := by
  intro pns s σ H x y v u Q I rx ry h
  obtain ⟨A, dx, dy, ro, ga, vx, vy, hf, q⟩ := h
  unfold binD at hf
  split at hf <;> try contradiction
  rename_i a b _
  cases hf
  simp only [View] at vx vy
  subst vx vy
  exact op_sub pns s σ H _ _ v u Q I rx ry ⟨a, b, rfl, rfl, q _ _ (Same.refl H) (by simp [ROR, Rp])⟩
theorem op_fdivG : OpR X (binaryOp .FloorDiv) (r2 X.K (binD .fdiv)) := by
  intro pns s σ H x y v u Q I rx ry h
  obtain ⟨A, dx, dy, ro, ga, vx, vy, hf, q⟩ := h
  unfold binD at hf
  split at hf <;> try contradiction
  rename_i a b _
  split at hf <;> cases hf
  rename_i hc
  simp only [View] at vx vy
  subst vx vy
  exact op_fdivW pns s σ H _ _ v u Q I rx ry ⟨a, b, rfl, rfl, hc, q _ _ (Same.refl H) (by simp [ROR, Rp])⟩
theorem op_modG : OpR X (binaryOp .Mod) (r2 X.K (binD .mod)) := by
  intro pns s σ H x y v u Q I rx ry h
  obtain ⟨A, dx, dy, ro, ga, vx, vy, hf, q⟩ := h
  unfold binD at hf
  split at hf <;> try contradiction
  rename_i a b _
  split at hf <;> cases hf
  rename_i hc
  simp only [View] at vx vy
  subst vx vy
  exact op_mod pns s σ H _ _ v u Q I rx ry ⟨a, b, rfl, rfl, hc, q _ _ (Same.refl H) (by simp [ROR, Rp])⟩
theorem op_powG : OpR X (binaryOp .Pow) (r2 X.K (binD .pow)) := by
  intro pns s σ H x y v u Q I rx ry h
  obtain ⟨A, dx, dy, ro, ga, vx, vy, hf, q⟩ := h
  unfold binD at hf
  split at hf <;> try contradiction
  rename_i a b _
  split at hf <;> cases hf
  rename_i hc
  simp only [View] at vx vy
  subst vx vy
  obtain ⟨t, rfl⟩ := rx
  obtain ⟨t', rfl⟩ := ry
  have h1 := intBits_le a
  have h2 : (Builtin.Int.intBits a : Int) * b ≤ 2 ^ 27 := by
    obtain ⟨n, rfl⟩ := Int.eq_ofNat_of_zero_le hc.1
    have h3 : (bits a + 1) * n ≤ lim := by simpa using hc.2
    have h4 : Builtin.Int.intBits a * n ≤ lim := Nat.le_trans (Nat.mul_le_mul_right n h1) h3
    have h5 : lim ≤ 2 ^ 27 := by decide
    have h6 : Builtin.Int.intBits a * n ≤ 2 ^ 27 := Nat.le_trans h4 h5
    exact_mod_cast h6
  exact PyProof.Rows.pow_int hc.1 h2 ⟨.int _, H, I.tok _, ⟨_, rfl⟩, q _ _ (Same.refl H) (by simp [ROR, Rp])⟩
theorem rep_rpL {K : PySem.W.Frag} {A : RdA} {ds : List D} {xs : List V} (h : RpL K A ds xs) : ∀ k : Nat, RpL K A (List.replicate k ds).flatten (List.replicate k xs).flatten
  | 0 => by simp [RpL]
  | k + 1 => by
    simp only [List.replicate_succ, List.flatten_cons]
    exact RpL.append h (rep_rpL h k)
theorem foldl_appA (k : Nat) (xs : List Nat) : (List.replicate k xs.toArray).foldl (· ++ ·) #[] = (List.replicate k xs).flatten.toArray := by
  have key : ∀ (k : Nat) (acc : List Nat), (List.replicate k xs.toArray).foldl (· ++ ·) acc.toArray = (acc ++ (List.replicate k xs).flatten).toArray := by
    intro k
    induction k with
    | zero => intro acc; simp
    | succ k ih =>
      intro acc
      rw [List.replicate_succ, List.foldl_cons, List.replicate_succ, List.flatten_cons]
      have e : acc.toArray ++ xs.toArray = (acc ++ xs).toArray := by simp
      rw [e, ih, List.append_assoc]
  simpa using key k []
/-- a list times an int: a new list of the old one's elements, as often -/
theorem rep_new {prog : Program} {w : World} {A : Around} {E : Value → Shared → Prop} {s : Shared} {Q : Value → Shared → Prop} {l : Addr} {its : List Value} {n : Nat} {k : Int} {t : Tok}
    (at_l : s.heap.get? l = some { cls := .type "list", data := .seq its.toArray n }) (lo : -(2 ^ 63) ≤ k) (hi : k < 2 ^ 63) (fits : its.length * k.toNat ≤ sizeLine)
    (out : Q (.ref s.heap.objs.size) { s with heap := s.heap.push { cls := .type "list", data := .seq (List.replicate k.toNat its).flatten.toArray } }) :
    wpAny (model prog w) A (binaryOp .Mult (.ref l) (.int k t)) Q E s := by
  have isL : s.TypeIs (.ref l) "list" := ⟨_, at_l, rfl⟩
  have isI : ∀ s' : Shared, s'.TypeIs (.int k t) "int" := fun s' => typeIs_int s' k t
  have size : its.toArray.size * k.toNat ≤ 16777216 := by rw [← sizeLine_eq, List.size_toArray]; exact fits
  have slow := lm_list_mul_any l its.toArray n none #[] k t (by rw [fitsIndex_both lo hi]; decide) (by omega) (by rw [notLongL (by rw [sizeLine_eq]; exact size)]; decide)
  rw [listMul_foldl_if] at slow
  have fast := lm_int_rmul_list_any k t l its.toArray n none #[]
  have s2 := call_meets (prog := prog) (w := w) (A := A) (E := E) (Q := Q) F.slot_list_mul isL F.entry_list_mul (F.args_list_mul_2 _ _) slow ⟨at_l, out⟩
  refine wpAny_binaryOp_repeat_ref (by decide) isL isI noFill_list_mul F.fills_int_mul F.slot_int_rmul repeat_list F.slot_int_index.lookup ?_
  exact call_meets F.slot_int_rmul (isI s) F.entry_int_rmul (F.args_int_rmul_2 _ _) fast ⟨at_l, rfl, isL, s2⟩
theorem op_mulG : OpR X (binaryOp .Mult) (r2 X.K (binD .mul)) := by
  intro pns s σ H x y v u Q I rx ry h
  obtain ⟨A, dx, dy, ro, ga, vx, vy, hf, q⟩ := h
  unfold binD at hf
  split at hf <;> try contradiction
  · rename_i a b _
    split at hf <;> cases hf
    rename_i hc
    simp only [View] at vx vy
    subst vx vy
    refine op_mulX pns s σ H _ _ v u Q I rx ry ⟨a, b, rfl, rfl, ?_, q _ _ (Same.refl H) (by simp [ROR, Rp])⟩
    have h1 := intBits_le a
    have h2 := intBits_le b
    have h3 : lim ≤ 134217700 := by decide
    unfold CMulX
    omega
  · rename_i a k _
    split at hf <;> cases hf
    rename_i hc
    simp only [View] at vx vy
    obtain ⟨l, xs, rfl, hx, r1⟩ := vx
    subst vy
    cases rx
    obtain ⟨t, rfl⟩ := ry
    obtain ⟨z, its, n, r, hl, e⟩ := rd_list I hx
    have hlim : lim = 1000000 := rfl
    have hsz : sizeLine = 16777216 := sizeLine_eq
    have hle : its.length * k.toNat ≤ lim := by rw [← hl, r1.length]; exact hc.1
    have hk := hc.2
    refine rep_new e (by omega) (by omega) (by omega) ⟨.ref _, _, I.lnew (t' := s.toks) (r.rep k.toNat) ?_, rfl, give_lst I.fresh (rep_rpL r1 k.toNat) q⟩
    rw [lm_len_rep_flat, hl, Nat.mul_comm]
    omega
  · rename_i a k _
    split at hf <;> cases hf
    rename_i hc
    simp only [View] at vx vy
    subst vx vy
    obtain ⟨t, rfl⟩ := rx
    obtain ⟨t', rfl⟩ := ry
    have hlim : lim = 1000000 := rfl
    have hk := hc.2
    have hk1 := hc.1
    have hal := mkS_len a
    refine PySem.P.mul_str (x := mkS a) (n := k) (t := t) (u := t') ?_ (fun h1 h2 => ?_) (fun h1 h2 => ?_) ?_
    · rw [decide_eq_false (show ¬ k < -(2 ^ 63 : Int) by omega), decide_eq_false (show ¬ k ≥ 2 ^ 63 by omega)]
      rfl
    · rw [hal]
      have hk0 : 0 < k := by omega
      have h5 : (a.length : Int) * k ≤ 2 ^ 63 - 1 := by
        obtain ⟨m, rfl⟩ := Int.eq_ofNat_of_zero_le (show 0 ≤ k by omega)
        have h8 : a.length * m ≤ lim := hk1
        have h6 : ((a.length * m : Nat) : Int) ≤ (lim : Int) := Int.ofNat_le.mpr h8
        rw [Int.natCast_mul] at h6
        show (a.length : Int) * (m : Int) ≤ _
        rw [hlim] at h6
        omega
      have h7 : (a.length : Int) ≤ (2 ^ 63 - 1) / k := (Int.le_ediv_iff_mul_le hk0).mpr h5
      omega
    · rw [hal]
      unfold Builtin.Str.tooLong
      have hsz : sizeLine = 16777216 := sizeLine_eq
      refine decide_eq_false ?_; omega
    · have val : ∀ z : List Nat, z = (List.replicate k.toNat a).flatten → Q (.str (mkS z)) H := fun z e => by
        subst e
        exact q _ _ (Same.refl H) (by simp [ROR, Rp])
      by_cases h1 : k < 1
      · rw [if_pos h1]
        have e0 : k.toNat = 0 := by omega
        refine ⟨by decide, .str (mkS []), H, I.tok _, ⟨_, rfl⟩, val [] (by rw [e0]; rfl)⟩
      · rw [if_neg h1]
        by_cases h2 : (k == 1 || (mkS a).length == 0) = true
        · rw [if_pos h2]
          refine ⟨.str (mkS a), H, I, ⟨_, rfl⟩, val a ?_⟩
          rw [hal] at h2
          simp only [Bool.or_eq_true, beq_iff_eq] at h2
          rcases h2 with h2 | h2
          · subst h2; simp
          · have e0 : a = [] := List.length_eq_zero_iff.mp h2
            subst e0
            induction k.toNat with
            | zero => rfl
            | succ m ih => rw [List.replicate_succ, List.flatten_cons, ← ih]; rfl
        · rw [if_neg h2]
          have e1 : (⟨(List.replicate k.toNat (mkS a).cps).foldl (· ++ ·) #[]⟩ : Str) = mkS (List.replicate k.toNat a).flatten := by
            show (⟨(List.replicate k.toNat a.toArray).foldl (· ++ ·) #[]⟩ : Str) = _
            rw [foldl_appA]
            rfl
          rw [e1]
          refine ⟨?_, .str (mkS _), H, I.tok _, ⟨_, rfl⟩, val _ rfl⟩
          rw [mkS_len, PyProof.Rows.lm_len_rep_flat, Nat.mul_comm]
          have hsz : sizeLine = 16777216 := sizeLine_eq
          omega
  · rename_i a k _
    split at hf <;> cases hf
    rename_i hc
    simp only [View] at vx vy
    obtain ⟨l, xs, rfl, hx, r1⟩ := vx
    subst vy
    have hlim : lim = 1000000 := rfl
    have hc1 := hc.1
    have hc2 := hc.2
    refine op_repT2 pns s σ H _ _ v u Q I rx ry ⟨l, k, xs, rfl, rfl, hx, by rw [r1.length]; omega, by omega, fun hz => ?_, fun p hp => give_tup hp (rep_rpL r1 k.toNat) q⟩
    have e : (List.replicate k.toNat a).flatten = a := by
      rcases hz with hz | hz
      · have e0 : a = [] := by
          have := r1.length
          rw [hz] at this
          exact List.length_eq_zero_iff.mp this.symm
        subst e0
        simp
      · subst hz
        simp
    rw [e] at q
    exact give_tup0 (ga.tup hx) r1 q
end
end Fx

set_option Elab.async false
set_option linter.all false
set_option maxRecDepth 100000
/-! Fx5: comparisons by values on data. -/
namespace Fx
open L2 PyProof.Rows PySem PySem.Spec
mutual
theorem rp_dp {K : PySem.W.Frag} {H : Hp} : ∀ (n : Nat) (d : D) (v : V), flatD n d = true → Rp K (All H) d v → Dp K H v (toPy d)
  | n, .non, v, _, h => by simp only [Rp] at h; subst h; simp only [toPy]; exact .non
  | n, .bl b, v, _, h => by simp only [Rp] at h; subst h; simp only [toPy]; exact .bl b
  | n, .int i, v, _, h => by simp only [Rp] at h; subst h; simp only [toPy]; exact .int i
  | n, .str i, v, _, h => by simp only [Rp] at h; subst h; simp only [toPy]; exact .str _
  | 0, .tup _, v, f, h => by simp [flatD] at f
  | 0, .lst _, v, f, h => by simp [flatD] at f
  | n + 1, .tup ds, v, f, h => by
    simp only [Rp] at h
    simp only [flatD] at f
    obtain ⟨a, xs, rfl, hs, hr⟩ := h
    simp only [toPy]
    exact .tup (hs.seq fun _ _ q => q) (rp_dpL n ds xs f hr)
  | n + 1, .lst ds, v, f, h => by
    simp only [Rp] at h
    simp only [flatD] at f
    obtain ⟨a, xs, rfl, hs, hr⟩ := h
    simp only [toPy]
    exact .lst (hs.heap fun _ _ q => q).seq (rp_dpL n ds xs f hr)
  | 0, .dic _, v, f, h => by simp [flatD] at f
  | n + 1, .dic _, v, f, h => by simp [flatD] at f
theorem rp_dpL {K : PySem.W.Frag} {H : Hp} : ∀ (n : Nat) (ds : List D) (xs : List V), flatDs n ds = true → RpL K (All H) ds xs → DpAll K H xs (toPys ds)
  | _, [], xs, _, h => by simp only [RpL] at h; subst h; simp only [toPys]; exact .nil
  | n, d :: ds, xs, f, h => by
    simp only [RpL] at h
    simp only [flatDs, Bool.and_eq_true] at f
    obtain ⟨x, r, rfl, hd, ht⟩ := h
    simp only [toPys]
    exact .cons (rp_dp n d x f.1 hd) (rp_dpL n ds r f.2 ht)
end
mutual
theorem flat_lay : ∀ (n : Nat) (d : D), flatD n d = true → (toPy d).canLay0 = true ∧ (toPy d).depth ≤ n
  | n, .non, _ => by simp [toPy, PyData.canLay0, PyData.depth]
  | n, .bl b, _ => by simp [toPy, PyData.canLay0, PyData.depth]
  | n, .int i, _ => by simp [toPy, PyData.canLay0, PyData.depth]
  | n, .str i, f => by
    have f' : okS i = true := by cases n <;> simpa only [flatD] using f
    have e : (PyData.str (mkS i)).canLay0 = okS i := by
      simp only [PyData.canLay0, PyData.strOk, mkS, okS]
      simp
    simp only [toPy]
    rw [e]
    exact ⟨f', by simp [PyData.depth]⟩
  | 0, .tup _, f => by simp [flatD] at f
  | 0, .lst _, f => by simp [flatD] at f
  | n + 1, .tup ds, f => by
    simp only [flatD] at f
    have h := flat_layL n ds f
    simp only [toPy, PyData.canLay0, PyData.depth]
    exact ⟨h.1, by omega⟩
  | n + 1, .lst ds, f => by
    simp only [flatD] at f
    have h := flat_layL n ds f
    simp only [toPy, PyData.canLay0, PyData.depth]
    exact ⟨h.1, by omega⟩
  | 0, .dic _, f => by simp [flatD] at f
  | n + 1, .dic _, f => by simp [flatD] at f
theorem flat_layL : ∀ (n : Nat) (ds : List D), flatDs n ds = true → PyData.canLayAll0 (toPys ds) = true ∧ PyData.depthAll (toPys ds) ≤ n
  | n, [], _ => by simp [toPys, PyData.canLayAll0, PyData.depthAll]
  | n, d :: ds, f => by
    simp only [flatDs, Bool.and_eq_true] at f
    have h1 := flat_lay n d f.1
    have h2 := flat_layL n ds f.2
    simp only [toPys, PyData.canLayAll0, PyData.depthAll, Bool.and_eq_true]
    exact ⟨⟨h1.1, h2.1⟩, by omega⟩
end
theorem flat_shaped {d : D} (f : flatD 40 d = true) : SeqAt.shaped (toPy d) = true := by
  have h := flat_lay 40 d f
  show ((toPy d).canLay0 && decide ((toPy d).depth ≤ 64)) = true
  rw [h.1, decide_eq_true (by omega)]
  rfl
theorem mkS_inj {a b : List Nat} : (mkS a == mkS b) = (a == b) := by
  rw [Bool.eq_iff_iff]
  simp [mkS]
mutual
theorem eqv_eqD : ∀ (a b : D), PyData.eqv (toPy a) (toPy b) = eqD a b
  | .non, b => by cases b <;> simp [toPy, PyData.eqv, eqD]
  | .bl a, b => by cases b <;> simp [toPy, PyData.eqv, eqD, b2i]
  | .int a, b => by cases b <;> simp [toPy, PyData.eqv, eqD, b2i]
  | .str a, b => by cases b <;> simp [toPy, PyData.eqv, eqD, mkS_inj]
  | .tup a, b => by
    cases b <;> simp only [toPy, PyData.eqv, eqD]
    exact eqv_eqDs _ _
  | .lst a, b => by
    cases b <;> simp only [toPy, PyData.eqv, eqD]
    exact eqv_eqDs _ _
  | .dic a, b => by cases b <;> simp [toPy, PyData.eqv, eqD]
theorem eqv_eqDs : ∀ (a b : List D), PyData.eqvAll (toPys a) (toPys b) = eqDs a b
  | [], [] => by simp [toPys, PyData.eqvAll, eqDs]
  | [], _ :: _ => by simp [toPys, PyData.eqvAll, eqDs]
  | _ :: _, [] => by simp [toPys, PyData.eqvAll, eqDs]
  | a :: as, b :: bs => by
    simp only [toPys, PyData.eqvAll, eqDs]
    rw [eqv_eqD a b, eqv_eqDs as bs]
end
theorem any_eqv (x : D) : ∀ ys : List D, ((toPys ys).any fun z => PyData.eqv z (toPy x)) = ys.any fun y => eqD y x
  | [] => by simp [toPys]
  | y :: ys => by
    simp only [toPys, List.any_cons]
    rw [eqv_eqD, any_eqv x ys]
/-- a comparison's answer as data -/
def cmpRO (op : Cop) (x y : D) : Option RO := (cmpD op x y).map fun b => .d (.bl b)
section
variable {X : Cx}
theorem eq_str {a b : List Nat} : decide (V.str (mkS a) = V.str (mkS b)) = (a == b) := by
  rw [← mkS_inj]
  by_cases h : mkS a = mkS b
  · rw [h]; simp
  · have h' : ¬ V.str (mkS a) = V.str (mkS b) := fun z => h (V.str.inj z)
    rw [decide_eq_false h', beq_eq_false_iff_ne.mpr h]
theorem op_eqG (hu : X.A.units + 64 < cLine) : OpR X (compareOp .Eq) (r2 X.K (cmpRO .eq)) := by
  intro pns s σ H x y v u Q I rx ry h
  obtain ⟨A, dx, dy, ro, ga, vx, vy, hf, q⟩ := h
  by_cases hs : ∃ a b, dx = .str a ∧ dy = .str b
  · obtain ⟨a, b, rfl, rfl⟩ := hs
    cases hf
    simp only [View] at vx vy
    subst vx vy
    exact op_eq pns s σ H _ _ v u Q I rx ry ⟨rfl, by rw [eq_str]; exact q _ _ (Same.refl H) (by simp [ROR, Rp])⟩
  · have e : cmpD .eq dx dy = if flatD 40 dx ∧ flatD 40 dy then some (eqD dx dy) else none := by
      cases dx <;> cases dy <;> first | rfl | exact absurd ⟨_, _, rfl, rfl⟩ hs
    simp only [cmpRO, e] at hf
    split at hf <;> cases hf
    rename_i hc
    refine op_eqD hu pns s σ H x y v u Q I rx ry ⟨toPy dx, toPy dy, rp_dp 40 dx x hc.1 (vx.all ga.rd), rp_dp 40 dy y hc.2 (vy.all ga.rd), flat_shaped hc.1, flat_shaped hc.2, ?_⟩
    rw [eqv_eqD]
    exact q _ _ (Same.refl H) (by simp [ROR, Rp])
theorem op_neG (hu : X.A.units + 64 < cLine) : OpR X (compareOp .NotEq) (r2 X.K (cmpRO .ne)) := by
  intro pns s σ H x y v u Q I rx ry h
  obtain ⟨A, dx, dy, ro, ga, vx, vy, hf, q⟩ := h
  by_cases hs : ∃ a b, dx = .str a ∧ dy = .str b
  · obtain ⟨a, b, rfl, rfl⟩ := hs
    cases hf
    simp only [View] at vx vy
    subst vx vy
    exact op_ne pns s σ H _ _ v u Q I rx ry ⟨rfl, by rw [eq_str]; exact q _ _ (Same.refl H) (by simp [ROR, Rp])⟩
  · have e : cmpD .ne dx dy = if flatD 40 dx ∧ flatD 40 dy then some (!eqD dx dy) else none := by
      cases dx <;> cases dy <;> first | rfl | exact absurd ⟨_, _, rfl, rfl⟩ hs
    simp only [cmpRO, e] at hf
    split at hf <;> cases hf
    rename_i hc
    refine op_neD hu pns s σ H x y v u Q I rx ry ⟨toPy dx, toPy dy, rp_dp 40 dx x hc.1 (vx.all ga.rd), rp_dp 40 dy y hc.2 (vy.all ga.rd), flat_shaped hc.1, flat_shaped hc.2, ?_⟩
    rw [eqv_eqD]
    exact q _ _ (Same.refl H) (by simp [ROR, Rp])
theorem op_ltG : OpR X (compareOp .Lt) (r2 X.K (cmpRO .lt)) := by
  intro pns s σ H x y v u Q I rx ry h
  obtain ⟨A, dx, dy, ro, ga, vx, vy, hf, q⟩ := h
  unfold cmpRO cmpD at hf
  split at hf <;> try contradiction
  · rename_i a b _
    cases hf
    simp only [View] at vx vy
    subst vx vy
    exact op_lt pns s σ H _ _ v u Q I rx ry ⟨a, b, rfl, rfl, q _ _ (Same.refl H) (by simp [ROR, Rp])⟩
  · rename_i a b _
    cases hf
    simp only [View] at vx vy
    subst vx vy
    refine op_lt_str pns s σ H _ _ v u Q I rx ry ⟨mkS a, mkS b, rfl, rfl, ?_⟩
    have e : ∀ (i1 i2 : Decidable (a < b)), @decide (a < b) i1 = @decide (a < b) i2 := fun i1 i2 => decide_eq_decide.mpr Iff.rfl
    refine q _ _ (Same.refl H) ?_
    show Rp X.K (Gr A H H) (.bl (ltS a b)) _
    simp only [Rp, ltS]
    exact congrArg V.bl (e _ _)
theorem op_leG : OpR X (compareOp .LtE) (r2 X.K (cmpRO .le)) := by
  intro pns s σ H x y v u Q I rx ry h
  obtain ⟨A, dx, dy, ro, ga, vx, vy, hf, q⟩ := h
  unfold cmpRO cmpD at hf
  split at hf <;> try contradiction
  rename_i a b _
  cases hf
  simp only [View] at vx vy
  subst vx vy
  exact op_le pns s σ H _ _ v u Q I rx ry ⟨a, b, rfl, rfl, q _ _ (Same.refl H) (by simp [ROR, Rp])⟩
theorem op_gtG : OpR X (compareOp .Gt) (r2 X.K (cmpRO .gt)) := by
  intro pns s σ H x y v u Q I rx ry h
  obtain ⟨A, dx, dy, ro, ga, vx, vy, hf, q⟩ := h
  unfold cmpRO cmpD at hf
  split at hf <;> try contradiction
  rename_i a b _
  cases hf
  simp only [View] at vx vy
  subst vx vy
  exact op_gt pns s σ H _ _ v u Q I rx ry ⟨a, b, rfl, rfl, q _ _ (Same.refl H) (by simp [ROR, Rp])⟩
theorem op_geG : OpR X (compareOp .GtE) (r2 X.K (cmpRO .ge)) := by
  intro pns s σ H x y v u Q I rx ry h
  obtain ⟨A, dx, dy, ro, ga, vx, vy, hf, q⟩ := h
  unfold cmpRO cmpD at hf
  split at hf <;> try contradiction
  rename_i a b _
  cases hf
  simp only [View] at vx vy
  subst vx vy
  exact op_ge pns s σ H _ _ v u Q I rx ry ⟨a, b, rfl, rfl, q _ _ (Same.refl H) (by simp [ROR, Rp])⟩
theorem view_non {K : PySem.W.Frag} {A : RdA} {H : Hp} {d : D} {v : V} (h : View K A H d v) : decide (v = .non) = isNonD d := by
  cases d <;> simp only [View] at h
  all_goals first
    | (subst h; rfl)
    | (subst h; simp)
    | (obtain ⟨a, xs, rfl, _⟩ := h; simp [isNonD])
theorem op_isNG : OpR X (compareOp .Is) (r2 X.K (cmpRO .isN)) := by
  intro pns s σ H x y v u Q I rx ry h
  obtain ⟨A, dx, dy, ro, ga, vx, vy, hf, q⟩ := h
  unfold cmpRO cmpD at hf
  split at hf <;> try contradiction
  · cases hf
    simp only [View] at vy
    refine op_isN pns s σ H _ _ v u Q I rx ry ⟨vy, ?_⟩
    rw [view_non vx]
    exact q _ _ (Same.refl H) (by simp [ROR, Rp])
  · rename_i a b _
    cases hf
    simp only [View] at vx vy
    exact L2.op_is_bl pns s σ H _ _ v u Q I rx ry ⟨a, b, vx, vy, q _ _ (Same.refl H) (by simp [ROR, Rp])⟩
theorem op_notNG : OpR X (compareOp .IsNot) (r2 X.K (cmpRO .notN)) := by
  intro pns s σ H x y v u Q I rx ry h
  obtain ⟨A, dx, dy, ro, ga, vx, vy, hf, q⟩ := h
  unfold cmpRO cmpD at hf
  split at hf <;> try contradiction
  · cases hf
    simp only [View] at vy
    refine op_notN pns s σ H _ _ v u Q I rx ry ⟨vy, ?_⟩
    rw [view_non vx]
    exact q _ _ (Same.refl H) (by simp [ROR, Rp])
  · rename_i a b _
    cases hf
    simp only [View] at vx vy
    exact L2.op_isnot_bl pns s σ H _ _ v u Q I rx ry ⟨a, b, vx, vy, q _ _ (Same.refl H) (by simp [ROR, Rp])⟩
theorem keyOf_v {K : PySem.W.Frag} {A : RdA} {H : Hp} {d : D} {k : DK} {v : V} (h : View K A H d v) (e : keyOf d = some k) : v = kV k.toKey := by
  cases d <;> simp [keyOf] at e
  all_goals
    subst e
    simp only [View] at h
    exact h
theorem toKey_inj {a b : DK} (h : a.toKey = b.toKey) : a = b := by
  cases a with
  | i n =>
    cases b with
    | i m => cases h; rfl
    | s m => cases h
  | s n =>
    cases b with
    | i m => cases h
    | s m =>
      have h' : mkS n = mkS m := Sum.inr.inj h
      have : n = m := by simpa [mkS] using h'
      rw [this]
theorem look_val {K : PySem.W.Frag} {A : RdA} (k : DK) : ∀ {kvs : List (DK × D)} {ys : List (Key × V)}, RpD K A kvs ys →
    (look k kvs = none ∧ valV ys k.toKey = none) ∨ ∃ d v, look k kvs = some d ∧ valV ys k.toKey = some v ∧ Rp K A d v
  | [], _, h => by simp only [RpD] at h; subst h; exact .inl ⟨rfl, rfl⟩
  | (k', d) :: kvs, _, h => by
    simp only [RpD] at h
    obtain ⟨x, r, rfl, hd, ht⟩ := h
    by_cases e : k' = k
    · subst e
      exact .inr ⟨d, x, by simp [look], valV_pos rfl, hd⟩
    · have e2 : ¬ k'.toKey = k.toKey := fun z => e (toKey_inj z)
      have e3 : look k ((k', d) :: kvs) = look k kvs := by simp [look, List.find?_cons, e]
      rw [e3, valV_neg (p := (k'.toKey, x)) e2]
      exact look_val k ht
theorem look_isSome {K : PySem.W.Frag} {A : RdA} (k : DK) {kvs : List (DK × D)} {ys : List (Key × V)} (h : RpD K A kvs ys) : (valV ys k.toKey).isSome = (look k kvs).isSome := by
  rcases look_val k h with ⟨e1, e2⟩ | ⟨d, v, e1, e2, _⟩
  · rw [e1, e2]; rfl
  · rw [e1, e2]; rfl
theorem op_inG (hu : X.A.units + 65 < cLine) : OpR X (compareOp .In) (r2 X.K (cmpRO .isin)) := by
  intro pns s σ H x y v u Q I rx ry h
  obtain ⟨A, dx, dy, ro, ga, vx, vy, hf, q⟩ := h
  simp only [cmpRO, cmpD, inD] at hf
  split at hf
  · rename_i ys
    split at hf <;> cases hf
    rename_i hc
    have hy := rp_dp 40 _ _ hc.2 (vy.all ga.rd)
    have f2 := flat_shaped hc.2
    simp only [toPy] at hy f2
    refine op_inD hu pns s σ H _ _ v u Q I rx ry ⟨_, _, rp_dp 40 _ _ hc.1 (vx.all ga.rd), hy, flat_shaped hc.1, f2, ?_⟩
    rw [any_eqv]
    exact q _ _ (Same.refl H) (by simp [ROR, Rp])
  · rename_i ys
    split at hf <;> cases hf
    rename_i hc
    have hy := rp_dp 40 _ _ hc.2 (vy.all ga.rd)
    have f2 := flat_shaped hc.2
    simp only [toPy] at hy f2
    obtain ⟨as, r1⟩ := Dp.reads I _ _ _ (rp_dp 40 _ _ hc.1 (vx.all ga.rd)) rx
    obtain ⟨bs, r2⟩ := Dp.reads I _ _ _ hy ry
    refine SeqAt.in_tuple_reads r2 r1 (SeqAt.canLay_of_shaped f2) (flat_lay 40 _ hc.1).1 ?_ ⟨.bl _, H, I, rfl, ?_⟩
    · have h1 := (flat_lay 40 _ hc.1).2
      omega
    · rw [any_eqv]
      exact q _ _ (Same.refl H) (by simp [ROR, Rp])
  · rename_i kvs
    cases e : keyOf dx with
    | none => rw [e] at hf; cases hf
    | some k =>
      rw [e] at hf
      cases hf
      have ev := keyOf_v vx e
      subst ev
      simp only [View] at vy
      obtain ⟨a, ys, rfl, hd, hr⟩ := vy
      cases ry
      refine d_in (by omega) I (.inl ⟨ys, k.toKey, hd, rfl, rfl⟩) rx fun s' I' => ⟨.bl _, H, I', rfl, ?_⟩
      rw [look_isSome k hr]
      exact q _ _ (Same.refl H) (by simp [ROR, Rp])
  · rename_i c b
    cases hf
    simp only [View] at vx vy
    subst vx vy
    refine op_in_sign pns s σ H _ _ v u Q I rx ry ⟨c, mkS b, rfl, rfl, ?_⟩
    have e : ∀ i1 : Decidable (c ∈ (mkS b).cps.toList), @decide _ i1 = b.contains c := fun i1 => by
      rw [Bool.eq_iff_iff]
      exact ⟨fun h => by simpa [mkS] using of_decide_eq_true h, fun h => decide_eq_true (by simpa [mkS] using h)⟩
    rw [e]
    exact q _ _ (Same.refl H) (by simp [ROR, Rp])
  · cases hf
theorem op_notinG (hu : X.A.units + 65 < cLine) : OpR X (compareOp .NotIn) (r2 X.K (cmpRO .notin)) := by
  intro pns s σ H x y v u Q I rx ry h
  obtain ⟨A, dx, dy, ro, ga, vx, vy, hf, q⟩ := h
  simp only [cmpRO, cmpD, inD] at hf
  split at hf
  · rename_i ys
    split at hf <;> cases hf
    rename_i hc
    have hy := rp_dp 40 _ _ hc.2 (vy.all ga.rd)
    have f2 := flat_shaped hc.2
    simp only [toPy] at hy f2
    refine op_notInD hu pns s σ H _ _ v u Q I rx ry ⟨_, _, rp_dp 40 _ _ hc.1 (vx.all ga.rd), hy, flat_shaped hc.1, f2, ?_⟩
    rw [any_eqv]
    exact q _ _ (Same.refl H) (by simp [ROR, Rp])
  · rename_i ys
    split at hf <;> cases hf
    rename_i hc
    have hy := rp_dp 40 _ _ hc.2 (vy.all ga.rd)
    have f2 := flat_shaped hc.2
    simp only [toPy] at hy f2
    obtain ⟨as, r1⟩ := Dp.reads I _ _ _ (rp_dp 40 _ _ hc.1 (vx.all ga.rd)) rx
    obtain ⟨bs, r2⟩ := Dp.reads I _ _ _ hy ry
    refine SeqAt.notIn_tuple_reads r2 r1 (SeqAt.canLay_of_shaped f2) (flat_lay 40 _ hc.1).1 ?_ ⟨.bl _, H, I, rfl, ?_⟩
    · have h1 := (flat_lay 40 _ hc.1).2
      omega
    · rw [any_eqv]
      exact q _ _ (Same.refl H) (by simp [ROR, Rp])
  · rename_i kvs
    cases e : keyOf dx with
    | none => rw [e] at hf; cases hf
    | some k =>
      rw [e] at hf
      cases hf
      have ev := keyOf_v vx e
      subst ev
      simp only [View] at vy
      obtain ⟨a, ys, rfl, hd, hr⟩ := vy
      cases ry
      refine d_notIn (by omega) I (.inl ⟨ys, k.toKey, hd, rfl, rfl⟩) rx fun s' I' => ⟨.bl _, H, I', rfl, ?_⟩
      rw [look_isSome k hr]
      exact q _ _ (Same.refl H) (by simp [ROR, Rp])
  · rename_i c b
    cases hf
    simp only [View] at vx vy
    subst vx vy
    refine op_notIn_sign pns s σ H _ _ v u Q I rx ry ⟨c, mkS b, rfl, rfl, ?_⟩
    have e : ∀ i1 : Decidable (c ∈ (mkS b).cps.toList), @decide _ i1 = b.contains c := fun i1 => by
      rw [Bool.eq_iff_iff]
      exact ⟨fun h => by simpa [mkS] using of_decide_eq_true h, fun h => decide_eq_true (by simpa [mkS] using h)⟩
    rw [e]
    exact q _ _ (Same.refl H) (by simp [ROR, Rp])
  · cases hf
end
end Fx

set_option Elab.async false
set_option linter.all false
set_option maxRecDepth 100000
/-! Fx6: subscripts, slices, built-ins by values on data. -/
namespace Fx
open L2 PyProof.Rows PySem PySem.Spec
section
variable {K : PySem.W.Frag} {A : RdA} {H : Hp}
theorem rpl_atI {ds : List D} {xs : List V} {i : Int} {d : D} (h : RpL K A ds xs) (e : atI ds i = some d) : ∃ v, atI xs i = some v ∧ Rp K A d v := by
  unfold atI at e ⊢
  rw [h.length]
  cases e1 : ixN ds.length i with
  | none => rw [e1] at e; cases e
  | some j =>
    rw [e1] at e
    exact h.get e
theorem atI_mkS {s : List Nat} {i : Int} {c : Nat} (e : atI s i = some c) : atI (mkS s).cps.toList i = some c := by simpa [mkS] using e
theorem cut_rpl {ds : List D} {xs : List V} (h : RpL K A ds xs) (lo hi : Option Int) : RpL K A (cutG ds lo hi) (cutV xs lo hi) := by
  unfold cutG cutV
  rw [h.length]
  exact (h.drop _).take _
end
section
variable {X : Cx}
theorem ix_G (hu : X.A.units + 1 < cLine) : IxR X (r2 X.K ixRO) := by
  intro value slice pns s σ H x y v u Q I rx ry h hs
  obtain ⟨A, dx, dy, ro, ga, vx, vy, hf, q⟩ := h
  unfold ixRO ixD at hf
  split at hf
  · rename_i xs i
    cases e : atI xs i with
    | none => rw [e] at hf; cases hf
    | some d =>
      rw [e] at hf
      cases hf
      simp only [View] at vx vy
      obtain ⟨a, ys, rfl, hd, hr⟩ := vx
      subst vy
      obtain ⟨w, e1, rw'⟩ := rpl_atI hr e
      exact ix_list value slice pns s σ H _ _ v u Q I rx ry ⟨a, ys, i, w, rfl, rfl, seqL hd, e1, q _ _ (Same.refl H) (Rp.mono (fun _ _ z => .inl z) _ _ rw')⟩ hs
  · rename_i xs i
    cases e : atI xs i with
    | none => rw [e] at hf; cases hf
    | some d =>
      rw [e] at hf
      cases hf
      simp only [View] at vx vy
      obtain ⟨a, ys, rfl, hd, hr⟩ := vx
      subst vy
      obtain ⟨w, e1, rw'⟩ := rpl_atI hr e
      exact ix_tup value slice pns s σ H _ _ v u Q I rx ry ⟨a, ys, i, w, rfl, rfl, hd, e1, q _ _ (Same.refl H) (Rp.mono (fun _ _ z => .inl z) _ _ rw')⟩ hs
  · rename_i z i
    split at hf
    · rename_i hl
      cases e : atI z i with
      | none => rw [e] at hf; cases hf
      | some c =>
        rw [e] at hf
        cases hf
        simp only [View] at vx vy
        subst vx vy
        exact ix_str value slice pns s σ H _ _ v u Q I rx ry ⟨mkS z, i, c, rfl, rfl, by rw [mkS_len]; exact lim_le hl, atI_mkS e, q _ _ (Same.refl H) (by simp [ROR, Rp, mkS])⟩ hs
    · cases hf
  · rename_i kvs
    cases e : keyOf dy with
    | none => rw [e] at hf; cases hf
    | some k =>
      rw [e] at hf
      have ev := keyOf_v vy e
      subst ev
      simp only [View] at vx
      obtain ⟨a, ys, rfl, hd, hr⟩ := vx
      cases rx
      rcases look_val k hr with ⟨e1, e2⟩ | ⟨d, w, e1, e2, hw⟩
      · simp only [Option.bind_some] at hf
        rw [e1] at hf
        cases hf
      · simp only [Option.bind_some] at hf
        rw [e1] at hf
        cases hf
        have g : DGet H a (kV k.toKey) (some w) := .inl ⟨ys, k.toKey, hd, rfl, e2.symm⟩
        exact tail_any (dict_typeIs I g) PySem.F.slot_dict_getitem.lookup (d_getItem hu I g ry fun w' s' I' rw' => ⟨w, H, I', rw', q _ _ (Same.refl H) (Rp.mono (fun _ _ z => .inl z) _ _ hw)⟩) hs
  · cases hf
/-- slices -/
def rSlG (K : PySem.W.Frag) : V → Option Int → Option Int → Hp → VK → Prop := fun x lo hi H Q => ∃ A dx ro, GoodA A H ∧ View K A H dx x ∧ slD dx lo hi = some ro ∧ ∀ v H', Same H H' → ROR K A H H' ro v → Q v H'
theorem sl_G : SlR X (rSlG X.K) := by
  intro pns s σ H x v vl vu lo hi sl Q I rx hs pl pu h
  obtain ⟨A, dx, ro, ga, vx, hf, q⟩ := h
  unfold slD at hf
  split at hf
  · cases hf
    simp only [View] at vx
    obtain ⟨a, ys, rfl, hd, hr⟩ := vx
    exact sl_list pns s σ H _ v vl vu lo hi sl Q I rx hs pl pu ⟨a, ys, rfl, seqL hd, fun p hp => give_lst hp (cut_rpl hr lo hi) q⟩
  · rename_i xs
    cases hf
    simp only [View] at vx
    obtain ⟨a, ys, rfl, hd, hr⟩ := vx
    refine sl_tupA pns s σ H _ v vl vu lo hi sl Q I rx hs pl pu ⟨a, ys, rfl, hd, fun hw => ?_, fun _ p hp => give_tup hp (cut_rpl hr lo hi) q⟩
    have e : cutG xs lo hi = xs := by
      unfold cutG
      have hl := hr.length
      rw [← hl, hw.1, hw.2]
      rw [hl]
      simp
    rw [e] at q
    exact give_tup0 (ga.tup hd) hr q
  · rename_i z
    split at hf
    · rename_i hl
      cases hf
      simp only [View] at vx
      subst vx
      refine sl_str pns s σ H _ v vl vu lo hi sl Q I rx hs pl pu ⟨mkS z, rfl, by rw [mkS_len]; exact lim_le hl, ?_⟩
      have e : cutS (mkS z) lo hi = mkS (cutG z lo hi) := by
        simp only [cutS, cutG, mkS]
        simp [Str.length]
      rw [e]
      exact q _ _ (Same.refl H) (by simp [ROR, Rp])
    · cases hf
  · cases hf
/-- built-ins -/
theorem v1 {K : PySem.W.Frag} {A : RdA} {H : Hp} {d : D} {vs : List V} (h : ViewL K A H [d] vs) : ∃ x, vs = [x] ∧ View K A H d x := by
  simp only [ViewL] at h
  obtain ⟨x, r, e, hv, e2⟩ := h
  subst e2
  exact ⟨x, e, hv⟩
theorem v2 {K : PySem.W.Frag} {A : RdA} {H : Hp} {d d' : D} {vs : List V} (h : ViewL K A H [d, d'] vs) : ∃ x y, vs = [x, y] ∧ View K A H d x ∧ View K A H d' y := by
  simp only [ViewL] at h
  obtain ⟨x, r, e, hv, y, r2, e2, hv2, e3⟩ := h
  subst e2 e3
  exact ⟨x, y, e, hv, hv2⟩
theorem blt_len : CallR X (.builtin "len") (rL X.K (bltD .len)) := by
  intro pns s σ H xs us Q I r h
  obtain ⟨A, ds, ro, ga, vx, hf, q⟩ := h
  unfold bltD at hf
  split at hf <;> try contradiction
  · rename_i z _
    split at hf <;> cases hf
    rename_i hl
    obtain ⟨x, rfl, hx⟩ := v1 vx
    simp only [View] at hx
    subst hx
    refine call_len pns s σ H _ us Q I r ⟨.str (mkS z), z.length, rfl, ⟨by rw [mkS_len]; exact lim_le hl, by rw [mkS_len]⟩, q _ _ (Same.refl H) (by simp [ROR, Rp])⟩
  · cases hf
    obtain ⟨x, rfl, hx⟩ := v1 vx
    simp only [View] at hx
    obtain ⟨a, ys, rfl, hd, hr⟩ := hx
    exact call_len pns s σ H _ us Q I r ⟨_, _, rfl, .inl ⟨ys, seqL hd, hr.length.symm⟩, q _ _ (Same.refl H) (by simp [ROR, Rp])⟩
  · cases hf
    obtain ⟨x, rfl, hx⟩ := v1 vx
    simp only [View] at hx
    obtain ⟨a, ys, rfl, hd, hr⟩ := hx
    exact call_len pns s σ H _ us Q I r ⟨_, _, rfl, .inr ⟨ys, hd, hr.length.symm⟩, q _ _ (Same.refl H) (by simp [ROR, Rp])⟩
  · cases hf
    obtain ⟨x, rfl, hx⟩ := v1 vx
    simp only [View] at hx
    obtain ⟨a, ys, rfl, hd, hr⟩ := hx
    rcases vals1 r with ⟨u, rfl, ru⟩
    cases ru
    exact d_len I hd fun t s' I' => ⟨.int ys.length, H, I', ⟨t, rfl⟩, q _ _ (Same.refl H) (by simp [ROR, Rp, hr.length])⟩
theorem blt_abs : CallR X (.builtin "abs") (rL X.K (bltD .abs)) := by
  intro pns s σ H xs us Q I r h
  obtain ⟨A, ds, ro, ga, vx, hf, q⟩ := h
  unfold bltD at hf
  split at hf <;> try contradiction
  rename_i i _
  cases hf
  obtain ⟨x, rfl, hx⟩ := v1 vx
  simp only [View] at hx
  subst hx
  exact call_abs pns s σ H _ us Q I r ⟨i, rfl, q _ _ (Same.refl H) (by simp [ROR, Rp])⟩
theorem asInts_map : ∀ {xs : List D} {ns : List Int}, asInts xs = some ns → xs = ns.map D.int
  | [], ns, h => by cases h; rfl
  | x :: xs, ns, h => by
    cases x <;> simp only [asInts] at h <;> try contradiction
    cases e : asInts xs with
    | none => (rw [e] at h; cases h)
    | some ms => rw [e] at h; cases h; rw [asInts_map e]; rfl
theorem asBls_map : ∀ {xs : List D} {ns : List Bool}, asBls xs = some ns → xs = ns.map D.bl
  | [], ns, h => by cases h; rfl
  | x :: xs, ns, h => by
    cases x <;> simp only [asBls] at h <;> try contradiction
    cases e : asBls xs with
    | none => (rw [e] at h; cases h)
    | some ms => rw [e] at h; cases h; rw [asBls_map e]; rfl
theorem asStrs_map : ∀ {xs : List D} {ns : List (List Nat)}, asStrs xs = some ns → xs = ns.map D.str
  | [], ns, h => by cases h; rfl
  | x :: xs, ns, h => by
    cases x <;> simp only [asStrs] at h <;> try contradiction
    cases e : asStrs xs with
    | none => (rw [e] at h; cases h)
    | some ms => rw [e] at h; cases h; rw [asStrs_map e]; rfl
theorem rpl_ints {K : PySem.W.Frag} {A : RdA} : ∀ {ns : List Int} {xs : List V}, RpL K A (ns.map D.int) xs → xs = ns.map V.int
  | [], xs, h => by simpa [RpL] using h
  | n :: ns, xs, h => by
    simp only [List.map_cons, RpL, Rp] at h
    obtain ⟨x, r, rfl, rfl, t⟩ := h
    rw [rpl_ints t]; rfl
theorem rpl_bls {K : PySem.W.Frag} {A : RdA} : ∀ {ns : List Bool} {xs : List V}, RpL K A (ns.map D.bl) xs → xs = ns.map V.bl
  | [], xs, h => by simpa [RpL] using h
  | n :: ns, xs, h => by
    simp only [List.map_cons, RpL, Rp] at h
    obtain ⟨x, r, rfl, rfl, t⟩ := h
    rw [rpl_bls t]; rfl
theorem rpl_strs {K : PySem.W.Frag} {A : RdA} : ∀ {ns : List (List Nat)} {xs : List V}, RpL K A (ns.map D.str) xs → xs = (ns.map mkS).map V.str
  | [], xs, h => by simpa [RpL] using h
  | n :: ns, xs, h => by
    simp only [List.map_cons, RpL, Rp] at h
    obtain ⟨x, r, rfl, rfl, t⟩ := h
    rw [rpl_strs t]; rfl
theorem maxL_ok : ∀ (r : List Int) (m : Int), maxL m r ∈ m :: r ∧ ∀ y ∈ m :: r, y ≤ maxL m r
  | [], m => by simp [maxL]
  | x :: r, m => by
    have h := maxL_ok r (if m < x then x else m)
    simp only [maxL]
    refine ⟨?_, fun y hy => ?_⟩
    · rcases List.mem_cons.mp h.1 with e | e
      · rw [e]; split <;> simp
      · simp [e]
    · have h2 := h.2 _ List.mem_cons_self
      obtain e | hy := List.mem_cons.mp hy
      · subst e; split at h2 <;> split <;> omega
      · obtain e | hy := List.mem_cons.mp hy
        · subst e; split at h2 <;> split <;> omega
        · exact h.2 y (List.mem_cons_of_mem _ hy)
theorem minL_ok : ∀ (r : List Int) (m : Int), minL m r ∈ m :: r ∧ ∀ y ∈ m :: r, minL m r ≤ y
  | [], m => by simp [minL]
  | x :: r, m => by
    have h := minL_ok r (if x < m then x else m)
    simp only [minL]
    refine ⟨?_, fun y hy => ?_⟩
    · rcases List.mem_cons.mp h.1 with e | e
      · rw [e]; split <;> simp
      · simp [e]
    · have h2 := h.2 _ List.mem_cons_self
      obtain e | hy := List.mem_cons.mp hy
      · subst e; split at h2 <;> split <;> omega
      · obtain e | hy := List.mem_cons.mp hy
        · subst e; split at h2 <;> split <;> omega
        · exact h.2 y (List.mem_cons_of_mem _ hy)
theorem blt_max (hc : X.calm = true) : CallR X (.builtin "max") (rL X.K (bltD .max)) := by
  intro pns s σ H xs us Q I r h
  obtain ⟨A, ds, ro, ga, vx, hf, q⟩ := h
  unfold bltD at hf
  split at hf <;> try contradiction
  · rename_i i j _
    cases hf
    obtain ⟨x, y, rfl, hx, hy⟩ := v2 vx
    simp only [View] at hx hy
    subst hx hy
    exact call_max2 hc pns s σ H _ us Q I r ⟨i, j, rfl, q _ _ (Same.refl H) (by simp [ROR, Rp])⟩
  · rename_i zs _
    cases e : asInts zs with
    | none => rw [e] at hf; cases hf
    | some ns =>
      rw [e] at hf
      cases ns with
      | nil => cases hf
      | cons n ns =>
        cases hf
        obtain ⟨x, rfl, hx⟩ := v1 vx
        simp only [View] at hx
        obtain ⟨a, ys, rfl, hd, hr⟩ := hx
        rw [asInts_map e] at hr
        rw [rpl_ints hr] at hd
        refine cr_max hc pns s σ H _ us Q I r ⟨a, n :: ns, rfl, seqL hd, by simp, fun m hm hle => ?_⟩
        have h1 := maxL_ok ns n
        have e2 : m = maxL n ns := Int.le_antisymm (h1.2 m hm) (hle _ h1.1)
        rw [e2]
        exact q _ _ (Same.refl H) (by simp [ROR, Rp])
/-- min over a dict, apart -/
def minK : List D → Option RO
  | [.dic kvs] => bltD .min [.dic kvs]
  | _ => none
theorem blt_min (hc : X.calm = true) (h3 : CallR X (.builtin "min") (rL X.K minK)) : CallR X (.builtin "min") (rL X.K (bltD .min)) := by
  intro pns s σ H xs us Q I r h
  obtain ⟨A, ds, ro, ga, vx, hf, q⟩ := h
  unfold bltD at hf
  split at hf <;> try contradiction
  · rename_i i j _
    cases hf
    obtain ⟨x, y, rfl, hx, hy⟩ := v2 vx
    simp only [View] at hx hy
    subst hx hy
    exact call_min2 hc pns s σ H _ us Q I r ⟨i, j, rfl, q _ _ (Same.refl H) (by simp [ROR, Rp])⟩
  · rename_i zs _
    cases e : asInts zs with
    | none => rw [e] at hf; cases hf
    | some ns =>
      rw [e] at hf
      cases ns with
      | nil => cases hf
      | cons n ns =>
        cases hf
        obtain ⟨x, rfl, hx⟩ := v1 vx
        simp only [View] at hx
        obtain ⟨a, ys, rfl, hd, hr⟩ := hx
        rw [asInts_map e] at hr
        rw [rpl_ints hr] at hd
        refine cr_min hc pns s σ H _ us Q I r ⟨a, n :: ns, rfl, seqL hd, by simp, fun m hm hle => ?_⟩
        have h1 := minL_ok ns n
        have e2 : m = minL n ns := Int.le_antisymm (hle _ h1.1) (h1.2 m hm)
        rw [e2]
        exact q _ _ (Same.refl H) (by simp [ROR, Rp])
  · rename_i kvs _
    exact h3 pns s σ H xs us Q I r ⟨A, [.dic kvs], ro, ga, vx, hf, q⟩
theorem blt_sum (hc : X.calm = true) : CallR X (.builtin "sum") (rL X.K (bltD .sum)) := by
  intro pns s σ H xs us Q I r h
  obtain ⟨A, ds, ro, ga, vx, hf, q⟩ := h
  unfold bltD at hf
  split at hf <;> try contradiction
  rename_i zs _
  cases e : asInts zs with
  | none => rw [e] at hf; cases hf
  | some ns =>
    rw [e] at hf
    cases hf
    obtain ⟨x, rfl, hx⟩ := v1 vx
    simp only [View] at hx
    obtain ⟨a, ys, rfl, hd, hr⟩ := hx
    rw [asInts_map e] at hr
    rw [rpl_ints hr] at hd
    exact cr_sum hc pns s σ H _ us Q I r ⟨a, ns, rfl, seqL hd, q _ _ (Same.refl H) (by simp [ROR, Rp])⟩
theorem blt_all (hc : X.calm = true) : CallR X (.builtin "all") (rL X.K (bltD .all)) := by
  intro pns s σ H xs us Q I r h
  obtain ⟨A, ds, ro, ga, vx, hf, q⟩ := h
  unfold bltD at hf
  split at hf <;> try contradiction
  rename_i zs _
  cases e : asBls zs with
  | none => rw [e] at hf; cases hf
  | some ns =>
    rw [e] at hf
    cases hf
    obtain ⟨x, rfl, hx⟩ := v1 vx
    simp only [View] at hx
    obtain ⟨a, ys, rfl, hd, hr⟩ := hx
    rw [asBls_map e] at hr
    rw [rpl_bls hr] at hd
    exact cr_all hc pns s σ H _ us Q I r ⟨a, ns, rfl, seqL hd, q _ _ (Same.refl H) (by simp [ROR, Rp])⟩
theorem blt_any (hc : X.calm = true) : CallR X (.builtin "any") (rL X.K (bltD .any)) := by
  intro pns s σ H xs us Q I r h
  obtain ⟨A, ds, ro, ga, vx, hf, q⟩ := h
  unfold bltD at hf
  split at hf <;> try contradiction
  rename_i zs _
  cases e : asBls zs with
  | none => rw [e] at hf; cases hf
  | some ns =>
    rw [e] at hf
    cases hf
    obtain ⟨x, rfl, hx⟩ := v1 vx
    simp only [View] at hx
    obtain ⟨a, ys, rfl, hd, hr⟩ := hx
    rw [asBls_map e] at hr
    rw [rpl_bls hr] at hd
    exact cr_any hc pns s σ H _ us Q I r ⟨a, ns, rfl, seqL hd, q _ _ (Same.refl H) (by simp [ROR, Rp])⟩
theorem blt_int : CallR X (.type "int") (rL X.K (bltD .int)) := by
  intro pns s σ H xs us Q I r h
  obtain ⟨A, ds, ro, ga, vx, hf, q⟩ := h
  unfold bltD at hf
  split at hf <;> try contradiction
  · rename_i i _
    cases hf
    obtain ⟨x, rfl, hx⟩ := v1 vx
    simp only [View] at hx
    subst hx
    exact call_int1 pns s σ H _ us Q I r (.inl ⟨i, rfl, q _ _ (Same.refl H) (by simp [ROR, Rp])⟩)
  · rename_i b _
    cases hf
    obtain ⟨x, rfl, hx⟩ := v1 vx
    simp only [View] at hx
    subst hx
    exact call_int1 pns s σ H _ us Q I r (.inr ⟨b, rfl, q _ _ (Same.refl H) (by cases b <;> simp [ROR, Rp, b2i])⟩)
theorem kv_keys {K : PySem.W.Frag} {A : RdA} : ∀ {kvs : List (DK × D)} {ys : List (Key × V)}, RpD K A kvs ys → RpL K A (kvs.map fun p => p.1.toD) (ys.map fun kv => kV kv.1)
  | [], _, h => by simp only [RpD] at h; subst h; exact RpL.nil
  | (k, d) :: kvs, _, h => by
    simp only [RpD] at h
    obtain ⟨x, r, rfl, hd, ht⟩ := h
    refine RpL.cons ?_ (kv_keys ht)
    cases k <;> simp [DK.toD, DK.toKey, Rp, kV]
/-- the signs of a text, each a text -/
theorem sign_vals {x : List Nat} {its : List Value} (hl : its.length = x.length) (h : ∀ (j : Nat) (v : Value), its[j]? = some v → ∃ c u, x[j]? = some c ∧ v = .str ⟨#[c]⟩ u) : Vals (x.map fun c => V.str (mkS [c])) its := by
  induction x generalizing its with
  | nil =>
    have : its = [] := List.length_eq_zero_iff.mp hl
    subst this
    exact .nil
  | cons c x ih =>
    cases its with
    | nil => cases hl
    | cons v its =>
      obtain ⟨c', u, e1, e2⟩ := h 0 v rfl
      cases e1
      exact .cons ⟨u, e2⟩ (ih (by simpa using hl) fun j w e => by simpa using h (j + 1) w (by simpa using e))
theorem signs_rpl {K : PySem.W.Frag} {A : RdA} : ∀ s : List Nat, RpL K A (s.map fun c => D.str [c]) (s.map fun c => V.str (mkS [c]))
  | [] => RpL.nil
  | c :: s => RpL.cons (by simp [Rp]) (signs_rpl s)
theorem blt_list (hc : X.calm = true) : CallR X (.type "list") (rL X.K (bltD .list)) := by
  intro pns s σ H xs us Q I r h
  obtain ⟨A, ds, ro, ga, vx, hf, q⟩ := h
  unfold bltD at hf
  split at hf <;> try contradiction
  · cases hf
    obtain ⟨x, rfl, hx⟩ := v1 vx
    simp only [View] at hx
    obtain ⟨a, ys, rfl, hd, hr⟩ := hx
    exact call_list_of pns s σ H _ us Q I r ⟨a, ys, rfl, .inl (seqL hd), fun l hl => give_lst hl hr q⟩
  · cases hf
    obtain ⟨x, rfl, hx⟩ := v1 vx
    simp only [View] at hx
    obtain ⟨a, ys, rfl, hd, hr⟩ := hx
    exact call_list_of pns s σ H _ us Q I r ⟨a, ys, rfl, .inr hd, fun l hl => give_lst hl hr q⟩
  · cases hf
    obtain ⟨x, rfl, hx⟩ := v1 vx
    simp only [View] at hx
    obtain ⟨a, ys, rfl, hd, hr⟩ := hx
    exact call_listD hc pns s σ H _ us Q I r ⟨a, ys, rfl, hd, fun l hl => give_lst hl (kv_keys hr) q⟩
  · rename_i z _
    split at hf <;> cases hf
    rename_i hl
    obtain ⟨x, rfl, hx⟩ := v1 vx
    simp only [View] at hx
    subst hx
    rcases vals1 r with ⟨u, rfl, t, rfl⟩
    have hz : (mkS z).cps.size = z.length := by simp [mkS]
    refine PySem.call_list_str (I.ok.hd hc) (mkS z) t (hn := by rw [hz]; exact lim_le hl) fun h' tk acc' c' hk hS hacc => ?_
    have hv : Vals (z.map fun c => V.str (mkS [c])) acc'.toList := by
      refine sign_vals (by rw [Array.length_toList, hacc.1, hz]) fun j v e => ?_
      obtain ⟨c, u, e1, e2⟩ := hacc.2 j v (by simpa using e)
      exact ⟨c, u, by simpa [mkS] using e1, e2⟩
    have hlen : (z.map fun c => V.str (mkS [c])).length ≤ sizeLine := by rw [List.length_map]; exact lim_le hl
    refine ⟨.ref _, _, I.laid (a := s.heap.objs.size) (o := .lst (z.map fun c => V.str (mkS [c]))) (t' := tk) hk (Nat.le_refl _) ⟨hlen, acc'.toList, c', hv, ?_⟩, rfl, give_lst I.fresh (signs_rpl z) q⟩
    rw [hS]
theorem blt_tuple : CallR X (.type "tuple") (rL X.K (bltD .tuple)) := by
  intro pns s σ H xs us Q I r h
  obtain ⟨A, ds, ro, ga, vx, hf, q⟩ := h
  unfold bltD at hf
  split at hf <;> try contradiction
  · cases hf
    obtain ⟨x, rfl, hx⟩ := v1 vx
    simp only [View] at hx
    obtain ⟨a, ys, rfl, hd, hr⟩ := hx
    exact call_tuple_of pns s σ H _ us Q I r ⟨a, ys, rfl, .inl ⟨seqL hd, fun l hl => give_tup hl hr q⟩⟩
  · cases hf
    obtain ⟨x, rfl, hx⟩ := v1 vx
    simp only [View] at hx
    obtain ⟨a, ys, rfl, hd, hr⟩ := hx
    exact call_tuple_of pns s σ H _ us Q I r ⟨a, ys, rfl, .inr ⟨hd, give_tup0 (ga.tup hd) hr q⟩⟩
end
end Fx

set_option Elab.async false
set_option linter.all false
set_option maxRecDepth 100000
/-! Fx7: repr of data; isinstance. -/
namespace Fx
open L2 PyProof.Rows PySem PySem.Spec
section
variable {X : Cx} {pns : List (Addr × Obj)} {σ : L2.St} {H : Hp} {s : Shared}
theorem rd_some {a : Addr} {u : HO} (h : Rd H a u) : H a ≠ none := by
  rcases h with h | ⟨o, h⟩ <;> rw [h] <;> simp
/-- no dict is there -/
def NoDict (h : Heap) (a : Addr) : Prop := ∃ o its n, h.get? a = some o ∧ o.data = .seq its n
def pyKey : DK → PyData
  | .i n => .int n
  | .s l => .str (mkS l)
theorem pairs_get {knd : KeyKind X.prog X.w Key} (hk : knd = mixKind X.prog X.w) : ∀ {es : List DictEntry} {vs : List (Key × Value)}, Pairs knd es vs →
    (es.map (·.val)) = vs.map (·.2) ∧ Paired (fun k v => keyIs k v = true) (vs.map (·.1)) (es.map (·.key))
  | _, _, .nil => ⟨rfl, .nil⟩
  | _, _, .cons h1 h2 t => by
    obtain ⟨e1, e2⟩ := pairs_get hk t
    refine ⟨by simp [h2, e1], ?_⟩
    subst hk
    exact .cons h1 e2
theorem readKeys {h : Heap} : ∀ {ks : List DK} {us : List Value}, Paired (fun k v => keyIs k v = true) (ks.map DK.toKey) us → ReadsAll h us (ks.map pyKey) []
  | [], _, .nil => .nil
  | k :: ks, _, .cons (b := u) h1 t => by
    have r : Reads h u (pyKey k) [] := by
      cases k with
      | i n =>
        rcases keyIs_shape h1 with ⟨i, t, e1, e2⟩ | ⟨x, t, e1, e2⟩
        · cases e1; subst e2; exact .int _ _
        · cases e1
      | s l =>
        rcases keyIs_shape h1 with ⟨i, t, e1, e2⟩ | ⟨x, t, e1, e2⟩
        · cases e1
        · cases e1; subst e2; exact .str _ _
    exact .cons r (readKeys t)
theorem toPyk_keys : ∀ kvs : List (DK × D), (toPyk kvs).map (·.1) = (kvs.map (·.1)).map pyKey
  | [] => rfl
  | (k, d) :: r => by
    simp only [toPyk, List.map_cons, toPyk_keys r]
    cases k <;> rfl
theorem toPyk_vals : ∀ kvs : List (DK × D), (toPyk kvs).map (·.2) = toPys (kvs.map (·.2))
  | [] => rfl
  | (k, d) :: r => by simp only [toPyk, List.map_cons, toPyk_vals r, toPys]
theorem rpD_keys {K : PySem.W.Frag} {A : RdA} : ∀ {kvs : List (DK × D)} {ys : List (Key × V)}, RpD K A kvs ys → ys.map (·.1) = (kvs.map (·.1)).map DK.toKey
  | [], _, h => by simp only [RpD] at h; subst h; rfl
  | (k, d) :: r, _, h => by
    simp only [RpD] at h
    obtain ⟨x, r', rfl, _, t⟩ := h
    simp [rpD_keys t]
theorem rpD_vals {K : PySem.W.Frag} {A : RdA} : ∀ {kvs : List (DK × D)} {ys : List (Key × V)}, RpD K A kvs ys → RpL K A (kvs.map (·.2)) (ys.map (·.2))
  | [], _, h => by simp only [RpD] at h; subst h; exact RpL.nil
  | (k, d) :: r, _, h => by
    simp only [RpD] at h
    obtain ⟨x, r', rfl, hd, t⟩ := h
    exact RpL.cons hd (rpD_vals t)
theorem kv_vals : ∀ {ys : List (Key × V)} {vs : List (Key × Value)}, KV ys vs → Vals (ys.map (·.2)) (vs.map (·.2)) ∧ vs.map (·.1) = ys.map (·.1)
  | _, _, .nil => ⟨.nil, rfl⟩
  | _, _, .cons h t => ⟨.cons h.2 (kv_vals t).1, by simp [h.1, (kv_vals t).2]⟩
mutual
theorem rp_reads (I : Inv X pns σ H s) : ∀ (d : D) (v : V) (u : Value), Rp X.K (All H) d v → RelV v u → ∃ as, Reads s.heap u (toPy d) as ∧ ∀ a ∈ as, H a ≠ none ∨ NoDict s.heap a
  | .non, v, u, h, r => by simp only [Rp] at h; subst h; cases r; exact ⟨_, .none, by simp⟩
  | .bl b, v, u, h, r => by simp only [Rp] at h; subst h; cases r; exact ⟨_, .bool b, by simp⟩
  | .int i, v, u, h, r => by simp only [Rp] at h; subst h; obtain ⟨t, rfl⟩ := r; exact ⟨_, .int i t, by simp⟩
  | .str z, v, u, h, r => by simp only [Rp] at h; subst h; obtain ⟨t, rfl⟩ := r; exact ⟨_, .str _ t, by simp⟩
  | .tup ds, v, u, h, r => by
    simp only [Rp] at h
    obtain ⟨a, xs, rfl, hs, hr⟩ := h
    cases r
    obtain ⟨its, rv, ⟨o, ho, hc, n, hd⟩, _⟩ := I.tuple (hs.seq fun _ _ q => q)
    obtain ⟨as, h1, h2⟩ := rp_readsL I ds xs its hr rv
    simp only [toPy]
    exact ⟨as, .tuple ho hc hd h1, h2⟩
  | .lst ds, v, u, h, r => by
    simp only [Rp] at h
    obtain ⟨a, xs, rfl, hs, hr⟩ := h
    cases r
    obtain ⟨_, its, n, rv, _, e⟩ := rd_list I (hs.heap fun _ _ q => q)
    obtain ⟨as, h1, h2⟩ := rp_readsL I ds xs its hr rv
    simp only [toPy]
    refine ⟨a :: as, .list e rfl rfl h1, fun b hb => ?_⟩
    obtain rfl | hb := List.mem_cons.mp hb
    · exact .inr ⟨_, _, _, e, rfl⟩
    · exact h2 b hb
  | .dic kvs, v, u, h, r => by
    simp only [Rp] at h
    obtain ⟨a, ys, rfl, hs, hr⟩ := h
    cases r
    obtain ⟨_, _, vs, rel, o, es, ep, e1, e2, e3, _, e5, _⟩ := dk_rd I.hok hs
    obtain ⟨p1, p2⟩ := pairs_get rfl e5
    obtain ⟨q1, q2⟩ := kv_vals rel
    rw [q2, rpD_keys hr] at p2
    obtain ⟨as, h1, h2⟩ := rp_readsK I kvs ys (vs.map (·.2)) hr q1
    simp only [toPy]
    refine ⟨a :: [] ++ as, .dict e1 e2.1 e3 ?_ ?_, fun b hb => ?_⟩
    · rw [toPyk_keys]
      exact readKeys p2
    · rw [toPyk_vals, p1]
      exact h1
    · obtain rfl | hb := List.mem_cons.mp hb
      · exact .inl (rd_some hs)
      · exact h2 b hb
theorem rp_readsL (I : Inv X pns σ H s) : ∀ (ds : List D) (vs : List V) (us : List Value), RpL X.K (All H) ds vs → Vals vs us → ∃ as, ReadsAll s.heap us (toPys ds) as ∧ ∀ a ∈ as, H a ≠ none ∨ NoDict s.heap a
  | [], vs, us, h, r => by simp only [RpL] at h; subst h; cases r; exact ⟨_, .nil, by simp⟩
  | d :: ds, vs, us, h, r => by
    simp only [RpL] at h
    obtain ⟨x, xs, rfl, hd, ht⟩ := h
    cases r with
    | cons r1 r2 =>
      obtain ⟨as, h1, h2⟩ := rp_reads I d x _ hd r1
      obtain ⟨bs, h3, h4⟩ := rp_readsL I ds xs _ ht r2
      refine ⟨as ++ bs, .cons h1 h3, fun a ha => ?_⟩
      obtain ha | ha := List.mem_append.mp ha
      · exact h2 a ha
      · exact h4 a ha
theorem rp_readsK (I : Inv X pns σ H s) : ∀ (kvs : List (DK × D)) (ys : List (Key × V)) (us : List Value), RpD X.K (All H) kvs ys → Vals (ys.map (·.2)) us → ∃ as, ReadsAll s.heap us (toPys (kvs.map (·.2))) as ∧ ∀ a ∈ as, H a ≠ none ∨ NoDict s.heap a
  | [], vs, us, h, r => by simp only [RpD] at h; subst h; cases r; exact ⟨_, .nil, by simp⟩
  | (k, d) :: ds, vs, us, h, r => by
    simp only [RpD] at h
    obtain ⟨x, xs, rfl, hd, ht⟩ := h
    cases r with
    | cons r1 r2 =>
      obtain ⟨as, h1, h2⟩ := rp_reads I d x _ hd r1
      obtain ⟨bs, h3, h4⟩ := rp_readsK I ds xs _ ht r2
      refine ⟨as ++ bs, .cons h1 h3, fun a ha => ?_⟩
      obtain ha | ha := List.mem_append.mp ha
      · exact h2 a ha
      · exact h4 a ha
end
end
section
variable {X : Cx}
theorem mkS_back (z : Str) : mkS z.cps.toList = z := by simp [mkS]
theorem blt_repr (hu : X.A.units + 100 < cLine) (hg : X.A.guards = some []) (hsys : ∃ o es ep, X.base.get? sysModules = some o ∧ o.data = .dict es ep) : CallR X (.builtin "repr") (rL X.K (bltD .repr)) := by
  intro pns s σ H xs us Q I r h
  obtain ⟨A, ds, ro, ga, vx, hf, q⟩ := h
  unfold bltD at hf
  split at hf <;> try contradiction
  rename_i d _
  split at hf <;> cases hf
  rename_i hc
  obtain ⟨x, rfl, hx⟩ := v1 vx
  rcases vals1 r with ⟨u, rfl, ru⟩
  obtain ⟨as, h1, h2⟩ := rp_reads I d x u (hx.all ga.rd) ru
  have no : sysModules ∉ as := fun hm => by
    obtain ⟨o, es, ep, ho, hd⟩ := hsys
    rcases h2 _ hm with z | ⟨o', its, n, z1, z2⟩
    · exact z (I.bs _ _ ho).2
    · rw [(I.bs _ _ ho).1] at z1
      cases z1
      exact nomatch (hd.symm.trans z2)
  have hsz : (toPy d).shown.length ≤ sizeLine := lim_le hc.2.1
  have fin : ∀ (h' : Heap) (u : Tok) (tk : Nat), (∀ b o, s.heap.get? b = some o → h'.get? b = some o) → EP X pns σ Q (.str (toPy d).shown u) { s with heap := h', toks := tk } := fun h' u tk k => by
    refine ⟨.str (toPy d).shown, H, I.kept k, ⟨_, rfl⟩, ?_⟩
    have := q (.str (toPy d).shown) H (Same.refl H) (by simp [ROR, Rp, mkS_back])
    exact this
  cases d with
  | non => simp only [View] at hx; subst hx; cases ru; exact PySem.P.repr_of_none (by simpa [toPy, PyData.shown] using fin s.heap s.toks (s.toks + 1) fun _ _ e => e)
  | bl b =>
    simp only [View] at hx; subst hx; cases ru
    have z := fin s.heap s.toks (s.toks + 1) fun _ _ e => e
    simp only [toPy, PyData.shown] at z
    exact PySem.P.repr_of_bool z
  | int i =>
    simp only [View] at hx; subst hx; obtain ⟨t, rfl⟩ := ru
    have z := fin s.heap s.toks (s.toks + 1) fun _ _ e => e
    simp only [toPy, PyData.shown] at z
    exact PySem.P.repr_of_int (by simpa [toPy, PyData.showable] using hc.1) z
  | str w =>
    simp only [View] at hx; subst hx; obtain ⟨t, rfl⟩ := ru
    have z := fin s.heap s.toks (s.toks + 1) fun _ _ e => e
    simp only [toPy, PyData.shown] at z hsz
    exact PySem.P.repr_of_str z hsz
  | tup ys =>
    simp only [View] at hx
    obtain ⟨a, zs, rfl, _⟩ := hx
    cases ru
    exact repr_of_reads' h1 hc.1 (fun _ => no) hg (by have := hc.2.2; omega) (fun _ _ e => e) fin hsz
  | lst ys =>
    simp only [View] at hx
    obtain ⟨a, zs, rfl, _⟩ := hx
    cases ru
    exact repr_of_reads' h1 hc.1 (fun _ => no) hg (by have := hc.2.2; omega) (fun _ _ e => e) fin hsz
  | dic ys =>
    simp only [View] at hx
    obtain ⟨a, zs, rfl, _⟩ := hx
    cases ru
    exact repr_of_reads' h1 hc.1 (fun _ => no) hg (by have := hc.2.2; omega) (fun _ _ e => e) fin hsz
/-- isinstance -/
def tyN : Ty → String
  | .int => "int"
  | .bool => "bool"
  | .str => "str"
  | .tuple => "tuple"
  | .list => "list"
  | .dict => "dict"
def tyOfD : D → String
  | .non => "NoneType"
  | .bl _ => "bool"
  | .int _ => "int"
  | .str _ => "str"
  | .tup _ => "tuple"
  | .lst _ => "list"
  | .dic _ => "dict"
theorem view_ty {K : PySem.W.Frag} {A : RdA} {H : Hp} {d : D} {v : V} (h : View K A H d v) : TyX K H v (.type (tyOfD d)) := by
  cases d <;> simp only [View] at h
  · subst h; exact .base .non
  · subst h; exact .base (.bl _)
  · subst h; exact .base (.int _)
  · subst h; exact .base (.str _)
  · obtain ⟨a, xs, rfl, hs, _⟩ := h
    rcases hs with (hs | ⟨o, hs⟩) | ⟨o, its, n, hk, hc, _⟩
    · exact .base (.tup hs)
    · exact .fTuple hs
    · exact .kTuple hk hc
  · obtain ⟨a, xs, rfl, hs, _⟩ := h
    rcases hs with (hs | ⟨o, hs⟩) | ⟨its, n, hk, _⟩
    · exact .base (.lst hs)
    · exact .base (.frz hs)
    · exact .kList hk rfl
  · obtain ⟨a, xs, rfl, hs, _⟩ := h
    rcases hs with hs | ⟨o, hs⟩
    · exact .base (.dK hs)
    · exact .fDict hs
theorem kit_dty (K : PySem.W.Frag) (d : D) (t : Ty) : PySem.W.kitOne K (.type (tyOfD d)) (.type (tyN t)) = some (tyD t d) := by
  cases t <;> cases d <;> exact kit_ty (by simp only [tyOfD, tyN, tyD]; decide +kernel)
/-- the answer of isinstance as a reading of its first argument -/
theorem isi_G {t : Ty} : CallR X (.builtin "isinstance") (fun xs H Q => ∃ A d x, xs = [x, .ty (tyN t)] ∧ GoodA A H ∧ View X.K A H d x ∧ Q (.bl (tyD t d)) H) := by
  intro pns s σ H xs us Q I r h
  obtain ⟨A, d, x, rfl, ga, vx, q⟩ := h
  exact call_isi pns s σ H _ us Q I r ⟨x, _, _, _, _, rfl, .ty _, view_ty vx, kit_dty X.K d t, q⟩
end
end Fx

set_option Elab.async false
set_option linter.all false
set_option maxRecDepth 100000
/-! Fx8: storing, statements: readings by the evaluator. -/
namespace Fx
open L2 PyProof.Rows PySem PySem.Spec

section
variable {K : PySem.W.Frag} {O : Addr → Prop} {env env0 env1 env2 env' : Cells} {σ σ0 σ1 σ2 σ' : L2.St} {H H0 H1 H2 H' : Hp}

/-! ### storing into a slot -/
theorem obAt_set {i j : Nat} {c : Cell} (hi : i < env.length) : obAt (env.set i c) j = if i = j then c.ob else obAt env j := by
  unfold obAt
  by_cases h : i = j
  · subst h; rw [if_pos rfl, List.getElem?_set_self hi]; rfl
  · rw [if_neg h, List.getElem?_set_ne h]
/-- what is owned behind a store -/
theorem ow_set {i : Nat} {c : Cell} {v : V} {a : Addr} (hi : i < env.length) (h : Ow (env.set i c) (σ.set i (some v)) a) :
    Ow env σ a ∨ (∃ b, c.ob = some b) ∧ v = .ref a := by
  obtain ⟨j, b, e, e2⟩ := h
  rw [obAt_set hi] at e
  by_cases hj : i = j
  · subst hj
    rw [if_pos rfl] at e
    refine .inr ⟨⟨b, e⟩, ?_⟩
    by_cases hl : i < σ.length
    · rw [List.getElem?_set_self hl] at e2; cases e2; rfl
    · rw [List.getElem?_eq_none (by simpa using hl)] at e2; cases e2
  · rw [if_neg hj] at e
    rw [List.getElem?_set_ne hj] at e2
    exact .inl ⟨j, b, e, e2⟩
/-- data -/
theorem store_d (rel : Rel K O env σ H) {i : Nat} {x : D} {v : V} (hi : i < env.length) (hio : ∀ b, env[i]? ≠ some (.io b)) (hv : Rp K (Av O env σ H) x v) :
    Rel K O (env.set i (.d x)) (σ.set i (some v)) H ∧ Step env σ H (env.set i (.d x)) (σ.set i (some v)) H := by
  have ow : ∀ a, Ow (env.set i (.d x)) (σ.set i (some v)) a → Ow env σ a := fun a o => by
    rcases ow_set hi o with o | ⟨⟨b, z⟩, _⟩
    · exact o
    · cases z
  have av : ∀ a u, Av O env σ H a u → Av O (env.set i (.d x)) (σ.set i (some v)) H a u := fun a u k => ⟨fun o => k.1 (ow a o), k.2⟩
  have hl : i < σ.length := by rw [← rel.len]; exact hi
  refine ⟨⟨by rw [List.length_set, List.length_set]; exact rel.len, fun j c e => ?_, fun j k b b' p h1 h2 h3 h4 => ?_, fun a z => ⟨(rel.hid a z).1, fun o => (rel.hid a z).2 (ow a o)⟩⟩,
    fun _ _ e _ => e, fun a _ n o => n (ow a o), fun _ h => h, fun j b e => ?_⟩
  · by_cases hj : i = j
    · subst hj
      rw [List.getElem?_set_self hi] at e
      cases e
      exact ⟨v, List.getElem?_set_self hl, Rp.mono av _ _ hv⟩
    · rw [List.getElem?_set_ne hj] at e ⊢
      have q := rel.at_ j c e
      cases c with
      | none => trivial
      | d y => obtain ⟨w, e1, q⟩ := q; exact ⟨w, e1, Rp.mono av _ _ q⟩
      | o b => obtain ⟨w, e1, q⟩ := q; exact ⟨w, e1, q.mono av rfl⟩
      | io b => obtain ⟨w, e1, q⟩ := q; exact ⟨w, e1, q.mono av rfl⟩
  · rw [obAt_set hi] at h1 h2
    split at h1
    · cases h1
    · split at h2
      · cases h2
      · rename_i n1 n2
        rw [List.getElem?_set_ne n1] at h3
        rw [List.getElem?_set_ne n2] at h4
        exact rel.inj j k b b' p h1 h2 h3 h4
  · have hj : i ≠ j := fun z => by subst z; exact hio b e
    rw [List.getElem?_set_ne hj, List.getElem?_set_ne hj]
    exact ⟨rfl, b, e⟩
/-- a new object -/
theorem store_o (st : Step env0 σ0 H0 env σ H) {i : Nat} {b : Ob} {v : V} {p : Addr} (rel : Rel K (un O (nw (.new b) v)) env σ H) (hi : i < env.length)
    (hio : ∀ b, env[i]? ≠ some (.io b)) (nOp : ¬ O p) (hvp : v = .ref p) (hp : H0 p = none) (hb : ObR K (Av (un O (nw (.new b) v)) env σ H) H b p) :
    Rel K O (env.set i (.o b)) (σ.set i (some v)) H ∧ Step env0 σ0 H0 (env.set i (.o b)) (σ.set i (some v)) H ∧
      ∀ a u, Av (un O (nw (.new b) v)) env σ H a u → Av O (env.set i (.o b)) (σ.set i (some v)) H a u := by
  have ow : ∀ a, Ow (env.set i (.o b)) (σ.set i (some v)) a → Ow env σ a ∨ a = p := fun a o => by
    rcases ow_set hi o with o | ⟨_, z⟩
    · exact .inl o
    · rw [hvp] at z; cases z; exact .inr rfl
  have av : ∀ a u, Av (un O (nw (.new b) v)) env σ H a u → Av O (env.set i (.o b)) (σ.set i (some v)) H a u := fun a u k =>
    ⟨fun o => (ow a o).elim k.1 fun z => k.2.1 (.inr (by subst z; exact hvp)), fun z => k.2.1 (.inl z), k.2.2⟩
  have hl : i < σ.length := by rw [← rel.len]; exact hi
  have np : ¬ Ow env σ p := (rel.hid p (.inr hvp)).2
  refine ⟨⟨by rw [List.length_set, List.length_set]; exact rel.len, fun j c e => ?_, fun j k c c' q h1 h2 h3 h4 => ?_, fun a z => ⟨(rel.hid a (.inl z)).1, fun o => ?_⟩⟩,
    ⟨fun a o e n => st.kp a o e n, fun a h n o => ?_, fun a h => st.th a h, fun j c e => ?_⟩, av⟩
  · by_cases hj : i = j
    · subst hj
      rw [List.getElem?_set_self hi] at e
      cases e
      exact ⟨p, by rw [List.getElem?_set_self hl, hvp], hb.mono av rfl⟩
    · rw [List.getElem?_set_ne hj] at e ⊢
      have q := rel.at_ j c e
      cases c with
      | none => trivial
      | d y => obtain ⟨w, e1, q⟩ := q; exact ⟨w, e1, Rp.mono av _ _ q⟩
      | o b => obtain ⟨w, e1, q⟩ := q; exact ⟨w, e1, q.mono av rfl⟩
      | io b => obtain ⟨w, e1, q⟩ := q; exact ⟨w, e1, q.mono av rfl⟩
  · rw [obAt_set hi] at h1 h2
    by_cases n1 : i = j
    · by_cases n2 : i = k
      · exact n1.symm.trans n2
      · rw [if_neg n2] at h2
        subst n1
        rw [List.getElem?_set_self hl] at h3
        rw [List.getElem?_set_ne n2] at h4
        cases h3
        cases hvp
        exact (np ⟨k, c', h2, h4⟩).elim
    · rw [if_neg n1] at h1
      by_cases n2 : i = k
      · subst n2
        rw [List.getElem?_set_self hl] at h4
        rw [List.getElem?_set_ne n1] at h3
        cases h4
        cases hvp
        exact (np ⟨j, c, h1, h3⟩).elim
      · rw [if_neg n2] at h2
        rw [List.getElem?_set_ne n1] at h3
        rw [List.getElem?_set_ne n2] at h4
        exact rel.inj j k c c' q h1 h2 h3 h4
  · rcases ow a o with o | o
    · exact (rel.hid a (.inl z)).2 o
    · subst o; exact nOp z
  · rcases ow a o with o | o
    · exact st.ow a h n o
    · subst o; exact h hp
  · obtain ⟨e1, c', e2⟩ := st.io j c e
    have hj : i ≠ j := fun z => by subst z; exact hio c' e2
    rw [List.getElem?_set_ne hj, List.getElem?_set_ne hj]
    exact ⟨e1, c', e2⟩
/-! ### targets -/
end
mutual
def Tg.slots : Tg → List Nat
  | .nm i => [i]
  | .tup ts => Tg.slotsL ts
def Tg.slotsL : List Tg → List Nat
  | [] => []
  | t :: ts => t.slots ++ Tg.slotsL ts
end
/-- but for some slots the same -/
def Eqo (is : List Nat) (σ σ' : L2.St) : Prop := σ'.length = σ.length ∧ ∀ j, j ∉ is → σ'[j]? = σ[j]?
theorem Eqo.refl {is : List Nat} {σ : L2.St} : Eqo is σ σ := ⟨rfl, fun _ _ => rfl⟩
section
variable (K : PySem.W.Frag)
def gD (t : Tg) : TG := fun v σ H Q => ∃ O env d env', Rel K O env σ H ∧ Rp K (Av O env σ H) d v ∧ asgD t d env = some env' ∧
  ∀ σ' H', Rel K O env' σ' H' → Step env σ H env' σ' H' → Eqo t.slots σ σ' → Q σ' H'
def gDs (ts : List Tg) : TGs := fun vs σ H Q => ∃ O env ds env', Rel K O env σ H ∧ RpL K (Av O env σ H) ds vs ∧ asgDs ts ds env = some env' ∧
  ∀ σ' H', Rel K O env' σ' H' → Step env σ H env' σ' H' → Eqo (Tg.slotsL ts) σ σ' → Q σ' H'
def gR (t : Tg) : TG := fun v σ H Q => ∃ O env0 σ0 H0 env r env', Step env0 σ0 H0 env σ H ∧ Rel K (un O (nw r v)) env σ H ∧ (∀ a, O a → H0 a ≠ none) ∧
  RR K (un O (nw r v)) env σ H0 H r v ∧ asgR t r env = some env' ∧ ∀ σ' H', Rel K O env' σ' H' → Step env0 σ0 H0 env' σ' H' → Q σ' H'
end
section
variable {K : PySem.W.Frag} {O : Addr → Prop} {env env0 env1 env2 env' : Cells} {σ σ0 σ1 σ2 σ' : L2.St} {H H0 H1 H2 H' : Hp}
theorem slot_ok {i : Nat} {c : Cell} {o : Option Cells} (h : (match env[i]? with | some (.io _) => none | some _ => some (env.set i c) | none => none) = some env') :
    i < env.length ∧ (∀ b, env[i]? ≠ some (.io b)) ∧ env' = env.set i c := by
  cases e : env[i]? with
  | none => (rw [e] at h; cases h)
  | some x =>
    have hi := (List.getElem?_eq_some_iff.mp e).1
    rw [e] at h
    cases x with
    | io b => cases h
    | none => cases h; exact ⟨hi, fun b z => (by cases z), rfl⟩
    | d y => cases h; exact ⟨hi, fun b z => (by cases z), rfl⟩
    | o y => cases h; exact ⟨hi, fun b z => (by cases z), rfl⟩
theorem gD_nm {i : Nat} {v : V} {Q : L2.St → Hp → Prop} (h : gD K (.nm i) v σ H Q) : gName i v σ H Q := by
  obtain ⟨O, env, d, env', rel, rp, e, q⟩ := h
  unfold asgD at e
  obtain ⟨hi, hio, rfl⟩ := slot_ok (o := none) e
  obtain ⟨r1, s1⟩ := store_d rel hi hio rp
  exact q _ _ r1 s1 ⟨by rw [List.length_set], fun j hj => List.getElem?_set_ne fun z => hj (by subst z; exact List.mem_singleton_self _)⟩
theorem asgDs_len : ∀ {ts : List Tg} {ds : List D} {env env' : Cells}, asgDs ts ds env = some env' → ds.length = ts.length
  | [], [], _, _, _ => rfl
  | [], _ :: _, _, _, h => by unfold asgDs at h; cases h
  | _ :: _, [], _, _, h => by unfold asgDs at h; cases h
  | t :: ts, d :: ds, env, env', h => by
    unfold asgDs at h
    cases e : asgD t d env with
    | none => (rw [e] at h; cases h)
    | some env1 =>
      rw [e] at h
      simp only at h
      rw [List.length_cons, List.length_cons, asgDs_len h]
theorem gD_tup {ts : List Tg} {v : V} {Q : L2.St → Hp → Prop} (h : gD K (.tup ts) v σ H Q) : gTup K ts.length (gDs K ts) v σ H Q := by
  obtain ⟨O, env, d, env', rel, rp, e, q⟩ := h
  cases d with
  | tup xs =>
    unfold asgD at e
    simp only [Rp] at rp
    obtain ⟨a, ys, rfl, hs, hr⟩ := rp
    exact ⟨a, ys, rfl, hs.seq fun _ _ => av_rd, hr.length.trans (asgDs_len e), O, env, xs, env', rel, hr, e, fun σ' H' a b c => q σ' H' a b (by simpa only [Tg.slots] using c)⟩
  | _ => unfold asgD at e; cases e
theorem gDs_nil {vs : List V} {Q : L2.St → Hp → Prop} (h : gDs K [] vs σ H Q) : gNil vs σ H Q := by
  obtain ⟨O, env, ds, env', rel, rp, e, q⟩ := h
  cases ds with
  | nil =>
    unfold asgDs at e
    cases e
    simp only [RpL] at rp
    exact ⟨rp, q _ _ rel Step.refl Eqo.refl⟩
  | cons d ds => unfold asgDs at e; cases e
theorem gDs_cons {t : Tg} {ts : List Tg} {vs : List V} {Q : L2.St → Hp → Prop} (h : gDs K (t :: ts) vs σ H Q) : gCons (gD K t) (gDs K ts) vs σ H Q := by
  obtain ⟨O, env, ds, env', rel, rp, e, q⟩ := h
  cases ds with
  | nil => unfold asgDs at e; cases e
  | cons d ds =>
    unfold asgDs at e
    simp only [RpL] at rp
    obtain ⟨x, r, rfl, hd, hr⟩ := rp
    cases e1 : asgD t d env with
    | none => rw [e1] at e; cases e
    | some env1 =>
      rw [e1] at e
      exact ⟨x, r, rfl, O, env, d, env1, rel, hd, e1, fun σ1 H1 rel1 st1 eq1 => ⟨O, env1, ds, env', rel1, st1.rpL hr, e, fun σ2 H2 rel2 st2 eq2 => q σ2 H2 rel2 (st1.trans st2)
        ⟨eq2.1.trans eq1.1, fun j hj => (eq2.2 j fun z => hj (by rw [Tg.slotsL]; exact List.mem_append_right _ z)).trans (eq1.2 j fun z => hj (by rw [Tg.slotsL]; exact List.mem_append_left _ z))⟩⟩⟩
theorem gR_nm {i : Nat} {v : V} {Q : L2.St → Hp → Prop} (h : gR K (.nm i) v σ H Q) : gName i v σ H Q := by
  obtain ⟨O, env0, σ0, H0, env, r, env', st, rel, hO, rr, e, q⟩ := h
  simp only [asgR] at e
  cases r with
  | d x =>
    simp only [cellOf] at e
    obtain ⟨hi, hio, rfl⟩ := slot_ok (o := none) e
    obtain ⟨r1, s1⟩ := store_d (rel.less fun a z => .inl z) hi hio (Rp.mono (av_anti fun a z => .inl z) _ _ rr)
    exact q _ _ r1 (st.trans s1)
  | new b =>
    simp only [cellOf] at e
    obtain ⟨hi, hio, rfl⟩ := slot_ok (o := none) e
    obtain ⟨p, hvp, hp, hb⟩ := rr
    obtain ⟨r1, s1, _⟩ := store_o st rel hi hio (fun z => hO p z hp) hvp hp hb
    exact q _ _ r1 s1
  | own j =>
    cases g : frz env (.own j) with
    | none => simp only [cellOf, g, Option.map] at e; cases e
    | some p =>
      obtain ⟨d, env1⟩ := p
      simp only [cellOf, g, Option.map] at e
      obtain ⟨rel1, st1, rp1⟩ := frz_ok rel (fun a z => z.elim) rr g
      obtain ⟨hi, hio, rfl⟩ := slot_ok (o := none) e
      obtain ⟨r1, s1⟩ := store_d rel1 hi hio rp1
      exact q _ _ r1 ((st.trans st1).trans s1)
theorem gR_tup {ts : List Tg} {v : V} {Q : L2.St → Hp → Prop} (h : gR K (.tup ts) v σ H Q) : gD K (.tup ts) v σ H Q := by
  obtain ⟨O, env0, σ0, H0, env, r, env', st, rel, hO, rr, e, q⟩ := h
  simp only [asgR] at e
  cases g : frz env r with
  | none => rw [g] at e; cases e
  | some p =>
    obtain ⟨d, env1⟩ := p
    rw [g] at e
    simp only at e
    obtain ⟨rel1, st1, rp1⟩ := frz_ok rel (fun a z k => hO a k (rr.fresh a z)) rr g
    exact ⟨O, env1, d, env', rel1, rp1, e, fun σ' H' r2 s2 _ => q σ' H' r2 ((st.trans st1).trans s2)⟩
end

/-! ### statements -/
section
variable (K : PySem.W.Frag)
def FinS (O : Addr → Prop) (env : Cells) (σ : L2.St) (H : Hp) (env1 : Cells) (D : Ends) : Fl → Prop
  | .next => ∀ σ' H', Rel K O env1 σ' H' → Step env σ H env1 σ' H' → D.nx σ' H'
  | .brk => ∀ σ' H', Rel K O env1 σ' H' → Step env σ H env1 σ' H' → D.bk σ' H'
  | .cnt => ∀ σ' H', Rel K O env1 σ' H' → Step env σ H env1 σ' H' → D.ct σ' H'
  | .ret r => ∀ v σ' H', Rel K (un O (nw r v)) env1 σ' H' → Step env σ H env1 σ' H' → RR K (un O (nw r v)) env1 σ' H H' r v → D.rt v H'
def tS (f : Cells → Res Fl) : TS := fun D σ H => ∃ O env, Rel K O env σ H ∧ ∃ fl env1, f env = .ok fl env1 ∧ FinS K O env σ H env1 D fl
/-- a walk: what is yielded, as long as S -/
structure Yl (A : RdA) (S : Hp → Prop) (J : L2.It) (ds : List D) : Prop where
  go : ∀ i H, S H → i < ds.length → J.go i H
  yld : ∀ i H x H' d, S H → ds[i]? = some d → J.yld i H x H' → Same H H' ∧ Rp K (Gr A H H') d x
  stop : ∀ i H, S H → ds.length ≤ i → J.stop i H
/-- all that nobody owns stands -/
def Kp (env : Cells) (σ : L2.St) (H H' : Hp) : Prop := ∀ a o, H a = some o → ¬ Ow env σ a → H' a = some o
def tI (f : Cells → Res (List D)) : TI := fun σ H R => ∃ O env, Rel K O env σ H ∧ ∃ ds env', f env = .ok ds env' ∧
  ∀ J H', Rel K O env' σ H' → Step env σ H env' σ H' → Yl K (Av O env' σ H') (Kp env' σ H') J ds → R J H'
end
section
variable {K : PySem.W.Frag} {O : Addr → Prop} {env env0 env1 env2 env' : Cells} {σ σ0 σ1 σ2 σ' : L2.St} {H H0 H1 H2 H' : Hp} {D : Ends}
theorem FinS.later (st : Step env0 σ0 H0 env σ H) {fl : Fl} (h : FinS K O env0 σ0 H0 env1 D fl) : FinS K O env σ H env1 D fl := by
  cases fl with
  | next => exact fun σ' H' r s => h σ' H' r (st.trans s)
  | brk => exact fun σ' H' r s => h σ' H' r (st.trans s)
  | cnt => exact fun σ' H' r s => h σ' H' r (st.trans s)
  | ret r => exact fun v σ' H' k s rr => h v σ' H' k (st.trans s) (rr.back fun p => st.back)
theorem s_nil (h : tS K (fun env => .ok .next env) D σ H) : tNext D σ H := by
  obtain ⟨O, env, rel, fl, env1, e, q⟩ := h
  cases e
  exact q _ _ rel Step.refl
theorem s_brk (h : tS K (fun env => .ok .brk env) D σ H) : tBreak D σ H := by
  obtain ⟨O, env, rel, fl, env1, e, q⟩ := h
  cases e
  exact q _ _ rel Step.refl
theorem s_cnt (h : tS K (fun env => .ok .cnt env) D σ H) : tCont D σ H := by
  obtain ⟨O, env, rel, fl, env1, e, q⟩ := h
  cases e
  exact q _ _ rel Step.refl
theorem s_retN (h : tS K (fun env => .ok (.ret (.d .non)) env) D σ H) : tRetN D σ H := by
  obtain ⟨O, env, rel, fl, env1, e, q⟩ := h
  cases e
  exact q .non _ _ rel.plus Step.refl (rr_d (by simp [Rp]))
theorem s_ret {f : Cells → Res R} (h : tS K (fun env => (f env).bind fun r env1 => .ok (.ret r) env1) D σ H) : tRet (tE K f) D σ H := by
  obtain ⟨O, env, rel, fl, env1, e, q⟩ := h
  obtain ⟨r, env2, e2, e⟩ := Res.bind_ok e
  cases e
  exact ⟨O, env, rel, r, _, e2, fun v H' r1 s1 rr => q v σ H' r1 s1 rr⟩
theorem s_expr {f : Cells → Res R} (h : tS K (fun env => (f env).bind fun _ env1 => .ok .next env1) D σ H) : tDrop (tE K f) D σ H := by
  obtain ⟨O, env, rel, fl, env1, e, q⟩ := h
  obtain ⟨r, env2, e2, e⟩ := Res.bind_ok e
  cases e
  exact ⟨O, env, rel, r, _, e2, fun v H' r1 s1 rr => q σ H' (r1.less fun a z => .inl z) s1⟩
theorem s_seq {f g : Cells → Res Fl} (h : tS K (fun env => (f env).bind fun fl env1 => match fl with
      | .next => g env1
      | fl => .ok fl env1) D σ H) : tSeq (tS K f) (tS K g) D σ H := by
  obtain ⟨O, env, rel, fl, env1, e, q⟩ := h
  obtain ⟨fl1, env2, e2, e⟩ := Res.bind_ok e
  refine ⟨O, env, rel, fl1, env2, e2, ?_⟩
  cases fl1 with
  | next => exact fun σ' H' r s => ⟨O, env2, r, fl, env1, e, q.later s⟩
  | brk => cases e; exact q
  | cnt => cases e; exact q
  | ret r => cases e; exact q
theorem s_if {c : Cells → Res Bool} {f g : Cells → Res Fl} (h : tS K (fun env => (c env).bind fun t env1 => if t then f env1 else g env1) D σ H) :
    tIfS (tT K c) (tS K f) (tS K g) D σ H := by
  obtain ⟨O, env, rel, fl, env1, e, q⟩ := h
  obtain ⟨b, env2, e2, e⟩ := Res.bind_ok e
  refine ⟨O, env, rel, b, env2, e2, fun H' r s => ?_⟩
  cases b with
  | true => rw [if_pos rfl] at e ⊢; exact ⟨O, env2, r, fl, env1, e, q.later s⟩
  | false => rw [if_neg Bool.false_ne_true] at e ⊢; exact ⟨O, env2, r, fl, env1, e, q.later s⟩
theorem s_asg {f : Cells → Res R} {t : Tg} (h : tS K (fun env => (f env).bind fun r env1 => match asgR t r env1 with
      | some env2 => .ok .next env2
      | none => .bad) D σ H) : tAsg (tE K f) (gR K t) D σ H := by
  obtain ⟨O, env, rel, fl, env1, e, q⟩ := h
  obtain ⟨r, env2, e2, e⟩ := Res.bind_ok e
  refine ⟨O, env, rel, r, env2, e2, fun v H' r1 s1 rr => ?_⟩
  cases g : asgR t r env2 with
  | none => rw [g] at e; cases e
  | some env3 =>
    rw [g] at e
    cases e
    exact ⟨O, env, σ, H, env2, r, env1, s1, r1, fun a z => rel.hidT z, rr, g, q⟩
theorem s_whl {c : Cells → Res Bool} {body : Cells → Res Fl} {n : Nat} (h : tS K (whlRun c body n) D σ H) : tWhile (tT K c) (tS K body) D σ H := by
  obtain ⟨O, env, rel, fl, env1, e, q⟩ := h
  refine ⟨fun m σ' H' => ∃ envi, Rel K O envi σ' H' ∧ Step env σ H envi σ' H' ∧ whlRun c body m envi = .ok fl env1, ⟨n, env, rel, Step.refl, e⟩, ?_⟩
  rintro m σ' H' ⟨envi, ri, si, ei⟩
  cases m with
  | zero => cases ei
  | succ m =>
    unfold whlRun at ei
    obtain ⟨b, env2, e2, ei⟩ := Res.bind_ok ei
    refine ⟨O, envi, ri, b, env2, e2, fun H2 r2 s2 => ?_⟩
    cases b with
    | false =>
      rw [if_neg Bool.false_ne_true] at ei ⊢
      cases ei
      exact q _ _ r2 (si.trans s2)
    | true =>
      rw [if_pos rfl] at ei ⊢
      obtain ⟨f, env3, e3, ei⟩ := Res.bind_ok ei
      refine ⟨fun σ3 H3 => ∃ envj, Rel K O envj σ3 H3 ∧ Step env σ H envj σ3 H3 ∧ whlRun c body m envj = .ok fl env1, fun σ3 H3 h3 => ⟨m, Nat.lt_succ_self m, h3⟩, O, env2, r2, f, env3, e3, ?_⟩
      cases f with
      | next => exact fun σ3 H3 r3 s3 => ⟨env3, r3, (si.trans s2).trans s3, ei⟩
      | cnt => exact fun σ3 H3 r3 s3 => ⟨env3, r3, (si.trans s2).trans s3, ei⟩
      | brk => cases ei; exact fun σ3 H3 r3 s3 => q σ3 H3 r3 ((si.trans s2).trans s3)
      | ret r => cases ei; exact FinS.later (D := ⟨_, D.rt, _, _⟩) (si.trans s2) q
theorem gr_at (rel : Rel K O env1 σ1 H1) (st : Step env σ H env1 σ1 H1) (g : Same H1 H2) (a : Addr) (u : HO) (h : Gr (Av O env σ H) H1 H2 a u) : Av O env1 σ1 H2 a u := by
  rcases h with h | ⟨h1, h2⟩
  · exact (Step.grow g).av a u (st.av a u h)
  · exact ⟨rel.fresh_not h1, fun z => rel.hidT z h1, h2⟩
/-- what is left of a for once its source is there -/
def ForRest (K : PySem.W.Frag) (t : Tg) (body : Cells → Res Fl) (J : L2.It) (D : Ends) (σ : L2.St) (H1 : Hp) : Prop :=
  ∃ W : Nat → Nat → L2.St → Hp → Prop, (∃ m, W 0 m σ H1) ∧ ∀ i m σ H, W i m σ H →
    (J.stop i H ∧ D.nx σ H) ∨ (J.go i H ∧ ∃ N : L2.St → Hp → Prop, (∀ σ' H', N σ' H' → ∃ m', m' < m ∧ W (i + 1) m' σ' H') ∧ ∀ x H', J.yld i H x H' → gD K t x σ H' fun σ2 H2 => tS K body { D with nx := N, ct := N, bk := D.nx } σ2 H2)
theorem for_rest {Hs : Hp} {envs : Cells} {body : Cells → Res Fl} {t : Tg} {J : L2.It} {ds : List Fx.D} {fl : Fl} (rs : Rel K O envs σ Hs) (yl : Yl K (Av O envs σ Hs) (Kp envs σ Hs) J ds) (e : forRun t body ds envs = .ok fl env1)
    (q : FinS K O envs σ Hs env1 D fl) : ForRest K t body J D σ Hs := by
  refine ⟨fun i m σ' H' => m = ds.length - i ∧ i ≤ ds.length ∧ ∃ envi, Rel K O envi σ' H' ∧ Step envs σ Hs envi σ' H' ∧ forRun t body (ds.drop i) envi = .ok fl env1,
    ⟨ds.length, rfl, Nat.zero_le _, envs, rs, Step.refl, e⟩, ?_⟩
  rintro i m σ' H' ⟨rfl, hi, envi, ri, si, ei⟩
  have hS : Kp envs σ Hs H' := fun a o h1 h2 => si.kp a o h1 h2
  by_cases hl : i < ds.length
  · refine .inr ⟨yl.go i H' hS hl, fun σ3 H3 => i + 1 ≤ ds.length ∧ ∃ envj, Rel K O envj σ3 H3 ∧ Step envs σ Hs envj σ3 H3 ∧ forRun t body (ds.drop (i + 1)) envj = .ok fl env1, ?_, ?_⟩
    · rintro σ3 H3 ⟨h1, h2⟩
      exact ⟨ds.length - (i + 1), by omega, rfl, h1, h2⟩
    · intro x H2 hy
      obtain ⟨g, rp⟩ := yl.yld i H' x H2 ds[i] hS (List.getElem?_eq_getElem hl) hy
      rw [List.drop_eq_getElem_cons hl] at ei
      unfold forRun at ei
      cases ea : asgD t ds[i] envi with
      | none => rw [ea] at ei; cases ei
      | some env2 =>
        rw [ea] at ei
        obtain ⟨f, env3, e3, ei⟩ := Res.bind_ok ei
        refine ⟨O, envi, ds[i], env2, ri.grow g, Rp.mono (gr_at ri si g) _ _ rp, ea, fun σ3 H3 r3 s3 _ => ?_⟩
        have s4 := (si.trans (Step.grow g)).trans s3
        refine ⟨O, env2, r3, f, env3, e3, ?_⟩
        cases f with
        | next => exact fun σ5 H5 r5 s5 => ⟨hl, env3, r5, s4.trans s5, ei⟩
        | cnt => exact fun σ5 H5 r5 s5 => ⟨hl, env3, r5, s4.trans s5, ei⟩
        | brk => cases ei; exact fun σ5 H5 r5 s5 => q σ5 H5 r5 (s4.trans s5)
        | ret r => cases ei; exact FinS.later (D := ⟨_, D.rt, _, _⟩) s4 q
  · have hi' : ds.drop i = [] := List.drop_eq_nil_of_le (by omega)
    rw [hi'] at ei
    cases ei
    exact .inl ⟨yl.stop i H' hS (by omega), q _ _ ri si⟩
theorem s_for {it : Cells → Res (List Fx.D)} {body : Cells → Res Fl} {t : Tg} (h : tS K (fun env => (it env).bind fun xs env1 => forRun t body xs env1) D σ H) :
    tFor (tI K it) (gD K t) (tS K body) D σ H := by
  obtain ⟨O, env, rel, fl, env1, e, q⟩ := h
  obtain ⟨ds, envs, es, e⟩ := Res.bind_ok e
  exact ⟨O, env, rel, ds, envs, es, fun J Hs rs ss yl => for_rest rs yl e (FinS.later ss q)⟩
end
theorem _root_.L2.PI.imp {X : Cx} {e tg : Expr} {t t' : TI} (h : PI X tg e t) (i : ∀ σ H Q, t' σ H Q → t σ H Q) : PI X tg e t' := ⟨fun pn st σ H Q iv q => h.run pn st σ H Q iv (i σ H Q q)⟩
theorem tE_mono {K : PySem.W.Frag} {f : Cells → Res R} {σ : L2.St} {H : Hp} {Q Q' : VK} (h : tE K f σ H Q) (i : ∀ v H', Q v H' → Q' v H') : tE K f σ H Q' := by
  obtain ⟨O, env, rel, r, env', e, q⟩ := h
  exact ⟨O, env, rel, r, env', e, fun v H' a b d => i v H' (q v H' a b d)⟩
end Fx

set_option Elab.async false
set_option linter.all false
set_option maxRecDepth 100000
/-! Fx9: pairs of stores, writing into objects, methods, slices, chains. -/
namespace Fx
open L2 PyProof.Rows PySem PySem.Spec

section
variable {K : PySem.W.Frag} {O : Addr → Prop} {env env0 env1 env2 env' : Cells} {σ σ0 σ1 σ2 σ' : L2.St} {H H0 H1 H2 H' : Hp} {D : Ends}
/-! ### several names at once -/
def setAll (σ : L2.St) : List Nat → List V → L2.St
  | i :: is, v :: vs => setAll (σ.set i (some v)) is vs
  | _, _ => σ
theorem RRs.move {O2 : Addr → Prop} (av : ∀ a u, Av O env σ H a u → Av O2 env' σ' H a u) : ∀ {rs : List R} {vs : List V}, noOwn rs = true → RRs K O env σ H0 H rs vs → RRs K O2 env' σ' H0 H rs vs
  | [], _, _, h => h
  | r :: rs, _, no, ⟨x, xs, e, h, t⟩ => by
    cases r with
    | own j => simp [noOwn] at no
    | d y => exact ⟨x, xs, e, Rp.mono av _ _ h, RRs.move av (by simpa [noOwn] using no) t⟩
    | new b =>
      obtain ⟨p, e1, e2, hb⟩ := h
      exact ⟨x, xs, e, ⟨p, e1, e2, hb.mono av rfl⟩, RRs.move av (by simpa [noOwn] using no) t⟩
theorem stores : ∀ {is : List Nat} {rs : List R} {vs : List V} {env env' : Cells} {σ : L2.St}, Rel K (un O (nws rs vs)) env σ H → Step env0 σ0 H0 env σ H → Apart rs vs → (∀ a, nws rs vs a → ¬ O a) →
    RRs K (un O (nws rs vs)) env σ H0 H rs vs → noOwn rs = true → asgRs (is.map .nm) rs env = some env' → Rel K O env' (setAll σ is vs) H ∧ Step env0 σ0 H0 env' (setAll σ is vs) H
  | [], [], vs, env, env', σ, rel, st, ap, hs, rr, no, e => by
    simp only [List.map_nil, asgRs] at e
    cases e
    simp only [RRs] at rr
    subst rr
    rw [un_nil] at rel
    exact ⟨rel, st⟩
  | [], _ :: _, _, env, env', σ, rel, st, ap, hs, rr, no, e => by simp only [List.map_nil, asgRs] at e; cases e
  | _ :: _, [], _, env, env', σ, rel, st, ap, hs, rr, no, e => by simp only [List.map_cons, asgRs] at e; cases e
  | i :: is, r :: rs, _, env, env', σ, rel, st, ap, hs, ⟨v, vs, ev, h, t⟩, no, e => by
    subst ev
    simp only [List.map_cons, asgRs] at e
    cases e1 : asgR (.nm i) r env with
    | none => rw [e1] at e; cases e
    | some env1 =>
      rw [e1] at e
      simp only at e
      have hs1 : ∀ a, nws rs vs a → ¬ O a := fun a z => hs a (.inr z)
      rw [un_cons] at rel h t
      cases r with
      | own j => simp [noOwn] at no
      | d x =>
        have no' : noOwn rs = true := by simpa [noOwn] using no
        simp only [asgR, cellOf] at e1
        obtain ⟨hi, hio, rfl⟩ := slot_ok (o := none) e1
        have rel' := rel.less (O' := un O (nws rs vs)) fun a z => .inl z
        obtain ⟨r1, s1⟩ := store_d rel' hi hio (Rp.mono (av_anti fun a z => .inl z) _ _ h)
        rw [show setAll σ (i :: is) (v :: vs) = setAll (σ.set i (some v)) is vs from rfl]
        exact stores r1 (st.trans s1) ap.2 hs1 (t.move (fun a u k => s1.av a u (av_anti (fun a z => .inl z) a u k)) no') no' e
      | new b =>
        have no' : noOwn rs = true := by simpa [noOwn] using no
        simp only [asgR, cellOf] at e1
        obtain ⟨hi, hio, rfl⟩ := slot_ok (o := none) e1
        obtain ⟨p, hvp, hp, hb⟩ := h
        obtain ⟨r1, s1, av⟩ := store_o st rel hi hio (fun z => z.elim (hs p (.inl hvp)) fun z => ap.1 p hvp z) hvp hp hb
        rw [show setAll σ (i :: is) (v :: vs) = setAll (σ.set i (some v)) is vs from rfl]
        exact stores r1 s1 ap.2 hs1 (t.move av no') no' e
theorem storesD : ∀ {is : List Nat} {ds : List Fx.D} {vs : List V} {env env' : Cells} {σ : L2.St}, Rel K O env σ H → RpL K (Av O env σ H) ds vs → asgDs (is.map .nm) ds env = some env' →
    Rel K O env' (setAll σ is vs) H ∧ Step env σ H env' (setAll σ is vs) H
  | [], [], vs, env, env', σ, rel, rp, e => by
    simp only [List.map_nil, asgDs] at e
    cases e
    simp only [RpL] at rp
    subst rp
    exact ⟨rel, Step.refl⟩
  | [], _ :: _, _, env, env', σ, rel, rp, e => by simp only [List.map_nil, asgDs] at e; cases e
  | _ :: _, [], _, env, env', σ, rel, rp, e => by simp only [List.map_cons, asgDs] at e; cases e
  | i :: is, d :: ds, _, env, env', σ, rel, rp, e => by
    simp only [RpL] at rp
    obtain ⟨v, vs, rfl, hd, hr⟩ := rp
    simp only [List.map_cons, asgDs] at e
    cases e1 : asgD (.nm i) d env with
    | none => rw [e1] at e; cases e
    | some env1 =>
      rw [e1] at e
      simp only at e
      simp only [asgD] at e1
      obtain ⟨hi, hio, rfl⟩ := slot_ok (o := none) e1
      obtain ⟨r1, s1⟩ := store_d rel hi hio hd
      obtain ⟨r2, s2⟩ := storesD r1 (s1.rpL hr) e
      rw [show setAll σ (i :: is) (v :: vs) = setAll (σ.set i (some v)) is vs from rfl]
      exact ⟨r2, s1.trans s2⟩
/-- a, b = e, e' -/
def parF (ts : List Tg) (es : Cells → Res (List R)) (env : Cells) : Res Fl := (es env).bind fun rs env1 => if noOwn rs then
      (match asgRs ts rs env1 with
        | some env2 => .ok .next env2
        | none => .bad)
      else (match frzs env1 rs with
        | some (xs, env2) => match asgDs ts xs env2 with
          | some env3 => .ok .next env3
          | none => .bad
        | none => .bad)
theorem par_ok {is : List Nat} {es : Cells → Res (List R)} (h : tS K (parF (is.map .nm) es) D σ H) :
    tA K es σ H fun vs H1 => vs.length = is.length ∧ D.nx (setAll σ is vs) H1 := by
  obtain ⟨O, env, rel, fl, env1, e, q⟩ := h
  obtain ⟨rs, env2, e2, e⟩ := Res.bind_ok e
  refine ⟨O, env, rel, rs, env2, e2, fun vs H1 rel1 st1 rr1 ap => ?_⟩
  by_cases no : noOwn rs = true
  · rw [if_pos no] at e
    cases e3 : asgRs (is.map .nm) rs env2 with
    | none => rw [e3] at e; cases e
    | some env3 =>
      rw [e3] at e
      cases e
      have len : ∀ {is : List Nat} {rs : List R} {env env' : Cells}, asgRs (is.map .nm) rs env = some env' → rs.length = is.length := by
        intro is
        induction is with
        | nil => intro rs env env' e; cases rs with | nil => rfl | cons => simp only [List.map_nil, asgRs] at e; cases e
        | cons i is ih =>
          intro rs env env' e
          cases rs with
          | nil => simp only [List.map_cons, asgRs] at e; cases e
          | cons r rs =>
            simp only [List.map_cons, asgRs] at e
            cases e1 : asgR (.nm i) r env with
            | none => rw [e1] at e; cases e
            | some env1 => rw [e1] at e; simp only at e; rw [List.length_cons, List.length_cons, ih e]
      obtain ⟨r3, s3⟩ := stores rel1 st1 ap (hs_of rel rr1) rr1 no e3
      exact ⟨rr1.length.trans (len e3), q _ _ r3 s3⟩
  · rw [if_neg no] at e
    cases e3 : frzs env2 rs with
    | none => rw [e3] at e; cases e
    | some p =>
      obtain ⟨ds, env3⟩ := p
      rw [e3] at e
      simp only at e
      cases e4 : asgDs (is.map .nm) ds env3 with
      | none => rw [e4] at e; cases e
      | some env4 =>
        rw [e4] at e
        cases e
        obtain ⟨rel3, st3, rp3⟩ := frzs_ok rel1 (hs_of rel rr1) ap rr1 e3
        obtain ⟨r4, s4⟩ := storesD rel3 rp3 e4
        refine ⟨rp3.length.trans ((asgDs_len e4).trans (List.length_map ..)), q _ _ r4 ((st1.trans st3).trans s4)⟩
/-- the same, some new objects later -/
theorem par_okT {is : List Nat} {es : Cells → Res (List R)} (h : tS K (parF (is.map .nm) es) D σ H) :
    tA K es σ H fun vs H1 => vs.length = is.length ∧ ∀ H2, Same H1 H2 → D.nx (setAll σ is vs) H2 := by
  have base := par_ok (D := ⟨fun σ' H1 => ∀ H2, Same H1 H2 → D.nx σ' H2, D.rt, D.bk, D.ct⟩) (is := is) (es := es) (K := K) (σ := σ) (H := H) ?_
  · exact base
  obtain ⟨O, env, rel, fl, env1, e, q⟩ := h
  refine ⟨O, env, rel, fl, env1, e, ?_⟩
  cases fl with
  | next => exact fun σ' H1 r s H2 g => q σ' H2 (r.grow g) (s.trans (Step.grow g))
  | brk => exact q
  | cnt => exact q
  | ret r => exact q
def gNms : List Nat → TGs
  | [] => gNil
  | i :: is => gCons (gName i) (gNms is)
theorem gNms_all {Q : L2.St → Hp → Prop} : ∀ {is : List Nat} {vs : List V} {σ : L2.St}, vs.length = is.length → Q (setAll σ is vs) H → gNms is vs σ H Q
  | [], [], _, _, q => ⟨rfl, q⟩
  | [], _ :: _, _, l, _ => by cases l
  | _ :: _, [], _, l, _ => by cases l
  | i :: is, v :: vs, _, l, q => ⟨v, vs, rfl, gNms_all (by simpa using l) q⟩
/-- through a tuple -/
theorem parT {is : List Nat} {es : Cells → Res (List R)} (hl : is.length ≤ 100) (h : tS K (parF (is.map .nm) es) D σ H) : tAsg (tTup (tA K es)) (gTup K is.length (gNms is)) D σ H := by
  obtain ⟨O, env, rel, rs, env', e, q⟩ := par_okT h
  refine ⟨O, env, rel, rs, env', e, fun vs H' a b c d => ?_⟩
  obtain ⟨l, q⟩ := q vs H' a b c d
  refine ⟨by rw [l]; exact Nat.le_trans hl (by decide), fun p hp => ⟨p, vs, rfl, .inl (.inl upd_same), l, gNms_all l (q _ (same_new hp))⟩⟩
theorem par2 {i j : Nat} {es : Cells → Res (List R)} (h : tS K (parF [.nm i, .nm j] es) D σ H) : tPar i j (tA K es) D σ H := by
  have h' := par_ok (is := [i, j]) h
  obtain ⟨O, env, rel, rs, env', e, q⟩ := h'
  refine ⟨O, env, rel, rs, env', e, fun vs H' a b c d => ?_⟩
  obtain ⟨hl, q⟩ := q vs H' a b c d
  match vs, hl, q with
  | [v, w], _, q => exact ⟨v, w, rfl, q⟩
theorem par3 {i j l : Nat} {es : Cells → Res (List R)} (h : tS K (parF [.nm i, .nm j, .nm l] es) D σ H) : tPar3 i j l (tA K es) D σ H := by
  have h' := par_ok (is := [i, j, l]) h
  obtain ⟨O, env, rel, rs, env', e, q⟩ := h'
  refine ⟨O, env, rel, rs, env', e, fun vs H' a b c d => ?_⟩
  obtain ⟨hl, q⟩ := q vs H' a b c d
  match vs, hl, q with
  | [u, v, w], _, q => exact ⟨u, v, w, rfl, q⟩

/-! ### writing into an owned object -/
theorem obAt_put {i j : Nat} {b b' : Ob} (h : obAt env i = some b) : obAt (putOb env i b') j = if i = j then some b' else obAt env j := by
  have hi : i < env.length := by
    rcases obAt_some h with e | e
    · exact (List.getElem?_eq_some_iff.mp e).1
    · exact (List.getElem?_eq_some_iff.mp e).1
  unfold putOb
  rcases obAt_some h with e | e
  · rw [e]
    exact obAt_set hi
  · rw [e]
    exact obAt_set hi
theorem put_get {i j : Nat} {b b' : Ob} {c : Cell} (h : obAt env i = some b) (e : (putOb env i b')[j]? = some c) :
    (i = j ∧ (c = .o b' ∨ c = .io b')) ∨ (i ≠ j ∧ env[j]? = some c) := by
  have hi : i < env.length := by
    rcases obAt_some h with e | e
    · exact (List.getElem?_eq_some_iff.mp e).1
    · exact (List.getElem?_eq_some_iff.mp e).1
  unfold putOb at e
  by_cases hj : i = j
  · subst hj
    refine .inl ⟨rfl, ?_⟩
    rcases obAt_some h with e1 | e1
    · rw [e1] at e
      simp only [List.getElem?_set_self hi] at e
      cases e; exact .inl rfl
    · rw [e1] at e
      simp only [List.getElem?_set_self hi] at e
      cases e; exact .inr rfl
  · refine .inr ⟨hj, ?_⟩
    rcases obAt_some h with e1 | e1
    · rw [e1] at e
      simp only [List.getElem?_set_ne hj] at e
      exact e
    · rw [e1] at e
      simp only [List.getElem?_set_ne hj] at e
      exact e
theorem put_io {i j : Nat} {b b' c : Ob} (h : obAt env i = some b) (e : env[j]? = some (.io c)) : ∃ c', (putOb env i b')[j]? = some (.io c') := by
  have hi : i < env.length := by
    rcases obAt_some h with e | e
    · exact (List.getElem?_eq_some_iff.mp e).1
    · exact (List.getElem?_eq_some_iff.mp e).1
  unfold putOb
  by_cases hj : i = j
  · subst hj
    rw [e]
    exact ⟨b', List.getElem?_set_self hi⟩
  · rcases obAt_some h with e1 | e1
    · rw [e1]; exact ⟨c, by rw [List.getElem?_set_ne hj]; exact e⟩
    · rw [e1]; exact ⟨c, by rw [List.getElem?_set_ne hj]; exact e⟩
theorem put_len {i : Nat} {b' : Ob} : (putOb env i b').length = env.length := by
  unfold putOb
  split <;> rw [List.length_set]
theorem ow_put {i : Nat} {b b' : Ob} {a : Addr} (h : obAt env i = some b) : Ow (putOb env i b') σ a ↔ Ow env σ a := by
  constructor
  · rintro ⟨j, c, e, e2⟩
    rw [obAt_put h] at e
    by_cases hj : i = j
    · subst hj; exact ⟨i, b, h, e2⟩
    · rw [if_neg hj] at e; exact ⟨j, c, e, e2⟩
  · rintro ⟨j, c, e, e2⟩
    by_cases hj : i = j
    · subst hj; exact ⟨i, b', by rw [obAt_put h, if_pos rfl], e2⟩
    · exact ⟨j, c, by rw [obAt_put h, if_neg hj]; exact e, e2⟩
/-- the object of slot i written anew -/
theorem write_ob (rel : Rel K O env σ H) {i : Nat} {b b' : Ob} {p : Addr} {o' : HO} (h : obAt env i = some b) (hp : σ[i]? = some (some (.ref p)))
    (hb : ObR K (Av O env σ H) (upd H p o') b' p) : Rel K O (putOb env i b') σ (upd H p o') ∧ Step env σ H (putOb env i b') σ (upd H p o') := by
  have own : Ow env σ p := ⟨i, b, h, hp⟩
  have av : ∀ a u, Av O env σ H a u → Av O (putOb env i b') σ (upd H p o') a u := fun a u ⟨k1, k2, k3⟩ => by
    have ne : a ≠ p := fun z => k1 (by subst z; exact own)
    refine ⟨fun o => k1 ((ow_put h).mp o), k2, ?_⟩
    rcases k3 with k3 | ⟨od, k3⟩
    · exact .inl ((upd_ne ne).trans k3)
    · exact .inr ⟨od, (upd_ne ne).trans k3⟩
  refine ⟨⟨put_len.trans rel.len, fun j c e => ?_, fun j k c c' q h1 h2 h3 h4 => ?_, fun a z => ?_⟩, fun a o e n => ?_, fun a _ n o => n ((ow_put h).mp o), fun a e => ?_, fun j c e => ⟨rfl, put_io h e⟩⟩
  · rcases put_get h e with ⟨rfl, z | z⟩ | ⟨hj, e1⟩
    · subst z; exact ⟨p, hp, hb.mono av rfl⟩
    · subst z; exact ⟨p, hp, hb.mono av rfl⟩
    · have z := rel.at_ j c e1
      cases c with
      | none => trivial
      | d x => obtain ⟨w, e2, r⟩ := z; exact ⟨w, e2, Rp.mono av _ _ r⟩
      | o c =>
        obtain ⟨w, e2, r⟩ := z
        have ne : w ≠ p := fun z => by subst z; exact hj (rel.inj i j b c w h (obAt_o e1) hp e2)
        exact ⟨w, e2, r.mono av (upd_ne ne)⟩
      | io c =>
        obtain ⟨w, e2, r⟩ := z
        have ne : w ≠ p := fun z => by subst z; exact hj (rel.inj i j b c w h (obAt_io e1) hp e2)
        exact ⟨w, e2, r.mono av (upd_ne ne)⟩
  · have g : ∀ j c, obAt (putOb env i b') j = some c → ∃ d, obAt env j = some d := fun j c e => by
      rw [obAt_put h] at e
      by_cases hj : i = j
      · subst hj; exact ⟨b, h⟩
      · rw [if_neg hj] at e; exact ⟨c, e⟩
    obtain ⟨d1, e1⟩ := g j c h1
    obtain ⟨d2, e2⟩ := g k c' h2
    exact rel.inj j k d1 d2 q e1 e2 h3 h4
  · obtain ⟨⟨o, ho, m⟩, n⟩ := rel.hid a z
    have ne : a ≠ p := fun z => by subst z; exact n own
    exact ⟨⟨o, (upd_ne ne).trans ho, m⟩, fun o => n ((ow_put h).mp o)⟩
  · have ne : a ≠ p := fun z => by subst z; exact n own
    exact (upd_ne ne).trans e
  · by_cases ha : a = p
    · subst ha; rw [upd_same]; simp
    · rw [upd_ne ha]; exact e
/-- x[j] = v: what is written -/
def rSetG (K : PySem.W.Frag) : TSet := fun o i v H Q => ∃ A p b dk d b', o = .ref p ∧ ObR K A H b p ∧ View K A H dk i ∧ Rp K A d v ∧ setD b dk d = some b' ∧
  ∀ o', ObR K A (upd H p o') b' p → Q (upd H p o')
def gSet (K : PySem.W.Frag) (i : Nat) (f : Cells → Res R) : TG := fun v σ H Q => ∃ O env r, Rel K (un O (nw r v)) env σ H ∧ (∀ a, nw r v a → ¬ O a) ∧ (∃ H0, RR K (un O (nw r v)) env σ H0 H r v) ∧
  ∃ d env2 k env3 dk b b', frz env r = some (d, env2) ∧ f env2 = .ok k env3 ∧ k.get env3 = some dk ∧ obAt env3 i = some b ∧ setD b dk d = some b' ∧ (∃ b0, obAt env2 i = some b0) ∧
  ∀ H', Rel K O (putOb env3 i b') σ H' → Step env σ H (putOb env3 i b') σ H' → Q σ H'
theorem gSet_sub {i : Nat} {f : Cells → Res R} {v : V} {Q : L2.St → Hp → Prop} (h : gSet K i f v σ H Q) : gSub (tVar i) (tE K f) (rSetG K) v σ H Q := by
  obtain ⟨O, env, r, rel, hs, ⟨H0, rr⟩, d, env2, k, env3, dk, b, b', g, e, e2, e3, e4, ⟨b0, e0⟩, q⟩ := h
  obtain ⟨rel2, st2, rp2⟩ := frz_ok rel hs rr g
  obtain ⟨p, hp, _⟩ := rel2.ob e0
  refine ⟨.ref p, hp, O, env2, rel2, k, env3, e, fun w H3 rel3 st3 rr3 => ?_⟩
  obtain ⟨p', hp', ob⟩ := rel3.ob e3
  rw [hp] at hp'
  cases hp'
  refine ⟨_, p, b, dk, d, b', rfl, ob, rr3.view rel3 e2, Rp.mono (st3.avN fun a z => rr3.fresh a z) _ _ rp2, e4, fun o' hb' => ?_⟩
  obtain ⟨r4, s4⟩ := write_ob rel3 e3 hp hb'
  exact q _ (r4.less fun a z => .inl z) ((st2.trans st3).trans s4)
theorem s_set {i : Nat} {j f : Cells → Res R} (h : tS K (fun env => (f env).bind fun r env1 => match frz env1 r with
      | none => .bad
      | some (v, env2) => if (obAt env2 i).isSome then (j env2).bind fun k env3 => match k.get env3, obAt env3 i with
        | some dk, some b => match setD b dk v with
          | some b' => .ok .next (putOb env3 i b')
          | none => .bad
        | _, _ => .bad
        else .bad) D σ H) : tAsg (tE K f) (gSet K i j) D σ H := by
  obtain ⟨O, env, rel, fl, env1, e, q⟩ := h
  obtain ⟨r, env2, e2, e⟩ := Res.bind_ok e
  refine ⟨O, env, rel, r, env2, e2, fun v H' r1 s1 rr => ?_⟩
  cases g : frz env2 r with
  | none => rw [g] at e; cases e
  | some p =>
    obtain ⟨d, env3⟩ := p
    rw [g] at e
    simp only at e
    split at e
    · rename_i hso
      obtain ⟨k, env4, e4, e⟩ := Res.bind_ok e
      cases g1 : k.get env4 with
      | none => rw [g1] at e; cases e
      | some dk =>
        cases g2 : obAt env4 i with
        | none => rw [g1, g2] at e; cases e
        | some b =>
          rw [g1, g2] at e
          simp only at e
          cases g3 : setD b dk d with
          | none => rw [g3] at e; cases e
          | some b' =>
            rw [g3] at e
            cases e
            exact ⟨O, env2, r, r1, hs1_of rel rr, ⟨H, rr⟩, d, env3, k, env4, dk, b, b', g, e4, g1, g2, g3, Option.isSome_iff_exists.mp hso, fun H4 r4 s4 => q _ _ r4 (s1.trans s4)⟩
    · cases e
end
end Fx

set_option Elab.async false
set_option linter.all false
set_option maxRecDepth 100000
/-! Fx10: rules for writing, methods, slices, chains, tests. -/
namespace Fx
open L2 PyProof.Rows PySem PySem.Spec

section
variable {X : Cx}
theorem rpd_put {K : PySem.W.Frag} {A : RdA} {d : D} {v : V} (k : DK) (hv : Rp K A d v) {kvs : List (DK × D)} {ys : List (Key × V)} (h : RpD K A kvs ys) :
    RpD K A (put kvs k d) (putK ys k.toKey v) := by
  have any : (ys.any fun kv => decide (kv.1 = k.toKey)) = kvs.any fun p => decide (p.1 = k) := by
    induction kvs generalizing ys with
    | nil => simp only [RpD] at h; subst h; rfl
    | cons p kvs ih =>
      obtain ⟨k', e⟩ := p
      simp only [RpD] at h
      obtain ⟨x, r, rfl, _, t⟩ := h
      rw [List.any_cons, List.any_cons, ih t]
      congr 1
      by_cases z : k' = k
      · subst z; simp
      · have z2 : ¬ k'.toKey = k.toKey := fun q => z (toKey_inj q)
        simp [z, z2]
  unfold put putK
  rw [any]
  by_cases z : (kvs.any fun p => decide (p.1 = k)) = true
  · rw [if_pos z, if_pos z]
    clear any z
    induction kvs generalizing ys with
    | nil => simp only [RpD] at h; subst h; simp [RpD]
    | cons p kvs ih =>
      obtain ⟨k', e⟩ := p
      simp only [RpD] at h
      obtain ⟨x, r, rfl, hx, t⟩ := h
      simp only [List.map_cons]
      by_cases z : k' = k
      · subst z
        simp only [if_pos]
        simp only [RpD]
        exact ⟨v, _, rfl, hv, ih t⟩
      · have z2 : ¬ k'.toKey = k.toKey := fun q => z (toKey_inj q)
        simp only [if_neg z, if_neg z2]
        simp only [RpD]
        exact ⟨x, _, rfl, hx, ih t⟩
  · rw [if_neg z, if_neg z]
    clear any z
    induction kvs generalizing ys with
    | nil => simp only [RpD] at h; subst h; simp only [List.nil_append, RpD]; exact ⟨v, _, rfl, hv, rfl⟩
    | cons p kvs ih =>
      obtain ⟨k', e⟩ := p
      simp only [RpD] at h
      obtain ⟨x, r, rfl, hx, t⟩ := h
      simp only [List.cons_append, RpD]
      exact ⟨x, _, rfl, hx, ih t⟩
theorem set_G (hu : X.A.units + 1 < cLine) : PSet X (rSetG X.K) := by
  intro pns s σ H o i v ov iv u Q I ro ri rv h
  obtain ⟨A, p, b, dk, d, b', rfl, ob, vi, vd, hf, q⟩ := h
  cases b with
  | lst ds =>
    obtain ⟨xs, hH, hr⟩ := ob
    cases dk <;> simp only [setD, reduceCtorEq] at hf
    rename_i k
    cases e : ixN ds.length k with
    | none => rw [e] at hf; cases hf
    | some j =>
      rw [e] at hf
      cases hf
      simp only [View] at vi
      subst vi
      exact set_list pns s σ H _ _ v ov iv u Q I ro ri rv ⟨p, xs, k, j, rfl, rfl, hH, by rw [hr.length]; exact e, q _ ⟨_, upd_same, hr.set vd j⟩⟩
  | dic kvs =>
    obtain ⟨ys, hH, hr⟩ := ob
    simp only [setD] at hf
    cases e : keyOf dk with
    | none => rw [e] at hf; cases hf
    | some k =>
      rw [e] at hf
      simp only [Option.bind] at hf
      split at hf
      · rename_i hl
        cases hf
        have ei := keyOf_v vi e
        subst ei
        refine set_dict hu pns s σ H _ _ v ov iv u Q I ro ri rv ⟨p, _, rfl, DPut.k hH ?_, q _ ⟨_, upd_same, rpd_put k vd hr⟩⟩
        rw [hr.length]
        exact Nat.lt_of_lt_of_le hl (by decide)
      · cases hf

/-! ### methods that write -/
def rMutG (K : PySem.W.Frag) (m : Mut1) : V → List V → Hp → VK → Prop := fun x vs H Q => ∃ A p b ds y b', x = .ref p ∧ ObR K A H b p ∧ (∀ a u, A a u → Rd H a u) ∧ RpL K A ds vs ∧
  mutD m b ds = some (y, b') ∧ ∀ v o', Rp K A y v → ObR K A (upd H p o') b' p → Q v (upd H p o')
theorem rpl1 {K : PySem.W.Frag} {A : RdA} {d : D} {vs : List V} (h : RpL K A [d] vs) : ∃ x, vs = [x] ∧ Rp K A d x := by
  simp only [RpL] at h
  obtain ⟨x, r, rfl, hd, rfl⟩ := h
  exact ⟨x, rfl, hd⟩
theorem rpl_last {K : PySem.W.Frag} {A : RdA} {ds : List D} {xs : List V} (h : RpL K A ds xs) : RpL K A ds.dropLast xs.dropLast := by
  rw [List.dropLast_eq_take, List.dropLast_eq_take, h.length]
  exact h.take _
theorem mg_append : MtR X "list.append" (rMutG X.K .append) := by
  intro pns s σ H x xs v us Q I rx rv h
  obtain ⟨A, p, b, ds, y, b', rfl, ob, _, rp, hf, q⟩ := h
  unfold mutD at hf
  split at hf <;> try contradiction
  rename_i ys d
  split at hf <;> cases hf
  rename_i hl
  obtain ⟨zs, hH, hr⟩ := ob
  obtain ⟨w, rfl, hw⟩ := rpl1 rp
  exact mt_append pns s σ H _ _ v us Q I rx rv ⟨p, zs, w, rfl, rfl, hH, by rw [hr.length]; exact Nat.lt_of_lt_of_le hl (by decide), q _ _ (by simp [Rp]) ⟨_, upd_same, hr.append (.cons hw .nil)⟩⟩
theorem extend_arg {ys : List D} {ds : List D} {r : D × Ob} (h : mutD .extend (.lst ys) ds = some r) : ∃ es, ds = [.lst es] ∨ ds = [.tup es] := by
  unfold mutD at h
  split at h <;> simp_all
theorem pop_arg {ys : List D} {ds : List D} {r : D × Ob} (h : mutD .pop (.lst ys) ds = some r) : ds = [] ∨ ∃ i, ds = [.int i] := by
  unfold mutD at h
  split at h <;> simp_all
/-- a list that takes a tuple's elements -/
theorem list_extend_tup (l : Addr) (items : Array Value) (n : Nat) (b : Addr) (items2 : Array Value) (n2 : Nat) (dd : Option Addr) (sl : Array (Option Value)) (hs0 : ¬(!items.isEmpty && Builtin.List.listTooLong (items.size + items2.size)) = true) (hs1 : items.size ≤ sizeLine) (hs2 : items.size + items2.size ≤ sizeLine + 1) :
    Meets (Builtin.«list.extend» ⟨[.ref l, .ref b], []⟩) (fun _ R s => s.heap.get? l = some { cls := .type "list", dict := none, data := .seq items n, slots := #[] } ∧ s.heap.get? b = some { cls := .type "tuple", dict := dd, data := .seq items2 n2, slots := sl } ∧ R (.ok (.ret Value.none)) { s with heap := s.heap.update l (Obj.mapSeq fun x => x ++ items2), toks := s.toks }) := by
  refine .of_wp fun prog w A R st three => ?_
  rcases st with ⟨heap, gens, drawn, toks, os⟩
  rcases three with ⟨at_l, at_b, post⟩
  have both : (items ++ items2).size ≤ sizeLine + 1 := Nat.le_trans (Nat.le_of_eq Array.size_append) hs2
  have sub1 := AutoSeq1.sub_tuple_tuple
  have sub2 := AutoSeq1.sub_tuple_list
  wp_walk using (wpAny_updateSeq at_l rfl (hz := hs1) (_hz' := both)), wpAny_loadPart' at_l, wpAny_loadPart' at_b
  exact ⟨_, rfl, post⟩
theorem mg_extend : MtR X "list.extend" (rMutG X.K .extend) := by
  intro pns s σ H x xs v us Q I rx rv h
  obtain ⟨A, p, b, ds, y, b', rfl, ob, hA, rp, hf, q⟩ := h
  cases b with
  | dic kvs => cases ds with
    | nil => cases hf
    | cons d ds => cases hf
  | lst ys =>
  obtain ⟨es, rfl | rfl⟩ := extend_arg hf
  · simp only [mutD] at hf
    split at hf <;> cases hf
    rename_i hl
    obtain ⟨zs, hH, hr⟩ := ob
    obtain ⟨w, rfl, hw⟩ := rpl1 rp
    simp only [Rp] at hw
    obtain ⟨c, ws, rfl, hc, hws⟩ := hw
    cases rx
    obtain ⟨u, rfl, ru⟩ := rv.one
    cases ru
    obtain ⟨z1, i1, n1, v1, l1, e1⟩ := rd_list I (.inl (.inl hH))
    obtain ⟨z2, i2, n2, v2, l2, e2⟩ := rd_list I (hc.heap hA)
    have bd : i1.length + i2.length ≤ sizeLine := by rw [← l1, ← l2, hr.length, hws.length]; exact lim_le hl
    have short : ¬ (!i1.toArray.isEmpty && Builtin.List.listTooLong (i1.toArray.size + i2.toArray.size)) = true := by
      rw [notLongL (by simpa using bd)]
      simp
    have m := AutoSeq1.list_extend_list_list_0 p i1.toArray n1 c i2.toArray n2 short (by rw [List.size_toArray]; omega) (by rw [List.size_toArray, List.size_toArray]; omega)
    refine call_meets F.slot_list_extend ⟨_, e1, rfl⟩ F.entry_list_extend
      (F.args_list_extend_2 _ _) m ⟨e1, e2, .non, _, I.lset (its' := i1 ++ i2) hH e1 (by simp) (v1.append v2) (by rw [List.length_append, l1, l2]; exact bd), rfl, ?_⟩
    exact q _ _ (by simp [Rp]) ⟨_, upd_same, hr.append hws⟩
  · simp only [mutD] at hf
    split at hf <;> cases hf
    rename_i hl
    obtain ⟨zs, hH, hr⟩ := ob
    obtain ⟨w, rfl, hw⟩ := rpl1 rp
    simp only [Rp] at hw
    obtain ⟨c, ws, rfl, hc, hws⟩ := hw
    cases rx
    obtain ⟨u, rfl, ru⟩ := rv.one
    cases ru
    obtain ⟨z1, i1, n1, v1, l1, e1⟩ := rd_list I (.inl (.inl hH))
    obtain ⟨i2, v2, ⟨⟨cls, dd, data, sl⟩, e2, hcl, n2, hd⟩, _⟩ := I.tuple (hc.seq hA)
    simp only at hcl hd
    subst hcl hd
    have l2 := v2.length
    have bd : i1.length + i2.length ≤ sizeLine := by rw [← l1, ← l2, hr.length, hws.length]; exact lim_le hl
    have short : ¬ (!i1.toArray.isEmpty && Builtin.List.listTooLong (i1.toArray.size + i2.toArray.size)) = true := by
      rw [notLongL (by simpa using bd)]
      simp
    have m := list_extend_tup p i1.toArray n1 c i2.toArray n2 dd sl short (by rw [List.size_toArray]; omega) (by rw [List.size_toArray, List.size_toArray]; omega)
    refine call_meets F.slot_list_extend ⟨_, e1, rfl⟩ F.entry_list_extend
      (F.args_list_extend_2 _ _) m ⟨e1, e2, .non, _, I.lset (its' := i1 ++ i2) hH e1 (by simp) (v1.append v2) (by rw [List.length_append, l1, l2]; exact bd), rfl, ?_⟩
    exact q _ _ (by simp [Rp]) ⟨_, upd_same, hr.append hws⟩
theorem mg_pop : MtR X "list.pop" (rMutG X.K .pop) := by
  intro pns s σ H x xs v us Q I rx rv h
  obtain ⟨A, p, b, ds, y, b', rfl, ob, hA, rp, hf, q⟩ := h
  cases b with
  | dic kvs => cases ds with
    | nil => cases hf
    | cons d ds => cases hf
  | lst ys =>
  rcases pop_arg hf with rfl | ⟨i, rfl⟩
  · simp only [mutD] at hf
    obtain ⟨zs, hH, hr⟩ := ob
    simp only [RpL] at rp
    subst rp
    cases e : ys[ys.length - 1]? with
    | none => rw [e] at hf; cases hf
    | some w =>
      rw [e] at hf
      cases hf
      obtain ⟨w', e', hw⟩ := hr.get e
      exact mt_pop pns s σ H _ _ v us Q I rx rv ⟨p, zs, w', rfl, rfl, hH, by rw [hr.length]; exact e', q _ _ hw ⟨_, upd_same, rpl_last hr⟩⟩
  · simp only [mutD] at hf
    obtain ⟨zs, hH, hr⟩ := ob
    obtain ⟨w, rfl, hw⟩ := rpl1 rp
    simp only [Rp] at hw
    subst hw
    cases e : ixN ys.length i with
    | none => rw [e] at hf; cases hf
    | some k =>
      rw [e] at hf
      simp only [Option.bind] at hf
      cases e2 : ys[k]? with
      | none => rw [e2] at hf; cases hf
      | some w =>
        rw [e2] at hf
        cases hf
        obtain ⟨w', e', hw⟩ := hr.get e2
        obtain ⟨sq, hk, lo, hi⟩ := ixN_seq e
        obtain ⟨z1, _⟩ := rd_list I (.inl (.inl hH))
        rw [hr.length] at z1
        have line : sizeLine ≤ 2 ^ 62 := by decide
        exact mt_popAt pns s σ H _ _ v us Q I rx rv ⟨p, zs, i, k, w', rfl, rfl, hH, by omega, by omega, by rw [hr.length]; exact sq, e', q _ _ hw ⟨_, upd_same, hr.eraseIdx k⟩⟩
theorem mg_clear : MtR X "list.clear" (rMutG X.K .clear) := by
  intro pns s σ H x xs v us Q I rx rv h
  obtain ⟨A, p, b, ds, y, b', rfl, ob, hA, rp, hf, q⟩ := h
  unfold mutD at hf
  split at hf <;> try contradiction
  rename_i ys
  cases hf
  obtain ⟨zs, hH, hr⟩ := ob
  simp only [RpL] at rp
  subst rp
  exact mt_clear pns s σ H _ _ v us Q I rx rv ⟨p, zs, rfl, rfl, hH, q _ _ (by simp [Rp]) ⟨_, upd_same, .nil⟩⟩
end

/-! ### readings -/
section
variable {K : PySem.W.Frag} {σ : L2.St} {H : Hp}
theorem tE_mut {m : Mut1} {i : Nat} {es : Cells → Res (List R)} {Q : VK} (h : tE K (doMut m i es) σ H Q) : tBM K "list" (rMutG K m) (tVar i) (tA K es) σ H Q := by
  obtain ⟨O, env, rel, r, env', e, q⟩ := h
  unfold doMut at e
  split at e
  · rename_i hl
    unfold isL at hl
    split at hl
    · rename_i ds hi
      obtain ⟨p, hp, xs, hx, _⟩ := rel.ob hi
      obtain ⟨rs, env1, e1, e⟩ := Res.bind_ok e
      refine ⟨.ref p, hp, .inl ⟨rfl, xs, .inl (.inl hx)⟩, O, env, rel, rs, env1, e1, fun vs H1 rel1 st1 rr1 ap => ?_⟩
      cases g : frzs env1 rs with
      | none => rw [g] at e; cases e
      | some pr =>
        obtain ⟨ds2, env2⟩ := pr
        rw [g] at e
        simp only at e
        obtain ⟨rel2, st2, rp2⟩ := frzs_ok rel1 (hs_of rel rr1) ap rr1 g
        cases g2 : obAt env2 i with
        | none => rw [g2] at e; cases e
        | some b =>
          rw [g2] at e
          simp only at e
          cases g3 : mutD m b ds2 with
          | none => rw [g3] at e; cases e
          | some pr2 =>
            obtain ⟨y, b'⟩ := pr2
            rw [g3] at e
            cases e
            obtain ⟨p', hp', ob⟩ := rel2.ob g2
            rw [hp] at hp'
            cases hp'
            refine ⟨_, p, b, ds2, y, b', rfl, ob, fun _ _ => av_rd, rp2, g3, fun v o' hv hb => ?_⟩
            obtain ⟨r3, s3⟩ := write_ob rel2 g2 hp hb
            exact q _ _ r3.plus ((st1.trans st2).trans s3) (rr_d (s3.rp hv))
    · cases hl
  · cases e
theorem tE_mut0 {m : Mut1} {i : Nat} {Q : VK} (h : tE K (doMut m i (fun env => .ok [] env)) σ H Q) : tBM0 K "list" (rMutG K m) (tVar i) σ H Q := by
  obtain ⟨x, hx, ty, h⟩ := tE_mut h
  exact ⟨x, hx, ty, tA_nil h⟩
/-- a slice -/
theorem tO_none {Q : Option Int → Hp → Prop} (h : tO K (fun env => .ok none env) σ H Q) : tNoPart σ H Q := by
  obtain ⟨O, env, rel, o, env', e, q⟩ := h
  cases e
  exact q H rel Step.refl
theorem tO_some {f : Cells → Res R} {Q : Option Int → Hp → Prop} (h : tO K (doInt f) σ H Q) : tPart (tE K f) σ H Q := by
  obtain ⟨O, env, rel, o, env', e, q⟩ := h
  obtain ⟨r, env1, e1, e⟩ := Res.bind_ok e
  refine ⟨O, env, rel, r, env1, e1, fun v H1 rel1 st1 rr1 => ?_⟩
  cases g : r.get env1 with
  | none => rw [g] at e; cases e
  | some d =>
    rw [g] at e
    cases d with
    | int i =>
      cases e
      have vw := rr1.view rel1 g
      simp only [View] at vw
      exact ⟨i, vw, q H1 (rel1.less fun a z => .inl z) st1⟩
    | _ => cases e
theorem tE_sl {a : Cells → Res R} {lo hi : Cells → Res (Option Int)} {Q : VK} (h : tE K (doSl a lo hi) σ H Q) : tSl (rSlG K) (tE K a) (tO K lo) (tO K hi) σ H Q := by
  obtain ⟨O, env, rel, r, env', e, q⟩ := h
  obtain ⟨x, env1, e1, e⟩ := Res.bind_ok e
  obtain ⟨l, env2, e2, e⟩ := Res.bind_ok e
  obtain ⟨u, env3, e3, e⟩ := Res.bind_ok e
  refine ⟨O, env, rel, x, env1, e1, fun v H1 rel1 st1 rr1 => ⟨_, env1, rel1, l, env2, e2, fun H2 rel2 st2 => ⟨_, env2, rel2, u, env3, e3, fun H3 rel3 st3 => ?_⟩⟩⟩
  have rr3 := (rr1.step (N := fun _ => False) rel1 (st2.trans st3) (fun a z => z.elim) fun a z => .inr z).less (O' := un O (nw x v)) fun a z => .inl z
  cases g1 : x.get env3 with
  | none => rw [g1] at e; cases e
  | some dx =>
    rw [g1] at e
    obtain ⟨e4, e5⟩ := ofO_ok e
    subst e5
    obtain ⟨ro, e6, rfl⟩ := map_toR e4
    refine ⟨Av _ _ σ H3, dx, ro, av_good rel3, rr3.view rel3 g1, e6, fun w H4 g ror => ?_⟩
    obtain ⟨rel4, rr4⟩ := ror_rr (O := O) rel3 (fun a z => .inl z) g ror
    exact q w H4 rel4 (((st1.trans st2).trans st3).trans (Step.grow g)) (rr4.back fun p => ((st1.trans st2).trans st3).back)
/-- a value that is a truth -/
theorem tT_bl {f : Cells → Res R} {Q : Bool → Hp → Prop} (hb : ∀ env r env', f env = .ok r env' → ∃ b, r = .d (.bl b)) (h : tT K (E2.of f).t σ H Q) :
    tE K f σ H fun x H' => ∃ k, x = .bl k ∧ Q k H' := by
  obtain ⟨O, env, rel, r, env', e, q⟩ := h
  obtain ⟨x, env1, e1, e⟩ := Res.bind_ok e
  obtain ⟨b, rfl⟩ := hb _ _ _ e1
  refine ⟨O, env, rel, _, env1, e1, fun v H1 rel1 st1 rr1 => ?_⟩
  cases e
  have hv : v = .bl r := by simpa [RR, Rp] using rr1
  exact ⟨r, hv, q H1 (rel1.less fun a z => .inl z) st1⟩
theorem cmp_toR {op : Cop} : (fun x y : D => (cmpD op x y).map fun b => R.d (.bl b)) = fun x y => (cmpRO op x y).map RO.toR := by
  funext x y
  unfold cmpRO
  cases cmpD op x y <;> rfl
theorem cmp_bl {op : Cop} {a b : Cells → Res R} (env : Cells) (r : R) (env' : Cells) (h : do2 (fun x y => (cmpD op x y).map fun b => .d (.bl b)) a b env = .ok r env') : ∃ b, r = .d (.bl b) := by
  obtain ⟨x, env1, e1, e⟩ := Res.bind_ok h
  obtain ⟨y, env2, e2, e⟩ := Res.bind_ok e
  cases g1 : x.get env2 with
  | none => rw [g1] at e; cases e
  | some dx =>
    cases g2 : y.get env2 with
    | none => rw [g1, g2] at e; cases e
    | some dy =>
      rw [g1, g2] at e
      obtain ⟨e3, _⟩ := ofO_ok e
      simp only at e3
      cases g3 : cmpD op dx dy with
      | none => rw [g3] at e3; cases e3
      | some c => rw [g3] at e3; cases e3; exact ⟨c, rfl⟩
theorem tE_cmp {op : Cop} {a b : Cells → Res R} {Q : VK} (h : tE K (do2 (fun x y => (cmpD op x y).map fun b => .d (.bl b)) a b) σ H Q) : tOp (r2 K (cmpRO op)) (tE K a) (tE K b) σ H Q := by
  rw [cmp_toR] at h
  exact tE_do2 h
theorem tT_cmp {op : Cop} {a b : Cells → Res R} {Q : Bool → Hp → Prop} (h : tT K (E2.of (do2 (fun x y => (cmpD op x y).map fun b => .d (.bl b)) a b)).t σ H Q) :
    tTest (tOp (r2 K (cmpRO op)) (tE K a) (tE K b)) σ H Q := tE_cmp (tT_bl cmp_bl h)
theorem chain_bl {op op' : Cop} {a b c : Cells → Res R} (env : Cells) (r : R) (env' : Cells) (h : doChain op op' a b c env = .ok r env') : ∃ b, r = .d (.bl b) := by
  obtain ⟨x, env1, e1, e⟩ := Res.bind_ok h
  obtain ⟨y, env2, e2, e⟩ := Res.bind_ok e
  cases g1 : x.get env2 with
  | none => rw [g1] at e; cases e
  | some dx =>
    cases g2 : y.get env2 with
    | none => rw [g1, g2] at e; cases e
    | some dy =>
      rw [g1, g2] at e
      simp only at e
      cases g3 : cmpD op dx dy with
      | none => rw [g3] at e; cases e
      | some k =>
        rw [g3] at e
        cases k with
        | false => cases e; exact ⟨_, rfl⟩
        | true =>
          obtain ⟨z, env3, e3, e⟩ := Res.bind_ok e
          cases g4 : y.get env3 with
          | none => rw [g4] at e; cases e
          | some dy' =>
            cases g5 : z.get env3 with
            | none => rw [g4, g5] at e; cases e
            | some dz =>
              rw [g4, g5] at e
              obtain ⟨e3, _⟩ := ofO_ok e
              cases g6 : cmpD op' dy' dz with
              | none => rw [g6] at e3; cases e3
              | some c => rw [g6] at e3; cases e3; exact ⟨c, rfl⟩
theorem tE_chain {op op' : Cop} {a b c : Cells → Res R} {Q : VK} (h : tE K (doChain op op' a b c) σ H Q) :
    tChain (r2 K (cmpRO op)) (r2 K (cmpRO op')) (tE K a) (tE K b) (tE K c) σ H Q := by
  obtain ⟨O, env, rel, r, env', e, q⟩ := h
  obtain ⟨x, env1, e1, e⟩ := Res.bind_ok e
  obtain ⟨y, env2, e2, e⟩ := Res.bind_ok e
  refine ⟨O, env, rel, x, env1, e1, fun v H1 rel1 st1 rr1 => ⟨_, env1, rel1, y, env2, e2, fun u H2 rel2 st2 rr2 => ?_⟩⟩
  cases g1 : x.get env2 with
  | none => rw [g1] at e; cases e
  | some dx =>
    cases g2 : y.get env2 with
    | none => rw [g1, g2] at e; cases e
    | some dy =>
      rw [g1, g2] at e
      simp only at e
      cases g3 : cmpD op dx dy with
      | none => rw [g3] at e; cases e
      | some k =>
        rw [g3] at e
        refine ⟨Av _ _ σ H2, dx, dy, .d (.bl k), av_good rel2, (rr1.step rel1 st2 rr2.fresh fun a z => .inr z).view rel2 g1, rr2.view rel2 g2, by unfold cmpRO; rw [g3]; rfl, fun w H3 g ror => ?_⟩
        have hw : w = .bl k := by simpa [ROR, Rp] using ror
        refine ⟨k, hw, ?_⟩
        have rel3 := rel2.grow g
        have st3 := (st1.trans st2).trans (Step.grow (env := env2) (σ := σ) g)
        cases k with
        | false =>
          rw [if_neg (by decide)]
          cases e
          exact q _ H3 ((rel3.less fun a z => .inl (.inl z)).plus) st3 (by simp [RR, Rp])
        | true =>
          rw [if_pos rfl]
          obtain ⟨z, env3, e3, e⟩ := Res.bind_ok e
          refine ⟨_, env2, rel3, z, env3, e3, fun w' H4 rel4 st4 rr4 => ?_⟩
          cases g4 : y.get env3 with
          | none => rw [g4] at e; cases e
          | some dy' =>
            cases g5 : z.get env3 with
            | none => rw [g4, g5] at e; cases e
            | some dz =>
              rw [g4, g5] at e
              obtain ⟨e5, e6⟩ := ofO_ok e
              subst e6
              cases g6 : cmpD op' dy' dz with
              | none => rw [g6] at e5; cases e5
              | some c =>
                rw [g6] at e5
                cases e5
                have rr2' := (rr2.step (N := fun _ => False) rel2 (Step.grow g) (fun a z => z.elim) fun a z => .inr z).less (O' := un (un O (nw x v)) (nw y u)) fun a z => .inl z
                refine ⟨Av _ _ σ H4, dy', dz, .d (.bl c), av_good rel4, (rr2'.step rel3 st4 rr4.fresh fun a z => .inr z).view rel4 g4, rr4.view rel4 g5, by unfold cmpRO; rw [g6]; rfl, fun w2 H5 g' ror' => ?_⟩
                have hw2 : w2 = .bl c := by simpa [ROR, Rp] using ror'
                subst hw2
                exact q _ H5 (((rel4.grow g').less fun a z => .inl (.inl (.inl z))).plus) ((st3.trans st4).trans (Step.grow g')) (by simp [RR, Rp])
theorem tT_chain {op op' : Cop} {a b c : Cells → Res R} {Q : Bool → Hp → Prop} (h : tT K (E2.of (doChain op op' a b c)).t σ H Q) :
    tTest (tChain (r2 K (cmpRO op)) (r2 K (cmpRO op')) (tE K a) (tE K b) (tE K c)) σ H Q := tE_chain (tT_bl chain_bl h)
/-- x += e -/
def ipG (op : Bop) : TIp := fun x y H Q => ∃ i j k, x = .int i ∧ y = .int j ∧ augD op i j = some k ∧ Q (.int k) H
theorem ip_addG {X : Cx} : PIp X .Add (ipG .add) := by
  intro pns s σ H x y v u Q I rx ry ⟨i, j, k, e1, e2, e3, q⟩
  cases e3
  exact iop_add pns s σ H x y v u Q I rx ry ⟨i, j, e1, e2, q⟩
theorem ip_subG {X : Cx} : PIp X .Sub (ipG .sub) := by
  intro pns s σ H x y v u Q I rx ry ⟨i, j, k, e1, e2, e3, q⟩
  cases e3
  exact iop_sub pns s σ H x y v u Q I rx ry ⟨i, j, e1, e2, q⟩
theorem s_aug {i : Nat} {op : Bop} {f : Cells → Res R} {D : Ends} (h : tS K (doAug i op f) D σ H) : tAug i (tE K f) (ipG op) D σ H := by
  obtain ⟨O, env, rel, fl, env', e, q⟩ := h
  unfold doAug at e
  cases e0 : env[i]? with
  | none => rw [e0] at e; cases e
  | some c =>
    rw [e0] at e
    cases c with
    | none => cases e
    | o b => cases e
    | io b => cases e
    | d x =>
      cases x with
      | int x =>
        simp only at e
        obtain ⟨r, env1, e1, e⟩ := Res.bind_ok e
        obtain ⟨v, hv, rp⟩ := rel.at_ i _ e0
        refine ⟨v, hv, O, env, rel, r, env1, e1, fun w H1 rel1 st1 rr1 => ?_⟩
        have hx : v = .int x := by simpa [Rp] using rp
        have rel1' := rel1.less (O' := O) fun a z => .inl z
        cases g : r.get env1 with
        | none => rw [g] at e; cases e
        | some d =>
          rw [g] at e
          cases d with
          | int y =>
            have vw := rr1.view rel1 g
            simp only [View] at vw
            simp only at e
            cases g2 : augD op x y with
            | none => rw [g2] at e; cases e
            | some z =>
              rw [g2] at e
              simp only at e
              cases g3 : asgD (.nm i) (.int z) env1 with
              | none => rw [g3] at e; cases e
              | some env2 =>
                rw [g3] at e
                cases e
                refine ⟨x, y, z, hx, vw, g2, ?_⟩
                have := gD_nm (K := K) (i := i) (v := .int z) (σ := σ) (H := H1) (Q := D.nx) ⟨O, env1, .int z, env', rel1', by simp [Rp], g3, fun σ' H' r' s' _ => q σ' H' r' (st1.trans s')⟩
                exact this
          | _ => cases e
      | _ => cases e
end
end Fx

set_option Elab.async false
set_option linter.all false
set_option maxRecDepth 100000
/-! Fx11: calls of defs: what a def promises, the caller's side. -/
namespace Fx
open L2 PyProof.Rows PySem PySem.Spec

section
variable {K : PySem.W.Frag} {O : Addr → Prop} {env env0 env1 env2 env' : Cells} {σ σ0 σ1 σ2 σ' : L2.St} {H H0 H1 H2 H' : Hp}
/-- the objects handed on, as they are handed back -/
def putIos : List Arg → List Ob → List Arg
  | .d x :: as, bs => .d x :: putIos as bs
  | .io _ :: as, b :: bs => .io b :: putIos as bs
  | _, _ => []
/-- what a def promises -/
def spF (K : PySem.W.Frag) (fe : FE) : Sp := fun vs H Q _ => vs.length = fe.modes.length ∧ ∃ O as, Rel K O (as.map argCell) (vs.map some) H ∧ ∃ ro ios, fe.sem as = .ok ro ios ∧
  ∀ v H', Rel K (un O (nw ro.toR v)) ((putIos as ios).map argCell) (vs.map some) H' → Step (as.map argCell) (vs.map some) H ((putIos as ios).map argCell) (vs.map some) H' →
    RR K (un O (nw ro.toR v)) ((putIos as ios).map argCell) (vs.map some) H H' ro.toR v → Q v H'
/-- how the arguments lie -/
def PR (K : PySem.W.Frag) (A : RdA) (σ : L2.St) : List PArg → List V → Prop
  | [], vs => vs = []
  | .d x :: ps, vs => ∃ v r, vs = v :: r ∧ Rp K A x v ∧ PR K A σ ps r
  | .io i :: ps, vs => ∃ v r, vs = v :: r ∧ σ[i]? = some (some v) ∧ PR K A σ ps r
theorem PR.mono {A A' : RdA} (h : ∀ a u, A a u → A' a u) : ∀ {ps : List PArg} {vs : List V}, PR K A σ ps vs → PR K A' σ ps vs
  | [], _, q => q
  | .d x :: ps, _, ⟨v, r, e, hx, t⟩ => ⟨v, r, e, Rp.mono h _ _ hx, PR.mono h t⟩
  | .io i :: ps, _, ⟨v, r, e, hx, t⟩ => ⟨v, r, e, hx, PR.mono h t⟩
theorem preArgs_ok : ∀ {ms : List Bool} {rs : List R} {vs : List V} {ps : List PArg} {env env1 : Cells}, Rel K (un O (nws rs vs)) env σ H → (∀ a, nws rs vs a → ¬ O a) → Apart rs vs →
    RRs K (un O (nws rs vs)) env σ H0 H rs vs → preArgs env ms rs = some (ps, env1) → Rel K O env1 σ H ∧ Step env σ H env1 σ H ∧ PR K (Av O env1 σ H) σ ps vs
  | [], [], vs, ps, env, env1, rel, hs, ap, h, g => by
    simp only [preArgs] at g
    cases g
    rw [un_nil] at rel
    exact ⟨rel, Step.refl, h⟩
  | [], _ :: _, vs, ps, env, env1, rel, hs, ap, h, g => by simp [preArgs] at g
  | true :: ms, [], vs, ps, env, env1, rel, hs, ap, h, g => by simp [preArgs] at g
  | false :: ms, [], vs, ps, env, env1, rel, hs, ap, h, g => by simp [preArgs] at g
  | true :: ms, r :: rs, _, ps, env, env1, rel, hs, ap, ⟨x, xs, e, h, t⟩, g => by
    subst e
    cases r with
    | d y => simp [preArgs] at g
    | new y => simp [preArgs] at g
    | own i =>
      simp only [preArgs] at g
      cases e2 : preArgs env ms rs with
      | none => rw [e2] at g; cases g
      | some p2 =>
        obtain ⟨ps', env''⟩ := p2
        rw [e2] at g
        cases g
        have le : ∀ a, un O (nws rs xs) a → un O (nws (.own i :: rs) (x :: xs)) a := fun a z => z.elim .inl fun z => .inr (.inr z)
        obtain ⟨rel2, st2, pr⟩ := preArgs_ok (rel.less le) (fun a z => hs a (.inr z)) ap.2 (t.less le) e2
        exact ⟨rel2, st2, x, xs, rfl, h, pr⟩
  | false :: ms, r :: rs, _, ps, env, env1, rel, hs, ap, ⟨x, xs, e, h, t⟩, g => by
    subst e
    simp only [preArgs] at g
    cases e1 : frz env r with
    | none => rw [e1] at g; cases g
    | some p =>
      obtain ⟨d, env'⟩ := p
      rw [e1] at g
      simp only at g
      cases e2 : preArgs env' ms rs with
      | none => rw [e2] at g; cases g
      | some p2 =>
        obtain ⟨ps', env''⟩ := p2
        rw [e2] at g
        cases g
        have hs1 : ∀ a, nw r x a → ¬ un O (nws rs xs) a := fun a z n => Or.elim n (hs a (.inl z)) (ap.1 a z)
        have rel' := rel
        rw [un_cons] at rel' h
        obtain ⟨rel1, st1, rp1⟩ := frz_ok rel' hs1 h e1
        have t1 := (RRs.step (N := fun _ => False) rel st1 (fun a z => z.elim) (fun a z => .inr (.inr z)) t).less (O' := un O (nws rs xs))
          fun a z => .inl (z.elim .inl fun z => .inr (.inr z))
        obtain ⟨rel2, st2, pr⟩ := preArgs_ok rel1 (fun a z => hs a (.inr z)) ap.2 t1 e2
        refine ⟨rel2, st1.trans st2, x, xs, rfl, Rp.mono (fun a u k => ?_) _ _ rp1, pr⟩
        exact st2.av a u (av_anti (fun a z => .inl z) a u k)
/-- the addresses handed on -/
def IoAt (σ : L2.St) (is : List Nat) (a : Addr) : Prop := ∃ i ∈ is, σ[i]? = some (some (.ref a))
theorem argAt {ps : List PArg} {as : List Arg} {vs : List V} {A : RdA} : ∀ {k : Nat} {c : Cell}, toArgs env ps = some as → PR K A σ ps vs → (as.map argCell)[k]? = some c →
    (∃ x v, c = .d x ∧ vs[k]? = some v ∧ Rp K A x v ∧ ∃ y, ps[k]? = some (.d y)) ∨ ∃ i b v, c = .io b ∧ vs[k]? = some v ∧ ps[k]? = some (.io i) ∧ obAt env i = some b ∧ σ[i]? = some (some v) := by
  induction ps generalizing as vs with
  | nil => intro k c e pr h; simp only [toArgs] at e; cases e; simp at h
  | cons p ps ih =>
    intro k c e pr h
    cases p with
    | d x =>
      simp only [toArgs] at e
      obtain ⟨v, r, rfl, hx, t⟩ := pr
      cases e1 : toArgs env ps with
      | none => rw [e1] at e; cases e
      | some as' =>
        rw [e1] at e
        cases e
        cases k with
        | zero => simp [argCell] at h; subst h; exact .inl ⟨x, v, rfl, by simp, hx, x, by simp⟩
        | succ k => simpa using ih (k := k) e1 t (by simpa using h)
    | io i =>
      simp only [toArgs] at e
      obtain ⟨v, r, rfl, hx, t⟩ := pr
      cases e0 : obAt env i with
      | none => rw [e0] at e; cases e
      | some b =>
        cases e1 : toArgs env ps with
        | none => rw [e0, e1] at e; cases e
        | some as' =>
          rw [e0, e1] at e
          cases e
          cases k with
          | zero => simp [argCell] at h; subst h; exact .inr ⟨i, b, v, rfl, by simp, by simp, e0, hx⟩
          | succ k => simpa using ih (k := k) e1 t (by simpa using h)
theorem toArgs_len : ∀ {ps : List PArg} {as : List Arg}, toArgs env ps = some as → as.length = ps.length
  | [], as, e => by simp only [toArgs] at e; cases e; rfl
  | .d x :: ps, as, e => by
    simp only [toArgs] at e
    cases e1 : toArgs env ps with
    | none => rw [e1] at e; cases e
    | some as' => rw [e1] at e; cases e; simp [toArgs_len e1]
  | .io i :: ps, as, e => by
    simp only [toArgs] at e
    cases e0 : obAt env i with
    | none => rw [e0] at e; cases e
    | some b =>
      cases e1 : toArgs env ps with
      | none => rw [e0, e1] at e; cases e
      | some as' => rw [e0, e1] at e; cases e; simp [toArgs_len e1]
theorem PR.length {A : RdA} : ∀ {ps : List PArg} {vs : List V}, PR K A σ ps vs → vs.length = ps.length
  | [], _, h => by cases h; rfl
  | .d x :: ps, _, ⟨v, r, e, _, t⟩ => by subst e; simp [PR.length t]
  | .io x :: ps, _, ⟨v, r, e, _, t⟩ => by subst e; simp [PR.length t]
theorem ioIdx_mem {i : Nat} : ∀ {ps : List PArg} {k : Nat}, ps[k]? = some (.io i) → i ∈ ioIdx ps
  | [], k, e => by simp at e
  | .d x :: ps, 0, e => by simp at e
  | .d x :: ps, k + 1, e => ioIdx_mem (ps := ps) (k := k) (by simpa using e)
  | .io j :: ps, 0, e => by simp at e; subst e; exact List.mem_cons_self
  | .io j :: ps, k + 1, e => List.mem_cons_of_mem _ (ioIdx_mem (ps := ps) (k := k) (by simpa using e))
theorem ioIdx_at {i : Nat} : ∀ {ps : List PArg}, i ∈ ioIdx ps → ∃ k : Nat, ps[k]? = some (PArg.io i)
  | [], e => by cases e
  | .d x :: ps, e => let ⟨k, h⟩ := ioIdx_at (ps := ps) e; ⟨k + 1, by simpa using h⟩
  | .io j :: ps, e => by
    rcases List.mem_cons.mp e with rfl | e
    · exact ⟨0, by simp⟩
    · obtain ⟨k, h⟩ := ioIdx_at (ps := ps) e; exact ⟨k + 1, by simpa using h⟩
theorem ioIdx_inj {i : Nat} : ∀ {ps : List PArg} {k l : Nat}, (ioIdx ps).Nodup → ps[k]? = some (.io i) → ps[l]? = some (.io i) → k = l
  | [], k, l, n, e, _ => by simp at e
  | .d x :: ps, 0, l, n, e, _ => by simp at e
  | .d x :: ps, k + 1, 0, n, _, e => by simp at e
  | .d x :: ps, k + 1, l + 1, n, e, e' => by exact congrArg Nat.succ (ioIdx_inj (i := i) (ps := ps) (k := k) (l := l) n (by simpa using e) (by simpa using e'))
  | .io j :: ps, 0, 0, n, e, e' => rfl
  | .io j :: ps, 0, l + 1, n, e, e' => by
    simp at e
    subst e
    exact ((List.nodup_cons.mp n).1 (ioIdx_mem (ps := ps) (k := l) (by simpa using e'))).elim
  | .io j :: ps, k + 1, 0, n, e', e => by simp at e; subst e; exact ((List.nodup_cons.mp n).1 (ioIdx_mem (ps := ps) (k := k) (by simpa using e'))).elim
  | .io j :: ps, k + 1, l + 1, n, e, e' => by exact congrArg Nat.succ (ioIdx_inj (i := i) (ps := ps) (k := k) (l := l) (List.nodup_cons.mp n).2 (by simpa using e) (by simpa using e'))
/-- hidden from the callee: what is hidden, what the caller owns and does not hand on -/
def Oc (O : Addr → Prop) (env : Cells) (σ : L2.St) (is : List Nat) : Addr → Prop := fun a => O a ∨ (Ow env σ a ∧ ¬ IoAt σ is a)
theorem owArg {ps : List PArg} {as : List Arg} {vs : List V} {A : RdA} (e : toArgs env ps = some as) (pr : PR K A σ ps vs) {a : Addr} : Ow (as.map argCell) (vs.map some) a → Ow env σ a ∧ IoAt σ (ioIdx ps) a := by
  rintro ⟨k, b, h1, h2⟩
  rcases obAt_some h1 with h | h
  · rcases argAt e pr h with ⟨x, v, z, _⟩ | ⟨i, b', v, z, _⟩ <;> cases z
  · rcases argAt e pr h with ⟨x, v, z, _⟩ | ⟨i, b', v, z, hv, hp, hb, hs⟩
    · cases z
    · rw [List.getElem?_map, hv] at h2
      cases h2
      exact ⟨⟨i, b', hb, hs⟩, i, ioIdx_mem hp, hs⟩
theorem callee_rel {ps : List PArg} {as : List Arg} {vs : List V} (rel : Rel K O env σ H) (pr : PR K (Av O env σ H) σ ps vs) (nd : (ioIdx ps).Nodup) (e : toArgs env ps = some as) :
    Rel K (Oc O env σ (ioIdx ps)) (as.map argCell) (vs.map some) H := by
  have av : ∀ a u, Av O env σ H a u → Av (Oc O env σ (ioIdx ps)) (as.map argCell) (vs.map some) H a u := fun a u ⟨k1, k2, k3⟩ =>
    ⟨fun o => k1 (owArg e pr o).1, fun z => z.elim k2 fun z => k1 z.1, k3⟩
  refine ⟨by rw [List.length_map, List.length_map, toArgs_len e, pr.length], fun k c h => ?_, fun k l b b' p h1 h2 h3 h4 => ?_, fun a z => ?_⟩
  · rcases argAt e pr h with ⟨x, v, rfl, hv, hx, _⟩ | ⟨i, b, v, rfl, hv, hp, hb, hs⟩
    · exact ⟨v, by rw [List.getElem?_map, hv]; rfl, Rp.mono av _ _ hx⟩
    · obtain ⟨p, hp', ob⟩ := rel.ob hb
      rw [hs] at hp'
      cases hp'
      exact ⟨p, by rw [List.getElem?_map, hv]; rfl, ob.mono av rfl⟩
  · have g : ∀ k b, obAt (as.map argCell) k = some b → (vs.map some)[k]? = some (some (.ref p)) → ∃ i b, ps[k]? = some (.io i) ∧ obAt env i = some b ∧ σ[i]? = some (some (.ref p)) := by
      intro k b h1 h2
      rcases obAt_some h1 with h | h
      · rcases argAt e pr h with ⟨x, v, z, _⟩ | ⟨i, b', v, z, _⟩ <;> cases z
      · rcases argAt e pr h with ⟨x, v, z, _⟩ | ⟨i, b', v, z, hv, hp, hb, hs⟩
        · cases z
        · rw [List.getElem?_map, hv] at h2
          cases h2
          exact ⟨i, b', hp, hb, hs⟩
    obtain ⟨i, c, g1, g2, g3⟩ := g k b h1 h3
    obtain ⟨j, c', g4, g5, g6⟩ := g l b' h2 h4
    have hij := rel.inj i j c c' p g2 g5 g3 g6
    subst hij
    exact ioIdx_inj nd g1 g4
  · rcases z with z | ⟨⟨i, b, h1, h2⟩, z⟩
    · exact ⟨(rel.hid a z).1, fun o => (rel.hid a z).2 (owArg e pr o).1⟩
    · obtain ⟨p, hp, ob⟩ := rel.ob h1
      rw [h2] at hp
      cases hp
      exact ⟨ob.some, fun o => z (owArg e pr o).2⟩

/-! ### the way back -/
theorem setObs_ok {N : Hp} : ∀ {is : List Nat} {bs : List Ob} {env env2 : Cells} {G : Hp}, Rel K O env σ G → is.Nodup → setObs env is bs = some env2 →
    (∀ (k : Nat) (i : Nat), is[k]? = some i → (∃ b, obAt env i = some b) ∧ ∃ b' p o', bs[k]? = some b' ∧ σ[i]? = some (some (.ref p)) ∧ N p = some o' ∧ ObR K (Av O env σ G) N b' p) →
    ∃ G', Rel K O env2 σ G' ∧ Step env σ G env2 σ G' ∧ (∀ a, Ow env2 σ a ↔ Ow env σ a) ∧ (∀ a, IoAt σ is a → G' a = N a) ∧ ∀ a, ¬ IoAt σ is a → G' a = G a
  | [], [], env, env2, G, rel, nd, e, h => by
    simp only [setObs] at e
    cases e
    exact ⟨G, rel, Step.refl, fun _ => Iff.rfl, fun a z => (let ⟨i, hi, _⟩ := z; nomatch hi), fun a _ => rfl⟩
  | [], _ :: _, env, env2, G, rel, nd, e, h => by simp [setObs] at e
  | _ :: _, [], env, env2, G, rel, nd, e, h => by simp [setObs] at e
  | i :: is, b' :: bs, env, env2, G, rel, nd, e, h => by
    simp only [setObs] at e
    obtain ⟨⟨b, hb⟩, c, p, o', hc, hp, hN, ob⟩ := h 0 i (by simp)
    simp at hc
    subst hc
    have up : (upd G p o') p = N p := by rw [upd_same, hN]
    have ob' : ObR K (Av O env σ G) (upd G p o') b' p := ob.mono (fun _ _ k => k) up
    obtain ⟨r1, s1⟩ := write_ob rel hb hp ob'
    rcases List.nodup_cons.mp nd with ⟨n1, n2⟩
    have avs := s1.av (O := O)
    obtain ⟨G', r2, s2, ow, g1, g2⟩ := setObs_ok (N := N) r1 n2 e fun k j hk => by
      obtain ⟨⟨c, hc⟩, d, q, o2, h1, h2, h3, h4⟩ := h (k + 1) j (by simpa using hk)
      have ne : i ≠ j := fun z => by subst z; exact n1 (List.mem_of_getElem? hk)
      exact ⟨⟨c, by rw [obAt_put hb, if_neg ne]; exact hc⟩, d, q, o2, by simpa using h1, h2, h3, h4.mono avs rfl⟩
    refine ⟨G', r2, s1.trans s2, fun a => (ow a).trans (ow_put hb), fun a ⟨j, hj, ha⟩ => ?_, fun a n => ?_⟩
    · by_cases z : IoAt σ is a
      · exact g1 a z
      · rcases List.mem_cons.mp hj with rfl | hj
        · rw [hp] at ha
          cases ha
          rw [g2 p z, up]
        · exact (z ⟨j, hj, ha⟩).elim
    · have ne : a ≠ p := fun z => by subst z; exact n ⟨i, List.mem_cons_self, hp⟩
      rw [g2 a fun ⟨j, hj, ha⟩ => n ⟨j, List.mem_cons_of_mem _ hj, ha⟩, upd_ne ne]
theorem putIos_at : ∀ {as : List Arg} {bs : List Ob} {ps : List PArg} {k i m : Nat}, toArgs env ps = some as → setObs env1 (ioIdx ps) bs = some env2 → (ioIdx ps)[m]? = some i →
    ∃ (k : Nat) (b : Ob), ps[k]? = some (.io i) ∧ bs[m]? = some b ∧ ((putIos as bs).map argCell)[k]? = some (.io b) := by
  intro as bs ps
  induction ps generalizing as bs env1 with
  | nil => intro k i m e e2 h; simp [ioIdx] at h
  | cons p ps ih =>
    intro k i m e e2 h
    cases p with
    | d x =>
      simp only [toArgs] at e
      cases e1 : toArgs env ps with
      | none => rw [e1] at e; cases e
      | some as' =>
        rw [e1] at e
        cases e
        obtain ⟨k', b, h1, h2, h3⟩ := ih (k := k) e1 e2 h
        exact ⟨k' + 1, b, by simpa using h1, h2, by simpa [putIos] using h3⟩
    | io j =>
      simp only [toArgs] at e
      cases e0 : obAt env j with
      | none => rw [e0] at e; cases e
      | some b0 =>
        cases e1 : toArgs env ps with
        | none => rw [e0, e1] at e; cases e
        | some as' =>
          rw [e0, e1] at e
          cases e
          simp only [ioIdx] at h e2
          cases bs with
          | nil => simp [setObs] at e2
          | cons b bs =>
            simp only [setObs] at e2
            cases m with
            | zero => simp at h; subst h; exact ⟨0, b, by simp, by simp, by simp [putIos, argCell]⟩
            | succ m =>
              obtain ⟨k', b', h1, h2, h3⟩ := ih (k := k) e1 e2 (by simpa using h)
              exact ⟨k' + 1, b', by simpa using h1, by simpa using h2, by simpa [putIos] using h3⟩
open Classical in
theorem caller_rel {ps : List PArg} {as : List Arg} {vs : List V} {ios : List Ob} {ro : RO} {v : V} (rel : Rel K O env σ H) (pr : PR K (Av O env σ H) σ ps vs) (nd : (ioIdx ps).Nodup)
    (e : toArgs env ps = some as) (e2 : setObs env (ioIdx ps) ios = some env2)
    (rc : Rel K (un (Oc O env σ (ioIdx ps)) (nw ro.toR v)) ((putIos as ios).map argCell) (vs.map some) H') (sc : Step (as.map argCell) (vs.map some) H ((putIos as ios).map argCell) (vs.map some) H')
    (rr : RR K (un (Oc O env σ (ioIdx ps)) (nw ro.toR v)) ((putIos as ios).map argCell) (vs.map some) H H' ro.toR v) :
    Rel K (un O (nw ro.toR v)) env2 σ H' ∧ Step env σ H env2 σ H' ∧ RR K (un O (nw ro.toR v)) env2 σ H H' ro.toR v := by
  have iothere : ∀ a, IoAt σ (ioIdx ps) a → Ow env σ a ∧ H a ≠ none ∧ Ow ((putIos as ios).map argCell) (vs.map some) a := by
    rintro a ⟨i, hi, ha⟩
    obtain ⟨m, hm⟩ := List.getElem?_of_mem hi
    obtain ⟨k, b, h1, h2, h3⟩ := putIos_at (k := 0) e e2 hm
    -- the slot
    have hk : k < as.length := by rw [toArgs_len e]; exact (List.getElem?_eq_some_iff.mp h1).1
    have hc : (as.map argCell)[k]? = some (argCell as[k]) := by rw [List.getElem?_map, List.getElem?_eq_getElem hk]; rfl
    rcases argAt e pr hc with ⟨x, w, _, _, _, y, hy⟩ | ⟨j, b', w, _, hw, hj, hb, hs⟩
    · rw [h1] at hy; cases hy
    · rw [h1] at hj
      cases hj
      rw [ha] at hs
      cases hs
      have ow : Ow env σ a := ⟨i, b', hb, ha⟩
      exact ⟨ow, rel.own_there ow, k, b, obAt_io h3, by rw [List.getElem?_map, hw]; rfl⟩
  have kp : ∀ a o, H a = some o → ¬ IoAt σ (ioIdx ps) a → H' a = some o := fun a o ha n => sc.kp a o ha fun z => n (owArg e pr z).2
  -- between: all but what is handed on
  let G : Hp := fun a => if IoAt σ (ioIdx ps) a then H a else H' a
  have Gio : ∀ a, IoAt σ (ioIdx ps) a → G a = H a := fun a z => if_pos z
  have Gno : ∀ a, ¬ IoAt σ (ioIdx ps) a → G a = H' a := fun a z => if_neg z
  have same : Same H G := fun a o ha => by
    by_cases z : IoAt σ (ioIdx ps) a
    · rw [Gio a z]; exact ha
    · rw [Gno a z]; exact kp a o ha z
  have nwN : ∀ a, nw ro.toR v a → H a = none ∧ ∃ o, G a = some o ∧ Mut (some o) := fun a z => by
    have hn := rr.fresh a z
    refine ⟨hn, ?_⟩
    rw [Gno a fun q => (iothere a q).2.1 hn]
    exact (rc.hid a (.inr z)).1
  have relG := rel.growN same nwN
  have sG : Step env σ H env σ G := Step.grow same
  have av : ∀ a u, Av (un (Oc O env σ (ioIdx ps)) (nw ro.toR v)) ((putIos as ios).map argCell) (vs.map some) H' a u → Av (un O (nw ro.toR v)) env σ G a u ∧ ¬ IoAt σ (ioIdx ps) a ∧ Rd H' a u := by
    rintro a u ⟨k1, k2, k3⟩
    have nio : ¬ IoAt σ (ioIdx ps) a := fun z => k1 (iothere a z).2.2
    refine ⟨⟨fun o => k2 (.inl (.inr ⟨o, nio⟩)), fun z => k2 (z.elim (fun z => .inl (.inl z)) .inr), ?_⟩, nio, k3⟩
    rcases k3 with k3 | ⟨od, k3⟩
    · exact .inl ((Gno a nio).trans k3)
    · exact .inr ⟨od, (Gno a nio).trans k3⟩
  obtain ⟨G', r2, s2, ow, g1, g2⟩ := setObs_ok (N := H') relG nd e2 fun m i hm => by
    obtain ⟨k, b, h1, h2, h3⟩ := putIos_at (k := 0) e e2 hm
    have hk : k < as.length := by rw [toArgs_len e]; exact (List.getElem?_eq_some_iff.mp h1).1
    have hc : (as.map argCell)[k]? = some (argCell as[k]) := by rw [List.getElem?_map, List.getElem?_eq_getElem hk]; rfl
    rcases argAt e pr hc with ⟨x, w, _, _, _, y, hy⟩ | ⟨j, b', w, _, hw, hj, hb, hs⟩
    · rw [h1] at hy; cases hy
    · rw [h1] at hj
      cases hj
      obtain ⟨p, hp, ob⟩ := rc.at_ k _ h3
      rw [List.getElem?_map, hw] at hp
      cases hp
      obtain ⟨o', ho', _⟩ := ob.some
      exact ⟨⟨b', hb⟩, b, p, o', h2, hs, ho', ob.mono (fun a u z => (av a u z).1) rfl⟩
  have eG : G' = H' := by
    funext a
    by_cases z : IoAt σ (ioIdx ps) a
    · exact g1 a z
    · exact (g2 a z).trans (Gno a z)
  subst eG
  refine ⟨r2, sG.trans s2, ?_⟩
  have av2 : ∀ a u, Av (un (Oc O env σ (ioIdx ps)) (nw ro.toR v)) ((putIos as ios).map argCell) (vs.map some) G' a u → Av (un O (nw ro.toR v)) env2 σ G' a u := fun a u z =>
    let ⟨⟨k1, k2, _⟩, _, k3⟩ := av a u z
    ⟨fun o => k1 ((ow a).mp o), k2, k3⟩
  cases ro with
  | d x => exact Rp.mono av2 _ _ rr
  | new b =>
    obtain ⟨p, h1, h2, h3⟩ := rr
    exact ⟨p, h1, h2, h3.mono av2 rfl⟩
theorem RRs.append {rs rs' : List R} {vs vs' : List V} (h : RRs K O env σ H0 H rs vs) (h' : RRs K O env σ H0 H rs' vs') : RRs K O env σ H0 H (rs ++ rs') (vs ++ vs') := by
  induction rs generalizing vs with
  | nil => cases h; exact h'
  | cons r rs ih =>
    obtain ⟨x, xs, rfl, hx, t⟩ := h
    exact ⟨x, xs ++ vs', rfl, hx, ih t⟩
theorem nws_d {rs : List R} {vs : List V} {ds : List D} {ws : List V} (hl : vs.length = rs.length) (a : Addr) : nws (rs ++ ds.map .d) (vs ++ ws) a ↔ nws rs vs a := by
  induction rs generalizing vs with
  | nil =>
    cases vs with
    | cons v vs => cases hl
    | nil =>
      refine ⟨fun z => ?_, fun z => z.elim⟩
      simp only [List.nil_append] at z
      clear hl
      induction ds generalizing ws with
      | nil => exact z.elim
      | cons d ds ih =>
        cases ws with
        | nil => exact z.elim
        | cons w ws => exact z.elim (fun z => z.elim) ih
  | cons r rs ih =>
    cases vs with
    | nil => cases hl
    | cons v vs => exact or_congr Iff.rfl (ih (by simpa using hl))
theorem apart_d {rs : List R} {vs : List V} {ds : List D} {ws : List V} (hl : vs.length = rs.length) (h : Apart rs vs) : Apart (rs ++ ds.map .d) (vs ++ ws) := by
  induction rs generalizing vs with
  | nil =>
    cases vs with
    | cons v vs => cases hl
    | nil =>
      simp only [List.nil_append]
      clear hl h
      induction ds generalizing ws with
      | nil => trivial
      | cons d ds ih =>
        cases ws with
        | nil => trivial
        | cons w ws => exact ⟨fun a z => z.elim, ih⟩
  | cons r rs ih =>
    cases vs with
    | nil => cases hl
    | cons v vs => exact ⟨fun a z n => h.1 a z ((nws_d (by simpa using hl) a).mp n), ih (by simpa using hl) h.2⟩
/-- the call -/
theorem tE_call {Γ : FT} {f : Nat} {fe : FE} {es : Cells → Res (List R)} {dvs : List V} {E : XK} {n : Nat} {Q : VK} (hf : Γ[f]? = some fe)
    (hd : ∀ A, RpL K A (fe.dvs.drop (fe.dvs.length + n - fe.modes.length)) dvs) (hn : ∀ env rs env', es env = .ok rs env' → rs.length = n)
    (h : tE K (doCall Γ f es) σ H Q) : tCall (spF K fe) dvs E (tA K es) σ H Q := by
  obtain ⟨O, env, rel, r, env', e, q⟩ := h
  obtain ⟨rs, env1, e1, e⟩ := Res.bind_ok e
  refine ⟨O, env, rel, rs, env1, e1, fun vs H1 rel1 st1 rr1 ap => ?_⟩
  unfold callF at e
  rw [hf] at e
  simp only at e
  rw [hn _ _ _ e1] at e
  have hl := rr1.length
  generalize hds : fe.dvs.drop (fe.dvs.length + n - fe.modes.length) = ds at e hd
  cases g1 : preArgs env1 fe.modes (rs ++ ds.map .d) with
  | none => rw [g1] at e; cases e
  | some pr0 =>
    obtain ⟨ps, env2⟩ := pr0
    rw [g1] at e
    simp only at e
    split at e
    · rename_i nd
      have un_eq : un O (nws (rs ++ ds.map .d) (vs ++ dvs)) = un O (nws rs vs) := by
        funext a
        exact propext (or_congr Iff.rfl (nws_d hl a))
      have drr : ∀ {O' : Addr → Prop} {ds : List D} {dvs : List V}, (∀ A, RpL K A ds dvs) → RRs K O' env1 σ H H1 (ds.map .d) dvs := by
        intro O' ds
        induction ds with
        | nil => intro dvs h; have := h (fun _ _ => False); simp only [RpL] at this; exact this
        | cons d ds ih =>
          intro dvs h
          have h0 := h (fun _ _ => False)
          simp only [RpL] at h0
          obtain ⟨x, r, rfl, _, _⟩ := h0
          refine ⟨x, r, rfl, ?_, ih fun A => ?_⟩
          · have := h (Av O' env1 σ H1)
            simp only [RpL] at this
            obtain ⟨x', r', e, hx, _⟩ := this
            cases e
            exact hx
          · have := h A
            simp only [RpL] at this
            obtain ⟨x', r', e, _, hr⟩ := this
            cases e
            exact hr
      have rel1' := rel1
      have rr1' := rr1.append (drr hd)
      rw [← un_eq] at rel1' rr1'
      obtain ⟨rel2, st2, pr⟩ := preArgs_ok rel1' (fun a z => hs_of rel rr1 a ((nws_d hl a).mp z)) (apart_d hl ap) rr1' g1
      cases g2 : toArgs env2 ps with
      | none => rw [g2] at e; cases e
      | some as =>
        rw [g2] at e
        simp only at e
        cases g3 : fe.sem as with
        | bad => rw [g3] at e; cases e
        | exc x ios =>
          rw [g3] at e
          simp only at e
          cases g4 : setObs env2 (ioIdx ps) ios with
          | none => rw [g4] at e; cases e
          | some env3 => rw [g4] at e; cases e
        | ok ro ios =>
          rw [g3] at e
          simp only at e
          cases g4 : setObs env2 (ioIdx ps) ios with
          | none => rw [g4] at e; cases e
          | some env3 =>
            rw [g4] at e
            cases e
            have lenP : ∀ {ms : List Bool} {rs : List R} {ps : List PArg} {env env1 : Cells}, preArgs env ms rs = some (ps, env1) → ps.length = ms.length := by
              intro ms
              induction ms with
              | nil =>
                intro rs ps env env1 h
                cases rs with
                | nil => simp only [preArgs] at h; cases h; rfl
                | cons r rs => simp [preArgs] at h
              | cons m ms ih =>
                intro rs ps env env1 h
                cases rs with
                | nil => cases m <;> simp [preArgs] at h
                | cons r rs =>
                  cases m with
                  | true =>
                    cases r with
                    | d y => simp [preArgs] at h
                    | new y => simp [preArgs] at h
                    | own i =>
                      simp only [preArgs] at h
                      cases e2 : preArgs env ms rs with
                      | none => rw [e2] at h; cases h
                      | some p2 => rw [e2] at h; cases h; simp [ih e2]
                  | false =>
                    simp only [preArgs] at h
                    cases e1 : frz env r with
                    | none => rw [e1] at h; cases h
                    | some p =>
                      rw [e1] at h
                      simp only at h
                      cases e2 : preArgs p.2 ms rs with
                      | none => rw [e2] at h; cases h
                      | some p2 => rw [e2] at h; cases h; simp [ih e2]
            refine ⟨by rw [pr.length, lenP g1], _, as, callee_rel rel2 pr nd g2, ro, ios, g3, fun v H' rc sc rr => ?_⟩
            obtain ⟨r3, s3, rr3⟩ := caller_rel rel2 pr nd g2 g4 rc sc rr
            exact q v H' r3 ((st1.trans st2).trans s3) (rr3.back fun p => st1.back)
    · cases e
end
end Fx

set_option Elab.async false
set_option linter.all false
set_option maxRecDepth 100000
/-! Fx12: the callee's side: a body's run keeps what the def promises. -/
namespace Fx
open L2 PyProof.Rows PySem PySem.Spec

section
variable {K : PySem.W.Frag} {O : Addr → Prop} {env env0 env1 env2 env' : Cells} {σ σ0 σ1 σ2 σ' : L2.St} {H H0 H1 H2 H' : Hp}
theorem obAt_pad {m i : Nat} : obAt (env ++ List.replicate m .none) i = obAt env i := by
  unfold obAt
  by_cases h : i < env.length
  · rw [List.getElem?_append_left h]
  · rw [List.getElem?_append_right (by omega), List.getElem?_eq_none (l := env) (by omega)]
    rw [List.getElem?_replicate]
    split <;> rfl
theorem sig_pad {m i : Nat} {v : V} : (σ ++ List.replicate m none)[i]? = some (some v) ↔ σ[i]? = some (some v) := by
  by_cases h : i < σ.length
  · rw [List.getElem?_append_left h]
  · rw [List.getElem?_append_right (by omega), List.getElem?_eq_none (l := σ) (by omega), List.getElem?_replicate]
    split <;> simp
theorem ow_pad {m : Nat} {a : Addr} : Ow (env ++ List.replicate m .none) (σ ++ List.replicate m none) a ↔ Ow env σ a := by
  constructor
  · rintro ⟨i, b, h1, h2⟩; exact ⟨i, b, by rwa [obAt_pad] at h1, sig_pad.mp h2⟩
  · rintro ⟨i, b, h1, h2⟩; exact ⟨i, b, by rwa [obAt_pad], sig_pad.mpr h2⟩
theorem rel_pad (rel : Rel K O env σ H) (m : Nat) : Rel K O (env ++ List.replicate m .none) (σ ++ List.replicate m none) H := by
  have av : ∀ a u, Av O env σ H a u → Av O (env ++ List.replicate m .none) (σ ++ List.replicate m none) H a u := fun a u k => ⟨fun o => k.1 (ow_pad.mp o), k.2⟩
  refine ⟨by rw [List.length_append, List.length_append, rel.len, List.length_replicate, List.length_replicate], fun i c e => ?_,
    fun i j b b' p h1 h2 h3 h4 => rel.inj i j b b' p (by rwa [obAt_pad] at h1) (by rwa [obAt_pad] at h2) (sig_pad.mp h3) (sig_pad.mp h4),
    fun a z => ⟨(rel.hid a z).1, fun o => (rel.hid a z).2 (ow_pad.mp o)⟩⟩
  by_cases h : i < env.length
  · rw [List.getElem?_append_left h] at e
    rw [List.getElem?_append_left (by rw [← rel.len]; exact h)]
    have q := rel.at_ i c e
    cases c with
    | none => trivial
    | d y => obtain ⟨w, e1, q⟩ := q; exact ⟨w, e1, Rp.mono av _ _ q⟩
    | o b => obtain ⟨w, e1, q⟩ := q; exact ⟨w, e1, q.mono av rfl⟩
    | io b => obtain ⟨w, e1, q⟩ := q; exact ⟨w, e1, q.mono av rfl⟩
  · rw [List.getElem?_append_right (by omega), List.getElem?_replicate] at e
    split at e
    · cases e; trivial
    · cases e
theorem ios_get : ∀ {as : List Arg} {ios : List Ob} {i0 : Nat}, ioOf env as i0 = some ios → (putIos as ios).length = as.length ∧ ∀ (k : Nat) (c : Cell), ((putIos as ios).map argCell)[k]? = some c →
    (∃ x, as[k]? = some (.d x) ∧ c = .d x) ∨ ∃ b b', as[k]? = some (.io b) ∧ env[i0 + k]? = some (.io b') ∧ c = .io b'
  | [], ios, i0, e => by simp only [ioOf] at e; cases e; exact ⟨rfl, fun k c h => by simp [putIos] at h⟩
  | .d x :: as, ios, i0, e => by
    simp only [ioOf] at e
    obtain ⟨l, g⟩ := ios_get e
    refine ⟨by simp [putIos, l], fun k c h => ?_⟩
    cases k with
    | zero => simp [putIos, argCell] at h; exact .inl ⟨x, by simp, h.symm⟩
    | succ k =>
      have := g k c (by simpa [putIos] using h)
      rcases this with ⟨y, h1, h2⟩ | ⟨b, b', h1, h2, h3⟩
      · exact .inl ⟨y, by simpa using h1, h2⟩
      · exact .inr ⟨b, b', by simpa using h1, by rw [← h2]; congr 1; omega, h3⟩
  | .io b0 :: as, ios, i0, e => by
    simp only [ioOf] at e
    split at e
    · rename_i b1 hb
      cases e1 : ioOf env as (i0 + 1) with
      | none => rw [e1] at e; cases e
      | some r =>
        rw [e1] at e
        cases e
        obtain ⟨l, g⟩ := ios_get e1
        refine ⟨by simp [putIos, l], fun k c h => ?_⟩
        cases k with
        | zero => simp [putIos, argCell] at h; exact .inr ⟨b0, b1, by simp, hb, h.symm⟩
        | succ k =>
          have := g k c (by simpa [putIos] using h)
          rcases this with ⟨y, h1, h2⟩ | ⟨b, b', h1, h2, h3⟩
          · exact .inl ⟨y, by simpa using h1, h2⟩
          · exact .inr ⟨b, b', by simpa using h1, by rw [← h2]; congr 1; omega, h3⟩
    · cases e
theorem arg_get {as : List Arg} {k : Nat} {c : Cell} (h : (as.map argCell)[k]? = some c) : (∃ x, as[k]? = some (.d x) ∧ c = .d x) ∨ ∃ b, as[k]? = some (.io b) ∧ c = .io b := by
  rw [List.getElem?_map] at h
  cases e : as[k]? with
  | none => (rw [e] at h; cases h)
  | some a =>
    rw [e] at h
    cases h
    cases a with
    | d x => exact .inl ⟨x, rfl, rfl⟩
    | io b => exact .inr ⟨b, rfl, rfl⟩
/-- what is handed back: data, or an object of ours -/
def outF (env : Cells) : R → Option RO
  | .d x => some (.d x)
  | .new b => some (.new b)
  | .own i => match env[i]? with
    | some (.o b) => some (.new b)
    | some (.d x) => some (.d x)
    | _ => none
theorem callee_end {as : List Arg} {vs : List V} {m : Nat} {r : R} {v : V} {ro : RO} {ios : List Ob} (relA : Rel K O (as.map argCell) (vs.map some) H)
    (rel : Rel K (un O (nw r v)) env1 σ' H') (st : Step (as.map argCell ++ List.replicate m .none) (vs.map some ++ List.replicate m none) H env1 σ' H')
    (rr : RR K (un O (nw r v)) env1 σ' H H' r v) (ho : outF env1 r = some ro) (hi : ioOf env1 as 0 = some ios) :
    Rel K (un O (nw ro.toR v)) ((putIos as ios).map argCell) (vs.map some) H' ∧ Step (as.map argCell) (vs.map some) H ((putIos as ios).map argCell) (vs.map some) H' ∧
      RR K (un O (nw ro.toR v)) ((putIos as ios).map argCell) (vs.map some) H H' ro.toR v := by
  obtain ⟨len, get⟩ := ios_get hi
  have lenA : as.length = vs.length := by have := relA.len; simpa using this
  -- the slots handed on, at the end
  have ioEnd : ∀ (k : Nat) (b : Ob), as[k]? = some (.io b) → σ'[k]? = (vs.map some)[k]? ∧ ∃ b', env1[k]? = some (.io b') := by
    intro k b hk
    have hl : k < as.length := (List.getElem?_eq_some_iff.mp hk).1
    have e : (as.map argCell ++ List.replicate m .none)[k]? = some (.io b) := by
      rw [List.getElem?_append_left (by simpa using hl), List.getElem?_map, hk]; rfl
    obtain ⟨e1, b', e2⟩ := st.io k b e
    rw [List.getElem?_append_left (by rw [List.length_map, ← lenA]; exact hl)] at e1
    exact ⟨e1, b', e2⟩
  have ow0 : ∀ a, Ow (as.map argCell) (vs.map some) a → ∃ (k : Nat) (b' : Ob), env1[k]? = some (Cell.io b') ∧ σ'[k]? = some (some (V.ref a)) ∧ ∃ b, as[k]? = some (Arg.io b) := by
    rintro a ⟨k, b, h1, h2⟩
    rcases obAt_some h1 with h | h
    · rcases arg_get h with ⟨x, _, z⟩ | ⟨b', _, z⟩ <;> cases z
    · rcases arg_get h with ⟨x, _, z⟩ | ⟨b', hk, z⟩
      · cases z
      · obtain ⟨e1, c, e2⟩ := ioEnd k b' hk
        exact ⟨k, c, e2, e1.trans h2, b', hk⟩
  have ow1 : ∀ a, Ow (as.map argCell) (vs.map some) a → Ow env1 σ' a := fun a o => let ⟨k, b', h1, h2, _⟩ := ow0 a o; ⟨k, b', obAt_io h1, h2⟩
  have owE : ∀ (k : Nat) (b : Ob), obAt ((putIos as ios).map argCell) k = some b → ∃ b0, as[k]? = some (.io b0) := by
    intro k b h1
    rcases obAt_some h1 with h | h
    · rcases get k _ h with ⟨x, _, z⟩ | ⟨b', _, _, _, z⟩ <;> cases z
    · rcases get k _ h with ⟨x, _, z⟩ | ⟨b', _, h2, _, _⟩
      · cases z
      · exact ⟨b', h2⟩
  have ow2 : ∀ a, Ow ((putIos as ios).map argCell) (vs.map some) a → Ow (as.map argCell) (vs.map some) a := by
    rintro a ⟨k, b, h1, h2⟩
    obtain ⟨b0, hb⟩ := owE k b h1
    exact ⟨k, b0, obAt_io (by rw [List.getElem?_map, hb]; rfl), h2⟩
  -- what is handed back is new
  have nwH : ∀ a, nw ro.toR v a → H a = none ∧ (∃ o, H' a = some o ∧ Mut (some o)) ∧ (nw r v a ∨ Ow env1 σ' a) := by
    intro a z
    cases r with
    | d x => cases ho; exact z.elim
    | new b => cases ho; exact ⟨rr.fresh a z, (rel.hid a (.inr z)).1, .inl z⟩
    | own i =>
      have hv : σ'[i]? = some (some v) := rr
      simp only [outF] at ho
      cases e : env1[i]? with
      | none => rw [e] at ho; cases ho
      | some c =>
        rw [e] at ho
        cases c with
        | none => cases ho
        | io b => cases ho
        | d x => cases ho; exact z.elim
        | o b =>
          cases ho
          have z : v = .ref a := z
          subst z
          have ow : Ow env1 σ' a := ⟨i, b, obAt_o e, hv⟩
          obtain ⟨p, hp, ob⟩ := rel.ob (obAt_o e)
          rw [hv] at hp
          cases hp
          refine ⟨?_, ob.some, .inr ow⟩
          cases q : H a with
          | none => rfl
          | some o =>
            exfalso
            have := st.ow a (by rw [q]; simp)
            by_cases h0 : Ow (as.map argCell) (vs.map some) a
            · obtain ⟨k, b', h1, h2, _⟩ := ow0 a h0
              have := rel.inj i k b b' a (obAt_o e) (obAt_io h1) hv h2
              subst this
              rw [e] at h1
              cases h1
            · exact this (fun z => h0 (ow_pad.mp z)) ow
  have av : ∀ a u, Av (un O (nw r v)) env1 σ' H' a u → Av (un O (nw ro.toR v)) ((putIos as ios).map argCell) (vs.map some) H' a u := fun a u ⟨k1, k2, k3⟩ =>
    ⟨fun o => k1 (ow1 a (ow2 a o)), fun z => z.elim (fun z => k2 (.inl z)) fun z => (nwH a z).2.2.elim (fun z => k2 (.inr z)) k1, k3⟩
  have kp : ∀ a o, H a = some o → ¬ Ow (as.map argCell) (vs.map some) a → H' a = some o := fun a o h n => st.kp a o h fun z => n (ow_pad.mp z)
  have av0 : ∀ a u, Av O (as.map argCell) (vs.map some) H a u → Av (un O (nw ro.toR v)) ((putIos as ios).map argCell) (vs.map some) H' a u := by
    rintro a u ⟨k1, k2, k3⟩
    have hn : H a ≠ none := by
      rcases k3 with k3 | ⟨od, k3⟩ <;> (rw [k3]; simp)
    refine ⟨fun o => k1 (ow2 a o), fun z => z.elim k2 fun z => hn (nwH a z).1, ?_⟩
    rcases k3 with k3 | ⟨od, k3⟩
    · exact .inl (kp a _ k3 k1)
    · exact .inr ⟨od, kp a _ k3 k1⟩
  refine ⟨⟨by rw [List.length_map, List.length_map, len, lenA], fun k c h => ?_, fun k l b b' p h1 h2 h3 h4 => ?_, fun a z => ?_⟩,
    ⟨kp, fun a _ n o => n (ow2 a o), fun a h => st.th a h, fun k b h => ⟨rfl, ?_⟩⟩, ?_⟩
  · rcases get k c h with ⟨x, hk, rfl⟩ | ⟨b, b', hk, he, rfl⟩
    · obtain ⟨w, hw, rp⟩ := relA.at_ k (.d x) (by rw [List.getElem?_map, hk]; rfl)
      exact ⟨w, hw, Rp.mono av0 _ _ rp⟩
    · obtain ⟨e1, _⟩ := ioEnd k b hk
      obtain ⟨p, hp, ob⟩ := rel.at_ k (.io b') (by rw [← he]; congr 1; omega)
      exact ⟨p, e1.symm.trans hp, ob.mono av rfl⟩
  · obtain ⟨c, hc⟩ := owE k b h1
    obtain ⟨c', hc'⟩ := owE l b' h2
    exact relA.inj k l c c' p (obAt_io (by rw [List.getElem?_map, hc]; rfl)) (obAt_io (by rw [List.getElem?_map, hc']; rfl)) h3 h4
  · rcases z with z | z
    · exact ⟨(rel.hid a (.inl z)).1, fun o => (rel.hid a (.inl z)).2 (ow1 a (ow2 a o))⟩
    · exact ⟨(nwH a z).2.1, fun o => relA.own_there (ow2 a o) (nwH a z).1⟩
  · rcases arg_get h with ⟨x, _, z⟩ | ⟨b', hk, z⟩
    · cases z
    · have hl : k < (putIos as ios).length := by rw [len]; exact (List.getElem?_eq_some_iff.mp hk).1
      have e : ((putIos as ios).map argCell)[k]? = some (argCell (putIos as ios)[k]) := by rw [List.getElem?_map, List.getElem?_eq_getElem hl]; rfl
      rcases get k _ e with ⟨x, h1, _⟩ | ⟨_, b2, _, _, h2⟩
      · rw [hk] at h1; cases h1
      · exact ⟨b2, e.trans (congrArg some h2)⟩
  · cases r with
    | d x => cases ho; exact Rp.mono av _ _ rr
    | new b =>
      cases ho
      obtain ⟨p, h1, h2, h3⟩ := rr
      exact ⟨p, h1, h2, h3.mono av rfl⟩
    | own i =>
      have hv : σ'[i]? = some (some v) := rr
      simp only [outF] at ho
      cases e : env1[i]? with
      | none => rw [e] at ho; cases ho
      | some c =>
        rw [e] at ho
        cases c with
        | none => cases ho
        | io b => cases ho
        | d x =>
          cases ho
          obtain ⟨w, hw, rp⟩ := rel.at_ i _ e
          rw [hv] at hw
          cases hw
          exact Rp.mono av _ _ rp
        | o b =>
          cases ho
          obtain ⟨p, hp, ob⟩ := rel.ob (obAt_o e)
          rw [hv] at hp
          cases hp
          exact ⟨p, rfl, (nwH p rfl).1, ob.mono av rfl⟩
/-- the value that is handed back -/
def retR : Fl → Option R
  | .next => some (.d .non)
  | .ret r => some r
  | _ => none
theorem runF_ok {Γ : FT} {n : Nat} {body : List CS} {as : List Arg} {ro : RO} {ios : List Ob} (h : runF Γ n body as = .ok ro ios) :
    ∃ fl env r, evSs Γ body (as.map argCell ++ List.replicate (n - as.length) .none) = .ok fl env ∧ retR fl = some r ∧ outF env r = some ro ∧ ioOf env as 0 = some ios := by
  unfold runF at h
  cases e : evSs Γ body (as.map argCell ++ List.replicate (n - as.length) .none) with
  | bad => rw [e] at h; cases h
  | exc x env =>
    rw [e] at h
    simp only at h
    cases e2 : ioOf env as 0 with
    | none => rw [e2] at h; cases h
    | some ios => rw [e2] at h; cases h
  | ok fl env =>
    rw [e] at h
    simp only at h
    have fin : ∀ r : R, (match (match r with
        | .d x => some ((RO.d x, env) : RO × Cells)
        | .new b => some (.new b, env)
        | .own i => match env[i]? with
          | some (.o b) => some (.new b, env)
          | some (.d x) => some (.d x, env)
          | _ => none) with
      | none => FRes.bad
      | some (o, env) => match ioOf env as 0 with
        | some ios => .ok o ios
        | none => .bad) = .ok ro ios → outF env r = some ro ∧ ioOf env as 0 = some ios := by
      intro r h
      cases e2 : ioOf env as 0 with
      | none =>
        cases r with
        | d x => simp only [e2] at h; cases h
        | new b => simp only [e2] at h; cases h
        | own i =>
          cases e3 : env[i]? with
          | none => simp only [e3] at h; cases h
          | some c => cases c <;> simp only [e3, e2] at h <;> cases h
      | some z =>
        cases r with
        | d x => simp only [e2] at h; cases h; exact ⟨rfl, rfl⟩
        | new b => simp only [e2] at h; cases h; exact ⟨rfl, rfl⟩
        | own i =>
          cases e3 : env[i]? with
          | none => simp only [e3] at h; cases h
          | some c => cases c <;> simp only [e3, e2] at h <;> cases h <;> exact ⟨by simp only [outF, e3], rfl⟩
    cases fl with
    | next => exact ⟨_, _, .d .non, rfl, rfl, fin (.d .non) h⟩
    | ret r => exact ⟨_, _, r, rfl, rfl, fin r h⟩
    | brk => cases h
    | cnt => cases h
/-- a def by its body -/
theorem callee_ok {Γ : FT} {N : List Str} {n : Nat} {body : List CS} {modes : List Bool} {dvs : List D} {vs : List V} {Q : VK} {E : XK} (hn : N.length = n)
    (h : spF K ⟨modes, dvs, runF Γ n body⟩ vs H Q E) : tS K (evSs Γ body) { nx := fun _ H' => Q .non H', rt := Q } (L2.start N vs) H := by
  obtain ⟨hl, O, as, rel, ro, ios, e, q⟩ := h
  obtain ⟨fl, env1, r, e1, e2, e3, e4⟩ := runF_ok e
  have lenA : as.length = vs.length := by have := rel.len; simpa using this
  refine ⟨O, as.map argCell ++ List.replicate (n - as.length) .none, ?_, fl, env1, e1, ?_⟩
  · unfold L2.start
    rw [hn, ← lenA]
    exact rel_pad rel _
  · have hst : L2.start N vs = vs.map some ++ List.replicate (n - as.length) none := by unfold L2.start; rw [hn, ← lenA]
    rw [hst]
    cases fl with
    | next =>
      cases e2
      intro σ' H' r' s'
      obtain ⟨g1, g2, g3⟩ := callee_end (v := .non) rel r'.plus s' (rr_d (by simp [Rp])) e3 e4
      exact q .non H' g1 g2 g3
    | ret r0 =>
      cases e2
      intro v σ' H' r' s' rr
      obtain ⟨g1, g2, g3⟩ := callee_end rel r' s' rr e3 e4
      exact q v H' g1 g2 g3
    | brk => cases e2
    | cnt => cases e2
theorem spF_len {fe : FE} {vs : List V} {Q : VK} {E : XK} (h : spF K fe vs H Q E) : vs.length = fe.modes.length := h.1
end
end Fx

set_option Elab.async false
set_option linter.all false
set_option maxRecDepth 100000
/-! Fx24: enumerate and zip over lists, tuples and texts, in any mix. -/
namespace Fx
open L2 PyProof.Rows PySem PySem.Spec

theorem far2 {a n : Nat} (h : a < n) : a ≠ n + 1 ∧ a ≠ n := ⟨by omega, by omega⟩
theorem far5 {a n : Nat} (h : a < n) : a ∉ [n + 4, n + 2, n + 3, n, n + 1] := by simp; omega
theorem in5 {a n : Nat} (h : a ∈ [n + 4, n + 2, n + 3, n, n + 1]) : n ≤ a := by simp at h; omega
/-- what is walked -/
inductive Kd where
  | l (a : Addr) | t (a : Addr) | s (x : Str) (u : Tok)
def Kd.adr : Kd → List Addr
  | .l a => [a]
  | .t a => [a]
  | .s _ _ => []
def Kd.val : Kd → Value
  | .l a => .ref a
  | .t a => .ref a
  | .s x u => .str x u
def signsV (x : Str) : List V := x.cps.toList.map fun c => .str ⟨#[c]⟩
def ScK (K : PySem.W.Frag) (H : Hp) : Kd → List V → Prop
  | .l a, xs => SqL K H a xs
  | .t a, xs => SqT K H a xs
  | .s x _, xs => xs = signsV x
/-- its iterator -/
def ItS : Kd → Addr → Nat → Heap → Prop
  | .l a, it, i, h => h.IsListIter it a i
  | .t a, it, i, h => h.IsTupleIter it a i
  | .s x u, it, i, h => h.IsStrIter it (strIterType x) x u i
theorem ItS.at {kd : Kd} {it : Addr} {i : Nat} {h h' : Heap} (q : ItS kd it i h) (k : ∀ o, h.get? it = some o → h'.get? it = some o) : ItS kd it i h' := by
  cases kd with
  | l a => exact Heap.IsListIter.at q k
  | t a => exact Heap.IsTupleIter.at q k
  | s x u => obtain ⟨o, ho, r⟩ := q; exact ⟨o, k o ho, r⟩
theorem ItS.obj {kd : Kd} {it : Addr} {i : Nat} {h : Heap} (q : ItS kd it i h) : ∃ o, h.get? it = some o ∧ ∀ v, o.data ≠ .cell v := by
  cases kd with
  | l a => obtain ⟨o, ho, _, d⟩ := q; exact ⟨o, ho, fun v z => by rw [d] at z; cases z⟩
  | t a => obtain ⟨o, ho, _, d⟩ := q; exact ⟨o, ho, fun v z => by rw [d] at z; cases z⟩
  | s x u => obtain ⟨o, ho, _, d⟩ := q; exact ⟨o, ho, fun v z => by rw [d] at z; cases z⟩
section
variable {X : Cx} {pns : List (Addr × Obj)} {σ : L2.St} {H : Hp} {s : Shared}
theorem ScK.inj (I : Inv X pns σ H s) {kd : Kd} {xs ys : List V} (h : ScK X.K H kd xs) (h' : ScK X.K H kd ys) : xs = ys := by
  cases kd with
  | l a => exact I.list_inj h h'
  | t a => exact I.tuple_inj h h'
  | s x u => rw [show xs = _ from h, show ys = _ from h']
/-- drawing from it, at turn i -/
structure Drw (prog : Program) (w : World) (A : Around) (kd : Kd) (it : Addr) (xs : List V) (i : Nat) (h : Heap) where
  fp : List Addr
  n : Nat
  P : Nat → Value → Prop
  St : Nat → Heap → Prop
  D : Draws prog w A it fp n P St
  st : St i h
  le : i ≤ n
  lt : i < n ↔ i < xs.length
  p : ∀ x, P i x → ∃ v, xs[i]? = some v ∧ RelV v x
  nx : ∀ h', St (i + 1) h' → ItS kd it (i + 1) h'
  mem : it ∈ fp
  ad : ∀ b ∈ fp, b = it ∨ b ∈ kd.adr
theorem drw_end {prog : Program} {w : World} {A : Around} {it : Addr} {fp : List Addr} {i : Nat} {S : Heap → Prop} (live : ∀ h, S h → ∃ o, h.get? it = some o) (frame : ∀ h h', S h → (∀ b ∈ fp, ∀ o, h.get? b = some o → h'.get? b = some o) → S h')
    (done : ∀ (s : Shared) (Q : Value → Shared → Prop) (E : Value → Shared → Prop), S s.heap →
    (∀ h' e, Heap.ExtBut it s.heap h' → (∃ o, h'.get? e = some o ∧ o.cls = .type "StopIteration") → E (.ref e) { s with heap := h' }) → wpAny (model prog w) A (Builtin.SmallTypes.nextOf (.ref it)) Q E s) :
    Draws prog w A it fp i (fun _ _ => False) (fun j h => j = i ∧ S h) where
  live := fun _ _ st => live _ st.2
  frame := fun _ _ _ st k => ⟨st.1, frame _ _ st.2 k⟩
  item := fun j s Q E hj st _ => by have := st.1; omega
  done := fun s Q E st hE => done s Q E st.2 hE
theorem drw_of (hc : X.calm = true) (I : Inv X pns σ H s) {kd : Kd} {xs : List V} (h : ScK X.K H kd xs) {it : Addr} (ha : ∀ a ∈ kd.adr, a ≠ it) {i : Nat} (hi : ItS kd it i s.heap) : Nonempty (Drw X.prog X.w X.A.in1 kd it xs i s.heap) := by
  have hh : X.A.in1.handled = none := I.ok.hd hc
  cases kd with
  | l a =>
    obtain ⟨its, rv, p, _⟩ := I.list h
    have hne := ha a (by simp [Kd.adr])
    have hl := rv.length
    by_cases hlt : i < xs.length
    · exact ⟨⟨[it, a], its.toArray.size, _, _, .list hh it a hne its.toArray, ⟨hi, p.isList⟩, by simp; omega, by simp; omega, fun x hx => by
        have hx : its[i]? = some x := by simpa using hx
        obtain ⟨u, hu, r⟩ := rv.get (List.getElem?_eq_getElem hlt)
        rw [hx] at hu; cases hu
        exact ⟨_, List.getElem?_eq_getElem hlt, r⟩, fun h' st => st.1, by simp, fun b hb => by simpa [Kd.adr] using hb⟩⟩
    · refine ⟨⟨[it, a], i, _, _, drw_end (S := fun h => h.IsListIter it a i ∧ h.IsList a its.toArray) (fun h st => let ⟨o, ho, _⟩ := st.1; ⟨o, ho⟩) (fun h h' st k => ⟨st.1.at fun o e => k it (by simp) o e, st.2.at fun o e => k a (by simp) o e⟩)
        (fun s Q E st hE => wpAny_nextOf_list_end hh st.1 st.2 (by simp; omega) hE), ⟨rfl, hi, p.isList⟩, Nat.le_refl _, ⟨fun z => absurd z (Nat.lt_irrefl _), fun z => absurd z hlt⟩, fun x hx => hx.elim, fun h' st => by have := st.1; omega, by simp, fun b hb => by simpa [Kd.adr] using hb⟩⟩
  | t a =>
    obtain ⟨its, rv, p, _⟩ := I.tuple h
    have hne := ha a (by simp [Kd.adr])
    have hl := rv.length
    by_cases hlt : i < xs.length
    · exact ⟨⟨[it, a], its.toArray.size, _, _, .tuple hh it a hne its.toArray, ⟨hi, p⟩, by simp; omega, by simp; omega, fun x hx => by
        have hx : its[i]? = some x := by simpa using hx
        obtain ⟨u, hu, r⟩ := rv.get (List.getElem?_eq_getElem hlt)
        rw [hx] at hu; cases hu
        exact ⟨_, List.getElem?_eq_getElem hlt, r⟩, fun h' st => st.1, by simp, fun b hb => by simpa [Kd.adr] using hb⟩⟩
    · refine ⟨⟨[it, a], i, _, _, drw_end (S := fun h => h.IsTupleIter it a i ∧ h.IsTuple a its.toArray) (fun h st => let ⟨o, ho, _⟩ := st.1; ⟨o, ho⟩) (fun h h' st k => ⟨st.1.at fun o e => k it (by simp) o e, st.2.at fun o e => k a (by simp) o e⟩)
        (fun s Q E st hE => wpAny_nextOf_tuple_end hh st.1 st.2 (by simp; omega) hE), ⟨rfl, hi, p⟩, Nat.le_refl _, ⟨fun z => absurd z (Nat.lt_irrefl _), fun z => absurd z hlt⟩, fun x hx => hx.elim, fun h' st => by have := st.1; omega, by simp, fun b hb => by simpa [Kd.adr] using hb⟩⟩
  | s x u =>
    have hx : xs = signsV x := h
    subst hx
    have hl : (signsV x).length = x.cps.size := by simp [signsV]
    by_cases hlt : i < (signsV x).length
    · exact ⟨⟨[it], x.cps.size, _, _, .text hh it x u, hi, by omega, by omega, fun y hy => by
        obtain ⟨c, t, hc, rfl⟩ := hy
        have hc' : x.cps.toList[i]? = some c := by simpa using hc
        exact ⟨.str ⟨#[c]⟩, by unfold signsV; rw [List.getElem?_map, hc']; rfl, ⟨t, rfl⟩⟩, fun h' st => st, by simp, fun b hb => .inl (by simpa using hb)⟩⟩
    · refine ⟨⟨[it], i, _, _, drw_end (S := fun h => h.IsStrIter it (strIterType x) x u i) (fun h st => let ⟨o, ho, _⟩ := st; ⟨o, ho⟩) (fun h h' st k => by obtain ⟨o, ho, r⟩ := st; exact ⟨o, k it (by simp) o ho, r⟩)
        (fun s Q E st hE => ?_), ⟨rfl, hi⟩, Nat.le_refl _, ⟨fun z => absurd z (Nat.lt_irrefl _), fun z => absurd z hlt⟩, fun x hx => hx.elim, fun h' st => by have := st.1; omega, by simp, fun b hb => .inl (by simpa using hb)⟩⟩
      have he : x.cps[i]? = none := by simp; omega
      unfold strIterType at st
      cases ha : Array.all x.cps (· < 128)
      · rw [ha] at st; exact wpAny_nextOf_wide_end hh st he hE
      · rw [ha] at st; exact wpAny_nextOf_ascii_end hh st he hE
/-- how it begins -/
theorem sc_begin (I : Inv X pns σ H s) {kd : Kd} {xs : List V} (h : ScK X.K H kd xs) : ∃ (o : Obj) (S : Heap → Prop), Begins kd.val o S ∧ S s.heap ∧ (∀ (hp : Heap) it, hp.get? it = some o → ItS kd it 0 hp) ∧ ∀ a ∈ kd.adr, a < s.heap.objs.size := by
  cases kd with
  | l a =>
    obtain ⟨its, rv, p, _⟩ := I.list h
    exact ⟨_, _, begins_list a its.toArray, p.isList, fun hp it e => ⟨_, e, rfl, rfl⟩, fun b hb => by
      have : b = a := by simpa [Kd.adr] using hb
      rw [this]; exact p.lt⟩
  | t a =>
    obtain ⟨its, rv, p, _⟩ := I.tuple h
    exact ⟨_, _, begins_tuple a its.toArray, p, fun hp it e => ⟨_, e, rfl, rfl⟩, fun b hb => by
      have : b = a := by simpa [Kd.adr] using hb
      obtain ⟨o, ho, _⟩ := id p
      rw [this]; exact Heap.lt_size ho⟩
  | s x u => exact ⟨_, _, begins_text x u, trivial, fun hp it e => ⟨_, e, rfl, rfl⟩, fun b hb => by simp [Kd.adr] at hb⟩
end

/-! ### what both have in common -/
section
variable {X : Cx} {pn : List (Addr × Obj)} {σ : L2.St} {H : Hp} {st : Shared}
/-- an object, no cell -/
def Thing (h : Heap) (b : Addr) : Prop := ∃ o, h.get? b = some o ∧ ∀ v, o.data ≠ .cell v
theorem Drw.rel {prog : Program} {w : World} {A : Around} {kd : Kd} {it : Addr} {xs : List V} {i : Nat} {h : Heap} (d : Drw prog w A kd it xs i h) {x : V} {u : Value} (ex : xs[i]? = some x) (pu : d.P i u) : RelV x u := by
  obtain ⟨y, ey, r⟩ := d.p u pu
  exact Option.some.inj (ey.symm.trans ex) ▸ r
theorem Drw.more {prog : Program} {w : World} {A : Around} {kd : Kd} {it : Addr} {xs : List V} {i : Nat} {h : Heap} (d : Drw prog w A kd it xs i h) {x : V} (ex : xs[i]? = some x) : i < d.n :=
  d.lt.mpr (List.getElem?_eq_some_iff.mp ex).1
/-- a turn that laid a pair behind all else, and changed nothing but the walk's own objects -/
theorem pair_turn {fp : List Addr} {h' : Heap} {tk : Nat} {x y : V} {u v : Value} (I : Inv X pn σ H st) (free : ∀ b ∈ fp, FpOk X pn H b) (things : ∀ b ∈ fp, Thing st.heap b)
    (kept : ∀ b o, b ∉ fp → st.heap.get? b = some o → h'.get? b = some o) (at_p : h'.get? st.heap.objs.size = some { cls := .type "tuple", data := .seq #[u, v] }) (ru : RelV x u) (rv : RelV y v) :
    Inv X pn σ (upd H st.heap.objs.size (.tup [x, y])) { st with heap := h', toks := tk } ∧ H st.heap.objs.size = none ∧ ∀ b ∈ fp, upd H st.heap.objs.size (.tup [x, y]) b = none := by
  have two : (2 : Nat) ≤ sizeLine := by decide
  have pair : IsTup h' st.heap.objs.size #[u, v] := ⟨_, at_p, rfl, _, rfl⟩
  have ok : ObjOk X.prog X.w (upd H st.heap.objs.size (.tup [x, y])) h' st.heap.objs.size (.tup [x, y]) := ⟨two, _, .cons ru (.cons rv .nil), pair⟩
  refine ⟨I.turnedNew (t' := tk) kept free (Nat.le_refl _) ok, I.fresh, fun b hb => ?_⟩
  obtain ⟨o, at_b, _⟩ := things b hb
  have ne : b ≠ st.heap.objs.size := fun z => Nat.lt_irrefl _ (z ▸ Heap.lt_size at_b)
  rw [upd_ne ne]
  exact (free b hb).1
end

/-! ### enumerate -/
set_option maxHeartbeats 900000 in
theorem enum_new {v : Value} {o : Obj} {H : Heap → Prop} (B : Begins v o H) :
    Meets (Builtin.«enumerate.__new__» ⟨[.type "enumerate", v], []⟩) (fun _ R s => H s.heap ∧
      R (.ok (.ret (.ref (s.heap.push o).objs.size))) { s with heap := (s.heap.push o).push { cls := .type "enumerate", data := .fields #[.none, .bool false, .ref s.heap.objs.size, rawInt 0, .none, .none] } }) := by
  refine .of_wp fun prog w A R st both => ?_
  rcases st with ⟨heap, gens, drawn, toks, os⟩
  rcases both with ⟨ok, post⟩
  have walk {A' : Around} {E Q : Value → Shared → Prop} (q : Q (.ref heap.objs.size) ⟨heap.push o, gens, drawn, toks, os⟩) : wpAny (model prog w) A' (pyIter v) Q E ⟨heap, gens, drawn, toks, os⟩ := B.iter prog w _ _ _ _ ok q
  have sub := sub_enumerate
  wp_walk
  apply wpAny_stack_any
  intro frames
  apply wpAny_pure
  split
  all_goals try (rename_i cls _ _ _ _ _; cases (cls == Value.type "enumerate"))
  all_goals (wp_walk using walk; exact ⟨_, rfl, post⟩)
/-- enumerate's own state: itself, and the walk below it -/
structure EState (kd : Kd) (e it : Addr) (i : Nat) (h : Heap) : Prop where
  own : ∃ old, IsEnum h e it ((i : Nat) : Int) old
  sub : ItS kd it i h
  ne : e ≠ it
theorem EState.things {kd : Kd} {e it : Addr} {i : Nat} {h : Heap} (q : EState kd e it i h) : ∀ b ∈ [e, it], Thing h b := by
  obtain ⟨old, at_e⟩ := q.own
  simp only [List.forall_mem_cons]
  exact ⟨⟨_, at_e, nofun⟩, q.sub.obj, nofun⟩
theorem EState.move {kd : Kd} {e it : Addr} {i : Nat} {h h' : Heap} (q : EState kd e it i h) (k : ∀ b ∈ [e, it], ∀ o, h.get? b = some o → h'.get? b = some o) : EState kd e it i h' := by
  simp only [List.forall_mem_cons] at k
  exact ⟨q.own.imp fun _ z => k.1 _ z, q.sub.at k.2.1, q.ne⟩
section
variable {prog : Program} {w : World} {A : Around} {E Q : Value → Shared → Prop} {s : Shared}
theorem enum_start {v : Value} {kd : Kd} {o : Obj} {S : Heap → Prop} (B : Begins v o S) (ok : S s.heap) (first : ∀ (hp : Heap) it, hp.get? it = some o → ItS kd it 0 hp)
    (q : ∀ h', EState kd (s.heap.objs.size + 1) s.heap.objs.size 0 h' → (∀ b o, s.heap.get? b = some o → h'.get? b = some o) → Q (.ref (s.heap.objs.size + 1)) { s with heap := h' }) :
    wpAny (model prog w) A (call (.type "enumerate") [v]) Q E s := by
  have z : (s.heap.push o).objs.size = s.heap.objs.size + 1 := Heap.size_push ..
  have body := enum_new B
  refine callType_new F.called_enumerate (by decide) (F.typeCall_enumerate_1 v) (F.newCall_enumerate_1 v) (fun x => F.args_object_init_2 x v) F.entry_enumerate_new body ⟨ok, ?_⟩
  have at_e := Heap.get?_push_size (s.heap.push o) (o := { cls := .type "enumerate", data := .fields #[.none, .bool false, .ref s.heap.objs.size, rawInt 0, .none, .none] }) rfl
  have keep : ∀ b u, (s.heap.push o).get? b = some u → ((s.heap.push o).push { cls := .type "enumerate", data := .fields #[.none, .bool false, .ref s.heap.objs.size, rawInt 0, .none, .none] }).get? b = some u := fun b u => Heap.get?_push_of_some _
  rw [z] at at_e
  have state : EState kd (s.heap.objs.size + 1) s.heap.objs.size 0 _ := ⟨⟨.none, at_e⟩, first _ _ (keep _ _ (Heap.get?_push_size _ B.free)), Nat.succ_ne_self _⟩
  rw [z]
  exact ⟨⟨_, at_e, rfl⟩, q _ state fun b u at_b => keep b u (Heap.get?_push_of_some _ at_b)⟩
end
def IteK (K : PySem.W.Frag) (kd : Kd) : L2.It :=
  ⟨fun i H => ∃ (xs : List V) (x : V), ScK K H kd xs ∧ xs[i]? = some x, fun i H v H' => ∃ T x, v = .ref T ∧ H T = none ∧ H' = upd H T (.tup [.int (i : Nat), x]) ∧ ∀ xs, ScK K H kd xs → xs[i]? = some x, fun i H => ∃ xs : List V, ScK K H kd xs ∧ xs.length ≤ i⟩
theorem turn_enumK {P : Program} {w : World} {K : PySem.W.Frag} {elts : List Expr} {kk : Nat} {tpos : Pos} (kd : Kd) (e it : Addr) (apart : ∀ a ∈ kd.adr, a ≠ e ∧ a ≠ it) :
    Turn P w K (.Tuple elts kk tpos) (IteK K kd) [e, it] e (EState kd e it) where
  mem := List.mem_cons_self
  obj := fun _ _ q => q.things
  keep := fun _ _ _ q => q.move
  self := fun _ _ _ _ _ q y => q.own.elim fun _ z => wpAny_pyIter_enum z y
  item := fun X eP ew eK calm i pn st σ H E I free q go => by
    cases eP; cases ew; cases eK
    obtain ⟨xs, x, sx, ex⟩ := go
    obtain ⟨old, at_e⟩ := q.own
    obtain ⟨d⟩ := drw_of calm I sx (fun a ha => (apart a ha).2) q.sub
    have out : e ∉ d.fp := fun z => (d.ad e z).elim q.ne fun y => (apart e y).1 rfl
    have far : ∀ b o, st.heap.get? b = some o → st.heap.objs.size ≠ b := fun b o z => Nat.ne_of_gt (Heap.lt_size z)
    refine wpAny_pyNext_enum_itemD d.D at_e d.st (d.more ex) q.ne out fun u h1 tk pu own1 sub1 new1 _ keep1 => ?_
    refine ⟨.ref _, rfl, wpAny_letOwnedTupleGo_enum (s := { st with heap := h1, toks := tk + 1 }) own1 fun h2 own2 same => ?_⟩
    have keep2 : ∀ b o, b ∉ [e, it] → st.heap.get? b = some o → h2.get? b = some o := fun b o nb z => by
      simp only [List.mem_cons, List.not_mem_nil, or_false, not_or] at nb
      exact (same.2 b nb.1).trans (keep1 b o nb.1 nb.2 z)
    obtain ⟨I2, new, free2⟩ := pair_turn (tk := tk + 1) (x := .int (i : Nat)) I free q.things keep2 ((same.2 _ (far _ _ at_e)).trans new1) ⟨tk, rfl⟩ (d.rel ex pu)
    have sub2 : ItS kd it (i + 1) h2 := (d.nx _ sub1).at fun o z => (same.2 it q.ne.symm).trans z
    refine ⟨.ref _, _, I2, rfl, ⟨_, x, rfl, new, rfl, fun ys sy => ?_⟩, ⟨⟨u, ?_⟩, sub2, q.ne⟩, free2⟩
    · rw [sy.inj I sx]; exact ex
    · have : ((i + 1 : Nat) : Int) = (i : Int) + 1 := by omega
      rw [this]; exact own2
  done := fun X eP ew eK calm i pn st σ H E I free q go => by
    cases eP; cases ew; cases eK
    obtain ⟨xs, sx, over⟩ := go
    obtain ⟨old, at_e⟩ := q.own
    obtain ⟨d⟩ := drw_of calm I sx (fun a ha => (apart a ha).2) q.sub
    have last : d.n = i := by
      have := d.le
      have := d.lt
      omega
    obtain ⟨a, b, _, c', e', f'⟩ := free it (by simp)
    refine wpAny_pyNext_enum_endD d.D at_e (by rw [last]; exact d.st) fun h' but => ⟨rfl, ?_⟩
    exact I.turned (t' := st.toks) (fun b o nb z => but b o nb z) a b c' e' f'
def iEnumK (K : PySem.W.Frag) (ta : TA) : TI := fun σ H R => ta σ H fun vs H1 => ∃ (v : V) (kd : Tok → Kd) (xs : List V), vs = [v] ∧ (∀ u, RelV v u → ∃ t, u = (kd t).val) ∧ (∀ t, ScK K H1 (kd t) xs) ∧ ∀ t, R (IteK K (kd t)) H1
theorem pi_enumK {X : Cx} {e : Expr} {ta : TA} {p pos tpos : Pos} {elts : List Expr} {kk : Nat} (hg : Gl X "enumerate") (hm : X.mg "enumerate" = none) (ha : PA X [e] ta)
    (one : starEach [e] X.env = [(false, eval e X.env)] := by rfl) :
    PI X (.Tuple elts kk tpos) (.Call (.Name "enumerate" p) [e] [] pos) (iEnumK X.K ta) where
  run := fun pn st σ H R I h => Call_ (ld_blt I hg hm boot_enumerate (PyProof.Rows.callWith_type1 (thn (ha.run pos pn st σ H _ I h) fun us st1 got => by
    obtain ⟨_, H1, I1, rel, v, kd, xs, rfl, isK, sx, q⟩ := got
    obtain ⟨u, rfl, ru⟩ := vals1 rel
    obtain ⟨t, rfl⟩ := isK u ru
    obtain ⟨o, S, B, ok, first, below⟩ := sc_begin I1 (sx t)
    refine enum_start B ok first fun h' state keep => wpAny_pyIter_enum state.own.choose_spec ?_
    have ge : ∀ b ∈ [st1.heap.objs.size + 1, st1.heap.objs.size], st1.heap.objs.size ≤ b := by simp
    refine ⟨_, _, _, _, H1, rfl, I1.kept (t' := st1.toks) keep, turn_enumK (kd t) _ _ fun a z => far2 (below a z), state, fun b hb => ?_, q t⟩
    exact I1.fpOk (ge b hb) (I1.hok.fresh (ge b hb))) one rfl))

/-! ### zip -/
def ItzK (K : PySem.W.Frag) (k1 k2 : Kd) : L2.It :=
  ⟨fun i H => ∃ (xs ys : List V) (x y : V), ScK K H k1 xs ∧ ScK K H k2 ys ∧ xs[i]? = some x ∧ ys[i]? = some y,
    fun i H v H' => ∃ T x y, v = .ref T ∧ H T = none ∧ H' = upd H T (.tup [x, y]) ∧ (∀ xs, ScK K H k1 xs → xs[i]? = some x) ∧ ∀ ys, ScK K H k2 ys → ys[i]? = some y,
    fun i H => ∃ xs ys : List V, ScK K H k1 xs ∧ ScK K H k2 ys ∧ (xs.length ≤ i ∨ ys.length ≤ i)⟩
/-- apart -/
structure ZAp (z TI TO i1 i2 : Addr) (k1 k2 : Kd) : Prop where
  nd : [z, TI, TO, i1, i2].Nodup
  a1 : ∀ a ∈ k1.adr, a ∉ [z, TI, TO, i1, i2]
  a2 : ∀ a ∈ k2.adr, a ∉ [z, TI, TO, i1, i2]
theorem ZAp.sep {z TI TO i1 i2 : Addr} {k1 k2 : Kd} (h : ZAp z TI TO i1 i2 k1 k2) {fp1 fp2 : List Addr} (m1 : i1 ∈ fp1) (m2 : i2 ∈ fp2) (h1 : ∀ b ∈ fp1, b = i1 ∨ b ∈ k1.adr) (h2 : ∀ b ∈ fp2, b = i2 ∨ b ∈ k2.adr) : ZipSep2 z TI TO i1 i2 fp1 fp2 := by
  obtain ⟨nd, a1, a2⟩ := h
  simp only [List.nodup_cons, List.mem_cons, List.not_mem_nil, or_false, not_or] at nd
  obtain ⟨⟨n1, n2, n3, n4⟩, ⟨n5, n6, n7⟩, ⟨n8, n9⟩, n10, _⟩ := nd
  have b1 : ∀ x, x ∈ [z, TI, TO, i1, i2] → x ≠ i1 → x ∉ fp1 := fun x hx hn hm => (h1 x hm).elim hn fun k => a1 x k hx
  have b2 : ∀ x, x ∈ [z, TI, TO, i1, i2] → x ≠ i2 → x ∉ fp2 := fun x hx hn hm => (h2 x hm).elim hn fun k => a2 x k hx
  exact ⟨fun q => n1 q.symm, fun q => n2 q.symm, n5, n6, m1, b1 z (by simp) n3, b1 TO (by simp) n8, n7, m2, b2 z (by simp) n4, b2 TO (by simp) n9, b2 i1 (by simp) n10, b1 i2 (by simp) (fun q => n10 q.symm)⟩
/-- zip's own state: its objects, and the two walks below it -/
structure ZState (k1 k2 : Kd) (z TI TO i1 i2 : Addr) (i : Nat) (h : Heap) : Prop where
  own : IsZip h z TI TO .none
  ins : IsTupOf2 h TI (.ref i1) (.ref i2)
  out : ∃ x y, IsTupOf2 h TO x y
  sub1 : ItS k1 i1 i h
  sub2 : ItS k2 i2 i h
section
variable {k1 k2 : Kd} {z TI TO i1 i2 : Addr} {i : Nat} {h h' : Heap}
theorem ZState.things (q : ZState k1 k2 z TI TO i1 i2 i h) : ∀ b ∈ [z, TI, TO, i1, i2], Thing h b := by
  obtain ⟨x, y, out⟩ := q.out
  simp only [List.forall_mem_cons]
  exact ⟨⟨_, q.own, nofun⟩, ⟨_, q.ins, nofun⟩, ⟨_, out, nofun⟩, q.sub1.obj, q.sub2.obj, nofun⟩
theorem ZState.move (q : ZState k1 k2 z TI TO i1 i2 i h) (k : ∀ b ∈ [z, TI, TO, i1, i2], ∀ o, h.get? b = some o → h'.get? b = some o) : ZState k1 k2 z TI TO i1 i2 i h' := by
  simp only [List.forall_mem_cons] at k
  obtain ⟨m1, m2, m3, m4, m5, _⟩ := k
  exact ⟨m1 _ q.own, m2 _ q.ins, q.out.imp fun _ y => y.imp fun _ y => m3 _ y, q.sub1.at m4, q.sub2.at m5⟩
end
theorem not5 {b z TI TO i1 i2 : Addr} (n : b ∉ [z, TI, TO, i1, i2]) : b ≠ z ∧ b ≠ TI ∧ b ≠ TO ∧ b ≠ i1 ∧ b ≠ i2 := by simpa using n
theorem turn_zipK {P : Program} {w : World} {K : PySem.W.Frag} {elts : List Expr} {kk : Nat} {tpos : Pos} {k1 k2 : Kd} {z TI TO i1 i2 : Addr} (D : ZAp z TI TO i1 i2 k1 k2) :
    Turn P w K (.Tuple elts kk tpos) (ItzK K k1 k2) [z, TI, TO, i1, i2] z (ZState k1 k2 z TI TO i1 i2) where
  mem := List.mem_cons_self
  obj := fun _ _ q => q.things
  keep := fun _ _ _ q => q.move
  self := fun _ _ _ _ _ q y => wpAny_pyIter_zip q.own y
  item := fun X eP ew eK calm i pn st σ H E I free q go => by
    cases eP; cases ew; cases eK
    obtain ⟨xs, ys, x, y, sx, sy, ex, ey⟩ := go
    obtain ⟨x0, y0, out⟩ := q.out
    obtain ⟨a⟩ := drw_of calm I sx (fun c hc => by rintro rfl; exact D.a1 _ hc (by simp)) q.sub1
    obtain ⟨b⟩ := drw_of calm I sy (fun c hc => by rintro rfl; exact D.a2 _ hc (by simp)) q.sub2
    have nd : (z ≠ TI ∧ z ≠ TO ∧ z ≠ i1 ∧ z ≠ i2) ∧ (TI ≠ TO ∧ TI ≠ i1 ∧ TI ≠ i2) ∧ (TO ≠ i1 ∧ TO ≠ i2) ∧ i1 ≠ i2 := by simpa using D.nd
    have far : st.heap.objs.size ≠ z := Nat.ne_of_gt (Heap.lt_size q.own)
    refine wpAny_pyNext_zipD2_item (D.sep a.mem b.mem a.ad b.ad) a.D b.D q.own q.ins out a.st b.st (a.more ex) (b.more ey) fun u v h1 tk pu pv own1 out1 l1 r1 new1 _ keep1 => ?_
    refine ⟨.ref _, rfl, wpAny_letOwnedTupleGo_zip (s := { st with heap := h1, toks := tk }) own1 fun h2 own2 same => ?_⟩
    have keep2 : ∀ c o, c ∉ [z, TI, TO, i1, i2] → st.heap.get? c = some o → h2.get? c = some o := fun c o nc e => by
      obtain ⟨n1, _, n3, n4, n5⟩ := not5 nc
      rw [same.2 c n1]
      exact keep1 c o n1 n3 n4 n5 e
    obtain ⟨I2, new, free2⟩ := pair_turn (tk := tk) I free q.things keep2 ((same.2 _ far).trans new1) (a.rel ex pu) (b.rel ey pv)
    have state : ZState k1 k2 z TI TO i1 i2 (i + 1) h2 := by
      refine ⟨own2, ?_, ⟨u, v, ?_⟩, (a.nx _ l1).at fun o e => ?_, (b.nx _ r1).at fun o e => ?_⟩
      · exact (same.2 TI nd.1.1.symm).trans (keep1 TI _ nd.1.1.symm nd.2.1.1 nd.2.1.2.1 nd.2.1.2.2 q.ins)
      · exact (same.2 TO nd.1.2.1.symm).trans out1
      · exact (same.2 i1 nd.1.2.2.1.symm).trans e
      · exact (same.2 i2 nd.1.2.2.2.symm).trans e
    exact ⟨.ref _, _, I2, rfl, ⟨_, x, y, rfl, new, rfl, fun l e => (e.inj I sx) ▸ ex, fun l e => (e.inj I sy) ▸ ey⟩, state, free2⟩
  done := fun X eP ew eK calm i pn st σ H E I free q go => by
    cases eP; cases ew; cases eK
    obtain ⟨xs, ys, sx, sy, over⟩ := go
    obtain ⟨x0, y0, out⟩ := q.out
    obtain ⟨a⟩ := drw_of calm I sx (fun c hc => by rintro rfl; exact D.a1 _ hc (by simp)) q.sub1
    obtain ⟨b⟩ := drw_of calm I sy (fun c hc => by rintro rfl; exact D.a2 _ hc (by simp)) q.sub2
    have last : i = a.n ∨ i = b.n := by
      have := a.le
      have := b.le
      have := a.lt
      have := b.lt
      omega
    refine wpAny_pyNext_zipD2_end (D.sep a.mem b.mem a.ad b.ad) a.D b.D q.own q.ins out a.st b.st a.le b.le last fun h' tk keep => ⟨rfl, I.turnedL (t' := tk) (ch := [z, TI, TO, i1, i2]) (fun c o nc e => ?_) free⟩
    obtain ⟨n1, _, n3, n4, n5⟩ := not5 nc
    exact keep c o n1 n3 n4 n5 e
def iZipK (K : PySem.W.Frag) (ta : TA) : TI := fun σ H R => ta σ H fun vs H1 => ∃ (v v2 : V) (k1 k2 : Tok → Kd) (xs ys : List V), vs = [v, v2] ∧ (∀ u, RelV v u → ∃ t, u = (k1 t).val) ∧ (∀ u, RelV v2 u → ∃ t, u = (k2 t).val) ∧ (∀ t, ScK K H1 (k1 t) xs) ∧ (∀ t, ScK K H1 (k2 t) ys) ∧ ∀ t t', R (ItzK K (k1 t) (k2 t')) H1
theorem pi_zipK {X : Cx} {e e2 : Expr} {ta : TA} {p pos tpos : Pos} {elts : List Expr} {kk : Nat} (hg : Gl X "zip") (hm : X.mg "zip" = none) (ha : PA X [e, e2] ta)
    (two : starEach [e, e2] X.env = (false, eval e X.env) :: starEach [e2] X.env := by rfl) (pl : (backTo pos (starEach [e2] X.env)).any (·.1) = false := by rfl) :
    PI X (.Tuple elts kk tpos) (.Call (.Name "zip" p) [e, e2] [] pos) (iZipK X.K ta) where
  run := fun pn st σ H R I h => Call_ (ld_blt I hg hm PyProof.Rows.boot_zip (PyProof.Rows.callWith_type1 (thn (ha.run pos pn st σ H _ I h) fun us st1 got => by
    obtain ⟨_, H1, I1, rel, v, v2, k1, k2, xs, ys, rfl, isK, isK2, sx, sy, q⟩ := got
    obtain ⟨u, us', ru, rest, rfl⟩ : ∃ u us', RelV v u ∧ Vals [v2] us' ∧ us = u :: us' := by cases rel with | cons r rr => exact ⟨_, _, r, rr, rfl⟩
    obtain ⟨u2, rfl, ru2⟩ := vals1 rest
    obtain ⟨t, rfl⟩ := isK u ru
    obtain ⟨t', rfl⟩ := isK2 u2 ru2
    obtain ⟨o1, S1, B1, ok1, first1, below1⟩ := sc_begin I1 (sx t)
    obtain ⟨o2, S2, B2, ok2, first2, below2⟩ := sc_begin I1 (sy t')
    refine zip_begins2 B1 B2 ok1 ok2 fun h' own ins out at1 at2 _ keep => wpAny_pyIter_zip own ?_
    have state : ZState (k1 t) (k2 t') _ _ _ _ _ 0 h' := ⟨own, ins, ⟨_, _, out⟩, first1 _ _ at1, first2 _ _ at2⟩
    have apart : ZAp (st1.heap.objs.size + 4) (st1.heap.objs.size + 2) (st1.heap.objs.size + 3) st1.heap.objs.size (st1.heap.objs.size + 1) (k1 t) (k2 t') := ⟨by simp, fun a z => far5 (below1 a z), fun a z => far5 (below2 a z)⟩
    refine ⟨_, _, _, _, H1, rfl, I1.kept (t' := st1.toks) keep, turn_zipK apart, state, fun b hb => ?_, q t t'⟩
    exact I1.fpOk (in5 hb) (I1.hok.fresh (in5 hb))) two pl))
end Fx

set_option Elab.async false
set_option linter.all false
set_option maxRecDepth 100000
/-! Fx13: walks. -/
namespace Fx
open L2 PyProof.Rows PySem PySem.Spec
open RZ (ItzT iZipA)

section
variable {K : PySem.W.Frag} {A : RdA} {S : Hp → Prop} {H : Hp}
theorem rp_same {d : D} {x : V} (h : Rp K A d x) (H H' : Hp) : Rp K (Gr A H H') d x := Rp.mono (fun _ _ k => .inl k) _ _ h
theorem yl_list {a : Addr} {xs : List V} {ds : List D} (hS : ∀ H, S H → SqL K H a xs) (hr : RpL K A ds xs) : Yl K A S (Itl K a) ds where
  go := fun i H s hi => ⟨xs, xs[i]'(by rw [hr.length]; exact hi), hS H s, List.getElem?_eq_getElem _⟩
  yld := fun i H x H' d s hd hy => by
    obtain ⟨rfl, hx⟩ := hy
    have e := hx xs (hS H' s)
    obtain ⟨d', e', rp⟩ := hr.getV e
    rw [hd] at e'
    cases e'
    exact ⟨Same.refl _, rp_same rp _ _⟩
  stop := fun i H s hi => ⟨xs, hS H s, by rw [hr.length]; exact hi⟩
theorem yl_tup {a : Addr} {xs : List V} {ds : List D} (hS : ∀ H, S H → SqT K H a xs) (hr : RpL K A ds xs) : Yl K A S (Itt K a) ds where
  go := fun i H s hi => ⟨xs, xs[i]'(by rw [hr.length]; exact hi), hS H s, List.getElem?_eq_getElem _⟩
  yld := fun i H x H' d s hd hy => by
    obtain ⟨rfl, hx⟩ := hy
    have e := hx xs (hS H' s)
    obtain ⟨d', e', rp⟩ := hr.getV e
    rw [hd] at e'
    cases e'
    exact ⟨Same.refl _, rp_same rp _ _⟩
  stop := fun i H s hi => ⟨xs, hS H s, by rw [hr.length]; exact hi⟩
theorem yl_str {s : List Nat} : Yl K A S (Its (mkS s)) (s.map fun c => .str [c]) where
  go := fun i H _ hi => by
    show i < s.toArray.size
    simpa using hi
  yld := fun i H x H' d _ hd hy => by
    obtain ⟨rfl, c, hc, rfl⟩ := hy
    rw [List.getElem?_map] at hd
    have hc' : s[i]? = some c := by simpa [mkS] using hc
    rw [hc'] at hd
    cases hd
    exact ⟨Same.refl _, by simp [Rp, mkS]⟩
  stop := fun i H _ hi => by
    show s.toArray.size ≤ i
    simpa using hi
theorem range_get {lo st : Int} {n i : Nat} {d : D} (h : (rangeL lo n st)[i]? = some d) : d = .int (lo + (i : Int) * st) := by
  unfold rangeL at h
  rw [List.getElem?_map] at h
  cases e : (List.range n)[i]? with
  | none => (rw [e] at h; cases h)
  | some j =>
    rw [e] at h
    cases h
    obtain ⟨h1, h2⟩ := List.getElem?_eq_some_iff.mp e
    rw [List.getElem_range] at h2
    subst h2
    rfl
theorem range_len {lo st : Int} {n : Nat} : (rangeL lo n st).length = n := by simp [rangeL]
theorem yl_range {lo : Int} {n : Nat} : Yl K A S (Itr lo n) (rangeL lo n 1) where
  go := fun i H _ hi => by rw [range_len] at hi; exact hi
  yld := fun i H x H' d _ hd hy => by
    obtain ⟨rfl, rfl⟩ := hy
    rw [range_get hd]
    exact ⟨Same.refl _, by simp [Rp]⟩
  stop := fun i H _ hi => by rw [range_len] at hi; exact hi
theorem yl_rangeC {lo c : Int} {n : Nat} : Yl K A S (Itc lo c n) (rangeL lo n c) where
  go := fun i H _ hi => by rw [range_len] at hi; exact hi
  yld := fun i H x H' d _ hd hy => by
    obtain ⟨rfl, rfl⟩ := hy
    rw [range_get hd]
    exact ⟨Same.refl _, by simp [Rp]⟩
  stop := fun i H _ hi => by rw [range_len] at hi; exact hi
theorem enum_len : ∀ (ds : List D) (n : Nat), (enumL n ds).length = ds.length
  | [], _ => rfl
  | d :: ds, n => by simp [enumL, enum_len ds]
theorem enum_get : ∀ {ds : List D} {n i : Nat} {d : D}, (enumL n ds)[i]? = some d → ∃ y, ds[i]? = some y ∧ d = .tup [.int ((n + i : Nat) : Int), y]
  | [], n, i, d, h => by simp [enumL] at h
  | y :: ds, n, 0, d, h => by simp [enumL] at h; exact ⟨y, by simp, by rw [← h]; rfl⟩
  | y :: ds, n, i + 1, d, h => by
    obtain ⟨z, h1, h2⟩ := enum_get (ds := ds) (n := n + 1) (i := i) (d := d) (by simpa [enumL] using h)
    exact ⟨z, by simpa using h1, by rw [h2]; congr 3; omega⟩
theorem rp_pair {H : Hp} {T : Addr} {x y : V} {d e : D} (hT : H T = none) (hx : Rp K A d x) (hy : Rp K A e y) :
    Same H (upd H T (.tup [x, y])) ∧ Rp K (Gr A H (upd H T (.tup [x, y]))) (.tup [d, e]) (.ref T) := by
  refine ⟨same_new hT, ?_⟩
  simp only [Rp]
  exact ⟨T, [x, y], rfl, .inl (.inr ⟨hT, .inl upd_same⟩), .cons (rp_same hx _ _) (.cons (rp_same hy _ _) .nil)⟩
theorem yl_enum {a : Addr} {xs : List V} {ds : List D} (hS : ∀ H, S H → SqL K H a xs) (hr : RpL K A ds xs) : Yl K A S (Ite K a) (enumL 0 ds) where
  go := fun i H s hi => ⟨xs, xs[i]'(by rw [hr.length]; rwa [enum_len] at hi), hS H s, List.getElem?_eq_getElem _⟩
  yld := fun i H x H' d s hd hy => by
    obtain ⟨T, y, rfl, hT, rfl, hx⟩ := hy
    have e := hx xs (hS H s)
    obtain ⟨d', e', rp⟩ := hr.getV e
    obtain ⟨z, h1, rfl⟩ := enum_get hd
    rw [h1] at e'
    cases e'
    exact rp_pair hT (by simp [Rp]) rp
  stop := fun i H s hi => ⟨xs, hS H s, by rw [hr.length]; rwa [enum_len] at hi⟩
theorem zip_len : ∀ (ds es : List D), (zipL ds es).length = min ds.length es.length
  | [], es => by cases es <;> simp [zipL]
  | d :: ds, [] => by simp [zipL]
  | d :: ds, e :: es => by simp [zipL, zip_len ds es]
theorem zip_get : ∀ {ds es : List D} {i : Nat} {d : D}, (zipL ds es)[i]? = some d → ∃ x y, ds[i]? = some x ∧ es[i]? = some y ∧ d = .tup [x, y]
  | [], es, i, d, h => by cases es <;> simp [zipL] at h
  | x :: ds, [], i, d, h => by simp [zipL] at h
  | x :: ds, y :: es, 0, d, h => by simp [zipL] at h; exact ⟨x, y, by simp, by simp, h.symm⟩
  | x :: ds, y :: es, i + 1, d, h => by
    obtain ⟨a, b, h1, h2, h3⟩ := zip_get (ds := ds) (es := es) (i := i) (d := d) (by simpa [zipL] using h)
    exact ⟨a, b, by simpa using h1, by simpa using h2, h3⟩
theorem yl_zip {a b : Addr} {xs ys : List V} {ds es : List D} (hS : ∀ H, S H → SqL K H a xs) (hS' : ∀ H, S H → SqL K H b ys) (hr : RpL K A ds xs) (hr' : RpL K A es ys) :
    Yl K A S (Itz K a b) (zipL ds es) where
  go := fun i H s hi => by
    rw [zip_len] at hi
    exact ⟨xs, ys, xs[i]'(by rw [hr.length]; omega), ys[i]'(by rw [hr'.length]; omega), hS H s, hS' H s, List.getElem?_eq_getElem _, List.getElem?_eq_getElem _⟩
  yld := fun i H x H' d s hd hy => by
    obtain ⟨T, y, z, rfl, hT, rfl, hx, hx'⟩ := hy
    obtain ⟨d1, e1, rp⟩ := hr.getV (hx xs (hS H s))
    obtain ⟨d2, e2, rp'⟩ := hr'.getV (hx' ys (hS' H s))
    obtain ⟨z1, z2, h1, h2, rfl⟩ := zip_get hd
    rw [h1] at e1
    rw [h2] at e2
    cases e1
    cases e2
    exact rp_pair hT rp rp'
  stop := fun i H s hi => by
    rw [zip_len] at hi
    exact ⟨xs, ys, hS H s, hS' H s, by rw [hr.length, hr'.length]; omega⟩
theorem yl_zipT {a b : Addr} {xs ys : List V} {ds es : List D} (hS : ∀ H, S H → SqT K H a xs) (hS' : ∀ H, S H → SqT K H b ys) (hr : RpL K A ds xs) (hr' : RpL K A es ys) :
    Yl K A S (ItzT K a b) (zipL ds es) where
  go := fun i H s hi => by
    rw [zip_len] at hi
    exact ⟨xs, ys, xs[i]'(by rw [hr.length]; omega), ys[i]'(by rw [hr'.length]; omega), hS H s, hS' H s, List.getElem?_eq_getElem _, List.getElem?_eq_getElem _⟩
  yld := fun i H x H' d s hd hy => by
    obtain ⟨T, y, z, rfl, hT, rfl, hx, hx'⟩ := hy
    obtain ⟨d1, e1, rp⟩ := hr.getV (hx xs (hS H s))
    obtain ⟨d2, e2, rp'⟩ := hr'.getV (hx' ys (hS' H s))
    obtain ⟨z1, z2, h1, h2, rfl⟩ := zip_get hd
    rw [h1] at e1
    rw [h2] at e2
    cases e1
    cases e2
    exact rp_pair hT rp rp'
  stop := fun i H s hi => by
    rw [zip_len] at hi
    exact ⟨xs, ys, hS H s, hS' H s, by rw [hr.length, hr'.length]; omega⟩
end

section
variable {K : PySem.W.Frag} {σ : L2.St} {H : Hp} {R : L2.It → Hp → Prop}
theorem kp_rd {O : Addr → Prop} {env : Cells} {H H' : Hp} {a : Addr} {u : HO} (h : Av O env σ H a u) (k : Kp env σ H H') : Rd H' a u := by
  obtain ⟨h1, _, h3⟩ := h
  rcases h3 with h3 | ⟨od, h3⟩
  · exact .inl (k a _ h3 h1)
  · exact .inr ⟨od, k a _ h3 h1⟩
theorem kp_sql {O : Addr → Prop} {env : Cells} {H H' : Hp} {a : Addr} {xs : List V} (h : LsA K (Av O env σ H) a xs) (k : Kp env σ H H') : SqL K H' a xs :=
  LsH.seq (h.imp (kp_rd · k) id)
theorem kp_sqt {O : Addr → Prop} {env : Cells} {H H' : Hp} {a : Addr} {xs : List V} (h : SqTA K (Av O env σ H) a xs) (k : Kp env σ H H') : SqT K H' a xs := h.imp (kp_rd · k) id
/-- what a thing is walked as -/
def iAny (K : PySem.W.Frag) (te : TE) : TI := fun σ H R => iList K te σ H R ∨ iTup K te σ H R ∨ iStr te σ H R
theorem pi_any {X : Cx} {tg e : Expr} {te : TE} (he : PE X e te) : PI X tg e (iAny X.K te) where
  run := fun pns s σ H R I h => by
    rcases h with h | h | h
    · exact (pi_list he).run pns s σ H R I h
    · exact (pi_tup he).run pns s σ H R I h
    · exact (pi_str he).run pns s σ H R I h
theorem tI_any {f : Cells → Res Fx.R} (h : tI K (doIt1 itemsOf f) σ H R) : iAny K (tE K f) σ H R := by
  obtain ⟨O, env, rel, ds, env', e, q⟩ := h
  obtain ⟨x, env1, e1, e⟩ := Res.bind_ok e
  cases g : frz env1 x with
  | none => rw [g] at e; cases e
  | some p =>
    obtain ⟨d, env2⟩ := p
    rw [g] at e
    obtain ⟨e2, e3⟩ := ofO_ok e
    subst e3
    have fin : ∀ v H1, Rel K (un O (nw x v)) env1 σ H1 → Step env σ H env1 σ H1 → RR K (un O (nw x v)) env1 σ H H1 x v →
        Rel K O env' σ H1 ∧ Step env σ H env' σ H1 ∧ Rp K (Av O env' σ H1) d v := fun v H1 r1 s1 rr => by
      obtain ⟨r2, s2, rp⟩ := frz_ok r1 (hs1_of rel rr) rr g
      exact ⟨r2, s1.trans s2, rp⟩
    cases d with
    | lst xs =>
      cases e2
      refine .inl ⟨O, env, rel, x, env1, e1, fun v H1 r1 s1 rr => ?_⟩
      obtain ⟨r2, s2, rp⟩ := fin v H1 r1 s1 rr
      simp only [Rp] at rp
      obtain ⟨a, ys, rfl, ha, hr⟩ := rp
      exact ⟨a, rfl, ⟨ys, (ha.heap fun _ _ k => k.2.2).seq⟩, q _ H1 r2 s2 (yl_list (fun H' k => kp_sql ha k) hr)⟩
    | tup xs =>
      cases e2
      refine .inr (.inl ⟨O, env, rel, x, env1, e1, fun v H1 r1 s1 rr => ?_⟩)
      obtain ⟨r2, s2, rp⟩ := fin v H1 r1 s1 rr
      simp only [Rp] at rp
      obtain ⟨a, ys, rfl, ha, hr⟩ := rp
      exact ⟨a, rfl, ⟨ys, ha.seq fun _ _ k => k.2.2⟩, q _ H1 r2 s2 (yl_tup (fun H' k => kp_sqt ha k) hr)⟩
    | str s =>
      cases e2
      refine .inr (.inr ⟨O, env, rel, x, env1, e1, fun v H1 r1 s1 rr => ?_⟩)
      obtain ⟨r2, s2, rp⟩ := fin v H1 r1 s1 rr
      simp only [Rp] at rp
      exact ⟨mkS s, rp, q _ H1 r2 s2 yl_str⟩
    | _ => cases e2
/-- range -/
theorem lim62 {i : Int} (h : i.natAbs ≤ lim) : -(2 ^ 62) ≤ i ∧ i < 2 ^ 62 := by
  have : lim < 2 ^ 62 := by decide
  omega
theorem args1 {K : PySem.W.Frag} {A : RdA} {H : Hp} {ds : List D} {vs : List V} {n : Int} (h : ViewL K A H ds vs) (e : ds = [.int n]) : vs = [.int n] := by
  subst e
  simpa [ViewL, View] using h
theorem tI_range1 {f : Cells → Res (List Fx.R)} (h1 : ∀ env rs env', f env = .ok rs env' → rs.length = 1) (h : tI K (doRange f) σ H R) : iRng1 (tA K f) σ H R := by
  obtain ⟨O, env, rel, ds, env', e, q⟩ := h
  obtain ⟨rs, env1, e1, e⟩ := Res.bind_ok e
  refine ⟨O, env, rel, rs, env1, e1, fun vs H1 r1 s1 rr ap => ?_⟩
  cases g : gets env1 rs with
  | none => rw [g] at e; cases e
  | some xs =>
    rw [g] at e
    obtain ⟨e2, e3⟩ := ofO_ok e
    subst e3
    have vw := rr.views r1 g
    have hl : xs.length = 1 := by rw [← vw.length, rr.length, h1 _ _ _ e1]
    match xs, hl with
    | [x], _ =>
      cases x with
      | int n =>
        simp only [rangeD] at e2
        split at e2
        · rename_i hn
          cases e2
          have ev : vs = [.int n] := by simpa [ViewL, View] using vw
          exact ⟨n, ev, (lim62 hn).1, (lim62 hn).2, q _ H1 (r1.less fun a z => .inl z) s1 yl_range⟩
        · cases e2
      | _ => cases e2
theorem tI_range2 {f : Cells → Res (List Fx.R)} (h1 : ∀ env rs env', f env = .ok rs env' → rs.length = 2) (h : tI K (doRange f) σ H R) : iRng2 (tA K f) σ H R := by
  obtain ⟨O, env, rel, ds, env', e, q⟩ := h
  obtain ⟨rs, env1, e1, e⟩ := Res.bind_ok e
  refine ⟨O, env, rel, rs, env1, e1, fun vs H1 r1 s1 rr ap => ?_⟩
  cases g : gets env1 rs with
  | none => rw [g] at e; cases e
  | some xs =>
    rw [g] at e
    obtain ⟨e2, e3⟩ := ofO_ok e
    subst e3
    have vw := rr.views r1 g
    have hl : xs.length = 2 := by rw [← vw.length, rr.length, h1 _ _ _ e1]
    match xs, hl with
    | [x, y], _ =>
      cases x with
      | int n =>
        cases y with
        | int m =>
          simp only [rangeD] at e2
          split at e2
          · rename_i hn
            cases e2
            have ev : vs = [.int n, .int m] := by
              simp only [ViewL, View] at vw
              obtain ⟨x, r, rfl, rfl, y, r', rfl, rfl, rfl⟩ := vw
              rfl
            exact ⟨n, m, ev, ⟨(lim62 hn.1).1, (lim62 hn.1).2, (lim62 hn.2).1, (lim62 hn.2).2⟩, q _ H1 (r1.less fun a z => .inl z) s1 yl_range⟩
          · cases e2
        | _ => cases e2
      | _ => cases e2
theorem tI_range3 {f : Cells → Res (List Fx.R)} (h1 : ∀ env rs env', f env = .ok rs env' → rs.length = 3) (h : tI K (doRange f) σ H R) : iRng3 (tA K f) σ H R := by
  obtain ⟨O, env, rel, ds, env', e, q⟩ := h
  obtain ⟨rs, env1, e1, e⟩ := Res.bind_ok e
  refine ⟨O, env, rel, rs, env1, e1, fun vs H1 r1 s1 rr ap => ?_⟩
  cases g : gets env1 rs with
  | none => rw [g] at e; cases e
  | some xs =>
    rw [g] at e
    obtain ⟨e2, e3⟩ := ofO_ok e
    subst e3
    have vw := rr.views r1 g
    have hl : xs.length = 3 := by rw [← vw.length, rr.length, h1 _ _ _ e1]
    match xs, hl with
    | [x, y, z], _ =>
      cases x with
      | int n =>
        cases y with
        | int m =>
          cases z with
          | int c =>
            simp only [rangeD] at e2
            split at e2
            · rename_i hn
              cases e2
              obtain ⟨hn1, hn2, rfl⟩ := hn
              have ev : vs = [.int n, .int m, .int (-1)] := by
                simp only [ViewL, View] at vw
                obtain ⟨x, r, rfl, rfl, y, r', rfl, rfl, z, r'', rfl, rfl, rfl⟩ := vw
                rfl
              exact ⟨n, m, -1, _, ev, RgC.neg (lim62 hn1).1 (lim62 hn1).2 (lim62 hn2).1 (lim62 hn2).2, q _ H1 (r1.less fun a z => .inl z) s1 yl_rangeC⟩
            · cases e2
          | _ => cases e2
        | _ => cases e2
      | _ => cases e2
/-- enumerate, zip -/
theorem signs_rp {A : RdA} {s : List Nat} : RpL K A (s.map fun c => .str [c]) (signsV (mkS s)) := by
  have e : signsV (mkS s) = s.map fun c => V.str (mkS [c]) := by simp [signsV, mkS]
  rw [e]
  induction s with
  | nil => exact RpL.nil
  | cons c r ih =>
    simp only [List.map_cons]
    exact RpL.cons (by simp [Rp]) (ih (by simp [signsV, mkS]))
theorem sc_of {O : Addr → Prop} {env : Cells} {d : D} {v : V} {ds : List D} (hi : itemsOf d = some ds) (rp : Rp K (Av O env σ H) d v) :
    ∃ (kd : Tok → Kd) (xs : List V), (∀ u, RelV v u → ∃ t, u = (kd t).val) ∧ RpL K (Av O env σ H) ds xs ∧ ∀ H' t, Kp env σ H H' → ScK K H' (kd t) xs := by
  cases d with
  | lst xs =>
    cases hi
    simp only [Rp] at rp
    obtain ⟨a, ys, rfl, ha, hr⟩ := rp
    exact ⟨fun _ => .l a, ys, fun u r => ⟨0, r⟩, hr, fun H' t k => kp_sql ha k⟩
  | tup xs =>
    cases hi
    simp only [Rp] at rp
    obtain ⟨a, ys, rfl, ha, hr⟩ := rp
    exact ⟨fun _ => .t a, ys, fun u r => ⟨0, r⟩, hr, fun H' t k => kp_sqt ha k⟩
  | str s =>
    cases hi
    simp only [Rp] at rp
    subst rp
    exact ⟨fun t => .s (mkS s) t, signsV (mkS s), fun u r => r, signs_rp, fun H' t k => rfl⟩
  | _ => cases hi
theorem yl_enumK {A : RdA} {S : Hp → Prop} {kd : Kd} {xs : List V} {ds : List D} (hS : ∀ H, S H → ScK K H kd xs) (hr : RpL K A ds xs) : Yl K A S (IteK K kd) (enumL 0 ds) where
  go := fun i H s hi => ⟨xs, xs[i]'(by rw [hr.length]; rwa [enum_len] at hi), hS H s, List.getElem?_eq_getElem _⟩
  yld := fun i H x H' d s hd hy => by
    obtain ⟨T, y, rfl, hT, rfl, hx⟩ := hy
    have e := hx xs (hS H s)
    obtain ⟨d', e', rp⟩ := hr.getV e
    obtain ⟨z, h1, rfl⟩ := enum_get hd
    rw [h1] at e'
    cases e'
    exact rp_pair hT (by simp [Rp]) rp
  stop := fun i H s hi => ⟨xs, hS H s, by rw [hr.length]; rwa [enum_len] at hi⟩
theorem yl_zipK {A : RdA} {S : Hp → Prop} {k1 k2 : Kd} {xs ys : List V} {ds es : List D} (hS : ∀ H, S H → ScK K H k1 xs) (hS' : ∀ H, S H → ScK K H k2 ys) (hr : RpL K A ds xs) (hr' : RpL K A es ys) :
    Yl K A S (ItzK K k1 k2) (zipL ds es) where
  go := fun i H s hi => by
    rw [zip_len] at hi
    exact ⟨xs, ys, xs[i]'(by rw [hr.length]; omega), ys[i]'(by rw [hr'.length]; omega), hS H s, hS' H s, List.getElem?_eq_getElem _, List.getElem?_eq_getElem _⟩
  yld := fun i H x H' d s hd hy => by
    obtain ⟨T, y, z, rfl, hT, rfl, hx, hx'⟩ := hy
    obtain ⟨d1, e1, rp⟩ := hr.getV (hx xs (hS H s))
    obtain ⟨d2, e2, rp'⟩ := hr'.getV (hx' ys (hS' H s))
    obtain ⟨z1, z2, h1, h2, rfl⟩ := zip_get hd
    rw [h1] at e1
    rw [h2] at e2
    cases e1
    cases e2
    exact rp_pair hT rp rp'
  stop := fun i H s hi => by
    rw [zip_len] at hi
    exact ⟨xs, ys, hS H s, hS' H s, by rw [hr.length, hr'.length]; omega⟩
theorem enum_arg {xs ds : List D} (h : enumD xs = some ds) : ∃ x ys, xs = [x] ∧ itemsOf x = some ys ∧ ds = enumL 0 ys := by
  unfold enumD at h
  split at h
  · rename_i x
    cases e : itemsOf x with
    | none => (rw [e] at h; cases h)
    | some ys => rw [e] at h; cases h; exact ⟨_, ys, rfl, e, rfl⟩
  · cases h
theorem zip_arg {xs ds : List D} (h : zipD xs = some ds) : ∃ x y ys zs, xs = [x, y] ∧ itemsOf x = some ys ∧ itemsOf y = some zs ∧ ds = zipL ys zs := by
  unfold zipD at h
  split at h
  · rename_i x y
    cases e : itemsOf x with
    | none => (rw [e] at h; cases h)
    | some ys =>
      cases e2 : itemsOf y with
      | none => rw [e, e2] at h; cases h
      | some zs => rw [e, e2] at h; cases h; exact ⟨_, _, ys, zs, rfl, e, e2, rfl⟩
  · cases h
theorem tI_enum {f : Cells → Res (List Fx.R)} (h : tI K (doItN enumD f) σ H R) : iEnumK K (tA K f) σ H R := by
  obtain ⟨O, env, rel, ds, env', e, q⟩ := h
  obtain ⟨rs, env1, e1, e⟩ := Res.bind_ok e
  refine ⟨O, env, rel, rs, env1, e1, fun vs H1 r1 s1 rr ap => ?_⟩
  cases g : frzs env1 rs with
  | none => rw [g] at e; cases e
  | some p =>
    obtain ⟨xs, env2⟩ := p
    rw [g] at e
    obtain ⟨e2, e3⟩ := ofO_ok e
    subst e3
    obtain ⟨x, ys, rfl, hi, rfl⟩ := enum_arg e2
    obtain ⟨r2, s2, rp⟩ := frzs_ok r1 (hs_of rel rr) ap rr g
    simp only [RpL] at rp
    obtain ⟨v, r, rfl, rp, rfl⟩ := rp
    obtain ⟨kd, zs, k1, hr, hS⟩ := sc_of hi rp
    exact ⟨v, kd, zs, rfl, k1, fun t => hS H1 t (fun _ _ e _ => e), fun t => q _ H1 r2 (s1.trans s2) (yl_enumK (fun H' k => hS H' t k) hr)⟩
theorem tI_zip {f : Cells → Res (List Fx.R)} (h : tI K (doItN zipD f) σ H R) : iZipK K (tA K f) σ H R := by
  obtain ⟨O, env, rel, ds, env', e, q⟩ := h
  obtain ⟨rs, env1, e1, e⟩ := Res.bind_ok e
  refine ⟨O, env, rel, rs, env1, e1, fun vs H1 r1 s1 rr ap => ?_⟩
  cases g : frzs env1 rs with
  | none => rw [g] at e; cases e
  | some p =>
    obtain ⟨xs, env2⟩ := p
    rw [g] at e
    obtain ⟨e2, e3⟩ := ofO_ok e
    subst e3
    obtain ⟨r2, s2, rp⟩ := frzs_ok r1 (hs_of rel rr) ap rr g
    obtain ⟨x, y, ys, zs, rfl, hi, hi2, rfl⟩ := zip_arg e2
    simp only [RpL] at rp
    obtain ⟨v, r, rfl, rp, v2, r', rfl, rp2, rfl⟩ := rp
    obtain ⟨kd, us, k1, hr, hS⟩ := sc_of hi rp
    obtain ⟨kd2, ws, k2, hr2, hS2⟩ := sc_of hi2 rp2
    exact ⟨v, v2, kd, kd2, us, ws, rfl, k1, k2, fun t => hS H1 t (fun _ _ e _ => e), fun t => hS2 H1 t (fun _ _ e _ => e), fun t t' => q _ H1 r2 (s1.trans s2) (yl_zipK (fun H' k => hS H' t k) (fun H' k => hS2 H' t' k) hr hr2)⟩
end
end Fx

set_option Elab.async false
set_option linter.all false
set_option maxRecDepth 100000
/-! Fx14: list comprehensions. -/
namespace Fx
open L2 PyProof.Rows PySem PySem.Spec

section
variable {K : PySem.W.Frag} {O : Addr → Prop} {env env0 env1 env2 env' : Cells} {σ σ0 σ1 σ2 σ' : L2.St} {H H0 H1 H2 H' : Hp}
/-! ### forgotten slots -/
theorem wipeC_len : ∀ vs : List Nat, (wipeC env vs).length = env.length
  | [] => rfl
  | v :: vs => by simp [wipeC, wipeC_len vs]
theorem wipeC_out {i : Nat} : ∀ {vs : List Nat}, i ∉ vs → (wipeC env vs)[i]? = env[i]?
  | [], _ => rfl
  | v :: vs, h => by
    have h1 : v ≠ i := fun z => h (by subst z; exact List.mem_cons_self)
    unfold wipeC
    rw [List.getElem?_set_ne h1]
    exact wipeC_out fun z => h (List.mem_cons_of_mem _ z)
theorem wipeC_in {i : Nat} {c : Cell} : ∀ {vs : List Nat}, i ∈ vs → (wipeC env vs)[i]? = some c → c = .none
  | v :: vs, h, e => by
    unfold wipeC at e
    by_cases h1 : v = i
    · subst h1
      by_cases hl : v < (wipeC env vs).length
      · rw [List.getElem?_set_self hl] at e; cases e; rfl
      · rw [List.getElem?_eq_none (by simpa using hl)] at e; cases e
    · rw [List.getElem?_set_ne h1] at e
      rcases List.mem_cons.mp h with h | h
      · exact (h1 h.symm).elim
      · exact wipeC_in h e
theorem restC_len {env0 : Cells} : ∀ vs : List Nat, (restC env0 env vs).length = env.length
  | [] => rfl
  | v :: vs => by simp [restC, restC_len vs]
theorem restC_out {env0 : Cells} {i : Nat} : ∀ {vs : List Nat}, i ∉ vs → (restC env0 env vs)[i]? = env[i]?
  | [], _ => rfl
  | v :: vs, h => by
    have h1 : v ≠ i := fun z => h (by subst z; exact List.mem_cons_self)
    unfold restC
    rw [List.getElem?_set_ne h1]
    exact restC_out fun z => h (List.mem_cons_of_mem _ z)
theorem restC_in {env0 : Cells} {i : Nat} {c : Cell} : ∀ {vs : List Nat}, i ∈ vs → (restC env0 env vs)[i]? = some c → c = (env0[i]?.getD .none)
  | v :: vs, h, e => by
    unfold restC at e
    by_cases h1 : v = i
    · subst h1
      by_cases hl : v < (restC env0 env vs).length
      · rw [List.getElem?_set_self hl] at e; cases e; rfl
      · rw [List.getElem?_eq_none (by simpa using hl)] at e; cases e
    · rw [List.getElem?_set_ne h1] at e
      rcases List.mem_cons.mp h with h | h
      · exact (h1 h.symm).elim
      · exact restC_in h e
theorem wipe_at {i : Nat} : ∀ {vs : List Nat}, i ∉ vs → (wipe σ vs)[i]? = σ[i]?
  | [], _ => rfl
  | v :: vs, h => by
    have h1 : v ≠ i := fun z => h (by subst z; exact List.mem_cons_self)
    unfold wipe
    rw [List.getElem?_set_ne h1]
    exact wipe_at fun z => h (List.mem_cons_of_mem _ z)
theorem wipe_in {i : Nat} {w : Option V} : ∀ {vs : List Nat}, i ∈ vs → (wipe σ vs)[i]? = some w → w = none
  | v :: vs, h, e => by
    unfold wipe at e
    by_cases h1 : v = i
    · subst h1
      by_cases hl : v < (wipe σ vs).length
      · rw [List.getElem?_set_self hl] at e; cases e; rfl
      · rw [List.getElem?_eq_none (by simpa using hl)] at e; cases e
    · rw [List.getElem?_set_ne h1] at e
      rcases List.mem_cons.mp h with h | h
      · exact (h1 h.symm).elim
      · exact wipe_in h e
theorem wipe_eq {vs is : List Nat} (e : Eqo is (wipe σ vs) σ2) (h : ∀ i ∈ is, i ∈ vs) : wipe σ2 vs = wipe σ vs := by
  apply List.ext_getElem?
  intro i
  have l1 := wipe_length σ2 vs
  have l2 := wipe_length σ vs
  have l3 := e.1
  by_cases hi : i ∈ vs
  · by_cases hl : i < σ.length
    · have a1 : i < (wipe σ2 vs).length := by omega
      have a2 : i < (wipe σ vs).length := by omega
      rw [List.getElem?_eq_getElem a1, List.getElem?_eq_getElem a2]
      rw [wipe_in hi (List.getElem?_eq_getElem a1), wipe_in hi (List.getElem?_eq_getElem a2)]
    · rw [List.getElem?_eq_none (by omega), List.getElem?_eq_none (by omega)]
  · rw [wipe_at hi, e.2 i fun z => hi (h i z)]
/-- only data is forgotten -/
theorem ob_wipe {vs : List Nat} (no : ∀ i ∈ vs, obAt env i = none) (i : Nat) : obAt (wipeC env vs) i = obAt env i := by
  by_cases hi : i ∈ vs
  · rw [no i hi]
    unfold obAt
    cases e : (wipeC env vs)[i]? with
    | none => rfl
    | some c => rw [wipeC_in hi e]; rfl
  · unfold obAt; rw [wipeC_out hi]
theorem ow_wipe {vs : List Nat} (no : ∀ i ∈ vs, obAt env i = none) {a : Addr} : Ow (wipeC env vs) (wipe σ vs) a ↔ Ow env σ a := by
  constructor
  · rintro ⟨i, b, h1, h2⟩
    rw [ob_wipe no] at h1
    exact ⟨i, b, h1, (wipe_some h2).1⟩
  · rintro ⟨i, b, h1, h2⟩
    have hi : i ∉ vs := fun z => by rw [no i z] at h1; cases h1
    exact ⟨i, b, by rw [ob_wipe no]; exact h1, by rw [wipe_at hi]; exact h2⟩
theorem rel_wipe {vs : List Nat} (rel : Rel K O env σ H) (no : ∀ i ∈ vs, obAt env i = none) : Rel K O (wipeC env vs) (wipe σ vs) H ∧ Step env σ H (wipeC env vs) (wipe σ vs) H := by
  have av : ∀ a u, Av O env σ H a u → Av O (wipeC env vs) (wipe σ vs) H a u := fun a u k => ⟨fun o => k.1 ((ow_wipe no).mp o), k.2⟩
  refine ⟨⟨by rw [wipeC_len, wipe_length]; exact rel.len, fun i c e => ?_, fun i j b b' p h1 h2 h3 h4 => ?_, fun a z => ⟨(rel.hid a z).1, fun o => (rel.hid a z).2 ((ow_wipe no).mp o)⟩⟩,
    fun _ _ h _ => h, fun a _ n o => n ((ow_wipe no).mp o), fun _ h => h, fun i b e => ?_⟩
  · by_cases hi : i ∈ vs
    · rw [wipeC_in hi e]; trivial
    · rw [wipeC_out hi] at e
      rw [wipe_at hi]
      have q := rel.at_ i c e
      cases c with
      | none => trivial
      | d y => obtain ⟨w, e1, q⟩ := q; exact ⟨w, e1, Rp.mono av _ _ q⟩
      | o b => obtain ⟨w, e1, q⟩ := q; exact ⟨w, e1, q.mono av rfl⟩
      | io b => obtain ⟨w, e1, q⟩ := q; exact ⟨w, e1, q.mono av rfl⟩
  · rw [ob_wipe no] at h1 h2
    exact rel.inj i j b b' p h1 h2 (wipe_some h3).1 (wipe_some h4).1
  · have hi : i ∉ vs := fun z => by have := no i z; rw [obAt_io e] at this; cases this
    rw [wipeC_out hi, wipe_at hi]
    exact ⟨rfl, b, e⟩
/-- behind the block: the own slots as they were -/
theorem rel_rest {vs : List Nat} {N : Addr → Prop} (rel : Rel K O env σ H) (no : ∀ i ∈ vs, obAt env i = none) (r2 : Rel K (un O N) (wipeC env2 vs) (wipe σ vs) H')
    (no2 : ∀ i ∈ vs, obAt env2 i = none) (hN : ∀ a, N a → H a = none)
    (st : Step env σ H (wipeC env2 vs) (wipe σ vs) H') : Rel K (un O N) (restC env env2 vs) σ H' ∧ Step env σ H (restC env env2 vs) σ H' := by
  have ob : ∀ i, obAt (restC env env2 vs) i = obAt (wipeC env2 vs) i := by
    intro i
    by_cases hi : i ∈ vs
    · have e1 : obAt (wipeC env2 vs) i = none := by rw [ob_wipe no2]; exact no2 i hi
      rw [e1]
      unfold obAt
      cases e : (restC env env2 vs)[i]? with
      | none => rfl
      | some c =>
        rw [restC_in hi e]
        have := no i hi
        unfold obAt at this
        cases e2 : env[i]? with
        | none => rfl
        | some c => rw [e2] at this; exact this
    · unfold obAt; rw [restC_out hi, wipeC_out hi]
  have ow : ∀ a, Ow (restC env env2 vs) σ a ↔ Ow (wipeC env2 vs) (wipe σ vs) a := by
    intro a
    constructor
    · rintro ⟨i, b, h1, h2⟩
      rw [ob] at h1
      have hi : i ∉ vs := fun z => by rw [ob_wipe no2, no2 i z] at h1; cases h1
      exact ⟨i, b, h1, by rw [wipe_at hi]; exact h2⟩
    · rintro ⟨i, b, h1, h2⟩
      exact ⟨i, b, by rw [ob]; exact h1, (wipe_some h2).1⟩
  have av : ∀ a u, Av (un O N) (wipeC env2 vs) (wipe σ vs) H' a u → Av (un O N) (restC env env2 vs) σ H' a u := fun a u k => ⟨fun o => k.1 ((ow a).mp o), k.2⟩
  refine ⟨⟨?_, fun i c e => ?_, fun i j b b' p h1 h2 h3 h4 => ?_, fun a z => ⟨(r2.hid a z).1, fun o => (r2.hid a z).2 ((ow a).mp o)⟩⟩,
    st.kp, fun a h n o => st.ow a h n ((ow a).mp o), st.th, fun i b e => ⟨rfl, ?_⟩⟩
  · have l := r2.len
    rw [wipeC_len, wipe_length] at l
    rw [restC_len]; exact l
  · by_cases hi : i ∈ vs
    · have ec := restC_in hi e
      cases c with
      | none => trivial
      | d y =>
        cases e2 : env[i]? with
        | none => rw [e2] at ec; cases ec
        | some c =>
          rw [e2] at ec
          simp only [Option.getD_some] at ec
          subst ec
          obtain ⟨w, e1, q⟩ := rel.at_ i _ e2
          exact ⟨w, e1, Rp.mono (fun a u k => av a u (st.avN hN a u k)) _ _ q⟩
      | o b =>
        have := obAt_o e
        rw [ob, ob_wipe no2, no2 i hi] at this
        cases this
      | io b =>
        have := obAt_io e
        rw [ob, ob_wipe no2, no2 i hi] at this
        cases this
    · rw [restC_out hi] at e
      have q := r2.at_ i c (by rw [wipeC_out hi]; exact e)
      rw [wipe_at hi] at q
      cases c with
      | none => trivial
      | d y => obtain ⟨w, e1, q⟩ := q; exact ⟨w, e1, Rp.mono av _ _ q⟩
      | o b => obtain ⟨w, e1, q⟩ := q; exact ⟨w, e1, q.mono av rfl⟩
      | io b => obtain ⟨w, e1, q⟩ := q; exact ⟨w, e1, q.mono av rfl⟩
  · have g : ∀ i b, obAt (restC env env2 vs) i = some b → i ∉ vs := fun i b h z => by rw [ob, ob_wipe no2, no2 i z] at h; cases h
    exact r2.inj i j b b' p (by rw [← ob]; exact h1) (by rw [← ob]; exact h2) (by rw [wipe_at (g i b h1)]; exact h3) (by rw [wipe_at (g j b' h2)]; exact h4)
  · have hi : i ∉ vs := fun z => by have := no i z; rw [obAt_io e] at this; cases this
    obtain ⟨_, b', e2⟩ := st.io i b e
    rw [wipeC_out hi] at e2
    exact ⟨b', by rw [restC_out hi]; exact e2⟩
/-- the hidden object written -/
theorem rel_hidden {p : Addr} {o' : HO} (rel : Rel K O env σ H) (hp : O p) (hm : Mut (some o')) : Rel K O env σ (upd H p o') := by
  have np := (rel.hid p hp).2
  have av : ∀ a u, Av O env σ H a u → Av O env σ (upd H p o') a u := fun a u ⟨k1, k2, k3⟩ => by
    have ne : a ≠ p := fun z => k2 (by subst z; exact hp)
    refine ⟨k1, k2, ?_⟩
    rcases k3 with k3 | ⟨od, k3⟩
    · exact .inl ((upd_ne ne).trans k3)
    · exact .inr ⟨od, (upd_ne ne).trans k3⟩
  refine ⟨rel.len, fun j c e => ?_, rel.inj, fun a z => ?_⟩
  · have z := rel.at_ j c e
    have ne : ∀ b w, obAt env j = some b → σ[j]? = some (some (.ref w)) → w ≠ p := fun b w h1 h2 z => np (by subst z; exact ⟨j, b, h1, h2⟩)
    cases c with
    | none => trivial
    | d x => obtain ⟨w, e2, r⟩ := z; exact ⟨w, e2, Rp.mono av _ _ r⟩
    | o c => obtain ⟨w, e2, r⟩ := z; exact ⟨w, e2, r.mono av (upd_ne (ne _ _ (obAt_o e) e2))⟩
    | io c => obtain ⟨w, e2, r⟩ := z; exact ⟨w, e2, r.mono av (upd_ne (ne _ _ (obAt_io e) e2))⟩
  · obtain ⟨⟨o, ho, m⟩, n⟩ := rel.hid a z
    refine ⟨?_, n⟩
    by_cases h : a = p
    · subst h; exact ⟨o', upd_same, hm⟩
    · exact ⟨o, (upd_ne h).trans ho, m⟩
theorem isOb_none {vs : List Nat} (h : ¬ vs.any (isOb env) = true) : ∀ i ∈ vs, obAt env i = none := fun i hi => by
  cases e : obAt env i with
  | none => rfl
  | some b => exact (h (List.any_eq_true.mpr ⟨i, hi, by unfold isOb; rw [e]; rfl⟩)).elim
/-- what is left of a list comprehension once its source is there -/
def LcRest (K : PySem.W.Frag) (el : Cells → Res R) (c : Cells → Res Bool) (t : Tg) (vs : List Nat) (σ : L2.St) (J : L2.It) (H1 : Hp) (Q : VK) : Prop :=
  ∀ D, H1 D = none → ∃ W : Nat → Nat → Hp → Prop, (∃ m, W 0 m (upd H1 D (.lst []))) ∧ ∀ i m H, W i m H →
    (J.stop i H ∧ Q (.ref D) H) ∨ (J.go i H ∧ ∃ Nx : Hp → Prop, (∀ H', Nx H' → ∃ m', m' < m ∧ W (i + 1) m' H') ∧ ∀ x H', J.yld i H x H' → gD K t x (wipe σ vs) H' fun σ2 H2 => wipe σ2 vs = wipe σ vs ∧ tT K c σ2 H2 fun b H3 =>
      if b = true then tE K el σ2 H3 fun y H4 => ∃ acc, H4 D = some (.lst acc) ∧ acc.length < sizeLine ∧ Nx (upd H4 D (.lst (acc ++ [y]))) else Nx H3)
theorem lc_rest {el : Cells → Res R} {c : Cells → Res Bool} {t : Tg} {vs : List Nat} {Q : VK} {J : L2.It} {ds ys : List Fx.D} (ht : ∀ i ∈ t.slots, i ∈ vs) (r1 : Rel K O env1 σ H1) (no : ∀ i ∈ vs, obAt env1 i = none)
    (yl : Yl K (Av O env1 σ H1) (Kp env1 σ H1) J ds) (e2 : lcRun vs t c el ds [] env1 = .ok ys env2)
    (q : ∀ v H', Rel K (un O (nw (.new (.lst ys)) v)) (restC env1 env2 vs) σ H' → Step env1 σ H1 (restC env1 env2 vs) σ H' → RR K (un O (nw (.new (.lst ys)) v)) (restC env1 env2 vs) σ H1 H' (.new (.lst ys)) v → Q v H') :
    LcRest K el c t vs σ J H1 Q := by
  intro p hp
  let N : Addr → Prop := nw (.new (.lst [])) (.ref p)
  have Np : ∀ a, N a → a = p := fun a z => by
    have z : V.ref p = .ref a := z
    cases z; rfl
  have N0 : ∀ a, N a → H1 a = none := fun a z => by rw [Np a z]; exact hp
  have pN : un O N p := .inr rfl
  -- the turns
  refine ⟨fun i m H' => m = ds.length - i ∧ i ≤ ds.length ∧ ∃ envi acc accV, (∀ j ∈ vs, obAt envi j = none) ∧ Rel K (un O N) (wipeC envi vs) (wipe σ vs) H' ∧
    Step env1 σ H1 (wipeC envi vs) (wipe σ vs) H' ∧ H' p = some (.lst accV) ∧ RpL K (Av (un O N) (wipeC envi vs) (wipe σ vs) H') acc accV ∧
    lcRun vs t c el (ds.drop i) acc envi = .ok ys env2, ⟨ds.length, rfl, Nat.zero_le _, env1, [], [], no, ?_, ?_, upd_same, .nil, e2⟩, ?_⟩
  · have rg := r1.growN (H1 := upd H1 p (.lst [])) (N := N) (same_new hp) fun a z => ⟨N0 a z, by rw [Np a z]; exact ⟨_, upd_same, trivial⟩⟩
    exact (rel_wipe rg no).1
  · exact (Step.grow (same_new hp)).trans (rel_wipe (r1.grow (same_new hp)) no).2
  rintro i m H' ⟨rfl, hi, envi, acc, accV, noi, ri, si, hacc, racc, ei⟩
  have hS : Kp env1 σ H1 H' := fun a o h1 h2 => si.kp a o h1 h2
  have p0 : ¬ Ow (wipeC envi vs) (wipe σ vs) p := (ri.hid p pN).2
  by_cases hl : i < ds.length
  · refine .inr ⟨yl.go i H' hS hl, fun H3 => i + 1 ≤ ds.length ∧ ∃ envi acc accV, (∀ j ∈ vs, obAt envi j = none) ∧ Rel K (un O N) (wipeC envi vs) (wipe σ vs) H3 ∧
      Step env1 σ H1 (wipeC envi vs) (wipe σ vs) H3 ∧ H3 p = some (.lst accV) ∧ RpL K (Av (un O N) (wipeC envi vs) (wipe σ vs) H3) acc accV ∧
      lcRun vs t c el (ds.drop (i + 1)) acc envi = .ok ys env2, fun H3 h3 => ⟨ds.length - (i + 1), by omega, rfl, h3⟩, ?_⟩
    intro x H2 hy
    obtain ⟨g, rp⟩ := yl.yld i H' x H2 ds[i] hS (List.getElem?_eq_getElem hl) hy
    rw [List.drop_eq_getElem_cons hl] at ei
    unfold lcRun at ei
    cases ea : asgD t ds[i] (wipeC envi vs) with
    | none => rw [ea] at ei; cases ei
    | some env3 =>
      rw [ea] at ei
      simp only at ei
      obtain ⟨b, env4, e4, ei⟩ := Res.bind_ok ei
      have hx : Rp K (Av (un O N) (wipeC envi vs) (wipe σ vs) H2) ds[i] x := by
        refine Rp.mono (fun a u k => ?_) _ _ rp
        rcases k with k | ⟨h1, h2⟩
        · exact (Step.grow g).av a u (si.avN N0 a u k)
        · exact ⟨ri.fresh_not h1, fun z => ri.hidT z h1, h2⟩
      refine ⟨un O N, wipeC envi vs, ds[i], env3, ri.grow g, hx, ea, fun σ2 H3 r3 s3 eq3 => ⟨wipe_eq eq3 ht, un O N, env3, r3, b, env4, e4, fun H4 r4 s4 => ?_⟩⟩
      have sA := ((Step.grow (env := wipeC envi vs) (σ := wipe σ vs) g).trans s3).trans s4
      -- the list is as it was
      have acc4 : H4 p = some (.lst accV) := sA.kp p _ hacc p0
      have ra4 := sA.rpL racc
      have goon : ∀ {env6 : Cells} {acc' : List Fx.D} {accV' : List V} {H6 : Hp}, vs.any (isOb env6) = false → Rel K (un O N) env6 σ2 H6 → Step env1 σ H1 env6 σ2 H6 → H6 p = some (.lst accV') →
          RpL K (Av (un O N) env6 σ2 H6) acc' accV' → lcRun vs t c el (ds.drop (i + 1)) acc' env6 = .ok ys env2 →
          ∃ envi acc accV, (∀ j ∈ vs, obAt envi j = none) ∧ Rel K (un O N) (wipeC envi vs) (wipe σ vs) H6 ∧
            Step env1 σ H1 (wipeC envi vs) (wipe σ vs) H6 ∧ H6 p = some (.lst accV) ∧ RpL K (Av (un O N) (wipeC envi vs) (wipe σ vs) H6) acc accV ∧
            lcRun vs t c el (ds.drop (i + 1)) acc envi = .ok ys env2 := by
        intro env6 acc' accV' H6 hno6 r6 s6 h6 ra6 e6
        have no6 := isOb_none (by rw [hno6]; exact Bool.false_ne_true)
        obtain ⟨r8, s8⟩ := rel_wipe r6 no6
        rw [wipe_eq eq3 ht] at r8 s8
        exact ⟨env6, acc', accV', no6, r8, s6.trans s8, h6, s8.rpL ra6, e6⟩
      cases b with
      | true =>
        show tE K el σ2 H4 _
        simp only [if_pos] at ei
        obtain ⟨r, env5, e5, ei⟩ := Res.bind_ok ei
        refine ⟨un O N, env4, r4, r, env5, e5, fun y H5 r5 s5 rr5 => ?_⟩
        cases g5 : frz env5 r with
        | none => rw [g5] at ei; cases ei
        | some pr =>
          obtain ⟨d, env6⟩ := pr
          rw [g5] at ei
          simp only at ei
          obtain ⟨r6, s6, rp6⟩ := frz_ok r5 (hs1_of r4 rr5) rr5 g5
          have sB := (sA.trans s5).trans s6
          have acc5 : H5 p = some (.lst accV) := sB.kp p _ hacc p0
          have ra5 := sB.rpL racc
          split at ei
          · rename_i hlim
            refine ⟨accV, acc5, ?_, hl, ?_⟩
            · rw [ra5.length]; exact Nat.lt_of_lt_of_le hlim.1 (by decide)
            · have av6 : ∀ a u, Av (un O N) env6 σ2 H5 a u → Av (un O N) env6 σ2 (upd H5 p (.lst (accV ++ [y]))) a u := fun a u ⟨k1, k2, k3⟩ => by
                have ne : a ≠ p := fun z => k2 (by subst z; exact pN)
                refine ⟨k1, k2, ?_⟩
                rcases k3 with k3 | ⟨od, k3⟩
                · exact .inl ((upd_ne ne).trans k3)
                · exact .inr ⟨od, (upd_ne ne).trans k3⟩
              have r7 := rel_hidden (o' := .lst (accV ++ [y])) r6 pN trivial
              have sC := si.trans sB
              have s7 : Step env1 σ H1 env6 σ2 (upd H5 p (.lst (accV ++ [y]))) := by
                refine ⟨fun a o e n => ?_, sC.ow, fun a e => ?_, sC.io⟩
                · have ne : a ≠ p := fun z => by subst z; rw [hp] at e; cases e
                  exact (upd_ne ne).trans (sC.kp a o e n)
                · by_cases z : a = p
                  · subst z; rw [upd_same]; simp
                  · rw [upd_ne z]; exact sC.th a e
              exact goon hlim.2 r7 s7 upd_same ((RpL.mono av6 _ _ ra5).append (.cons (Rp.mono av6 _ _ rp6) .nil)) ei
          · cases ei
      | false =>
        show i + 1 ≤ ds.length ∧ _
        simp only [if_neg Bool.false_ne_true] at ei
        split at ei
        · rename_i hno4
          exact ⟨hl, goon hno4 r4 (si.trans sA) acc4 ra4 ei⟩
        · cases ei
  · have hi' : ds.drop i = [] := List.drop_eq_nil_of_le (by omega)
    rw [hi'] at ei
    simp only [lcRun] at ei
    cases ei
    refine .inl ⟨yl.stop i H' hS (by omega), ?_⟩
    obtain ⟨r9, s9⟩ := rel_rest (vs := vs) r1 no ri noi N0 si
    refine q _ _ r9 s9 ⟨p, rfl, hp, accV, hacc, ?_⟩
    refine RpL.mono (fun a u k => ⟨fun o => k.1 ?_, k.2⟩) _ _ racc
    obtain ⟨j, b, h1, h2⟩ := o
    by_cases hj : j ∈ vs
    · have := no j hj
      unfold obAt at h1 this
      cases e9 : (restC env1 env2 vs)[j]? with
      | none => rw [e9] at h1; cases h1
      | some c9 =>
        rw [e9, restC_in hj e9] at h1
        cases e8 : env1[j]? with
        | none => rw [e8] at h1; cases h1
        | some c8 => rw [e8] at h1 this; rw [show Option.bind (some c8) Cell.ob = c8.ob from rfl] at this; rw [show (some ((some c8).getD Cell.none)).bind Cell.ob = c8.ob from rfl, this] at h1; cases h1
    · refine ⟨j, b, ?_, by rw [wipe_at hj]; exact h2⟩
      unfold obAt at h1 ⊢
      rw [restC_out hj] at h1
      rw [wipeC_out hj]
      exact h1
/-- a list comprehension -/
theorem tE_lc {el : Cells → Res R} {c : Cells → Res Bool} {it : Cells → Res (List Fx.D)} {t : Tg} {vs : List Nat} {Q : VK} (ht : ∀ i ∈ t.slots, i ∈ vs)
    (h : tE K (doLc el t it c vs) σ H Q) : tLc (tI K it) (gD K t) (tT K c) (tE K el) vs σ H Q := by
  obtain ⟨O, env, rel, r, env', e, q⟩ := h
  obtain ⟨ds, env1, e1, e⟩ := Res.bind_ok e
  split at e
  · cases e
  rename_i hno
  have no := isOb_none hno
  obtain ⟨ys, env2, e2, e⟩ := Res.bind_ok e
  cases e
  exact ⟨O, env, rel, ds, env1, e1, fun J H1 r1 s1 yl => lc_rest ht r1 no yl e2 fun v H' r9 s9 rr => q v H' r9 (s1.trans s9) (rr.back fun p => s1.back)⟩
theorem tT_yes {Q : Bool → Hp → Prop} (h : tT K (fun env => .ok true env) σ H Q) : tYes σ H Q := by
  obtain ⟨O, env, rel, r, env', e, q⟩ := h
  cases e
  exact q H rel Step.refl
end
end Fx

set_option Elab.async false
set_option linter.all false
set_option maxRecDepth 100000
/-! Fx19: list(zip(a, b)) of two lists. -/
namespace Fx
open PySem PySem.Spec PyProof.Rows PySem.Calls PySem.W

/-- a walk over two lists under way; S: what may change besides -/
structure ZSt (z TI TO i1 i2 l1 l2 S : Addr) (xs ys : Array Value) (i : Nat) (h : Heap) : Prop where
  pr : IsPair h TI (.ref i1) (.ref i2)
  a1 : h.IsListIter i1 l1 i
  a2 : h.IsListIter i2 l2 i
  b1 : h.IsList l1 xs
  b2 : h.IsList l2 ys
  zz : (IsZip h z TI TO .none ∧ ∃ a b, IsPair h TO a b) ∨ ∃ T f oT, IsZipHeld h z TI TO T f ∧ h.get? T = some oT ∧ T ≠ z ∧ T ≠ i1 ∧ T ≠ i2 ∧ T ≠ S
/-- the pairs that were made -/
structure ZPs (xs ys : Array Value) (lo : Addr) (h : Heap) (as : List Addr) : Prop where
  rise : as.Pairwise (· < ·)
  above : ∀ a ∈ as, lo < a
  pairs : ∀ (j : Nat) (a : Addr), as[j]? = some a → ∃ x y, xs[j]? = some x ∧ ys[j]? = some y ∧ IsPair h a x y
section
variable {prog : Program} {w : World} {A : Around} {E : Value → Shared → Prop} {s : Shared} {z TI TO i1 i2 l1 l2 S : Addr} {xs ys : Array Value} {i : Nat} {h h' : Heap}
theorem ZSt.keep (st : ZSt z TI TO i1 i2 l1 l2 S xs ys i h) (n : S ≠ z ∧ S ≠ TI ∧ S ≠ TO ∧ S ≠ i1 ∧ S ≠ i2 ∧ S ≠ l1 ∧ S ≠ l2)
    (k : ∀ b o, b ≠ S → h.get? b = some o → h'.get? b = some o) : ZSt z TI TO i1 i2 l1 l2 S xs ys i h' := by
  obtain ⟨n1, n2, n3, n4, n5, n6, n7⟩ := n
  refine ⟨k _ _ (Ne.symm n2) st.pr, st.a1.at fun o e => k _ o (Ne.symm n4) e, st.a2.at fun o e => k _ o (Ne.symm n5) e, st.b1.at fun o e => k _ o (Ne.symm n6) e, st.b2.at fun o e => k _ o (Ne.symm n7) e, ?_⟩
  rcases st.zz with ⟨q, a, b, p⟩ | ⟨T, f, oT, q1, q2, q3, q4, q5, q6⟩
  · exact .inl ⟨k _ _ (Ne.symm n1) q, a, b, k _ _ (Ne.symm n3) p⟩
  · exact .inr ⟨T, f, oT, k _ _ (Ne.symm n1) q1, k _ _ q6 q2, q3, q4, q5, q6⟩
theorem zst_item {x y : Value} {Q : Option Value → Shared → Prop} (D : ZipApart z TI TO i1 i2 l1 l2) (st : ZSt z TI TO i1 i2 l1 l2 S xs ys i s.heap) (hS : S < s.heap.objs.size)
    (hx : xs[i]? = some x) (hy : ys[i]? = some y)
    (hQ : ∀ h', ZSt z TI TO i1 i2 l1 l2 S xs ys (i + 1) h' → IsPair h' s.heap.objs.size x y → h'.objs.size = s.heap.objs.size + 1 →
      (∀ b o, b ≠ z → b ≠ TO → b ≠ i1 → b ≠ i2 → s.heap.get? b = some o → h'.get? b = some o) → Q (some (.ref s.heap.objs.size)) { s with heap := h' }) :
    wpAny (model prog w) A (pyNext (.ref z)) Q E s :=
  by
  have far : ∀ {c o}, s.heap.get? c = some o → s.heap.objs.size ≠ c := fun e => Nat.ne_of_gt (Heap.lt_size e)
  have n1 : s.heap.objs.size ≠ i1 := let ⟨_, e, _⟩ := st.a1; far e
  have n2 : s.heap.objs.size ≠ i2 := let ⟨_, e, _⟩ := st.a2; far e
  rcases st.zz with ⟨q, a, b, p⟩ | ⟨T, f, oT, q1, q2, q3, q4, q5, q6⟩
  · refine wpAny_pyNext_zip_item D q st.pr p st.a1 st.a2 st.b1 st.b2 hx hy fun h' g1 g2 g3 g4 g5 g6 k => ?_
    refine hQ h' ⟨k _ _ D.TIz D.TITO D.TIi1 D.TIi2 st.pr, g3, g4, st.b1.at fun o e => k _ o D.l1z D.l1TO D.l1i1 D.l1i2 e, st.b2.at fun o e => k _ o D.l2z D.l2TO D.l2i1 D.l2i2 e, ?_⟩ g5 g6 k
    exact .inr ⟨s.heap.objs.size, false, _, g1, g5, far q, n1, n2, Nat.ne_of_gt hS⟩
  · refine wpAny_pyNext_zip_item_held D q1 q2 st.pr st.a1 st.a2 st.b1 st.b2 hx hy fun h' g1 g3 g4 g5 g6 k => ?_
    refine hQ h' ⟨k _ _ D.TIz D.TIi1 D.TIi2 st.pr, g3, g4, st.b1.at fun o e => k _ o D.l1z D.l1i1 D.l1i2 e, st.b2.at fun o e => k _ o D.l2z D.l2i1 D.l2i2 e, ?_⟩ g5 g6 fun b o e1 _ e3 e4 e => k b o e1 e3 e4 e
    exact .inr ⟨T, true, oT, g1, k _ _ q3 q4 q5 q2, q3, q4, q5, q6⟩
theorem zst_done {Q : Option Value → Shared → Prop} (hh : A.handled = none) (D : ZipApart z TI TO i1 i2 l1 l2) (st : ZSt z TI TO i1 i2 l1 l2 S xs ys i s.heap) (he : xs[i]? = none ∨ ys[i]? = none)
    (hQ : ∀ h', (∀ b o, b ≠ z → b ≠ TO → b ≠ i1 → b ≠ i2 → s.heap.get? b = some o → h'.get? b = some o) → Q none { s with heap := h' }) : wpAny (model prog w) A (pyNext (.ref z)) Q E s := by
  rcases st.zz with ⟨q, a, b, p⟩ | ⟨T, f, oT, q1, q2, q3, q4, q5, q6⟩
  · exact wpAny_pyNext_zip_end hh D q st.pr p st.a1 st.a2 st.b1 st.b2 he fun h' k => hQ h' k
  · exact wpAny_pyNext_zip_end_held hh D q1 q2 st.pr st.a1 st.a2 st.b1 st.b2 he fun h' k => hQ h' fun b o e1 _ e3 e4 e => k b o e1 e3 e4 e
end
/-! ### any walk that fills a list -/
section
variable {prog : Program} {w : World} {A : Around} {R : Result → Shared → Prop} {S : Addr} {it res : Value}
/-- how a built-in's body goes out: done, or on with another -/
abbrev Outs (prog : Program) (w : World) (A : Around) (R : Result → Shared → Prop) : Fin → Shared → Prop := fun fin st =>
  match fin with
  | .done f => R (.ok f) st
  | .again next => next.quiet = true ∧ codeAny (model prog w) A next R st
abbrev Errs (R : Result → Shared → Prop) : Value → Shared → Prop := fun e st => R (.error e) st
/-- the list at S -/
abbrev LAt (S : Addr) (acc : Array Value) (h : Heap) : Prop := ∃ c, h.get? S = some { cls := .type "list", data := .seq acc c }
abbrev pushAt (S : Addr) (u : Value) (h : Heap) : Heap := h.update S (Obj.mapSeq (·.push u))
theorem LAt.push {acc : Array Value} {h : Heap} (q : LAt S acc h) (u : Value) : LAt S (acc.push u) (pushAt S u h) := q.elim fun _ at_S => ⟨_, Heap.get?_update_self _ at_S rfl⟩
theorem pushAt_off {h : Heap} {u : Value} {b : Addr} {o : Obj} (ne : b ≠ S) (q : h.get? b = some o) : (pushAt S u h).get? b = some o := (Heap.get?_update_other _ _ ne.symm).trans q
theorem fill_loop {T : Nat → Array Value → Shared → Prop} {N : Nat} (small : N ≤ sizeLine) (count : ∀ i acc st, T i acc st → acc.size = i)
    (turn : ∀ (i : Nat) (acc : Array Value) (st : Shared) (E : Value → Shared → Prop) (Q : Option Value → Shared → Prop), T i acc st → i < N →
      (∀ u st', LAt S acc st'.heap → T (i + 1) (acc.push u) { st' with heap := pushAt S u st'.heap } → Q (some u) st') → wpAny (model prog w) A.in1 (pyNext it) Q E st)
    (stop : ∀ (acc : Array Value) (st : Shared) (E : Value → Shared → Prop) (Q : Option Value → Shared → Prop), T N acc st → (∀ st', R (.ok (.ret res)) st' → Q none st') → wpAny (model prog w) A.in1 (pyNext it) Q E st)
    (left i : Nat) (e : i + left = N) (acc : Array Value) (st : Shared) (t : T i acc st) : codeAny (model prog w) A (.builtin "list.extend.loop" ⟨[.ref S, it, res], []⟩) R st := by
  have opened : ∀ st', wpAny (model prog w) A.in1 (Builtin.«list.extend.loop» ⟨[.ref S, it, res], []⟩) (Outs prog w A R) (Errs R) st' → codeAny (model prog w) A (.builtin "list.extend.loop" ⟨[.ref S, it, res], []⟩) R st' :=
    fun st' body => codeAny_builtin PySem.F.entry_extend_loop (by rw [Around.under_plainId PySem.F.plain_extend_loop _]; exact body)
  induction left generalizing i acc st with
  | zero =>
    obtain rfl : i = N := e
    exact opened _ (wpAny_bind (stop acc st _ _ t fun st' r => wpAny_pure r))
  | succ left on =>
    have n := count i acc st t
    refine opened _ (wpAny_bind (turn i acc st _ _ t (by omega) fun u st' list t' => ?_))
    obtain ⟨c, at_S⟩ := list
    have rest := on (i + 1) (by omega) _ _ t'
    have quiet := plainId_quiet PySem.F.plain_extend_loop (args := ⟨[.ref S, it, res], []⟩)
    have s1 : acc.size ≤ sizeLine := by omega
    have s2 : (acc.push u).size ≤ sizeLine + 1 := by rw [Array.size_push]; omega
    exact wpAny_bind (wpAny_updateSeq at_S rfl (wpAny_pure ⟨quiet, rest⟩) s1 s2)
end
/-! ### a zip's walk that fills a list -/
structure ZGood (h₁ : Heap) (z TI TO i1 i2 l1 l2 S : Addr) (xs ys : Array Value) (i : Nat) (acc : Array Value) (h : Heap) (as : List Addr) : Prop where
  zip : ZSt z TI TO i1 i2 l1 l2 S xs ys i h
  kept : ∀ b o, b ≠ S → b ≠ z → b ≠ TO → b ≠ i1 → b ≠ i2 → h₁.get? b = some o → h.get? b = some o
  list : LAt S acc h
  refs : acc.toList = as.map Value.ref
  count : as.length = i
  made : ZPs xs ys S h as
section
variable {h₁ h h' : Heap} {z TI TO i1 i2 l1 l2 S a : Addr} {xs ys acc : Array Value} {i : Nat} {as : List Addr} {x y : Value}
/-- S and the walk's objects apart; S above those that change -/
structure SFar (z TI TO i1 i2 l1 l2 S : Addr) : Prop where
  ne : S ≠ z ∧ S ≠ TI ∧ S ≠ TO ∧ S ≠ i1 ∧ S ≠ i2 ∧ S ≠ l1 ∧ S ≠ l2
  lt : z < S ∧ TO < S ∧ i1 < S ∧ i2 < S
theorem SFar.above (f : SFar z TI TO i1 i2 l1 l2 S) (h : S < a) : a ≠ z ∧ a ≠ TO ∧ a ≠ i1 ∧ a ≠ i2 :=
  ⟨Nat.ne_of_gt (Nat.lt_trans f.lt.1 h), Nat.ne_of_gt (Nat.lt_trans f.lt.2.1 h), Nat.ne_of_gt (Nat.lt_trans f.lt.2.2.1 h), Nat.ne_of_gt (Nat.lt_trans f.lt.2.2.2 h)⟩
/-- the pairs lie above S, so what leaves all but the walk's objects alone keeps them -/
theorem ZPs.stay (q : ZPs xs ys S h as) (k : ∀ b o, S < b → h.get? b = some o → h'.get? b = some o) : ZPs xs ys S h' as where
  rise := q.rise
  above := q.above
  pairs := fun j b e => by
    obtain ⟨x, y, ex, ey, pr⟩ := q.pairs j b e
    exact ⟨x, y, ex, ey, k b _ (q.above b (List.mem_of_getElem? e)) pr⟩
/-- one pair more -/
theorem ZPs.snoc (q : ZPs xs ys S h as) (ex : xs[as.length]? = some x) (ey : ys[as.length]? = some y) (pr : IsPair h a x y) (top : ∀ b ∈ as, b < a) (over : S < a) : ZPs xs ys S h (as ++ [a]) where
  rise := by
    rw [List.pairwise_append]
    exact ⟨q.rise, List.pairwise_singleton _ a, fun b hb c hc => List.mem_singleton.mp hc ▸ top b hb⟩
  above := by
    simp only [List.forall_mem_append, List.forall_mem_cons]
    exact ⟨q.above, over, nofun⟩
  pairs := fun j b e => by
    rw [List.getElem?_append] at e
    split at e
    · exact q.pairs j b e
    · rename_i ge
      have : j - as.length = 0 := by
        rcases Nat.eq_zero_or_pos (j - as.length) with z | z
        · exact z
        · rw [List.getElem?_eq_none z] at e; cases e
      rw [this] at e
      cases e
      obtain rfl : j = as.length := by omega
      exact ⟨x, y, ex, ey, pr⟩
variable {prog : Program} {w : World} {A : Around} {s : Shared} {R : Result → Shared → Prop} {res : Value}
theorem zl_turn {E : Value → Shared → Prop} {Q : Option Value → Shared → Prop} {st : Shared} (D : ZipApart z TI TO i1 i2 l1 l2) (f : SFar z TI TO i1 i2 l1 l2 S) (g : ZGood h₁ z TI TO i1 i2 l1 l2 S xs ys i acc st.heap as)
    (lx : i < xs.size) (ly : i < ys.size)
    (q : ∀ (u : Value) (h2 : Heap) (as' : List Addr), LAt S acc h2 → ZGood h₁ z TI TO i1 i2 l1 l2 S xs ys (i + 1) (acc.push u) (pushAt S u h2) as' → Q (some u) { st with heap := h2 }) :
    wpAny (model prog w) A (pyNext (.ref z)) Q E st := by
  obtain ⟨n1, n2, n3, n4, n5, n6, n7⟩ := id f.ne
  obtain ⟨c, at_S⟩ := g.list
  have S_in := Heap.lt_size at_S
  refine zst_item D g.zip S_in (Array.getElem?_eq_getElem lx) (Array.getElem?_eq_getElem ly) fun h2 zip2 pair _ keep => ?_
  have list2 : LAt S acc h2 := ⟨c, keep S _ n1 n3 n4 n5 at_S⟩
  have tops : ∀ b ∈ as, b < st.heap.objs.size := fun b hb => by
    obtain ⟨j, e⟩ := List.mem_iff_getElem?.mp hb
    obtain ⟨_, _, _, _, pr⟩ := g.made.pairs j b e
    exact Heap.lt_size pr
  have made2 := (g.made.stay fun b o up e => by
    obtain ⟨a1, a2, a3, a4⟩ := f.above up
    exact pushAt_off (u := .ref st.heap.objs.size) (Nat.ne_of_gt up) (keep b o a1 a2 a3 a4 e)).snoc (a := st.heap.objs.size) (x := xs[i]) (y := ys[i]) (by rw [g.count, Array.getElem?_eq_getElem lx]) (by rw [g.count, Array.getElem?_eq_getElem ly])
      (pushAt_off (Nat.ne_of_gt S_in) pair) tops S_in
  refine q _ h2 (as ++ [st.heap.objs.size]) list2 ⟨zip2.keep f.ne fun b o ne e => pushAt_off ne e, fun b o m0 m1 m2 m3 m4 e => pushAt_off m0 (keep b o m1 m2 m3 m4 (g.kept b o m0 m1 m2 m3 m4 e)), list2.push _, ?_, ?_, made2⟩
  · rw [Array.toList_push, g.refs, List.map_append]; rfl
  · rw [List.length_append, g.count]; rfl
theorem zl_stop {E : Value → Shared → Prop} {Q : Option Value → Shared → Prop} {st : Shared} (calm : A.handled = none) (D : ZipApart z TI TO i1 i2 l1 l2) (f : SFar z TI TO i1 i2 l1 l2 S) (g : ZGood h₁ z TI TO i1 i2 l1 l2 S xs ys i acc st.heap as)
    (over : i = min xs.size ys.size) (q : ∀ h2, (∀ b o, b ≠ S → b ≠ z → b ≠ TO → b ≠ i1 → b ≠ i2 → h₁.get? b = some o → h2.get? b = some o) → LAt S acc h2 → ZPs xs ys S h2 as → Q none { st with heap := h2 }) :
    wpAny (model prog w) A (pyNext (.ref z)) Q E st := by
  obtain ⟨n1, n2, n3, n4, n5, n6, n7⟩ := id f.ne
  have out : xs[i]? = none ∨ ys[i]? = none := by
    rcases Nat.le_total xs.size ys.size with z | z
    · exact .inl (Array.getElem?_eq_none (by omega))
    · exact .inr (Array.getElem?_eq_none (by omega))
  refine zst_done calm D g.zip out fun h2 keep => q h2 (fun b o m0 m1 m2 m3 m4 e => keep b o m1 m2 m3 m4 (g.kept b o m0 m1 m2 m3 m4 e)) (g.list.imp fun c e => keep S _ n1 n3 n4 n5 e) (g.made.stay fun b o up e => ?_)
  obtain ⟨a1, a2, a3, a4⟩ := f.above up
  exact keep b o a1 a2 a3 a4 e
/-- what is asked of the end -/
abbrev ZEnd (h₁ : Heap) (z TI TO i1 i2 l1 l2 S : Addr) (xs ys : Array Value) (G : Heap → Nat → Prop) : Prop :=
  ∀ h' tk acc c as, (∀ b o, b ≠ S → b ≠ z → b ≠ TO → b ≠ i1 → b ≠ i2 → h₁.get? b = some o → h'.get? b = some o) → h'.get? S = some { cls := .type "list", dict := none, data := .seq acc c, slots := #[] } →
    as.length = min xs.size ys.size → ZPs xs ys S h' as → acc.toList = as.map Value.ref → G h' tk
theorem zl_loop (calm : A.handled = none) (D : ZipApart z TI TO i1 i2 l1 l2) (f : SFar z TI TO i1 i2 l1 l2 S) (fits : min xs.size ys.size ≤ sizeLine)
    (fin : ZEnd h₁ z TI TO i1 i2 l1 l2 S xs ys fun h' tk => R (.ok (.ret res)) { s with heap := h', toks := tk }) (tk : Nat) (g : ZGood h₁ z TI TO i1 i2 l1 l2 S xs ys 0 #[] h []) :
    codeAny (model prog w) A (.builtin "list.extend.loop" ⟨[.ref S, .ref z, res], []⟩) R { s with heap := h, toks := tk } := by
  refine fill_loop (T := fun i acc st => ∃ h tk as, st = { s with heap := h, toks := tk } ∧ ZGood h₁ z TI TO i1 i2 l1 l2 S xs ys i acc h as) fits ?count ?turn ?stop (min xs.size ys.size) 0 (Nat.zero_add _) #[] _ ⟨h, tk, [], rfl, g⟩
  case count =>
    rintro i acc _ ⟨h, tk, as, rfl, g⟩
    rw [← Array.length_toList, g.refs, List.length_map, g.count]
  case turn =>
    rintro i acc _ E Q ⟨h, tk, as, rfl, g⟩ lt q
    exact zl_turn (st := { s with heap := h, toks := tk }) D f g (by omega) (by omega) fun u h2 as' l g' => q u _ l ⟨_, tk, as', rfl, g'⟩
  case stop =>
    rintro acc _ E Q ⟨h, tk, as, rfl, g⟩ q
    exact zl_stop (st := { s with heap := h, toks := tk }) calm D f g rfl fun h2 kept l made => l.elim fun c at_S => q _ (fin h2 tk acc c as kept at_S g.count made g.refs)
theorem zip_no_len : typeLookup (.type "zip") "__len__" = pure none := am_miss_of_fast (by decide +kernel)
theorem zip_no_hint : typeLookup (.type "zip") "__length_hint__" = pure none := am_miss_of_fast (by decide +kernel)
/-- a zip tells no length -/
theorem zip_hint {E : Value → Shared → Prop} {Q : Bool → Shared → Prop} (isZ : s.TypeIs (.ref z) "zip") (q : Q true s) : wpAny (model prog w) A (Builtin.List.listLengthHint (.ref z)) Q E s := by
  delta Builtin.List.listLengthHint
  exact wpAny_bind (wpAny_specialOf isZ zip_no_len (wpAny_bind (wpAny_specialOf isZ zip_no_hint (wpAny_pure q))))
/-- a fresh zip and a list to be filled -/
structure ZFresh (z TI TO i1 i2 l1 l2 : Addr) (xs ys : Array Value) (h : Heap) : Prop where
  own : IsZip h z TI TO .none
  ins : IsPair h TI (.ref i1) (.ref i2)
  out : ∃ a b, IsPair h TO a b
  it1 : h.IsListIter i1 l1 0
  it2 : h.IsListIter i2 l2 0
  at1 : h.IsList l1 xs
  at2 : h.IsList l2 ys
theorem ZFresh.st (q : ZFresh z TI TO i1 i2 l1 l2 xs ys h) : ZSt z TI TO i1 i2 l1 l2 S xs ys 0 h := ⟨q.ins, q.it1, q.it2, q.at1, q.at2, .inl ⟨q.own, q.out⟩⟩
theorem ZFresh.keep (q : ZFresh z TI TO i1 i2 l1 l2 xs ys h) (f : SFar z TI TO i1 i2 l1 l2 S) (k : ∀ b o, b ≠ S → h.get? b = some o → h'.get? b = some o) : ZFresh z TI TO i1 i2 l1 l2 xs ys h' := by
  obtain ⟨n1, n2, n3, n4, n5, n6, n7⟩ := f.ne
  exact ⟨k _ _ n1.symm q.own, k _ _ n2.symm q.ins, q.out.imp fun _ y => y.imp fun _ y => k _ _ n3.symm y, q.it1.at fun o => k _ o n4.symm, q.it2.at fun o => k _ o n5.symm, q.at1.at fun o => k _ o n6.symm, q.at2.at fun o => k _ o n7.symm⟩
theorem zl_extend {c₀ : Nat} (calm : A.handled = none) (D : ZipApart z TI TO i1 i2 l1 l2) (f : SFar z TI TO i1 i2 l1 l2 S) (fits : min xs.size ys.size ≤ sizeLine) (at_S : s.heap.get? S = some { cls := .type "list", data := .seq #[] c₀ })
    (q : ZFresh z TI TO i1 i2 l1 l2 xs ys s.heap) (fin : ZEnd s.heap z TI TO i1 i2 l1 l2 S xs ys fun h' tk => R (.ok (.ret res)) { s with heap := h', toks := tk }) :
    wpAny (model prog w) A.in1 (Builtin.List.listExtendWith (.ref S) (.ref z) res) (Outs prog w A R) (Errs R) s := by
  have isZ : s.TypeIs (.ref z) "zip" := ⟨_, q.own, rfl⟩
  have other : Builtin.List.listSameRef (.ref S) (.ref z) = false := by simp [Builtin.List.listSameRef, f.ne.1]
  have noL : (Value.type "zip" == Value.type "list") = false := by decide
  have noT : (Value.type "zip" == Value.type "tuple") = false := by decide
  have up := Heap.get?_update_self (Obj.mapSeq (·.push Value.none)) at_S rfl
  have down := Heap.get?_update_self (Obj.mapSeq (·.pop)) up rfl
  have rest : ∀ b o, b ≠ S → s.heap.get? b = some o → ((s.heap.update S (Obj.mapSeq (·.push Value.none))).update S (Obj.mapSeq (·.pop))).get? b = some o := fun b o ne e => by
    rw [Heap.get?_update_other _ _ ne.symm, Heap.get?_update_other _ _ ne.symm]
    exact e
  have quiet := plainId_quiet PySem.F.plain_extend_loop (args := ⟨[.ref S, .ref z, res], []⟩)
  have loop := zl_loop (prog := prog) (w := w) (R := R) (res := res) calm D f fits fin s.toks ⟨(q.keep f rest).st, fun b o m0 _ _ _ _ e => rest b o m0 e, ⟨_, down⟩, rfl, rfl, ⟨.nil, nofun, fun j a e => by simp at e⟩⟩
  delta Builtin.List.listExtendWith
  refine wpAny_bind (wpAny_typeOf (T := "zip") isZ ?_)
  simp only [other, noL, noT, Bool.or_false, Bool.false_eq_true, if_false]
  refine wpAny_bind (wpAny_pyIter_zip q.own (wpAny_bind (wpAny_holding (zip_hint isZ ?_))))
  simp only [Bool.true_or, if_true]
  refine wpAny_bind (wpAny_rule (wpAny_bind (wpAny_bind (wpAny_updateSeq at_S rfl ?_))))
  exact wpAny_updateSeq (hz := by seq_fits) up rfl (wpAny_pure ⟨quiet, loop⟩)
theorem zl_init (calm : A.handled = none) (D : ZipApart z TI TO i1 i2 l1 l2) (f : SFar z TI TO i1 i2 l1 l2 S) (fits : min xs.size ys.size ≤ sizeLine) (at_S : s.heap.get? S = some { cls := .type "list", data := .seq #[] })
    (q : ZFresh z TI TO i1 i2 l1 l2 xs ys s.heap) (fin : ZEnd s.heap z TI TO i1 i2 l1 l2 S xs ys fun h' tk => R (.ok (.ret .none)) { s with heap := h', toks := tk }) :
    wpAny (model prog w) A.in1 (Builtin.«list.__init__» ⟨[.ref S, .ref z], []⟩) (Outs prog w A R) (Errs R) s := by
  have empty := Heap.get?_update_self (Obj.mapSeq (fun _ => (#[] : Array Value))) at_S rfl
  have rest : ∀ b o, b ≠ S → s.heap.get? b = some o → (s.heap.update S (Obj.mapSeq (fun _ => (#[] : Array Value)))).get? b = some o := fun b o ne e => by
    rw [Heap.get?_update_other _ _ ne.symm]
    exact e
  have ext := zl_extend (prog := prog) (w := w) (A := A) (R := R) (s := { s with heap := s.heap.update S (Obj.mapSeq (fun _ => (#[] : Array Value))) }) calm D f fits empty (q.keep f rest)
    fun h' tk acc c as k => fin h' tk acc c as fun b o m0 m1 m2 m3 m4 e => k b o m0 m1 m2 m3 m4 (rest b o m0 e)
  refine wpAny_bind (?_ : wpAny _ _ (Builtin.List.listItems (.ref S)) _ _ s)
  delta Builtin.List.listItems
  exact wpAny_bind (wpAny_seqItems at_S rfl (wpAny_pure (wpAny_bind (wpAny_updateSeq at_S rfl (wpAny_bind (wpAny_letGo ext))))))
theorem zl_call {E : Value → Shared → Prop} {Q : Value → Shared → Prop} (calm : A.handled = none) (D : ZipApart z TI TO i1 i2 l1 l2) (fits : min xs.size ys.size ≤ sizeLine) (q : ZFresh z TI TO i1 i2 l1 l2 xs ys s.heap)
    (hQ : ∀ h' tk acc c as, (∀ b o, b ≠ z → b ≠ TO → b ≠ i1 → b ≠ i2 → s.heap.get? b = some o → h'.get? b = some o) → h'.get? s.heap.objs.size = some { cls := .type "list", dict := none, data := .seq acc c, slots := #[] } →
      as.length = min xs.size ys.size → ZPs xs ys s.heap.objs.size h' as → acc.toList = as.map Value.ref → Q (.ref s.heap.objs.size) { s with heap := h', toks := tk }) :
    wpAny (model prog w) A (call (.type "list") [.ref z]) Q E s := by
  have lt : ∀ {c o}, s.heap.get? c = some o → c < s.heap.objs.size := Heap.lt_size
  have f : SFar z TI TO i1 i2 l1 l2 s.heap.objs.size := by
    obtain ⟨_, _, e3⟩ := q.out
    obtain ⟨_, e4, _⟩ := id q.it1
    obtain ⟨_, e5, _⟩ := id q.it2
    obtain ⟨_, e6, _⟩ := id q.at1
    obtain ⟨_, e7, _⟩ := id q.at2
    exact ⟨⟨Nat.ne_of_gt (lt q.own), Nat.ne_of_gt (lt q.ins), Nat.ne_of_gt (lt e3), Nat.ne_of_gt (lt e4), Nat.ne_of_gt (lt e5), Nat.ne_of_gt (lt e6), Nat.ne_of_gt (lt e7)⟩, lt q.own, lt e3, lt e4, lt e5⟩
  let s₁ : Shared := { s with heap := s.heap.push { cls := .type "list", data := .seq #[] } }
  have at_S : s₁.heap.get? s.heap.objs.size = some { cls := .type "list", data := .seq #[] } := Heap.get?_push_size _ rfl
  have old : ∀ b o, s.heap.get? b = some o → s₁.heap.get? b = some o := fun b o => Heap.get?_push_of_some _
  refine callType_codes PySem.F.called_list (PySem.F.typeCall_list_1 _) PySem.F.entry_list_init (code_list_new (Q₁ := fun obj t => obj = .ref s.heap.objs.size ∧ t = s₁) _ ⟨rfl, rfl⟩) ?_
  rintro _ _ ⟨rfl, rfl⟩
  refine ⟨⟨_, at_S, rfl⟩, PySem.F.args_list_init_2 _ _, zl_init (A := A.in1) (s := s₁) calm D f fits at_S (q.keep f fun b o _ e => old b o e) fun h' tk acc c as k g6 g7 g8 g9 => ⟨rfl, ?_⟩⟩
  exact hQ h' tk acc c as (fun b o m1 m2 m3 m4 e => k b o (Nat.ne_of_lt (lt e)) m1 m2 m3 m4 (old b o e)) g6 g7 g8 g9
end
end Fx

set_option Elab.async false
set_option linter.all false
set_option maxRecDepth 100000
/-! Fx20: list(zip(a, b)): the rule, the reading. -/
namespace Fx
open L2 PyProof.Rows PySem PySem.Spec

/-- pairs tracked at their addresses -/
def putP : Hp → List Addr → List (V × V) → Hp
  | H, a :: as, p :: ps => putP (upd H a (.tup [p.1, p.2])) as ps
  | H, _, _ => H
theorem putP_off {b : Addr} : ∀ {as : List Addr} {ps : List (V × V)} {H : Hp}, b ∉ as → putP H as ps b = H b
  | [], _, _, _ => rfl
  | _ :: _, [], _, _ => rfl
  | a :: as, p :: ps, H, h => by
    have e : putP H (a :: as) (p :: ps) b = putP (upd H a (.tup [p.1, p.2])) as ps b := rfl
    rw [e, putP_off fun z => h (List.mem_cons_of_mem _ z), upd_ne fun z => h (by rw [z]; exact List.mem_cons_self)]
theorem putP_at : ∀ {as : List Addr} {ps : List (V × V)} {H : Hp} {j : Nat} {t : Addr} {p : V × V}, as.Nodup → as[j]? = some t → ps[j]? = some p → putP H as ps t = some (.tup [p.1, p.2])
  | [], _, _, _, _, _, _, h, _ => by simp at h
  | _ :: _, [], _, _, _, _, _, _, h => by simp at h
  | a :: as, q :: ps, H, 0, t, p, n, h1, h2 => by
    simp at h1 h2
    subst h1
    subst h2
    have e : putP H (a :: as) (q :: ps) a = putP (upd H a (.tup [q.1, q.2])) as ps a := rfl
    rw [e, putP_off (List.nodup_cons.mp n).1, upd_same]
  | a :: as, q :: ps, H, j + 1, t, p, n, h1, h2 => by
    have e : putP H (a :: as) (q :: ps) t = putP (upd H a (.tup [q.1, q.2])) as ps t := rfl
    rw [e]
    exact putP_at (j := j) (List.nodup_cons.mp n).2 (by simpa using h1) (by simpa using h2)
theorem refs_vals : ∀ as : List Addr, Vals (as.map V.ref) (as.map Value.ref)
  | [] => .nil
  | _ :: as => .cons rfl (refs_vals as)
section
variable {X : Cx}
theorem pairs_laid {pns : List (Addr × Obj)} {σ : L2.St} {H : Hp} {s : Shared} {h' : Heap} {tk : Nat} {S : Addr} {vx vy : List V} {ux uy : List Value} {acc : Array Value} {c : Nat} {as : List Addr} (I : Inv X pns σ H s)
    (rx : Vals vx ux) (ry : Vals vy uy) (hl : as.length = min vx.length vy.length) (hlim : vx.length ≤ sizeLine) (hS0 : s.heap.objs.size ≤ S)
    (hk : ∀ b o, s.heap.get? b = some o → h'.get? b = some o) (hS : h'.get? S = some { cls := .type "list", dict := none, data := .seq acc c, slots := #[] })
    (hG : ZPs ux.toArray uy.toArray S h' as) (hacc : acc.toList = as.map Value.ref) :
    ∃ H' : Hp, Same H H' ∧ H S = none ∧ (∀ t ∈ as, H t = none) ∧ H' S = some (.lst (as.map V.ref)) ∧
      (∀ (j : Nat) (t : Addr), as[j]? = some t → ∃ x y, vx[j]? = some x ∧ vy[j]? = some y ∧ H' t = some (.tup [x, y])) ∧ Inv X pns σ H' { s with heap := h', toks := tk } := by
  have nd : as.Nodup := hG.rise.imp fun {_ _} less => Nat.ne_of_lt less
  have nS : S ∉ as := fun z => Nat.lt_irrefl _ (hG.above _ z)
  have new : ∀ t ∈ as, H t = none := fun t ht => I.hok.fresh (Nat.le_trans hS0 (Nat.le_of_lt (hG.above t ht)))
  have newS : H S = none := I.hok.fresh hS0
  let ps := vx.zip vy
  let H' := putP (upd H S (.lst (as.map V.ref))) as ps
  have off : ∀ b, b ∉ as → b ≠ S → H' b = H b := fun b h1 h2 => by
    show putP _ as ps b = _
    rw [putP_off h1, upd_ne h2]
  have kp : Same H H' := fun b u e => by
    rw [off b (fun z => by rw [new b z] at e; cases e) fun z => by rw [z, newS] at e; cases e]
    exact e
  have eS : H' S = some (.lst (as.map V.ref)) := by
    show putP _ as ps S = _
    rw [putP_off nS, upd_same]
  have lk : ∀ (j : Nat) (t : Addr), as[j]? = some t → ∃ x y, vx[j]? = some x ∧ vy[j]? = some y ∧ H' t = some (.tup [x, y]) := fun j t hj => by
    have hj' : j < as.length := (List.getElem?_eq_some_iff.mp hj).1
    have h1 : j < vx.length := by omega
    have h2 : j < vy.length := by omega
    refine ⟨vx[j], vy[j], List.getElem?_eq_getElem h1, List.getElem?_eq_getElem h2, putP_at (p := (vx[j], vy[j])) nd hj ?_⟩
    show (vx.zip vy)[j]? = _
    rw [List.getElem?_eq_getElem (by rw [List.length_zip]; omega), List.getElem_zip]
  have low : ∀ b o, s.heap.get? b = some o → b ∉ as ∧ b ≠ S := fun b o e =>
    have hb := Heap.lt_size e
    ⟨fun z => Nat.lt_irrefl _ (Nat.lt_of_lt_of_le (Nat.lt_trans hb (Nat.lt_of_le_of_lt hS0 (hG.above b z))) (Nat.le_refl _)), fun z => Nat.lt_irrefl _ (Nat.lt_of_lt_of_le (z ▸ hb) hS0)⟩
  refine ⟨H', kp, newS, new, eS, lk, ?_⟩
  refine I.call' (ch := []) rfl ⟨fun b o q _ _ _ => hk b o q, fun b o q _ _ _ => ⟨o.slots, hk b o q⟩, fun b o q n _ => ?_, fun b o q _ => ⟨o, hk b o q⟩, fun b xs q => kp b _ q, fun b o u q => kp b _ q,
    fun b ps q => ⟨#[], by rw [kp b _ q]; simp⟩⟩ (fun b u q => ?_) I.bare fun b z => by simp at z
  · rw [off b (low b o q).1 (low b o q).2]
    exact n
  · by_cases hb : b ∈ as
    · obtain ⟨j, hj⟩ := List.mem_iff_getElem?.mp hb
      obtain ⟨x, y, e1, e2, e3⟩ := lk j b hj
      have q : H' b = some u := q
      rw [e3] at q
      cases q
      obtain ⟨ua, ub, f1, f2, f3⟩ := hG.pairs j b hj
      obtain ⟨wa, g1, g2⟩ := rx.get e1
      obtain ⟨wb, g3, g4⟩ := ry.get e2
      have e4 : ua = wa := by
        have : ux[j]? = some ua := by simpa using f1
        rw [g1] at this; cases this; rfl
      have e5 : ub = wb := by
        have : uy[j]? = some ub := by simpa using f2
        rw [g3] at this; cases this; rfl
      subst e4
      subst e5
      exact ⟨by show 2 ≤ sizeLine; decide, [ua, ub], .cons g2 (.cons g4 .nil), ⟨_, f3, rfl, _, rfl⟩⟩
    · by_cases hb2 : b = S
      · subst hb2
        have q : H' b = some u := q
        rw [eS] at q
        cases q
        refine ⟨by rw [List.length_map]; omega, acc.toList, c, by rw [hacc]; exact refs_vals as, ?_⟩
        rw [Array.toArray_toList]
        exact hS
      · have q : H' b = some u := q
        rw [off b hb hb2] at q
        refine (I.hok b u q).stay (fun d v _ => hk d v) ?_ ?_
        · exact fun d => kp d _
        · exact fun d _ => kp d _
def tColZ (K : PySem.W.Frag) (ta : TA) : TE := fun σ H Q => ta σ H fun vs H1 => ∃ a b xs ys, vs = [.ref a, .ref b] ∧ SqL K H1 a xs ∧ SqL K H1 b ys ∧
  ∀ (H' : Hp) (p : Addr) (ts : List Addr), Same H1 H' → H1 p = none → (∀ t ∈ ts, H1 t = none) → H' p = some (.lst (ts.map V.ref)) → ts.length = min xs.length ys.length →
    (∀ (j : Nat) (t : Addr), ts[j]? = some t → ∃ x y, xs[j]? = some x ∧ ys[j]? = some y ∧ H' t = some (.tup [x, y])) → Q (.ref p) H'
theorem pe_colZ {a b : Expr} {ta : TA} {p p2 pos pos2 : Pos} (hc : X.calm = true) (hg : Gl X "list") (hm : X.mg "list" = none) (hg2 : Gl X "zip") (hm2 : X.mg "zip" = none) (ha : PA X [a, b] ta)
    (hs : starEach [a, b] X.env = (false, eval a X.env) :: starEach [b] X.env) (hpl : (backTo pos2 (starEach [b] X.env)).any (·.1) = false) :
    PE X (.Call (.Name "list" p) [.Call (.Name "zip" p2) [a, b] [] pos2] [] pos) (tColZ X.K ta) := by
  constructor
  intro pns s σ H Q I h
  have hlist : bootBuiltins "list" = some (.type "list") := by decide +kernel
  have hzip : bootBuiltins "zip" = some (.type "zip") := by decide +kernel
  refine wpAny_Call_Name_kw (ld_blt I hg hm hlist ?_)
  have hst : starEach [.Call (.Name "zip" p2) [a, b] [] pos2] X.env = (false, eval (.Call (.Name "zip" p2) [a, b] [] pos2) X.env) :: starEach [] X.env := rfl
  refine PyProof.Rows.callWith_type1 ?_ hst rfl
  rw [hst]
  show wpAny _ _ (spliced ((false, eval (.Call (.Name "zip" p2) [a, b] [] pos2) X.env) :: backTo pos (starEach [] X.env))) _ _ s
  refine Calls.spliced_cons ?_
  refine wpAny_Call_Name_kw (ld_blt I hg2 hm2 hzip ?_)
  refine PyProof.Rows.callWith_type1 (thn (ha.run pos2 pns s σ H _ I h) fun us s1 ⟨vs, H1, I1, r1, la, lb, xs, ys, ex, hqx, hqy, q⟩ => ?_) hs hpl
  subst ex
  obtain ⟨u1, u2, rfl, r2, r3⟩ := r1.two
  cases r2
  cases r3
  obtain ⟨ux, rv, p1, hlx⟩ := I1.list hqx
  obtain ⟨uy, rv2, p3, hly⟩ := I1.list hqy
  refine call_zip_2 p1.isList p3.isList fun h' hz hTI hTO h1 h2 hsz hk => ?_
  refine Calls.spliced_nil ?_
  have hl : min ux.toArray.size uy.toArray.size = min xs.length ys.length := by
    rw [List.size_toArray, List.size_toArray, rv.length, rv2.length]
  have ap := PySem.W.ktu_apart s1.heap.objs.size la lb p1.lt p3.lt
  refine zl_call (s := { s1 with heap := h' }) (I1.ok.hd hc) ap (by rw [hl]; exact Nat.le_trans (Nat.min_le_left _ _) hlx) ⟨hz, hTI, ⟨_, _, hTO⟩, h1, h2, p1.isList.at fun o e => hk _ o e, p3.isList.at fun o e => hk _ o e⟩
    fun h2' tk acc c as k g1 g2 g3 g4 => ?_
  have up : ∀ b o, s1.heap.get? b = some o → h2'.get? b = some o := fun b o e => by
    have hb := Heap.lt_size e
    have nb : ∀ n, b ≠ s1.heap.objs.size + n := fun n z => Nat.lt_irrefl _ (Nat.lt_of_lt_of_le (z ▸ hb) (Nat.le_add_right _ _))
    exact k b o (nb 4) (nb 3) (nb 0) (nb 1) (hk b o e)
  obtain ⟨H', k1, k2, k3, k4, k5, J⟩ := pairs_laid (tk := tk) (S := h'.objs.size) I1 rv rv2 (g2.trans hl) hlx (by rw [hsz]; exact Nat.le_add_right _ _) up g1 g3 g4
  exact ⟨.ref _, H', J, rfl, q H' _ as k1 k2 k3 k4 (g2.trans hl) k5⟩
end
section
variable {K : PySem.W.Frag} {σ : L2.St} {H : Hp}
theorem rpl_refs {A A' : RdA} {ts : List Addr} {xs ys : List V} {ds es : List D} (hA : ∀ a u, A a u → A' a u) (hr : RpL K A ds xs) (hr' : RpL K A es ys)
    (hl : ts.length = min xs.length ys.length) (ht : ∀ (j : Nat) (t : Addr), ts[j]? = some t → ∃ x y, xs[j]? = some x ∧ ys[j]? = some y ∧ A' t (.tup [x, y])) : RpL K A' (zipL ds es) (ts.map V.ref) := by
  induction ts generalizing xs ys ds es with
  | nil =>
    have : (zipL ds es).length = 0 := by
      rw [zip_len, ← hr.length, ← hr'.length]
      simpa using hl.symm
    rw [List.length_eq_zero_iff.mp this]
    simp [RpL]
  | cons t ts ih =>
    obtain ⟨x, y, h1, h2, h3⟩ := ht 0 t (by simp)
    cases ds with
    | nil => simp only [RpL] at hr; subst hr; simp at h1
    | cons d ds =>
      cases es with
      | nil => simp only [RpL] at hr'; subst hr'; simp at h2
      | cons e es =>
        simp only [RpL] at hr hr'
        obtain ⟨x', xr, rfl, hx, hxr⟩ := hr
        obtain ⟨y', yr, rfl, hy, hyr⟩ := hr'
        simp at h1 h2
        subst h1
        subst h2
        rw [List.map_cons]
        refine RpL.cons ?_ (ih hxr hyr (by simp at hl ⊢; omega) fun j t hj => ?_)
        · simp only [Rp]
          exact ⟨t, [x', y'], rfl, .inl h3, .cons (Rp.mono hA _ _ hx) (.cons (Rp.mono hA _ _ hy) .nil)⟩
        · obtain ⟨x, y, q1, q2, q3⟩ := ht (j + 1) t (by simpa using hj)
          exact ⟨x, y, by simpa using q1, by simpa using q2, q3⟩
theorem tE_colZ {f : Cells → Res (List R)} {Q : VK} (h : tE K (doCol (doItN zipD2 f)) σ H Q) : tColZ K (tA K f) σ H Q := by
  obtain ⟨O, env, rel, r, env', e, q⟩ := h
  obtain ⟨ds, env1, e1, e⟩ := Res.bind_ok e
  obtain ⟨rs, env2, e2, e1⟩ := Res.bind_ok e1
  split at e
  · cases e
    refine ⟨O, env, rel, rs, env2, e2, fun vs H1 r1 s1 rr ap => ?_⟩
    cases g : frzs env2 rs with
    | none => rw [g] at e1; cases e1
    | some p =>
      obtain ⟨xs, env3⟩ := p
      rw [g] at e1
      obtain ⟨e3, e4⟩ := ofO_ok e1
      subst e4
      obtain ⟨r2, s2, rp⟩ := frzs_ok r1 (hs_of rel rr) ap rr g
      unfold zipD2 at e3
      split at e3
      · rename_i ya yb
        cases e3
        simp only [RpL, Rp] at rp
        obtain ⟨x, r, rfl, ⟨a, us, rfl, ha, hr⟩, y, r', rfl, ⟨b, ws, rfl, hb, hr'⟩, rfl⟩ := rp
        refine ⟨a, b, us, ws, rfl, (ha.heap fun _ _ k => k.2.2).seq, (hb.heap fun _ _ k => k.2.2).seq, fun H' p ts g1 g2 g3 g4 g5 g6 => ?_⟩
        have np : ∀ a, nw (.new (.lst (zipL ya yb))) (.ref p) a → a = p := fun a z => by
          have z : V.ref p = .ref a := z
          cases z; rfl
        have r3 := r2.growN (N := nw (.new (.lst (zipL ya yb))) (.ref p)) g1 fun a z => by rw [np a z]; exact ⟨g2, _, g4, trivial⟩
        refine q _ H' r3 ((s1.trans s2).trans (Step.grow g1)) ⟨p, rfl, (s1.trans s2).back g2, ts.map V.ref, g4, ?_⟩
        refine rpl_refs (fun a u k => (Step.grow g1).avN (fun a z => by rw [np a z]; exact g2) a u k) hr hr' g5 fun j t hj => ?_
        obtain ⟨x, y, q1, q2, q3⟩ := g6 j t hj
        have ht := g3 t (List.mem_of_getElem? hj)
        refine ⟨x, y, q1, q2, r2.fresh_not ht, fun z => z.elim (fun z => r2.hidT z ht) fun z => ?_, .inl q3⟩
        have := np t z
        subst this
        rw [g4] at q3
        cases q3
      · cases e3
  · cases e
end
end Fx

set_option Elab.async false
set_option linter.all false
set_option maxRecDepth 100000
/-! Fx27: sorted, dict(pairs), str(n), join. -/
namespace Fx
open L2 PyProof.Rows PySem PySem.Spec
/-! ### sorting -/
section
variable {α : Type} {lt : α → α → Bool} {le : α → α → Prop}
theorem insBy_perm (x : α) : ∀ ys : List α, (insBy lt x ys).Perm (x :: ys)
  | [] => List.Perm.refl _
  | y :: r => by
    unfold insBy
    split
    · exact List.Perm.refl _
    · exact ((insBy_perm x r).cons y).trans (List.Perm.swap x y r)
theorem sortBy_perm : ∀ xs : List α, (sortBy lt xs).Perm xs
  | [] => List.Perm.refl _
  | x :: r => (insBy_perm x _).trans ((sortBy_perm r).cons x)
theorem insBy_le (h1 : ∀ a b, lt a b = true → le a b) (h2 : ∀ a b, lt a b = false → le b a) (tr : ∀ a b c, le a b → le b c → le a c) (x : α) : ∀ ys : List α, ys.Pairwise le → (insBy lt x ys).Pairwise le
  | [], _ => by simp [insBy]
  | y :: r, h => by
    unfold insBy
    rw [List.pairwise_cons] at h
    split
    · rename_i e
      refine List.pairwise_cons.mpr ⟨fun z hz => ?_, List.pairwise_cons.mpr h⟩
      obtain rfl | hz := List.mem_cons.mp hz
      · exact h1 _ _ e
      · exact tr _ _ _ (h1 _ _ e) (h.1 z hz)
    · rename_i e
      refine List.pairwise_cons.mpr ⟨fun z hz => ?_, insBy_le h1 h2 tr x r h.2⟩
      rcases List.mem_cons.mp ((insBy_perm x r).mem_iff.mp hz) with rfl | hz
      · exact h2 _ _ (by simpa using e)
      · exact h.1 z hz
theorem sortBy_le (h1 : ∀ a b, lt a b = true → le a b) (h2 : ∀ a b, lt a b = false → le b a) (tr : ∀ a b c, le a b → le b c → le a c) : ∀ xs : List α, (sortBy lt xs).Pairwise le
  | [] => by simp [sortBy]
  | x :: r => insBy_le h1 h2 tr x _ (sortBy_le h1 h2 tr r)
end
theorem sort_int {ns ns' : List Int} (p : ns'.Perm ns) (h : ns'.Pairwise (· ≤ ·)) : ns' = sortBy (fun a b => decide (a ≤ b)) ns := by
  refine List.Perm.eq_of_pairwise (le := (· ≤ ·)) (fun a b _ _ h1 h2 => Int.le_antisymm h1 h2) h ?_ (p.trans (sortBy_perm ns).symm)
  exact sortBy_le (lt := fun a b => decide (a ≤ b)) (le := (· ≤ ·)) (fun a b e => of_decide_eq_true e) (fun a b e => by have := of_decide_eq_false e; omega) (fun a b c => Int.le_trans) ns
theorem lt_cps : ∀ a b : List Nat, ltCps a b = decide (a < b)
  | [], [] => rfl
  | [], b :: bs => by simp [ltCps]
  | a :: as, [] => by simp [ltCps]
  | a :: as, b :: bs => by
    rw [ltCps, lt_cps as bs, Bool.eq_iff_iff]
    simp only [Bool.or_eq_true, Bool.and_eq_true, decide_eq_true_eq, beq_iff_eq, List.cons_lt_cons_iff]
theorem rise_pw : ∀ {ss : List Str} {p : Str}, risingS p ss = true → (p :: ss).Pairwise (fun a b => a.cps.toList ≤ b.cps.toList)
  | [], p, _ => by simp
  | x :: r, p, h => by
    unfold risingS at h
    rw [Bool.and_eq_true] at h
    have h1 : p.cps.toList ≤ x.cps.toList := by
      have := h.1
      rw [lt_cps] at this
      simpa using this
    have h2 := rise_pw h.2
    refine List.pairwise_cons.mpr ⟨fun z hz => ?_, h2⟩
    obtain rfl | hz := List.mem_cons.mp hz
    · exact h1
    · exact List.le_trans h1 ((List.pairwise_cons.mp h2).1 z hz)
theorem sorted_pw {ss : List Str} (h : sortedS ss = true) : ss.Pairwise (fun a b => a.cps.toList ≤ b.cps.toList) := by
  cases ss with
  | nil => simp
  | cons x r => exact rise_pw h
theorem mkS_cps (l : List Nat) : (mkS l).cps.toList = l := by simp [mkS]
theorem mkS_of (s : Str) : mkS s.cps.toList = s := by
  show (⟨s.cps.toList.toArray⟩ : Str) = s
  simp
abbrev sortT (ss : List (List Nat)) : List (List Nat) := sortBy (fun a b => !ltS b a) ss
theorem sortT_le (ss : List (List Nat)) : (sortT ss).Pairwise (· ≤ ·) :=
  sortBy_le (lt := fun a b => !ltS b a) (le := (· ≤ ·)) (fun a b e => by unfold ltS at e; simpa using e) (fun a b e => by unfold ltS at e; exact List.le_of_lt (by simpa using e)) (fun a b c => List.le_trans) ss
theorem sort_strs {ss : List (List Nat)} {ys : List Str} (p : ys.Perm (ss.map mkS)) (h : sortedS ys = true) : ys = (sortT ss).map mkS := by
  have hp : (ys.map fun s => s.cps.toList).Perm ss := by
    have := p.map fun s => s.cps.toList
    rw [List.map_map] at this
    have e : ss.map ((fun s : Str => s.cps.toList) ∘ mkS) = ss := by
      have : ∀ l ∈ ss, ((fun s : Str => s.cps.toList) ∘ mkS) l = id l := fun l _ => mkS_cps l
      rw [List.map_congr_left this, List.map_id]
    rwa [e] at this
  have e : (ys.map fun s => s.cps.toList) = sortT ss := by
    refine List.Perm.eq_of_pairwise (le := (· ≤ ·)) (fun a b _ _ h1 h2 => List.le_antisymm h1 h2) ?_ (sortT_le ss) (hp.trans (sortBy_perm ss).symm)
    exact List.pairwise_map.mpr (sorted_pw h)
  rw [← e, List.map_map]
  have : ∀ l ∈ ys, (mkS ∘ fun s : Str => s.cps.toList) l = id l := fun l _ => mkS_of l
  rw [List.map_congr_left this, List.map_id]
section
variable {K : PySem.W.Frag} {A : RdA}
theorem ints_rpl : ∀ ns : List Int, RpL K A (ns.map D.int) (ns.map V.int)
  | [] => RpL.nil
  | n :: ns => RpL.cons (by simp [Rp]) (ints_rpl ns)
theorem strs_rpl : ∀ ss : List (List Nat), RpL K A (ss.map D.str) ((ss.map mkS).map V.str)
  | [] => RpL.nil
  | n :: ns => RpL.cons (by simp [Rp]) (strs_rpl ns)
theorem keys_strs : ∀ {kvs : List (DK × D)} {ys : List (Key × V)} {ks : List (List Nat)}, RpD K A kvs ys → keyStrs kvs = some ks → ys.map (·.1) = (ks.map mkS).map Sum.inr
  | [], ys, ks, h, e => by simp only [RpD] at h; subst h; cases e; rfl
  | (.i n, d) :: kvs, ys, ks, h, e => by cases e
  | (.s l, d) :: kvs, ys, ks, h, e => by
    simp only [RpD] at h
    obtain ⟨x, r, rfl, _, t⟩ := h
    unfold keyStrs at e
    cases e1 : keyStrs kvs with
    | none => rw [e1] at e; cases e
    | some ms =>
      rw [e1] at e
      cases e
      rw [List.map_cons, keys_strs t e1]
      rfl
theorem keyOf_r {d : D} {k : DK} {v : V} (h : Rp K A d v) (e : keyOf d = some k) : v = kV k.toKey := by
  cases d <;> simp [keyOf] at e
  all_goals
    subst e
    simp only [Rp] at h
    exact h
/-- the pairs, as they lie -/
theorem pairs_r {H : Hp} (hA : ∀ a u, A a u → Rd H a u) : ∀ {ds : List D} {xs : List V} {kvs : List (DK × D)}, RpL K A ds xs → asPairs ds = some kvs →
    ∃ (ps : List Addr) (ys : List (Key × V)), xs = ps.map V.ref ∧ Paired (fun p kv => SqT K H p [kV kv.1, kv.2]) ps ys ∧ RpD K A kvs ys
  | [], xs, kvs, h, e => by
    simp only [RpL] at h
    subst h
    cases e
    exact ⟨[], [], rfl, .nil, by simp [RpD]⟩
  | d :: ds, xs, kvs, h, e => by
    unfold asPairs at e
    split at e
    · rename_i e0; cases e0
    · rename_i k v r e0
      cases e0
      simp only [RpL] at h
      obtain ⟨x, xs', rfl, hd, t⟩ := h
      cases e1 : keyOf k with
      | none => rw [e1] at e; cases e
      | some kk =>
        rw [e1] at e
        simp only [Option.bind] at e
        cases e2 : asPairs ds with
        | none => rw [e2] at e; cases e
        | some kvs' =>
          rw [e2] at e
          cases e
          obtain ⟨ps, ys, e3, e4, e5⟩ := pairs_r hA t e2
          simp only [Rp] at hd
          obtain ⟨a, zs, rfl, hs, hr⟩ := hd
          simp only [RpL] at hr
          obtain ⟨x1, r1, e6, h1, x2, r2, e7, h2, e8⟩ := hr
          subst e8 e7
          subst e6
          have ek := keyOf_r h1 e1
          subst ek
          refine ⟨a :: ps, (kk.toKey, x2) :: ys, by rw [e3]; rfl, .cons (hs.seq hA) e4, ?_⟩
          simp only [RpD]
          exact ⟨x2, ys, rfl, h2, e5⟩
    · cases e
theorem rpd_putAll {ds : List (DK × D)} {ys : List (Key × V)} (h : RpD K A ds ys) :
    RpD K A (putAll ds) (mergeK [] ys) := by
  unfold putAll mergeK
  have go : ∀ {ds : List (DK × D)} {ys : List (Key × V)} {acc : List (DK × D)} {zs : List (Key × V)}, RpD K A ds ys → RpD K A acc zs →
      RpD K A (ds.foldl (fun acc p => put acc p.1 p.2) acc) (ys.foldl (fun acc kv => putK acc kv.1 kv.2) zs) := by
    intro ds
    induction ds with
    | nil => intro ys acc zs h h2; simp only [RpD] at h; subst h; exact h2
    | cons p ds ih =>
      intro ys acc zs h h2
      obtain ⟨k, d⟩ := p
      simp only [RpD] at h
      obtain ⟨x, r, rfl, hx, t⟩ := h
      simp only [List.foldl_cons]
      exact ih t (rpd_put _ hx h2)
  exact go h (by simp [RpD])
/-- a new dict handed back -/
theorem give_dic {H : Hp} {ds : List (DK × D)} {xs : List (Key × V)} {p : Addr} {Q : VK} (hn : H p = none) (r : RpD K A ds xs)
    (q : ∀ v H', Same H H' → ROR K A H H' (.new (.dic ds)) v → Q v H') : Q (.ref p) (upd H p (.dK xs)) :=
  q _ _ (same_new hn) ⟨p, rfl, hn, ⟨_, upd_same, trivial⟩, xs, upd_same, r⟩
end
section
variable {X : Cx}
/-- texts as they are sorted by the library's rule for any data -/
abbrev encT (s : List Nat) : PyData := .str (mkS s)
theorem le_encT {a b : List Nat} (h : PySem.W.dataLe false encT a b = true) : a ≤ b := by
  have g : itemLt (.inr b) (.inr a) = false := by
    simpa [PySem.W.dataLe, PySem.W.sortLe, PySem.W.keyToks, PyProof.Rows.lexLt, mkS_cps] using h
  have g : decide (b < a) = false := g
  exact List.not_lt.mp (of_decide_eq_false g)
theorem merge_sortT (ss : List (List Nat)) : ss.mergeSort (PySem.W.dataLe false encT) = sortT ss := by
  have tot := PySem.W.sortLe_total (listOrd itemOrd) false fun b : List Nat => PySem.W.keyToks (encT b)
  have pw := List.pairwise_mergeSort (le := PySem.W.dataLe false encT) tot.trans (fun a b => by rw [Bool.or_eq_true]; exact tot.total a b) ss
  refine List.Perm.eq_of_pairwise (le := (· ≤ ·)) (fun a b _ _ h1 h2 => List.le_antisymm h1 h2) (pw.imp le_encT) (sortT_le ss) ?_
  exact (List.mergeSort_perm ss _).trans (sortBy_perm ss).symm
theorem each_txt : ∀ {ss : List (List Nat)} {its : List Value}, Vals ((ss.map mkS).map V.str) its → PySem.W.EachIs (fun v s => ∃ t, v = Value.str (mkS s) t) its ss
  | [], _, h => by cases h; exact .nil
  | s :: ss, _, h => by
    cases h with
    | cons r rest => exact .cons r (each_txt rest)
theorem txt_vals {ss : List (List Nat)} {out : List Value} (h : PySem.W.EachIs (fun v s => ∃ t, v = Value.str (mkS s) t) out ss) : Vals ((ss.map mkS).map V.str) out := by
  induction h with
  | nil => exact .nil
  | cons r _ ih => exact .cons r ih
/-- sorted(texts), any number -/
theorem cr_sortedT (hu : X.A.units + 200 < cLine) : CallR X (.builtin "sorted") (fun vs H Q => ∃ (a : Addr) (ss : List (List Nat)), vs = [V.ref a] ∧ SqL X.K H a ((ss.map mkS).map V.str) ∧
    ∀ p, H p = none → Q (.ref p) (upd H p (.lst (((sortT ss).map mkS).map V.str)))) := by
  rintro pns s σ H _ us Q I r ⟨a, ss, rfl, hs, q⟩
  obtain ⟨its, rv, hl, small⟩ := I.list hs
  rw [Vals.ref1 r]
  have e := each_txt rv
  have len : ss.length ≤ sizeLine := by simpa using small
  have alike : PySem.W.AllAlike (ss.map encT) := by
    intro d hd d' hd'
    obtain ⟨x, _, rfl⟩ := List.mem_map.mp hd
    obtain ⟨y, _, rfl⟩ := List.mem_map.mp hd'
    rfl
  have able : PySem.W.Sortable (ss.map encT) := .inr fun d hd => by
    obtain ⟨x, _, rfl⟩ := List.mem_map.mp hd
    exact ⟨by simp, fun xs => by simp⟩
  have deep : ∀ b ∈ ss, X.A.units + 2 + (encT b).depth < cLine := fun b _ => by
    have : (encT b).depth = 0 := rfl
    omega
  refine PySem.W.sorted_data (enc := encT) hl.isList e (e.mono fun v b h => ⟨[], by obtain ⟨t, rfl⟩ := h; exact .str _ _⟩) alike able len deep fun out n each => ?_
  rw [merge_sortT] at each
  obtain ⟨ep, at_p⟩ := PyProof.Rows.sortedAll_at s.heap its out.toArray
  have fits : (((sortT ss).map mkS).map V.str).length ≤ sizeLine := by
    rw [List.length_map, List.length_map, (sortBy_perm ss).length_eq]
    exact len
  exact ⟨.ref _, _, I.laid (a := s.heap.objs.size + 1) (o := .lst (((sortT ss).map mkS).map V.str)) (t' := s.toks) (fun _ _ => PyProof.Rows.sortedAll_old) (Nat.le_succ _) ⟨fits, out, ep, txt_vals each, at_p⟩, rfl, q _ (I.hok.fresh (Nat.le_succ _))⟩
theorem blt_sorted (hu : X.A.units + 200 < cLine) (hc : X.calm = true) : CallR X (.builtin "sorted") (rL X.K (bltD .sorted)) := by
  intro pns s σ H xs us Q I r h
  obtain ⟨A, ds, ro, ga, vx, hf, q⟩ := h
  unfold bltD at hf
  split at hf <;> try contradiction
  · rename_i zs _
    obtain ⟨x, rfl, hx⟩ := v1 vx
    simp only [View] at hx
    obtain ⟨a, ys, rfl, hd, hr⟩ := hx
    unfold sortL at hf
    cases e : asInts zs with
    | some ns =>
      rw [e] at hf
      cases hf
      rw [asInts_map e] at hr
      rw [rpl_ints hr] at hd
      refine L2.cr_sortedI pns s σ H _ us Q I r ⟨a, ns, rfl, seqL hd, fun ns' p h1 h2 hp => ?_⟩
      rw [sort_int h1 h2]
      exact give_lst hp (ints_rpl _) q
    | none =>
      rw [e] at hf
      cases e2 : asStrs zs with
      | none => rw [e2] at hf; cases hf
      | some ss =>
        rw [e2] at hf
        simp only [Option.bind] at hf
        split at hf
        · rename_i h64
          cases hf
          rw [asStrs_map e2] at hr
          rw [rpl_strs hr] at hd
          exact cr_sortedT hu pns s σ H _ us Q I r ⟨a, ss, rfl, seqL hd, fun p hp => give_lst hp (strs_rpl _) q⟩
        · cases hf
  · rename_i kvs _
    obtain ⟨x, rfl, hx⟩ := v1 vx
    simp only [View] at hx
    obtain ⟨a, ys, rfl, hd, hr⟩ := hx
    cases e : keyStrs kvs with
    | none => rw [e] at hf; cases hf
    | some ks =>
      rw [e] at hf
      simp only [Option.bind] at hf
      split at hf
      · rename_i h64
        cases hf
        refine L2.call_sortedD hc pns s σ H _ us Q I r ⟨a, ys, ks.map mkS, rfl, hd, keys_strs hr e, by rw [List.length_map]; exact h64, fun ns' p h1 h2 hp => ?_⟩
        rw [sort_strs h1 h2]
        exact give_lst hp (strs_rpl _) q
      · cases hf
theorem blt_dict (hc : X.calm = true) : CallR X (.type "dict") (rL X.K (bltD .dict)) := by
  intro pns s σ H xs us Q I r h
  obtain ⟨A, ds, ro, ga, vx, hf, q⟩ := h
  unfold bltD at hf
  split at hf <;> try contradiction
  rename_i zs _
  split at hf
  · cases e : asPairs zs with
    | none => rw [e] at hf; cases hf
    | some kvs =>
      rw [e] at hf
      cases hf
      obtain ⟨x, rfl, hx⟩ := v1 vx
      simp only [View] at hx
      obtain ⟨a, ys, rfl, hd, hr⟩ := hx
      obtain ⟨ps, kys, rfl, hp, hk⟩ := pairs_r ga.rd hr e
      exact L2.call_dictP hc pns s σ H _ us Q I r ⟨a, ps, kys, rfl, seqL hd, hp, fun p hp => give_dic hp (rpd_putAll hk) q⟩
  · cases hf
theorem blt_str : CallR X (.type "str") (rL X.K (bltD .str)) := by
  intro pns s σ H xs us Q I r h
  obtain ⟨A, ds, ro, ga, vx, hf, q⟩ := h
  unfold bltD at hf
  split at hf <;> try contradiction
  rename_i i _
  split at hf
  · rename_i hz
    cases hf
    obtain ⟨x, rfl, hx⟩ := v1 vx
    simp only [View] at hx
    subst hx
    refine L2.call_str_int pns s σ H _ us Q I r ⟨i, rfl, hz, q _ _ (Same.refl H) ?_⟩
    simp only [ROR, Rp]
    congr 1
    exact Str.ofString_eq_toList _
  · cases hf
/-- sep.join(texts) -/
theorem glued_of (sep : List Nat) : ∀ ss : List (List Nat), Txt.join (mkS sep) (ss.map mkS) = mkS (joinL sep ss) := by
  intro ss
  have fo : ∀ (r : List (List Nat)) (acc : Array Nat), (r.map mkS).foldl (fun acc p => acc ++ (mkS sep).cps ++ p.cps) acc = acc ++ (r.map (sep ++ ·)).flatten.toArray := by
    intro r
    induction r with
    | nil => intro acc; simp
    | cons y r ih =>
      intro acc
      rw [List.map_cons, List.foldl_cons, ih]
      simp [mkS]
  have jo : ∀ (r : List (List Nat)) (x : List Nat), joinL sep (x :: r) = x ++ (r.map (sep ++ ·)).flatten := by
    intro r
    induction r with
    | nil => intro x; simp [joinL]
    | cons y r ih =>
      intro x
      rw [joinL, ih]
      simp
  cases ss with
  | nil => rfl
  | cons x r =>
    unfold Txt.join Builtin.Str.glued
    rw [List.map_cons, List.drop_one, List.tail_cons, fo, jo]
    simp [mkS]
/-- a method of a text, by values -/
def rMthG (K : PySem.W.Frag) (m : Mth) : V → List V → Hp → VK → Prop := fun x xs H Q => ∃ A d ds ro, GoodA A H ∧ View K A H d x ∧ ViewL K A H ds xs ∧ mthD m d ds = some ro ∧ ∀ v H', Same H H' → ROR K A H H' ro v → Q v H'
theorem mg_join : MtR X "str.join" (rMthG X.K .join) := by
  intro pns s σ H x xs v us Q I rx rs h
  obtain ⟨A, d, ds, ro, ga, vx, vs, hf, q⟩ := h
  unfold mthD at hf
  split at hf <;> try contradiction
  rename_i sep zs _
  cases e : asStrs zs with
  | none => rw [e] at hf; cases hf
  | some ss =>
    rw [e] at hf
    simp only [Option.bind] at hf
    split at hf
    · rename_i hl
      cases hf
      simp only [View] at vx
      subst vx
      obtain ⟨y, rfl, hy⟩ := v1 vs
      simp only [View] at hy
      obtain ⟨a, ys, rfl, hd, hr⟩ := hy
      rw [asStrs_map e] at hr
      rw [rpl_strs hr] at hd
      refine L2.mt_join pns s σ H _ _ v us Q I rx rs ⟨mkS sep, a, ss.map mkS, rfl, rfl, .inl (seqL hd), ?_, ?_⟩
      · rw [List.map_map, List.length_map, mkS_len]
        have e3 : ss.map ((fun x : Str => x.length) ∘ mkS) = ss.map (·.length) := List.map_congr_left fun l _ => mkS_len l
        rw [e3]
        exact Nat.le_trans hl (by decide)
      · rw [glued_of]
        exact q _ _ (Same.refl H) (by simp [ROR, Rp])
    · cases hf
theorem toPys_at : ∀ (xs : List D) (j : Nat), (toPys xs)[j]? = (xs[j]?).map toPy
  | [], j => by simp [toPys]
  | x :: xs, 0 => by simp [toPys]
  | x :: xs, j + 1 => by simp [toPys, toPys_at xs j]
/-- list.index, by values -/
theorem mg_index (hu : X.A.units + 65 < cLine) : MtR X "list.index" (fun x vs H Q => ∃ y, vs = [y] ∧ r2 X.K idxD x y H Q) := by
  rintro pns s σ H x _ v us Q I rx rv ⟨y, rfl, A, dx, dy, ro, ga, vx, vy, hf, q⟩
  cases dx <;> simp only [idxD, reduceCtorEq] at hf
  rename_i xs
  split at hf
  · rename_i flat
    cases found : xs.findIdx? fun x => eqD x dy with
    | none => rw [found] at hf; cases hf
    | some j =>
      rw [found] at hf
      cases hf
      have dl := rp_dp 40 (.lst xs) x flat.1 (vx.all ga.rd)
      have dy' := rp_dp 40 dy y flat.2 (vy.all ga.rd)
      simp only [View] at vx
      obtain ⟨a, ys, rfl, hx, hr⟩ := vx
      obtain ⟨lt, hit, miss⟩ := List.findIdx?_eq_some_iff_getElem.mp found
      have s1 := flat_shaped flat.1
      have e1 : toPy (.lst xs) = .list (toPys xs) := by simp [toPy]
      rw [e1] at dl s1
      refine mt_indexD hu pns s σ H _ _ v us Q I rx rv ⟨a, y, toPy dy, toPys xs, j, toPy xs[j], rfl, rfl, dl, dy', s1, flat_shaped flat.2, ?_, ?_, fun m z lm at_m => ?_, q _ _ (Same.refl H) (by simp [ROR, Rp])⟩
      · rw [toPys_at, List.getElem?_eq_getElem lt]; rfl
      · rw [eqv_eqD]; exact hit
      · rw [toPys_at, List.getElem?_eq_getElem (Nat.lt_trans lm lt)] at at_m
        cases at_m
        rw [eqv_eqD]
        simpa using miss m lm
  · cases hf
/-- the list is seen before the argument is -/
theorem tE_chkL {K : PySem.W.Frag} {o : Cells → Res R} {σ : L2.St} {H : Hp} {Q : VK} (h : tE K (chkL o) σ H Q) : tE K o σ H fun v H1 => tyV K "list" v H1 ∧ Q v H1 := by
  obtain ⟨O, env, rel, r, env', e, q⟩ := h
  obtain ⟨x, env1, e1, e⟩ := Res.bind_ok e
  split at e
  · rename_i isL
    cases e
    refine ⟨O, env, rel, r, env', e1, fun v H1 rel1 st1 rr1 => ⟨?_, q v H1 rel1 st1 rr1⟩⟩
    cases g : r.get env' with
    | none => rw [g] at isL; cases isL
    | some d =>
      rw [g] at isL
      cases d <;> simp only [isLst, reduceCtorEq] at isL
      have vw := rr1.view rel1 g
      simp only [View] at vw
      obtain ⟨a, ys, rfl, hx, _⟩ := vw
      exact .inl ⟨rfl, ys, seqL hx⟩
  · cases e
theorem tE_idx {K : PySem.W.Frag} {a b : Cells → Res R} {σ : L2.St} {H : Hp} {Q : VK} (h : tE K (do2 (fun x y => (idxD x y).map RO.toR) (chkL a) b) σ H Q) :
    tBM K "list" (fun x vs H Q => ∃ y, vs = [y] ∧ r2 K idxD x y H Q) (tE K a) (tCons (tE K b) tNil) σ H Q := by
  refine tE_mono (tE_chkL (tE_do2 h)) fun v H1 y => ⟨y.1, ?_⟩
  refine tE_mono y.2 fun w H2 z => ⟨w, rfl, z⟩
end
end Fx

set_option Elab.async false
set_option linter.all false
set_option maxRecDepth 100000
/-! Fx15: expressions into the core language; that this is right. -/
namespace Fx
open L2 PyProof.Rows PySem PySem.Spec

/-! ### weaker readings -/
section
variable {X : Cx} {e : Expr}
theorem _root_.L2.PE.imp {t t' : TE} (h : PE X e t) (i : ∀ σ H Q, t' σ H Q → t σ H Q) : PE X e t' := ⟨fun pns s σ H Q I q => h.run pns s σ H Q I (i σ H Q q)⟩
theorem _root_.L2.PT.imp {t t' : TT} (h : PT X e t) (i : ∀ σ H Q, t' σ H Q → t σ H Q) : PT X e t' := ⟨fun pns s σ H Q I q => h.run pns s σ H Q I (i σ H Q q)⟩
theorem _root_.L2.PW.imp {t t' : TT} (h : PW X e t) (i : ∀ σ H Q, t' σ H Q → t σ H Q) : PW X e t' := ⟨fun w pns s σ H Q I q => h.run w pns s σ H Q I (i σ H Q q)⟩
theorem _root_.L2.PA.imp {es : List Expr} {t t' : TA} (h : PA X es t) (i : ∀ σ H Q, t' σ H Q → t σ H Q) : PA X es t' := ⟨fun p pns s σ H Q I q => h.run p pns s σ H Q I (i σ H Q q)⟩
theorem _root_.L2.PO.imp {es : Option Expr} {t t' : TO} (h : PO X es t) (i : ∀ σ H Q, t' σ H Q → t σ H Q) : PO X es t' := ⟨fun pns s σ H Q I q => h.run pns s σ H Q I (i σ H Q q)⟩
theorem _root_.L2.PG.imp {t t' : TG} (h : PG X e t) (i : ∀ v σ H Q, t' v σ H Q → t v σ H Q) : PG X e t' := ⟨fun pns s σ H v u Q I r q => h.run pns s σ H v u Q I r (i v σ H Q q)⟩
theorem _root_.L2.PGs.imp {es : List Expr} {t t' : TGs} (h : PGs X es t) (i : ∀ v σ H Q, t' v σ H Q → t v σ H Q) : PGs X es t' := ⟨fun pns s σ H v u Q I r q => h.run pns s σ H v u Q I r (i v σ H Q q)⟩
theorem _root_.L2.PS.imp {st : Stmt} {t t' : TS} (h : PS X st t) (i : ∀ D σ H, t' D σ H → t D σ H) : PS X st t' := ⟨fun pns s σ H D I q => h.run pns s σ H D I (i D σ H q)⟩
theorem _root_.L2.PSs.imp {st : List Stmt} {t t' : TS} (h : PSs X st t) (i : ∀ D σ H, t' D σ H → t D σ H) : PSs X st t' := ⟨fun pns s σ H D I q => h.run pns s σ H D I (i D σ H q)⟩
theorem _root_.L2.PTs.imp {es : List Expr} {t t' : TT} (h : PTs X es t) (i : ∀ σ H Q, t' σ H Q → t σ H Q) : PTs X es t' := ⟨fun pns s σ H Q I q => h.run pns s σ H Q I (i σ H Q q)⟩
end

/-! ### forms -/
def notStar : Expr → Bool
  | .Starred _ _ => false
  | _ => true
theorem starE {e : Expr} (h : notStar e = true) (es : List Expr) (env : Env) : starEach (e :: es) env = (false, eval e env) :: starEach es env := by
  cases e <;> first | rfl | cases h
theorem noStars {pos : Pos} {env : Env} : ∀ {es : List Expr}, es.all notStar = true → (backTo pos (starEach es env)).any (·.1) = false
  | [], _ => rfl
  | e :: es, h => by
    simp only [Bool.and_eq_true, List.all_cons] at h
    rw [starE h.1]
    show (false || (backTo pos (starEach es env)).any (·.1)) = false
    rw [noStars h.2]
    rfl
theorem assE {e : Expr} (h : notStar e = true) (es : List Expr) (env : Env) : assignEach (e :: es) env = (false, assign e env) :: assignEach es env := by
  cases e <;> first | rfl | cases h
theorem ass_len {env : Env} : ∀ {es : List Expr}, es.all notStar = true → (assignEach es env).length = es.length ∧ (assignEach es env).findIdx? (·.1) = none
  | [], _ => ⟨rfl, rfl⟩
  | e :: es, h => by
    simp only [Bool.and_eq_true, List.all_cons] at h
    rw [assE h.1]
    obtain ⟨h1, h2⟩ := ass_len (env := env) h.2
    exact ⟨by rw [List.length_cons, h1, List.length_cons], by rw [List.findIdx?_cons, h2]; rfl⟩
def plainTest : Expr → Bool
  | .UnaryOp .Not _ _ => false
  | .BoolOp _ _ _ => false
  | .IfExp _ _ _ _ => false
  | .Compare _ _ _ _ => false
  | _ => true
theorem plain_true {e : Expr} (h : plainTest e = true) {env : Env} (whole : Sem Value) : isTrue e env whole = (do let v ← whole; standAt e.pos; holding [v] (truthy v)) := by
  cases e with
  | UnaryOp op a p => cases op <;> first | rfl | cases h
  | _ => first | rfl | cases h
def plainIx : Expr → Bool
  | .Slice _ _ _ _ => false
  | _ => true
theorem plain_ix {e : Expr} (h : plainIx e = true) : PlainIx e := fun o i => by
  cases e <;> first | rfl | cases h
def isSet : Expr → Bool
  | .Set _ _ _ => true
  | _ => false
theorem no_marks {op : CmpOp} {e : Expr} (h : isSet e = false) : behindInMarks op e = false := by
  cases e <;> first | rfl | cases h
theorem no_fold {e : Expr} (h : isSet e = false) {env : Env} (x : Value) : foldedSetIterable e env x = pure x := by
  cases e <;> first | rfl | cases h

/-! ### contexts -/
structure Ctx where
  N : List Str
  sc : Scope
  all : Bool
  bts : List Str
  fns : List (Str × Nat × Nat × Nat)
  cs : List (Str × D)
def slotOf : List Str → Str → Option Nat
  | [], _ => none
  | y :: ys, x => if y = x then some 0 else (slotOf ys x).map (· + 1)
theorem slot_get : ∀ {N : List Str} {x : Str} {i : Nat}, slotOf N x = some i → N[i]? = some x
  | [], _, _, h => by cases h
  | y :: ys, x, i, h => by
    unfold slotOf at h
    split at h
    · rename_i e; cases h; subst e; rfl
    · cases e : slotOf ys x with
      | none => (rw [e] at h; cases h)
      | some j => rw [e] at h; cases h; simpa using slot_get e
def visB (sc : Scope) (x : Str) : Bool := match sc.names.lookup x with
  | some .local => true
  | some .cell => true
  | some .free => true
  | _ => false
theorem vis_of {sc : Scope} {x : Str} (h : visB sc x = true) : Vis sc x := by
  unfold visB at h
  split at h
  · rename_i e; exact .inl e
  · rename_i e; exact .inr (.inl e)
  · rename_i e; exact .inr (.inr e)
  · cases h
def glB (sc : Scope) (x : Str) : Bool := match sc.names.lookup x with
  | some .globalImplicit => true
  | _ => false
theorem gl_of {sc : Scope} {x : Str} (h : glB sc x = true) : sc.names.lookup x = some .globalImplicit := by
  unfold glB at h
  split at h
  · assumption
  · cases h
def okN (x : Str) : Bool := !(x == ("__debug__" : Str)) && !(x == ("__classdict__" : Str)) && !(x == ("__name__" : Str))
theorem okN_of {x : Str} (h : okN x = true) : (x == ("__debug__" : Str)) = false ∧ (x == ("__classdict__" : Str)) = false ∧ x ≠ ("__name__" : Str) := by
  unfold okN at h
  simp only [Bool.and_eq_true, Bool.not_eq_true', beq_eq_false_iff_ne] at h
  exact ⟨beq_eq_false_iff_ne.mpr h.1.1, beq_eq_false_iff_ne.mpr h.1.2, h.2⟩
def locB (c : Ctx) (x : Str) : Bool := match c.sc.names.lookup x with
  | some .local => true
  | some .cell => c.all
  | _ => false

def bopOf : Operator → Option Bop
  | .Add => some .add
  | .Sub => some .sub
  | .Mult => some .mul
  | .FloorDiv => some .fdiv
  | .Mod => some .mod
  | .Pow => some .pow
  | _ => none
def copOf : CmpOp → Option Cop
  | .Eq => some .eq
  | .NotEq => some .ne
  | .Lt => some .lt
  | .LtE => some .le
  | .Gt => some .gt
  | .GtE => some .ge
  | .Is => some .isN
  | .IsNot => some .notN
  | .In => some .isin
  | .NotIn => some .notin
def bltName : Blt → Str
  | .len => "len" | .abs => "abs" | .max => "max" | .min => "min" | .sum => "sum" | .all => "all" | .any => "any"
  | .int => "int" | .list => "list" | .tuple => "tuple" | .dict => "dict" | .repr => "repr" | .sorted => "sorted" | .str => "str"
def blts : List Blt := [.len, .abs, .max, .min, .sum, .all, .any, .int, .list, .tuple, .repr, .sorted, .dict, .str]
def tys : List Ty := [.int, .bool, .str, .tuple, .list, .dict]
def tyName : Ty → Str
  | .int => "int" | .bool => "bool" | .str => "str" | .tuple => "tuple" | .list => "list" | .dict => "dict"
/-- a built-in name as it is -/
def btB (c : Ctx) (x : Str) : Bool := glB c.sc x && c.bts.contains x
def findBlt (x : Str) : Option Blt := blts.find? fun b => decide (bltName b = x)
def findTy (x : Str) : Option Ty := tys.find? fun b => decide (tyName b = x)

/-! ### compiling -/
def cConst : Const → Option CE
  | .int i => some (.cst (.int i))
  | .bool b => some (.cst (.bl b))
  | .none => some (.cst .non)
  | .str s => some (.cst (.str s.cps.toList))
  | _ => none
def cName (c : Ctx) (x : Str) : Option CE :=
  if okN x then
    if visB c.sc x then (slotOf c.N x).map .var
    else if glB c.sc x then (c.cs.lookup x).map .cst
    else none
  else none
section
variable (c : Ctx) (rec : Expr → Option CE)
def cEs : List Expr → Option (List CE)
  | [] => some []
  | e :: es => match rec e, cEs es with
    | some a, some as => some (a :: as)
    | _, _ => none
def cBool (op : BoolOp) : List Expr → Option CE
  | [] => none
  | [e] => rec e
  | e :: es => match rec e, cBool op es with
    | some a, some b => some (match op with | .And => .and a b | .Or => .or a b)
    | _, _ => none
/-- may stand as a test -/
def tstB : Expr → Bool
  | .IfExp _ _ _ _ => false
  | _ => true
def cO : Option Expr → Option (Option CE)
  | none => some none
  | some e => (rec e).map some
end
/-- targets -/
def cTs (rec : Expr → Option Tg) : List Expr → Option (List Tg)
  | [] => some []
  | e :: es => match rec e, cTs rec es with
    | some a, some as => some (a :: as)
    | _, _ => none
def cT (c : Ctx) : Nat → Expr → Option Tg
  | 0, _ => none
  | n + 1, .Name x _ => if locB c x then (slotOf c.N x).map .nm else none
  | n + 1, .Tuple es _ _ => if es.all notStar then (cTs (cT c n) es).map .tup else none
  | _, _ => none
def muts : List Mut1 := [.append, .extend, .pop, .clear]
def mutName : Mut1 → Str
  | .append => "append" | .extend => "extend" | .pop => "pop" | .insert => "insert" | .remove => "remove" | .clear => "clear" | .update => "update"
def findMut (x : Str) : Option Mut1 := muts.find? fun b => decide (mutName b = x)
section
variable (c : Ctx) (rec : Expr → Option CE)
def cIs (a t : Expr) : Option CE :=
  match t with
  | .Name t _ => if btB c t && okN t then (match findTy t, rec a with
      | some ty, some ca => some (.isinst ca ty)
      | _, _ => none) else none
  | _ => none
/-- list(zip(a, b)) -/
def cZip (args : List Expr) : Option CE :=
  match args with
  | [.Call (.Name y _) [a, b] [] _] => if y = "zip" then (if btB c "zip" then (cEs rec [a, b]).map .col else none) else none
  | _ => none
def noCall : Expr → Bool
  | .Call _ _ _ _ => false
  | _ => true
/-- list() of two sequences, of a range, of a dict's values or items -/
def cLst (args : List Expr) : Option CE :=
  match args with
  | [.Call (.Name y _) [a] [] _] => if y = "range" then (if btB c "range" then (rec a).map .lrg1 else none) else none
  | [.Call (.Name y _) [a, b] [] _] => if y = "range" then (if btB c "range" then (match rec a, rec b with
      | some x, some y => some (.lrg2 x y)
      | _, _ => none) else none) else cZip c rec args
  | [.Call (.Attribute o m apos) [] [] cpos] => if noCall o && (apos.endLine == cpos.line) then
      (if m = "values" then (rec o).map .lvs else if m = "items" then (rec o).map .lit else none) else none
  | _ => none
def cCall (x : Str) (args : List Expr) : Option CE :=
  if okN x && !args.isEmpty then
    match c.fns.lookup x with
    | some (i, m, d) => if glB c.sc x && decide (args.length ≤ m) && decide (m ≤ args.length + d) then (cEs rec args).map (.call i) else none
    | none => if btB c x then
        (match (if x = "list" then cLst c rec args else if x = "dict" then (cZip c rec args).map (fun ce => .blt .dict [ce]) else none) with
        | some ce => some ce
        | none =>
        match findBlt x with
        | some b => (cEs rec args).map (.blt b)
        | none => if x = "isinstance" then (match args with
          | [a, t] => cIs c rec a t
          | _ => none) else none)
      else none
  else none
def cMeth (o : Expr) (m : Str) (args : List Expr) (apos cpos : Pos) : Option CE :=
  match o with
  | .Name x _ => if okN x && visB c.sc x && (apos.endLine == cpos.line) then (match slotOf c.N x, findMut m, args with
      | some i, some mu, [] => some (.mut mu i [])
      | some i, some mu, [e] => (rec e).map fun a => .mut mu i [a]
      | some i, none, [e] => if m = "index" then (rec e).map fun a => .idx (.var i) a else none
      | _, _, _ => none) else none
  | .Constant (.str s) _ _ => if m = "join" then (if apos.endLine == cpos.line then (match args with
      | [e] => (rec e).map fun a => .mth .join (.cst (.str s.cps.toList)) [a]
      | _ => none) else none) else none
  | _ => none
def cSub (a i : Expr) : Option CE :=
  match i with
  | .Slice lo hi st _ => (match st with
    | none => (match rec a, cO rec lo, cO rec hi with
      | some ca, some l, some h => some (.sl ca l h)
      | _, _, _ => none)
    | some (.UnaryOp .USub (.Constant (.int 1) _ _) _) => (match lo, hi with
      | none, none => (rec a).map .rev
      | _, _ => none)
    | _ => none)
  | i => match rec a, rec i with
    | some ca, some ci => some (.ix ca ci)
    | _, _ => none
def isTup : Expr → Bool
  | .Tuple _ _ _ => true
  | _ => false
def notCall : Expr → Bool
  | .Call _ _ _ _ => false
  | _ => true
def cI (tg iter : Expr) : Option It :=
  match iter with
  | .Call f args [] cpos => (match f with
    | .Name x _ => if btB c x && okN x then
        (if x = "range" then (if decide (1 ≤ args.length) && decide (args.length ≤ 3) then (cEs rec args).map .range else none)
        else if x = "enumerate" then (if isTup tg && decide (args.length = 1) then (cEs rec args).map .enum else none)
        else if x = "zip" then (if isTup tg && decide (args.length = 2) then (cEs rec args).map .zip else none)
        else (rec iter).map .e)
      else (rec iter).map .e
    | .Attribute o m apos => (match args with
      | [] => if notCall o && (apos.endLine == cpos.line) then
          (if m = "items" then (if isTup tg then (rec o).map .items else none)
          else if m = "values" then (rec o).map .values
          else (rec iter).map .e)
        else (rec iter).map .e
      | _ => (rec iter).map .e)
    | _ => (rec iter).map .e)
  | _ => (rec iter).map .e
/-- a key of a display -/
def cKey : Option Expr → Option DK
  | some (.Constant (.str s) _ _) => some (.s s.cps.toList)
  | some (.Constant (.int i) _ _) => some (.i i)
  | _ => none
def cKs : List (Option Expr) → List Expr → Option (List (DK × CE))
  | [], [] => some []
  | k :: ks, v :: vs => match cKey k, rec v, cKs ks vs with
    | some a, some b, some cs => some ((a, b) :: cs)
    | _, _, _ => none
  | _, _ => none
def ownOf (N : List Str) (scope : Scope) : List (Str × Nat) := scope.names.filterMap fun y => match y.2 with
  | .local => (slotOf N y.1).map fun i => (y.1, i)
  | .cell => (slotOf N y.1).map fun i => (y.1, i)
  | _ => none
def Ctx.blk (c : Ctx) (scope : Scope) : Ctx := { c with sc := relS scope c.sc, all := false }
end
/-- a comprehension with a test that hands its items on: over a name its list stays owned -/
def mkLc (o : Option CE) (el : CE) (t : Tg) (it : It) (cc : CE) (own : List Nat) : CE :=
  match o, el with
  | some (.var i), .var j => .lck (.var j) t i cc own
  | _, _ => .lc el t it (some cc) own
theorem mkLc_lc {o : Option CE} {el : CE} {t : Tg} {it : It} {cc : CE} {own : List Nat} (h : ¬ ∃ i j, o = some (.var i) ∧ el = .var j) : mkLc o el t it cc own = .lc el t it (some cc) own := by
  unfold mkLc
  split
  · exact (h ⟨_, _, rfl, rfl⟩).elim
  · rfl
def cE : Nat → Ctx → Expr → Option CE
  | 0, _, _ => none
  | n + 1, c, e => match e with
    | .Name x _ => cName c x
    | .Constant k _ _ => cConst k
    | .BinOp a op b _ => (match bopOf op, cE n c a, cE n c b with
      | some o, some x, some y => some (.bin o x y)
      | _, _, _ => none)
    | .UnaryOp op a _ => (match op, cE n c a with
      | .USub, some x => some (.neg x)
      | .Not, some x => if tstB a then some (.not x) else none
      | _, _ => none)
    | .BoolOp op es _ => if es.all tstB then cBool (cE n c) op es else none
    | .Compare a ops bs _ => (match ops, bs with
      | [op], [b] => (match copOf op, cE n c a, cE n c b with
        | some o, some x, some y => some (.cmp o x y)
        | _, _, _ => none)
      | [op, op'], [b, d] => (match copOf op, copOf op', cE n c a, cE n c b, cE n c d with
        | some o, some o', some x, some y, some z => some (.chain o o' x y z)
        | _, _, _, _, _ => none)
      | _, _ => none)
    | .IfExp t a b _ => if tstB t then (match cE n c t, cE n c a, cE n c b with
      | some x, some y, some z => some (.ite x y z)
      | _, _, _ => none) else none
    | .Tuple es _ _ => (cEs (cE n c) es).map .tup
    | .List es _ => (cEs (cE n c) es).map .lst
    | .Dict keys values _ => (match cKs (cE n c) keys values with
      | some ks => if ks.length ≤ 15 then some (.disp ks) else none
      | none => none)
    | .Call f args kws cpos => (match kws with
      | [] => (match f with
        | .Name x _ => cCall c (cE n c) x args
        | .Attribute o m apos => cMeth c (cE n c) o m args apos cpos
        | _ => none)
      | _ => none)
    | .Subscript a i _ => cSub (cE n c) a i
    | .ListComp elt gens scope _ => (match gens with
      | [⟨tg, iter, ifs, 0⟩] => if blkC c.N c.sc scope (ownOf c.N scope) then
          (match cI c (cE n c) tg iter, cT (c.blk scope) n tg, cE n (c.blk scope) elt, ifs with
          | some it, some t, some el, [] => if t.slots.all ((ownOf c.N scope).map (·.2)).contains then some (.lc el t it none ((ownOf c.N scope).map (·.2))) else none
          | some it, some t, some el, [cd] => if tstB cd && t.slots.all ((ownOf c.N scope).map (·.2)).contains then
              (cE n (c.blk scope) cd).map fun cc => mkLc (cE n c iter) el t it cc ((ownOf c.N scope).map (·.2)) else none
          | _, _, _, _ => none) else none
      | _ => none)
    | .DictComp key val gens scope _ => (match gens with
      | [⟨tg, iter, ifs, 0⟩] => if blkC c.N c.sc scope (ownOf c.N scope) then
          (match cI c (cE n c) tg iter, cT (c.blk scope) n tg, cE n (c.blk scope) key, cE n (c.blk scope) val, ifs with
          | some it, some t, some k, some el, [] => if t.slots.all ((ownOf c.N scope).map (·.2)).contains then some (.dc k el t it none ((ownOf c.N scope).map (·.2))) else none
          | some it, some t, some k, some el, [cd] => if tstB cd && t.slots.all ((ownOf c.N scope).map (·.2)).contains then
              (cE n (c.blk scope) cd).map fun cc => .dc k el t it (some cc) ((ownOf c.N scope).map (·.2)) else none
          | _, _, _, _, _ => none) else none
      | _ => none)
    | _ => none

/-! ### what is asked of a place -/
structure FnX (X : Cx) (x : Str) (fe : FE) : Prop where
  ex : ∃ (k : Nat) (f : Addr) (fd : FuncData) (ps : List Str), FnG X.prog X.w X.K X.mg X.base CX0 k f fd ps (spF X.K fe) ∧ Room k X.A ∧ X.mg x = some (.ref f) ∧ PySem.W.keepIn X.K (.ref f) = true ∧
    ∀ n, n ≤ fe.modes.length → fe.modes.length ≤ n + fe.dvs.length → ∃ dvs ds, Vals dvs ds ∧ Binds X.K fd ps ds ∧ ∀ A, RpL X.K A (fe.dvs.drop (fe.dvs.length + n - fe.modes.length)) dvs
structure XOk (Γ : FT) (X : Cx) (c : Ctx) : Prop where
  N : X.N = c.N
  nd : X.N.Nodup
  sc : X.env.scope = c.sc
  kind : c.sc.kind = .function
  calm : X.calm = true
  hg : X.A.guards = some []
  hu : X.A.units + 200 < cLine
  sys : ∃ o es ep, X.base.get? sysModules = some o ∧ o.data = .dict es ep
  all : c.all = true → ∀ x, X.fn x = true
  bts : ∀ x ∈ c.bts, X.mg x = none
  cs : ∀ x d, c.cs.lookup x = some d → ∃ u v, X.mg x = some u ∧ RelV v u ∧ ∀ A, Rp X.K A d v
  fns : ∀ x t, c.fns.lookup x = some t → ∃ fe, Γ[t.1]? = some fe ∧ fe.modes.length = t.2.1 ∧ fe.dvs.length = t.2.2 ∧ FnX X x fe
section
variable {Γ : FT} {X : Cx} {c : Ctx}
theorem XOk.blk (ok : XOk Γ X c) {scope : Scope} (hk : scope.kind = .function) (s : Shared) (H : Hp) (C : Addr) (cl : List (Str × Addr)) (fp : List Addr) :
    XOk Γ (X.blk s H scope (compEnvC scope cl C X.env) fp) (c.blk scope) where
  N := ok.N
  nd := ok.nd
  sc := by
    show relS scope X.env.scope = relS scope c.sc
    rw [ok.sc]
  kind := hk
  calm := ok.calm
  hg := ok.hg
  hu := ok.hu
  sys := ok.sys
  all := fun h => by cases h
  bts := ok.bts
  cs := ok.cs
  fns := fun x t h => by
    obtain ⟨fe, h1, h2, h3, ⟨h4⟩⟩ := ok.fns x t h
    exact ⟨fe, h1, h2, h3, ⟨h4⟩⟩
structure Snd (Γ : FT) (X : Cx) (e : Expr) (ce : CE) : Prop where
  v : PE X e (tE X.K (ev Γ ce).v)
  t : tstB e = true → PT X e (tT X.K (ev Γ ce).t)
  ns : notStar e = true
  nset : isSet e = false
theorem Snd.of {e : Expr} {ce : CE} {f : Cells → Res R} (h1 : (ev Γ ce) = .of f) (hp : PE X e (tE X.K f)) (h3 : plainTest e = true) (h4 : notStar e = true) (h5 : isSet e = false) : Snd Γ X e ce where
  v := by rw [h1]; exact hp
  t := fun _ => by rw [h1]; exact (pt_truth hp (plain_true h3)).imp fun σ H Q q => tT_of q
  ns := h4
  nset := h5
theorem lookup_mem {x : Str} (h : btB c x = true) (ok : XOk Γ X c) : Gl X x ∧ X.mg x = none := by
  unfold btB at h
  rw [Bool.and_eq_true] at h
  refine ⟨?_, ok.bts x (by simpa using h.2)⟩
  show X.env.scope.names.lookup x = _
  rw [ok.sc]
  exact gl_of h.1
theorem gl_x {x : Str} (h : glB c.sc x = true) (ok : XOk Γ X c) : Gl X x := by
  show X.env.scope.names.lookup x = _
  rw [ok.sc]
  exact gl_of h
theorem k_name {x : Str} {p : Pos} {ce : CE} (ok : XOk Γ X c) (h : cName c x = some ce) : Snd Γ X (.Name x p) ce := by
  unfold cName at h
  split at h
  · rename_i hx
    obtain ⟨n1, n2, n3⟩ := okN_of hx
    split at h
    · rename_i hv
      cases e : slotOf c.N x with
      | none => (rw [e] at h; cases h)
      | some i =>
        rw [e] at h
        cases h
        refine .of (by rw [ev]) ((pe_var (i := i) (by rw [ok.N]; exact slot_get e) (by rw [ok.sc]; exact vis_of hv) n1 n2).imp fun σ H Q q => tE_var q) rfl rfl rfl
    · split at h
      · rename_i hg
        cases e : c.cs.lookup x with
        | none => (rw [e] at h; cases h)
        | some d =>
          rw [e] at h
          cases h
          obtain ⟨u, v, h1, h2, h3⟩ := ok.cs x d e
          exact .of (by rw [ev]) ((pe_glob (gl_x hg ok) h1 h2 n1).imp fun σ H Q q => tE_cst h3 q) rfl rfl rfl
      · cases h
  · cases h
theorem k_const {k : Const} {j : Nat} {p : Pos} {ce : CE} (h : cConst k = some ce) : Snd Γ X (.Constant k j p) ce := by
  cases k <;> simp only [cConst, reduceCtorEq] at h <;> cases h
  · exact .of (by rw [ev]) (pe_non.imp fun σ H Q q => tE_cst (fun A => by simp [Rp]) q) rfl rfl rfl
  · exact .of (by rw [ev]) (pe_bl.imp fun σ H Q q => tE_cst (fun A => by simp [Rp]) q) rfl rfl rfl
  · exact .of (by rw [ev]) (pe_int.imp fun σ H Q q => tE_cst (fun A => by simp [Rp]) q) rfl rfl rfl
  · exact .of (by rw [ev]) (pe_str.imp fun σ H Q q => tE_cst (fun A => by simp [Rp, mkS]) q) rfl rfl rfl
theorem op_of {op : Operator} {o : Bop} (h : bopOf op = some o) : OpR X (binaryOp op) (r2 X.K (binD o)) := by
  cases op <;> simp only [bopOf, reduceCtorEq] at h <;> cases h
  · exact op_addG
  · exact op_subG
  · exact op_mulG
  · exact op_modG
  · exact op_powG
  · exact op_fdivG
theorem cop_of {op : CmpOp} {o : Cop} (hu : X.A.units + 200 < cLine) (h : copOf op = some o) : OpR X (compareOp op) (r2 X.K (cmpRO o)) := by
  cases op <;> simp only [copOf, reduceCtorEq] at h <;> cases h
  · exact op_eqG (by omega)
  · exact op_neG (by omega)
  · exact op_ltG
  · exact op_leG
  · exact op_gtG
  · exact op_geG
  · exact op_isNG
  · exact op_notNG
  · exact op_inG (by omega)
  · exact op_notinG (by omega)
/-- lists of expressions -/
theorem k_es {rec : Expr → Option CE} (hr : ∀ e ce, rec e = some ce → Snd Γ X e ce) : ∀ {es : List Expr} {ces : List CE}, cEs rec es = some ces →
    PA X es (tA X.K (evEs Γ ces)) ∧ es.all notStar = true ∧ ces.length = es.length
  | [], ces, h => by
    cases h
    refine ⟨pa_nil.imp fun σ H Q q => ?_, rfl, rfl⟩
    have e : evEs Γ [] = fun env => .ok [] env := by funext env; rw [evEs]
    rw [e] at q
    exact tA_nil q
  | e :: es, ces, h => by
    unfold cEs at h
    cases e1 : rec e with
    | none => rw [e1] at h; cases h
    | some a =>
      cases e2 : cEs rec es with
      | none => rw [e1, e2] at h; cases h
      | some as =>
        rw [e1, e2] at h
        cases h
        have s := hr e a e1
        obtain ⟨pa, ns, len⟩ := k_es hr e2
        refine ⟨(pa_cons s.v pa (starE s.ns _ _)).imp fun σ H Q q => ?_, by rw [List.all_cons, s.ns, ns]; rfl, by simp [len]⟩
        have e : evEs Γ (a :: as) = fun env => ((ev Γ a).v env).bind fun r env1 => (evEs Γ as env1).bind fun rs env2 => .ok (r :: rs) env2 := by funext env; rw [evEs]
        rw [e] at q
        exact tA_cons q
theorem ev_len : ∀ {ces : List CE} {env env' : Cells} {rs : List R}, evEs Γ ces env = .ok rs env' → rs.length = ces.length
  | [], env, env', rs, h => by rw [evEs] at h; cases h; rfl
  | a :: as, env, env', rs, h => by
    rw [evEs] at h
    obtain ⟨r, env1, e1, h⟩ := Res.bind_ok h
    obtain ⟨rs', env2, e2, h⟩ := Res.bind_ok h
    cases h
    simp [ev_len e2]
theorem k_bool {rec : Expr → Option CE} (hr : ∀ e ce, rec e = some ce → Snd Γ X e ce) {op : BoolOp} {p : Pos} : ∀ {es : List Expr} {ce : CE}, es.all tstB = true → cBool rec op es = some ce →
    PE X (.BoolOp op es p) (tE X.K (ev Γ ce).v) ∧ PW X (.BoolOp op es p) (tT X.K (ev Γ ce).t)
  | [], ce, _, h => by cases h
  | [e], ce, ht, h => by
    have s := hr e ce h
    have te : tstB e = true := by simpa using ht
    cases op with
    | And => exact ⟨pe_one s.v, pw_and1 (s.t te)⟩
    | Or => exact ⟨pe_one s.v, pw_or1 (s.t te)⟩
  | e :: e' :: es, ce, ht, h => by
    rw [List.all_cons, Bool.and_eq_true] at ht
    unfold cBool at h
    cases e1 : rec e with
    | none => rw [e1] at h; cases h
    | some a =>
      cases e2 : cBool rec op (e' :: es) with
      | none => rw [e1, e2] at h; cases h
      | some b =>
        rw [e1, e2] at h
        have s := hr e a e1
        obtain ⟨h1, h2⟩ := k_bool hr (p := p) ht.2 e2
        cases op with
        | And =>
          cases h
          have ee : ev Γ (.and a b) = ⟨doAnd (ev Γ a).v (ev Γ b).v, toAnd (ev Γ a).t (ev Γ b).t⟩ := by rw [ev]
          rw [ee]
          exact ⟨(pe_and s.v h1).imp fun σ H Q q => tE_and q, (pw_and (s.t ht.1) h2).imp fun σ H Q q => tT_and q⟩
        | Or =>
          cases h
          have ee : ev Γ (.or a b) = ⟨doOr (ev Γ a).v (ev Γ b).v, toOr (ev Γ a).t (ev Γ b).t⟩ := by rw [ev]
          rw [ee]
          exact ⟨(pe_or s.v h1).imp fun σ H Q q => tE_or q, (pw_or (s.t ht.1) h2).imp fun σ H Q q => tT_or q⟩
end
end Fx

set_option Elab.async false
set_option linter.all false
set_option maxRecDepth 100000
/-! Fx28: dict displays. -/
namespace Fx
open L2 PyProof.Rows PySem PySem.Spec
section
variable {K : PySem.W.Frag} {σ : L2.St}
abbrev trsK (K : PySem.W.Frag) (Γ : FT) (ks : List (DK × CE)) : List (TE × TE) := ks.map fun p => (tC (kV p.1.toKey), tE K (ev Γ p.2).v)
theorem tPairs_ok {Γ : FT} : ∀ {ks : List (DK × CE)} {O : Addr → Prop} {env env' : Cells} {H : Hp} {kvs : List (DK × D)} {Q : List (V × V) → Hp → Prop}, Rel K O env σ H → evKs Γ ks env = .ok kvs env' →
    (∀ ps H2, Rel K O env' σ H2 → Step env σ H env' σ H2 → (∃ ys : List (Key × V), ps = ys.map (fun kv => (kV kv.1, kv.2)) ∧ RpD K (Av O env' σ H2) kvs ys) → Q ps H2) → tPairs (trsK K Γ ks) σ H Q
  | [], O, env, env', H, kvs, Q, rel, e, q => by
    rw [evKs] at e
    cases e
    exact q [] H rel Step.refl ⟨[], rfl, by simp [RpD]⟩
  | (k, c) :: ks, O, env, env', H, kvs, Q, rel, e, q => by
    rw [evKs] at e
    obtain ⟨r, env1, e1, e⟩ := Res.bind_ok e
    cases e2 : frz env1 r with
    | none => rw [e2] at e; cases e
    | some p =>
      obtain ⟨x, env2⟩ := p
      rw [e2] at e
      simp only at e
      obtain ⟨xs, env3, e3, e⟩ := Res.bind_ok e
      cases e
      refine ⟨O, env, rel, r, env1, e1, fun y H2 rel1 st1 rr1 => ?_⟩
      obtain ⟨rel2, st2, rp2⟩ := frz_ok rel1 (fun a n z => rel.hidT z (rr1.fresh a n)) rr1 e2
      refine tPairs_ok rel2 e3 fun ps H3 rel3 st3 ⟨ys, hps, hys⟩ => q _ H3 rel3 ((st1.trans st2).trans st3) ⟨(k.toKey, y) :: ys, by rw [hps]; rfl, ?_⟩
      simp only [RpD]
      exact ⟨y, ys, rfl, Rp.mono st3.av _ _ rp2, hys⟩
theorem evKs_len {Γ : FT} : ∀ {ks : List (DK × CE)} {env env' : Cells} {kvs : List (DK × D)}, evKs Γ ks env = .ok kvs env' → kvs.length = ks.length
  | [], env, env', kvs, e => by rw [evKs] at e; cases e; rfl
  | (k, c) :: ks, env, env', kvs, e => by
    rw [evKs] at e
    obtain ⟨r, env1, e1, e⟩ := Res.bind_ok e
    cases e2 : frz env1 r with
    | none => rw [e2] at e; cases e
    | some p =>
      rw [e2] at e
      simp only at e
      obtain ⟨xs, env3, e3, e⟩ := Res.bind_ok e
      cases e
      simp [evKs_len e3]
/-- a dict display -/
theorem tE_disp {Γ : FT} {ks : List (DK × CE)} {H : Hp} {Q : VK} (h15 : ks.length ≤ 15) (h : tE K (doDisp (evKs Γ ks)) σ H Q) : tDisp (trsK K Γ ks) σ H Q := by
  obtain ⟨O, env, rel, r, env', e, q⟩ := h
  obtain ⟨kvs, env1, e1, e⟩ := Res.bind_ok e
  cases e
  intro p hp
  let N : Addr → Prop := nw (.new (.dic [])) (.ref p)
  have Np : ∀ a, N a → a = p := fun a z => by
    have z : V.ref p = .ref a := z
    cases z; rfl
  have N0 : ∀ a, N a → H a = none := fun a z => by rw [Np a z]; exact hp
  have pN : un O N p := .inr rfl
  have rg := rel.growN (H1 := upd H p (.dK [])) (N := N) (same_new hp) fun a z => ⟨N0 a z, by rw [Np a z]; exact ⟨_, upd_same, trivial⟩⟩
  refine tPairs_ok rg e1 fun ps H2 rel2 st2 ⟨ys, hps, hys⟩ => ?_
  have hH2 : H2 p = some (.dK []) := st2.kp p _ upd_same (rg.hid p pN).2
  have hl : ys.length ≤ 15 := by rw [hys.length, evKs_len e1]; exact h15
  refine ⟨hH2, ys, hps, hl, ?_⟩
  have av2 : ∀ a u, Av (un O N) env' σ H2 a u → Av (un O N) env' σ (upd H2 p (.dK (mergeK [] ys))) a u := fun a u ⟨k1, k2, k3⟩ => by
    have ne : a ≠ p := fun z => k2 (by subst z; exact pN)
    refine ⟨k1, k2, ?_⟩
    rcases k3 with k3 | ⟨od, k3⟩
    · exact .inl ((upd_ne ne).trans k3)
    · exact .inr ⟨od, (upd_ne ne).trans k3⟩
  have r7 := rel_hidden (o' := .dK (mergeK [] ys)) rel2 pN trivial
  have sC := (Step.grow (env := env) (σ := σ) (same_new hp)).trans st2
  have s7 : Step env σ H env' σ (upd H2 p (.dK (mergeK [] ys))) := by
    refine ⟨fun a o e n => ?_, sC.ow, fun a e => ?_, sC.io⟩
    · have ne : a ≠ p := fun z => by subst z; rw [hp] at e; cases e
      exact (upd_ne ne).trans (sC.kp a o e n)
    · by_cases z : a = p
      · subst z; rw [upd_same]; simp
      · rw [upd_ne z]; exact sC.th a e
  exact q _ _ r7 s7 ⟨p, rfl, hp, _, upd_same, rpd_putAll (RpD.mono av2 _ _ hys)⟩
end
end Fx

set_option Elab.async false
set_option linter.all false
set_option maxRecDepth 100000
/-! Fx29: walks over dicts: the dict is locked while it is walked. -/
namespace Fx
open L2 PyProof.Rows PySem PySem.Spec
/-- no frozen thing -/
def NF (u : HO) : Prop := ∀ o x, u ≠ .frz o x
section
variable {K : PySem.W.Frag} {A A' : RdA}
mutual
theorem Rp.monoF (h : ∀ a u, NF u → A a u → A' a u) : ∀ (d : D) (v : V), Rp K A d v → Rp K A' d v
  | .non, _, q => by simpa [Rp] using q
  | .bl b, _, q => by simpa [Rp] using q
  | .int i, _, q => by simpa [Rp] using q
  | .str s, _, q => by simpa [Rp] using q
  | .tup ds, v, q => by
    simp only [Rp] at q ⊢
    obtain ⟨a, xs, e, hs, hr⟩ := q
    exact ⟨a, xs, e, hs.imp (h _ _ (fun _ _ z => nomatch z)) id, RpL.monoF h ds xs hr⟩
  | .lst ds, v, q => by
    simp only [Rp] at q ⊢
    obtain ⟨a, xs, e, hs, hr⟩ := q
    exact ⟨a, xs, e, hs.imp (h _ _ (fun _ _ z => nomatch z)) id, RpL.monoF h ds xs hr⟩
  | .dic kvs, v, q => by
    simp only [Rp] at q ⊢
    obtain ⟨a, ys, e, hs, hr⟩ := q
    exact ⟨a, ys, e, h _ _ (fun _ _ z => nomatch z) hs, RpD.monoF h kvs ys hr⟩
theorem RpL.monoF (h : ∀ a u, NF u → A a u → A' a u) : ∀ (ds : List D) (xs : List V), RpL K A ds xs → RpL K A' ds xs
  | [], _, q => by simpa [RpL] using q
  | d :: ds, xs, q => by
    simp only [RpL] at q ⊢
    obtain ⟨x, r, e, hd, hr⟩ := q
    exact ⟨x, r, e, Rp.monoF h d x hd, RpL.monoF h ds r hr⟩
theorem RpD.monoF (h : ∀ a u, NF u → A a u → A' a u) : ∀ (kvs : List (DK × D)) (ys : List (Key × V)), RpD K A kvs ys → RpD K A' kvs ys
  | [], _, q => by simpa [RpD] using q
  | (k, d) :: kvs, ys, q => by
    simp only [RpD] at q ⊢
    obtain ⟨x, r, e, hd, hr⟩ := q
    exact ⟨x, r, e, Rp.monoF h d x hd, RpD.monoF h kvs r hr⟩
end
end
section
variable {K : PySem.W.Frag} {O : Addr → Prop} {env env1 env' : Cells} {σ σ' : L2.St} {H H1 H' : Hp} {d : Addr} {od : Obj} {ys : List (Key × V)}
theorem ObR.monoF {A A' : RdA} (h : ∀ a u, NF u → A a u → A' a u) {b : Ob} {p : Addr} (e : H1 p = H p) (q : ObR K A H b p) : ObR K A' H1 b p := by
  cases b with
  | lst ds => obtain ⟨xs, q, r⟩ := q; exact ⟨xs, e.trans q, RpL.monoF h _ _ r⟩
  | dic kvs => obtain ⟨xs, q, r⟩ := q; exact ⟨xs, e.trans q, RpD.monoF h _ _ r⟩
/-- a dict that is data, locked -/
theorem lock_rel (rel : Rel K O env σ H) (h : H d = some (.dK ys)) (n : ¬ Ow env σ d) (m : ¬ O d) : Rel K O env σ (upd H d (.frz od (.dK ys))) := by
  have av : ∀ a u, NF u → Av O env σ H a u → Av O env σ (upd H d (.frz od (.dK ys))) a u := fun a u _ ⟨k1, k2, k3⟩ => by
    refine ⟨k1, k2, ?_⟩
    by_cases z : a = d
    · subst z
      rcases k3 with k3 | ⟨o2, k3⟩
      · rw [h] at k3; cases k3; exact .inr ⟨od, upd_same⟩
      · rw [h] at k3; cases k3
    · rcases k3 with k3 | ⟨o2, k3⟩
      · exact .inl ((upd_ne z).trans k3)
      · exact .inr ⟨o2, (upd_ne z).trans k3⟩
  refine ⟨rel.len, fun j c e => ?_, rel.inj, fun a z => ?_⟩
  · have q := rel.at_ j c e
    have ne : ∀ b w, obAt env j = some b → σ[j]? = some (some (.ref w)) → w ≠ d := fun b w h1 h2 z => n (by subst z; exact ⟨j, b, h1, h2⟩)
    cases c with
    | none => trivial
    | d x => obtain ⟨w, e2, r⟩ := q; exact ⟨w, e2, Rp.monoF av _ _ r⟩
    | o c => obtain ⟨w, e2, r⟩ := q; exact ⟨w, e2, r.monoF av (upd_ne (ne _ _ (obAt_o e) e2))⟩
    | io c => obtain ⟨w, e2, r⟩ := q; exact ⟨w, e2, r.monoF av (upd_ne (ne _ _ (obAt_io e) e2))⟩
  · obtain ⟨⟨o, ho, mu⟩, nn⟩ := rel.hid a z
    exact ⟨⟨o, (upd_ne fun e => m (by subst e; exact z)).trans ho, mu⟩, nn⟩
theorem unlock_av (h : H' d = some (.frz od (.dK ys))) (a : Addr) (u : HO) (hu : NF u) (k : Av O env' σ' H' a u) : Av O env' σ' (upd H' d (.dK ys)) a u := by
  obtain ⟨k1, k2, k3⟩ := k
  refine ⟨k1, k2, ?_⟩
  by_cases z : a = d
  · subst z
    rcases k3 with k3 | ⟨o2, k3⟩
    · rw [h] at k3; cases k3; exact (hu _ _ rfl).elim
    · rw [h] at k3; cases k3; exact .inl upd_same
  · rcases k3 with k3 | ⟨o2, k3⟩
    · exact .inl ((upd_ne z).trans k3)
    · exact .inr ⟨o2, (upd_ne z).trans k3⟩
theorem unlock_rel (rel : Rel K O env' σ' H') (h : H' d = some (.frz od (.dK ys))) : Rel K O env' σ' (upd H' d (.dK ys)) := by
  have av := unlock_av (O := O) (env' := env') (σ' := σ') h
  have obne : ∀ {b p} {A : RdA}, ObR K A H' b p → p ≠ d := fun q z => by
    obtain ⟨o, ho, mu⟩ := q.some
    rw [z, h] at ho
    cases ho
    exact mu
  refine ⟨rel.len, fun j c e => ?_, rel.inj, fun a z => ?_⟩
  · have q := rel.at_ j c e
    cases c with
    | none => trivial
    | d x => obtain ⟨w, e2, r⟩ := q; exact ⟨w, e2, Rp.monoF av _ _ r⟩
    | o c => obtain ⟨w, e2, r⟩ := q; exact ⟨w, e2, r.monoF av (upd_ne (obne r))⟩
    | io c => obtain ⟨w, e2, r⟩ := q; exact ⟨w, e2, r.monoF av (upd_ne (obne r))⟩
  · obtain ⟨⟨o, ho, mu⟩, nn⟩ := rel.hid a z
    have ne : a ≠ d := fun e => by
      rw [e, h] at ho
      cases ho
      exact mu
    exact ⟨⟨o, (upd_ne ne).trans ho, mu⟩, nn⟩
theorem unlock_step (n : ¬ Ow env σ d) (h : H d = some (.dK ys)) (st : Step env σ (upd H d (.frz od (.dK ys))) env' σ' H') :
    H' d = some (.frz od (.dK ys)) ∧ Step env σ H env' σ' (upd H' d (.dK ys)) := by
  have hd : H' d = some (.frz od (.dK ys)) := st.kp d _ upd_same n
  have th : ∀ a, H a ≠ none → upd H d (.frz od (.dK ys)) a ≠ none := fun a e => by
    by_cases z : a = d
    · subst z; rw [upd_same]; simp
    · rw [upd_ne z]; exact e
  refine ⟨hd, fun a o e nn => ?_, fun a e nn => st.ow a (th a e) nn, fun a e => ?_, st.io⟩
  · by_cases z : a = d
    · subst z; rw [h] at e; cases e; exact upd_same
    · rw [upd_ne z]; exact st.kp a o ((upd_ne z).trans e) nn
  · by_cases z : a = d
    · subst z; rw [upd_same]; simp
    · rw [upd_ne z]; exact st.th a (th a e)
theorem unlock_rr {r : R} {v : V} (h : H' d = some (.frz od (.dK ys))) (rr : RR K O env' σ' (upd H d (.frz od (.dK ys))) H' r v) : RR K O env' σ' H (upd H' d (.dK ys)) r v := by
  have av := unlock_av (O := O) (env' := env') (σ' := σ') h
  cases r with
  | d x => exact Rp.monoF av _ _ rr
  | own i => exact rr
  | new b =>
    obtain ⟨p, e, h0, ho⟩ := rr
    have ne : p ≠ d := fun z => by rw [z, upd_same] at h0; cases h0
    exact ⟨p, e, (upd_ne ne).symm.trans h0, ho.monoF av (upd_ne ne)⟩
end
/-! ### readings -/
/-- the heap, or the heap with what was locked unlocked -/
def Ul (H H' : Hp) (P : Hp → Prop) : Prop := P H' ∨ ∃ d od u, H' d = some (.frz od u) ∧ (H d = none ∨ ∃ u', H d = some u' ∧ Mut (some u')) ∧ P (upd H' d u)
def tUlE (t : TE) : TE := fun σ H Q => t σ H fun v H' => Ul H H' (Q v)
def tUlS (t : TS) : TS := fun D σ H => t ⟨fun σ' H' => Ul H H' (D.nx σ'), fun v H' => Ul H H' (D.rt v), fun σ' H' => Ul H H' (D.bk σ'), fun σ' H' => Ul H H' (D.ct σ')⟩ σ H
/-- the keys: the dict is locked, or locked now -/
def iKeysL (td : TE) : TI := fun σ H R => td σ H fun x H1 => ∃ d kvs, x = .ref d ∧ ((H1 d = some (.dK kvs) ∧ ∀ od, R (Itk d od kvs) (upd H1 d (.frz od (.dK kvs)))) ∨ ∃ od, H1 d = some (.frz od (.dK kvs)) ∧ R (Itk d od kvs) H1)
def iValsL (td : TE) : TI := fun σ H R => td σ H fun x H1 => ∃ d kvs, x = .ref d ∧ ((H1 d = some (.dK kvs) ∧ ∀ od, R (Itd d od kvs) (upd H1 d (.frz od (.dK kvs)))) ∨ ∃ od, H1 d = some (.frz od (.dK kvs)) ∧ R (Itd d od kvs) H1)
def iItemsL (td : TE) : TI := fun σ H R => td σ H fun x H1 => ∃ d kvs, x = .ref d ∧ ((H1 d = some (.dK kvs) ∧ ∀ od, R (Iti d od kvs) (upd H1 d (.frz od (.dK kvs)))) ∨ ∃ od, H1 d = some (.frz od (.dK kvs)) ∧ R (Iti d od kvs) H1)
section
variable {X : Cx}
theorem ul_inv {pns : List (Addr × Obj)} {σ σ' : L2.St} {H H' : Hp} {s s' : Shared} {P : Hp → Prop} (I : Inv X pns σ H s) (J : Inv X pns σ' H' s') (h : Ul H H' P) : ∃ H2, Inv X pns σ' H2 s' ∧ P H2 := by
  rcases h with h | ⟨d, od, u, e, hd, q⟩
  · exact ⟨H', J, h⟩
  · refine ⟨_, J.unlock e fun o' u' e0 => ?_, q⟩
    rcases hd with hd | ⟨u2, hd, mu⟩
    · have := I.base.frzs d o' u' e0
      rw [hd] at this
      cases this
    · exact I.nofrz hd mu o' u' e0
theorem pe_ul {e : Expr} {t : TE} (h : PE X e t) : PE X e (tUlE t) := by
  refine ⟨fun pns s σ H Q I hw => ?_⟩
  refine thn (h.run pns s σ H _ I hw) fun v s1 ⟨x, H1, I2, r, q⟩ => ?_
  obtain ⟨H2, I3, q⟩ := ul_inv I I2 q
  exact ⟨x, H2, I3, r, q⟩
theorem ps_ul {st : Stmt} {t : TS} (h : PS X st t) : PS X st (tUlS t) := by
  refine ⟨fun pns s σ H D I hw => ?_⟩
  refine thn (h.run pns s σ H _ I hw) fun f s1 q => ?_
  cases f with
  | next => obtain ⟨σ', H', I2, q⟩ := q; obtain ⟨H2, I3, q⟩ := ul_inv I I2 q; exact ⟨σ', H2, I3, q⟩
  | brk => obtain ⟨σ', H', I2, q⟩ := q; obtain ⟨H2, I3, q⟩ := ul_inv I I2 q; exact ⟨σ', H2, I3, q⟩
  | cont => obtain ⟨σ', H', I2, q⟩ := q; obtain ⟨H2, I3, q⟩ := ul_inv I I2 q; exact ⟨σ', H2, I3, q⟩
  | ret v => obtain ⟨x, σ', H', I2, r, q⟩ := q; obtain ⟨H2, I3, q⟩ := ul_inv I I2 q; exact ⟨x, σ', H2, I3, r, q⟩
/-- the dict that an expression gives is locked behind it, if it isn't yet -/
def tLk (td : TE) : TE := fun σ H Q => td σ H fun x H1 => ∃ d kvs, x = .ref d ∧
  ((H1 d = some (.dK kvs) ∧ ∀ od, Q x (upd H1 d (.frz od (.dK kvs)))) ∨ ((∃ od, H1 d = some (.frz od (.dK kvs))) ∧ Q x H1))
theorem pe_lk {e : Expr} {td : TE} (he : PE X e td) : PE X e (tLk td) where
  run := fun pn st σ H Q iv w => thn (he.run pn st σ H _ iv w) fun u st1 h => by
    obtain ⟨x, H1, iv1, rx, d, kvs, ex, h⟩ := h
    rcases h with ⟨hd, q⟩ | ⟨_, q⟩
    · have l := iv1.lock hd trivial
      obtain ⟨od, iv2⟩ := l
      exact ⟨x, _, iv2, rx, q od⟩
    · exact ⟨x, H1, iv1, rx, q⟩
/-- the three walks over a dict, by the library's rules over the locked one -/
theorem pi_keysL {tg e : Expr} {f : Cells → Res Fx.R} (he : PE X e (tE X.K f)) : PI X tg e (iKeysL (tE X.K f)) :=
  (pi_keys (pe_lk he)).imp fun σ H R q => tE_mono q fun x H1 h => by
    obtain ⟨d, kvs, ex, h⟩ := h
    exact ⟨d, kvs, ex, h.imp (fun k => ⟨k.1, fun od => ⟨d, od, ex, .inl ⟨kvs, upd_same, k.2 od⟩⟩⟩) fun ⟨od, hd, k⟩ => ⟨⟨od, hd⟩, d, od, ex, .inl ⟨kvs, hd, k⟩⟩⟩
theorem pi_valuesL {tg e : Expr} {f : Cells → Res Fx.R} {pa pc : Pos} (he : PE X e (tE X.K f)) (hb : attributeBase e "values" X.env (eval e X.env) = eval e X.env) (hl : (pa.endLine == pc.line) = true) :
    PI X tg (.Call (.Attribute e "values" pa) [] [] pc) (iValsL (tE X.K f)) :=
  (pi_values (pe_lk he) hb hl).imp fun σ H R q => tE_mono q fun x H1 h => by
    obtain ⟨d, kvs, ex, h⟩ := h
    exact ⟨d, kvs, ex, h.imp (fun k => ⟨k.1, fun od => ⟨d, od, kvs, ex, upd_same, k.2 od⟩⟩) fun ⟨od, hd, k⟩ => ⟨⟨od, hd⟩, d, od, kvs, ex, hd, k⟩⟩
theorem pi_itemsL {es : List Expr} {n : Nat} {pt : Pos} {e : Expr} {f : Cells → Res Fx.R} {pa pc : Pos} (he : PE X e (tE X.K f)) (hb : attributeBase e "items" X.env (eval e X.env) = eval e X.env) (hl : (pa.endLine == pc.line) = true) :
    PI X (.Tuple es n pt) (.Call (.Attribute e "items" pa) [] [] pc) (iItemsL (tE X.K f)) :=
  (pi_items (pe_lk he) hb hl).imp fun σ H R q => tE_mono q fun x H1 h => by
    obtain ⟨d, kvs, ex, h⟩ := h
    exact ⟨d, kvs, ex, h.imp (fun k => ⟨k.1, fun od => ⟨d, od, kvs, ex, upd_same, k.2 od⟩⟩) fun ⟨od, hd, k⟩ => ⟨⟨od, hd⟩, d, od, kvs, ex, hd, k⟩⟩
end
/-! ### walks -/
section
variable (K : PySem.W.Frag)
/-- a walk: over what stands, or over a dict that is locked for it -/
def tIW (f : Cells → Res (List D)) : TI := fun σ H R => ∃ O env, Rel K O env σ H ∧ ∃ ds env', f env = .ok ds env' ∧
  (∀ J H1, Rel K O env' σ H1 → Step env σ H env' σ H1 → Yl K (Av O env' σ H1) (Kp env' σ H1) J ds → R J H1) ∧
  (∀ J H1 d od ys, Rel K O env' σ H1 → Step env σ H env' σ H1 → H1 d = some (.dK ys) → ¬ Ow env' σ d → ¬ O d →
    Yl K (Av O env' σ (upd H1 d (.frz od (.dK ys)))) (Kp env' σ (upd H1 d (.frz od (.dK ys)))) J ds → R J (upd H1 d (.frz od (.dK ys))))
end
section
variable {K : PySem.W.Frag} {σ : L2.St} {H : Hp} {R : L2.It → Hp → Prop}
theorem tIW_tI {f : Cells → Res (List Fx.D)} (h : tIW K f σ H R) : tI K f σ H R := by
  obtain ⟨O, env, rel, ds, env', e, q, _⟩ := h
  exact ⟨O, env, rel, ds, env', e, q⟩
def iAnyL (K : PySem.W.Frag) (te : TE) : TI := fun σ H R => iAny K te σ H R ∨ iKeysL te σ H R
theorem pi_anyL {X : Cx} {tg e : Expr} {f : Cells → Res Fx.R} (he : PE X e (tE X.K f)) : PI X tg e (iAnyL X.K (tE X.K f)) where
  run := fun pns s σ H R I h => by
    rcases h with h | h
    · exact (pi_any he).run pns s σ H R I h
    · exact (pi_keysL he).run pns s σ H R I h
theorem rpd_get {A : RdA} : ∀ {kvs : List (DK × D)} {ys : List (Key × V)} {i : Nat} {k : Key} {v : V}, RpD K A kvs ys → ys[i]? = some (k, v) → ∃ dk d, kvs[i]? = some (dk, d) ∧ k = dk.toKey ∧ Rp K A d v
  | [], ys, i, k, v, h, e => by simp only [RpD] at h; subst h; simp at e
  | (dk, d) :: kvs, ys, i, k, v, h, e => by
    simp only [RpD] at h
    obtain ⟨x, r, rfl, hd, t⟩ := h
    cases i with
    | zero => simp at e; obtain ⟨rfl, rfl⟩ := e; exact ⟨dk, d, by simp, rfl, hd⟩
    | succ i =>
      obtain ⟨dk', d', e1, e2, e3⟩ := rpd_get (i := i) t (by simpa using e)
      exact ⟨dk', d', by simpa using e1, e2, e3⟩
theorem rp_key {A : RdA} (k : DK) : Rp K A k.toD (kV k.toKey) := by cases k <;> simp [DK.toD, DK.toKey, Rp, kV]
section
variable {A : RdA} {S : Hp → Prop} {d : Addr} {od : Obj} {kvs : List (DK × D)} {ys : List (Key × V)}
theorem yl_keys (hS : ∀ H, S H → H d = some (.frz od (.dK ys))) (hr : RpD K A kvs ys) : Yl K A S (Itk d od ys) (kvs.map fun p => p.1.toD) where
  go := fun i H s hi => ⟨hS H s, by rw [hr.length]; simpa using hi⟩
  yld := fun i H x H' dd s hd hy => by
    obtain ⟨rfl, k, v, e, rfl⟩ := hy
    obtain ⟨dk, d1, e1, rfl, _⟩ := rpd_get hr e
    rw [List.getElem?_map, e1] at hd
    cases hd
    exact ⟨Same.refl _, rp_key dk⟩
  stop := fun i H s hi => ⟨hS H s, by rw [hr.length]; simpa using hi⟩
theorem yl_vals (hS : ∀ H, S H → H d = some (.frz od (.dK ys))) (hr : RpD K A kvs ys) : Yl K A S (Itd d od ys) (kvs.map fun p => p.2) where
  go := fun i H s hi => ⟨hS H s, by rw [hr.length]; simpa using hi⟩
  yld := fun i H x H' dd s hd hy => by
    obtain ⟨rfl, k, e⟩ := hy
    obtain ⟨dk, d1, e1, rfl, rp⟩ := rpd_get hr e
    rw [List.getElem?_map, e1] at hd
    cases hd
    exact ⟨Same.refl _, rp_same rp _ _⟩
  stop := fun i H s hi => ⟨hS H s, by rw [hr.length]; simpa using hi⟩
theorem yl_items (hS : ∀ H, S H → H d = some (.frz od (.dK ys))) (hr : RpD K A kvs ys) : Yl K A S (Iti d od ys) (kvs.map fun p => .tup [p.1.toD, p.2]) where
  go := fun i H s hi => ⟨hS H s, by rw [hr.length]; simpa using hi⟩
  yld := fun i H x H' dd s hd hy => by
    obtain ⟨T, k, v, e, rfl, hT, rfl⟩ := hy
    obtain ⟨dk, d1, e1, rfl, rp⟩ := rpd_get hr e
    rw [List.getElem?_map, e1] at hd
    cases hd
    exact rp_pair hT (rp_key dk) rp
  stop := fun i H s hi => ⟨hS H s, by rw [hr.length]; simpa using hi⟩
end
/-- what the three walks over a dict share -/
theorem tIW_dic {f : Cells → Res Fx.R} {g : D → Option (List D)} {It : Addr → Obj → List (Key × V) → L2.It} {kvs : List (DK × D)} {ds : List D} {O : Addr → Prop} {env env1 env2 : Cells} {x : Fx.R}
    (rel : Rel K O env σ H) (e1 : f env = .ok x env1) (gz : frz env1 x = some (.dic kvs, env2))
    (yl : ∀ {A : RdA} {S : Hp → Prop} {d : Addr} {od : Obj} {ys : List (Key × V)}, (∀ H, S H → H d = some (.frz od (.dK ys))) → RpD K A kvs ys → Yl K A S (It d od ys) ds)
    (q1 : ∀ J H1, Rel K O env2 σ H1 → Step env σ H env2 σ H1 → Yl K (Av O env2 σ H1) (Kp env2 σ H1) J ds → R J H1)
    (q2 : ∀ J H1 d od ys, Rel K O env2 σ H1 → Step env σ H env2 σ H1 → H1 d = some (.dK ys) → ¬ Ow env2 σ d → ¬ O d →
      Yl K (Av O env2 σ (upd H1 d (.frz od (.dK ys)))) (Kp env2 σ (upd H1 d (.frz od (.dK ys)))) J ds → R J (upd H1 d (.frz od (.dK ys)))) :
    tE K f σ H fun v H1 => ∃ d ys, v = .ref d ∧ ((H1 d = some (.dK ys) ∧ ∀ od, R (It d od ys) (upd H1 d (.frz od (.dK ys)))) ∨ ∃ od, H1 d = some (.frz od (.dK ys)) ∧ R (It d od ys) H1) := by
  refine ⟨O, env, rel, x, env1, e1, fun v H1 r1 s1 rr => ?_⟩
  obtain ⟨r2, s2, rp⟩ := frz_ok r1 (hs1_of rel rr) rr gz
  have s3 := s1.trans s2
  simp only [Rp] at rp
  obtain ⟨d, ys, rfl, ⟨k1, k2, k3⟩, hr⟩ := rp
  refine ⟨d, ys, rfl, ?_⟩
  rcases k3 with k3 | ⟨od, k3⟩
  · refine .inl ⟨k3, fun od => q2 _ H1 d od ys r2 s3 k3 k1 k2 (yl (fun H' k => k d _ upd_same k1) (RpD.monoF (fun a u hu k => ?_) _ _ hr))⟩
    obtain ⟨j1, j2, j3⟩ := k
    refine ⟨j1, j2, ?_⟩
    by_cases z : a = d
    · subst z
      rcases j3 with j3 | ⟨o2, j3⟩
      · rw [k3] at j3; cases j3; exact .inr ⟨od, upd_same⟩
      · rw [k3] at j3; cases j3
    · rcases j3 with j3 | ⟨o2, j3⟩
      · exact .inl ((upd_ne z).trans j3)
      · exact .inr ⟨o2, (upd_ne z).trans j3⟩
  · exact .inr ⟨od, k3, q1 _ H1 r2 s3 (yl (fun H' k => k d _ k3 k1) hr)⟩
theorem tIW_any {f : Cells → Res Fx.R} (h : tIW K (doIt1 walkOf f) σ H R) : iAnyL K (tE K f) σ H R := by
  have h0 := h
  obtain ⟨O, env, rel, ds, env', e, q1, q2⟩ := h
  obtain ⟨x, env1, e1, e⟩ := Res.bind_ok e
  cases g : frz env1 x with
  | none => rw [g] at e; cases e
  | some p =>
    obtain ⟨d, env2⟩ := p
    rw [g] at e
    obtain ⟨e2, e3⟩ := ofO_ok e
    subst e3
    cases d with
    | dic kvs =>
      cases e2
      exact .inr (tIW_dic (g := walkOf) (It := Itk) rel e1 g (fun hS hr => yl_keys hS hr) q1 q2)
    | _ =>
      refine .inl (tI_any ⟨O, env, rel, ds, env', ?_, q1⟩)
      show (f env).bind _ = _
      rw [e1]
      show (match frz env1 x with
        | some (d, env2) => ofO env2 (itemsOf d)
        | none => .bad) = _
      rw [g]
      exact e
theorem tIW_values {f : Cells → Res Fx.R} (h : tIW K (doIt1 valuesL f) σ H R) : iValsL (tE K f) σ H R := by
  obtain ⟨O, env, rel, ds, env', e, q1, q2⟩ := h
  obtain ⟨x, env1, e1, e⟩ := Res.bind_ok e
  cases g : frz env1 x with
  | none => rw [g] at e; cases e
  | some p =>
    obtain ⟨d, env2⟩ := p
    rw [g] at e
    obtain ⟨e2, e3⟩ := ofO_ok e
    subst e3
    cases d with
    | dic kvs =>
      cases e2
      exact tIW_dic (g := valuesL) (It := Itd) rel e1 g (fun hS hr => yl_vals hS hr) q1 q2
    | _ => cases e2
theorem tIW_items {f : Cells → Res Fx.R} (h : tIW K (doIt1 itemsL f) σ H R) : iItemsL (tE K f) σ H R := by
  obtain ⟨O, env, rel, ds, env', e, q1, q2⟩ := h
  obtain ⟨x, env1, e1, e⟩ := Res.bind_ok e
  cases g : frz env1 x with
  | none => rw [g] at e; cases e
  | some p =>
    obtain ⟨d, env2⟩ := p
    rw [g] at e
    obtain ⟨e2, e3⟩ := ofO_ok e
    subst e3
    cases d with
    | dic kvs =>
      cases e2
      exact tIW_dic (g := itemsL) (It := Iti) rel e1 g (fun hS hr => yl_items hS hr) q1 q2
    | _ => cases e2
/-- unlocked behind the walk -/
theorem ul_fin {O : Addr → Prop} {env env1 : Cells} {H1 : Hp} {d : Addr} {ys : List (Key × V)} (rel : Rel K O env σ H) (st : Step env σ H env1 σ H1) (h : H1 d = some (.dK ys)) : H d = none ∨ ∃ u', H d = some u' ∧ Mut (some u') := by
  cases e : H d with
  | none => exact .inl rfl
  | some o =>
    refine .inr ⟨o, rfl, ?_⟩
    by_cases ow : Ow env σ d
    · obtain ⟨i, b, h1, h2⟩ := ow
      obtain ⟨p, e1, ob⟩ := rel.ob h1
      rw [h2] at e1
      cases e1
      obtain ⟨o', ho, mu⟩ := ob.some
      rw [e] at ho
      cases ho
      exact mu
    · have := st.kp d o e ow
      rw [h] at this
      cases this
      trivial
theorem tE_lcW {el : Cells → Res Fx.R} {c : Cells → Res Bool} {it : Cells → Res (List Fx.D)} {t : Tg} {vs : List Nat} {Q : VK} (ht : ∀ i ∈ t.slots, i ∈ vs)
    (h : tE K (doLc el t it c vs) σ H Q) : tUlE (tLc (tIW K it) (gD K t) (tT K c) (tE K el) vs) σ H Q := by
  obtain ⟨O, env, rel, r, env', e, q⟩ := h
  obtain ⟨ds, env1, e1, e⟩ := Res.bind_ok e
  split at e
  · cases e
  rename_i hno
  have no := isOb_none hno
  obtain ⟨ys, env2, e2, e⟩ := Res.bind_ok e
  cases e
  refine ⟨O, env, rel, ds, env1, e1, fun J H1 r1 s1 yl => lc_rest (Q := fun v H' => Ul H H' (Q v)) ht r1 no yl e2 fun v H' r9 s9 rr => .inl (q v H' r9 (s1.trans s9) (rr.back fun p => s1.back)),
    fun J H1 d od zs r1 s1 hd nd no' yl => lc_rest (Q := fun v H' => Ul H H' (Q v)) ht (lock_rel r1 hd nd no') no yl e2 fun v H' r9 s9 rr => ?_⟩
  obtain ⟨hd', s10⟩ := unlock_step nd hd s9
  exact .inr ⟨d, od, _, hd', ul_fin rel s1 hd, q v _ (unlock_rel r9 hd') (s1.trans s10) ((unlock_rr hd' rr).back fun p => s1.back)⟩
theorem s_forW {it : Cells → Res (List Fx.D)} {body : Cells → Res Fl} {t : Tg} {D : Ends} (h : tS K (fun env => (it env).bind fun xs env1 => forRun t body xs env1) D σ H) :
    tUlS (tFor (tIW K it) (gD K t) (tS K body)) D σ H := by
  obtain ⟨O, env, rel, fl, env1, e, q⟩ := h
  obtain ⟨ds, envs, es, e⟩ := Res.bind_ok e
  refine ⟨O, env, rel, ds, envs, es, fun J Hs rs ss yl => for_rest rs yl e ?_, fun J Hs d od zs rs ss hd nd no yl => for_rest (lock_rel rs hd nd no) yl e ?_⟩
  · have q := FinS.later ss q
    cases fl with
    | next => exact fun σ' H' r s => .inl (q σ' H' r s)
    | brk => exact fun σ' H' r s => .inl (q σ' H' r s)
    | cnt => exact fun σ' H' r s => .inl (q σ' H' r s)
    | ret r => exact fun v σ' H' k s rr => .inl (q v σ' H' k s rr)
  · have q := FinS.later ss q
    have uf := ul_fin rel ss hd
    cases fl with
    | next => exact fun σ' H' r s => (by obtain ⟨h1, s2⟩ := unlock_step nd hd s; exact .inr ⟨d, od, _, h1, uf, q σ' _ (unlock_rel r h1) s2⟩)
    | brk => exact fun σ' H' r s => (by obtain ⟨h1, s2⟩ := unlock_step nd hd s; exact .inr ⟨d, od, _, h1, uf, q σ' _ (unlock_rel r h1) s2⟩)
    | cnt => exact fun σ' H' r s => (by obtain ⟨h1, s2⟩ := unlock_step nd hd s; exact .inr ⟨d, od, _, h1, uf, q σ' _ (unlock_rel r h1) s2⟩)
    | ret r => exact fun v σ' H' k s rr => (by obtain ⟨h1, s2⟩ := unlock_step nd hd s; exact .inr ⟨d, od, _, h1, uf, q v σ' _ (unlock_rel k h1) s2 (unlock_rr h1 rr)⟩)
end
end Fx

set_option Elab.async false
set_option linter.all false
set_option maxRecDepth 100000
/-! Fx30: dict(zip(a, b)) of two lists. -/
namespace Fx
open L2 PyProof.Rows PySem PySem.Spec
section
variable {X : Cx}
def tDZ (K : PySem.W.Frag) (ta : TA) : TE := fun σ H Q => ta σ H fun vs H1 => ∃ a b xs ys, ∃ ks : List Key, vs = [.ref a, .ref b] ∧ SqL K H1 a xs ∧ SqL K H1 b ys ∧
  ks.length = min xs.length ys.length ∧ (∀ (i : Nat) (k : Key), ks[i]? = some k → xs[i]? = some (kV k)) ∧ ∀ p, H1 p = none → Q (.ref p) (upd H1 p (.dK (mergeK [] (ks.zip ys))))
theorem kv_zip : ∀ (ks : List Key) {ys : List V} {us : List Value}, Vals ys us → KV (ks.zip ys) (ks.zip us)
  | [], _, _, _ => .nil
  | k :: ks, _, _, .nil => .nil
  | k :: ks, _, _, .cons h t => .cons ⟨rfl, h⟩ (kv_zip ks t)
theorem pe_dictZ {a b : Expr} {ta : TA} {p p2 pos pos2 : Pos} (hc : X.calm = true) (hg : Gl X "dict") (hm : X.mg "dict" = none) (hg2 : Gl X "zip") (hm2 : X.mg "zip" = none) (ha : PA X [a, b] ta)
    (hs : starEach [a, b] X.env = (false, eval a X.env) :: starEach [b] X.env) (hpl : (backTo pos2 (starEach [b] X.env)).any (·.1) = false) :
    PE X (.Call (.Name "dict" p) [.Call (.Name "zip" p2) [a, b] [] pos2] [] pos) (tDZ X.K ta) := by
  constructor
  intro pns s σ H Q I h
  have hdict : bootBuiltins "dict" = some (.type "dict") := by decide +kernel
  have hzip : bootBuiltins "zip" = some (.type "zip") := by decide +kernel
  refine wpAny_Call_Name_kw (ld_blt I hg hm hdict ?_)
  have hst : starEach [.Call (.Name "zip" p2) [a, b] [] pos2] X.env = (false, eval (.Call (.Name "zip" p2) [a, b] [] pos2) X.env) :: starEach [] X.env := rfl
  refine PyProof.Rows.callWith_type1 ?_ hst rfl
  rw [hst]
  show wpAny _ _ (spliced ((false, eval (.Call (.Name "zip" p2) [a, b] [] pos2) X.env) :: backTo pos (starEach [] X.env))) _ _ s
  refine Calls.spliced_cons ?_
  refine wpAny_Call_Name_kw (ld_blt I hg2 hm2 hzip ?_)
  refine PyProof.Rows.callWith_type1 (thn (ha.run pos2 pns s σ H _ I h) fun us s1 ⟨vs, H1, I1, r1, la, lb, xs, ys, ks, ex, hqx, hqy, hl, hk0, q⟩ => ?_) hs hpl
  subst ex
  obtain ⟨u1, u2, rfl, r2, r3⟩ := r1.two
  cases r2
  cases r3
  obtain ⟨ux, rv, p1, hlx⟩ := I1.list hqx
  obtain ⟨uy, rv2, p3, hly⟩ := I1.list hqy
  refine call_zip_2 p1.isList p3.isList fun h' hz hTI hTO h1 h2 hsz hk => ?_
  refine Calls.spliced_nil ?_
  have ap := PySem.W.ktu_apart s1.heap.objs.size la lb p1.lt p3.lt
  have hl2 : min ux.toArray.size uy.toArray.size = ks.length := by
    rw [List.size_toArray, List.size_toArray, ← rv.length, ← rv2.length, hl]
  have lx := rv.length
  have ly := rv2.length
  refine PySem.call_dict_pairs (knd := mixKind X.prog X.w) (kvs := ks.zip uy) (PySem.PairArg.zip (prog := X.prog) (w := X.w) (s1.heap.objs.size + 4) (s1.heap.objs.size + 2) (s1.heap.objs.size + 3) s1.heap.objs.size (s1.heap.objs.size + 1) la lb ap ux.toArray uy.toArray) (I1.ok.hd hc)
    ⟨hz, hTI, ⟨_, _, hTO⟩, h1, h2, p1.isList.at fun o e => hk _ o e, p3.isList.at fun o e => hk _ o e⟩ ⟨?_, fun i key v ⟨e1, e2⟩ => ?_⟩ ?_ fun h2' tk hd' hk2 => ?_
  · rw [List.length_zip, hl2, ← ly]; omega
  · have e1 : ux[i]? = some key := by simpa using e1
    have e2 : uy[i]? = some v := by simpa using e2
    have h5 : i < ks.length := by
      have a1 := (List.getElem?_eq_some_iff.mp e1).1
      have a2 := (List.getElem?_eq_some_iff.mp e2).1
      omega
    refine ⟨ks[i], ?_, ?_⟩
    · rw [List.getElem?_zip_eq_some]
      exact ⟨List.getElem?_eq_getElem h5, e2⟩
    · have e3 := hk0 i _ (List.getElem?_eq_getElem h5)
      obtain ⟨u, e4, ru⟩ := rv.get e3
      rw [e1] at e4
      cases e4
      exact kV_is ru
  · rw [hl2, hl]; omega
  have up : ∀ b o, s1.heap.get? b = some o → h2'.get? b = some o := fun b o e => by
    have hb := Heap.lt_size e
    have nb : ∀ n, b ≠ s1.heap.objs.size + n := fun n z => Nat.lt_irrefl _ (Nat.lt_of_lt_of_le (z ▸ hb) (Nat.le_add_right _ _))
    refine hk2 b o (fun hm => ?_) (hk b o e)
    simp only [List.not_mem_nil, List.mem_cons, or_false] at hm
    rcases hm with hm | hm | hm | hm
    · exact nb 4 hm
    · exact nb 3 hm
    · exact nb 0 hm
    · exact nb 1 hm
  have hszz : s1.heap.objs.size ≤ h'.objs.size := by rw [hsz]; omega
  have hm : (h'.objs.size == sysModules) = false := beq_eq_false_iff_ne.mpr (Nat.ne_of_gt (Nat.lt_of_lt_of_le I1.big hszz))
  have hlen : (mergeK [] (ks.zip ys)).length ≤ sizeLine := by
    refine Nat.le_trans (length_mergeK _ []) ?_
    rw [List.length_nil, Nat.zero_add, List.length_zip]
    omega
  exact ⟨.ref h'.objs.size, upd H1 h'.objs.size (.dK (mergeK [] (ks.zip ys))), I1.laid (t' := tk) up hszz (show ObjOk X.prog X.w _ _ _ (.dK (mergeK [] (ks.zip ys))) from ⟨hlen, hm, merged [] (ks.zip uy), KV.merge (kv_zip ks rv2) .nil, hd'⟩), rfl, q _ (I1.hok.fresh hszz)⟩
end
section
variable {K : PySem.W.Frag} {σ : L2.St} {H : Hp}
theorem zip_pairs {A : RdA} : ∀ {ds es : List D} {xs ys : List V} {kvs : List (DK × D)}, RpL K A ds xs → RpL K A es ys → asPairs (zipL ds es) = some kvs →
    ∃ ks : List Key, ks.length = min xs.length ys.length ∧ (∀ (i : Nat) (k : Key), ks[i]? = some k → xs[i]? = some (kV k)) ∧ RpD K A kvs (ks.zip ys)
  | [], es, xs, ys, kvs, h, h', e => by
    simp only [RpL] at h
    subst h
    cases es <;> (cases e; exact ⟨[], by simp, by simp, by simp [RpD]⟩)
  | d :: ds, [], xs, ys, kvs, h, h', e => by
    simp only [RpL] at h'
    subst h'
    cases e
    exact ⟨[], by simp, by simp, by simp [RpD]⟩
  | d :: ds, e0 :: es, xs, ys, kvs, h, h', e => by
    simp only [RpL] at h h'
    obtain ⟨x, r, rfl, hd, t⟩ := h
    obtain ⟨y, r', rfl, hd', t'⟩ := h'
    simp only [zipL, asPairs] at e
    cases e1 : keyOf d with
    | none => rw [e1] at e; cases e
    | some k =>
      rw [e1] at e
      simp only [Option.bind] at e
      cases e2 : asPairs (zipL ds es) with
      | none => rw [e2] at e; cases e
      | some kvs' =>
        rw [e2] at e
        cases e
        obtain ⟨ks, l1, l2, l3⟩ := zip_pairs t t' e2
        have ek := keyOf_r hd e1
        subst ek
        refine ⟨k.toKey :: ks, by simp [l1], fun i k2 e => ?_, ?_⟩
        · cases i with
          | zero => simp at e; subst e; simp
          | succ i => simpa using l2 i k2 (by simpa using e)
        · rw [List.zip_cons_cons]
          simp only [RpD]
          exact ⟨y, ks.zip r', rfl, hd', l3⟩
theorem tE_dictZ {Γ : FT} {ces : List CE} {Q : VK} (h : tE K (doBlt .dict (evEs Γ [.col ces])) σ H Q) : tDZ K (tA K (evEs Γ ces)) σ H Q := by
  obtain ⟨O, env, rel, r, env', e, q⟩ := h
  obtain ⟨rs0, envA, eA, e⟩ := Res.bind_ok e
  rw [evEs] at eA
  obtain ⟨rc, envB, eB, eA⟩ := Res.bind_ok eA
  obtain ⟨rs1, envC, eC, eA⟩ := Res.bind_ok eA
  rw [evEs] at eC
  cases eC
  cases eA
  rw [ev] at eB
  obtain ⟨ds, env1, e1, eB⟩ := Res.bind_ok eB
  obtain ⟨rs, env2, e2, e1⟩ := Res.bind_ok e1
  split at eB
  · cases eB
    refine ⟨O, env, rel, rs, env2, e2, fun vs H1 r1 s1 rr ap => ?_⟩
    cases g : frzs env2 rs with
    | none => rw [g] at e1; cases e1
    | some p =>
      obtain ⟨xs, env3⟩ := p
      rw [g] at e1
      obtain ⟨e3, e4⟩ := ofO_ok e1
      subst e4
      obtain ⟨r2, s2, rp⟩ := frzs_ok r1 (hs_of rel rr) ap rr g
      simp only [gets, R.get, Ob.toD] at e
      obtain ⟨e5, e6⟩ := ofO_ok e
      subst e6
      unfold zipD2 at e3
      split at e3
      · rename_i ya yb
        cases e3
        simp only [RpL, Rp] at rp
        obtain ⟨x, r', rfl, ⟨a, us, rfl, ha, hr⟩, y, r'', rfl, ⟨b, ws, rfl, hb, hr'⟩, rfl⟩ := rp
        simp only [bltD] at e5
        by_cases hl : (zipL ya yb).length ≤ lim
        · rw [if_pos hl] at e5
          cases e7 : asPairs (zipL ya yb) with
          | none => rw [e7] at e5; cases e5
          | some kvs =>
            rw [e7] at e5
            cases e5
            obtain ⟨ks, l1, l2, l3⟩ := zip_pairs hr hr' e7
            refine ⟨a, b, us, ws, ks, rfl, (ha.heap fun _ _ k => k.2.2).seq, (hb.heap fun _ _ k => k.2.2).seq, l1, l2, fun p hp => ?_⟩
            have np : ∀ a, nw (.new (.dic (putAll kvs))) (.ref p) a → a = p := fun a z => by
              have z : V.ref p = .ref a := z
              cases z; rfl
            have g1 : Same H1 (upd H1 p (.dK (mergeK [] (ks.zip ws)))) := same_new hp
            have r3 := r2.growN (N := nw (.new (.dic (putAll kvs))) (.ref p)) g1 fun a z => by rw [np a z]; exact ⟨hp, _, upd_same, trivial⟩
            refine q _ _ r3 ((s1.trans s2).trans (Step.grow g1)) ⟨p, rfl, (s1.trans s2).back hp, _, upd_same, ?_⟩
            exact rpd_putAll (RpD.mono (fun a u k => (Step.grow g1).avN (fun a z => by rw [np a z]; exact hp) a u k) _ _ l3)
        · rw [if_neg hl] at e5
          cases e5
      · cases e3
  · cases eB
end
end Fx

set_option Elab.async false
set_option linter.all false
set_option maxRecDepth 100000
/-! Fx31: min over a dict's texts, list(text). -/
namespace Fx
open L2 PyProof.Rows PySem PySem.Spec
/-- texts compared -/
theorem cmp_txt {prog : Program} {w : World} {A : Around} {P : Nat → Value → Prop} {f : Nat → Str} (isT : ∀ i v, P i v → ∃ t, v = .str (f i) t) :
    CmpOf prog w A .Lt P (fun i j => decide ((f i).cps.toList < (f j).cps.toList)) := by
  rintro i j a b s Q E pa pb q
  rcases isT i a pa with ⟨t, rfl⟩
  rcases isT j b pb with ⟨t', rfl⟩
  have g := gives_str_lt (f i) (f j) t t'
  refine richCompare_gives (op := .Lt) (typeIs_str s _ t) (typeIs_str s _ t') F.slot_str_lt ?_ ?_ g (by rintro ⟨⟩) q
  · exact F.entry_str_lt
  · exact F.args_str_lt_2 _ _
/-- the place of the least -/
def lowAt (f : Nat → List Nat) (k : Nat) : Nat := argBest (fun i j => decide (f i < f j)) k
theorem lowAt_le (f : Nat → List Nat) : ∀ k, lowAt f k ≤ k
  | 0 => Nat.zero_le 0
  | k + 1 => by
    have := lowAt_le f k
    simp only [lowAt, argBest] at this ⊢
    split <;> omega
theorem lowAt_min (f : Nat → List Nat) : ∀ k j, j ≤ k → f (lowAt f k) ≤ f j
  | 0, 0, _ => List.le_refl (f 0)
  | 0, j + 1, h => by omega
  | k + 1, j, h => by
    have ih := lowAt_min f k
    simp only [lowAt, argBest] at ih ⊢
    split
    · rename_i less
      have less := of_decide_eq_true less
      rcases Nat.lt_or_ge k j with far | near
      · rw [show j = k + 1 by omega]; exact List.le_refl _
      · exact List.le_trans (List.le_of_lt less) (ih j near)
    · rename_i not
      rcases Nat.lt_or_ge k j with far | near
      · rw [show j = k + 1 by omega]; exact fun z => not (decide_eq_true z)
      · exact ih j near
theorem minT_ok : ∀ (r : List (List Nat)) (m : List Nat), minT m r ∈ m :: r ∧ ∀ y ∈ m :: r, minT m r ≤ y
  | [], m => by simp only [minT]; exact ⟨List.mem_cons_self, fun y hy => by rw [List.mem_singleton.mp hy]; exact List.le_refl _⟩
  | x :: r, m => by
    obtain ⟨h1, h2⟩ := minT_ok r (if ltS x m then x else m)
    simp only [minT]
    refine ⟨?_, fun y hy => ?_⟩
    · rcases List.mem_cons.mp h1 with e | e
      · rw [e]; split <;> simp
      · exact List.mem_cons_of_mem _ (List.mem_cons_of_mem _ e)
    · have h3 := h2 _ List.mem_cons_self
      have hm : minT (if ltS x m then x else m) r ≤ m ∧ minT (if ltS x m then x else m) r ≤ x := by
        by_cases c : ltS x m = true
        · rw [if_pos c] at h3 ⊢
          have c : x < m := of_decide_eq_true c
          exact ⟨List.le_trans h3 (List.le_of_lt c), h3⟩
        · rw [if_neg c] at h3 ⊢
          have c : ¬ x < m := fun z => c (decide_eq_true z)
          exact ⟨h3, List.le_trans h3 c⟩
      have cases3 : y = m ∨ y = x ∨ y ∈ r := by simpa using hy
      rcases cases3 with e | e | e
      · rw [e]; exact hm.1
      · rw [e]; exact hm.2
      · exact h2 y (List.mem_cons_of_mem _ e)
/-- what a dict of text keys hands out at a turn -/
theorem key_txt {prog : Program} {w : World} {vs : List (Key × Value)} {is : List Str} (e : vs.map (·.1) = is.map Sum.inr) {i : Nat} {v : Value}
    (h : ∃ k x, vs[i]? = some (k, x) ∧ (mixKind prog w).is k v = true) : ∃ t, v = .str (is.getD i Str.empty) t := by
  obtain ⟨k, x, here, ok⟩ := h
  have c : (is.map Sum.inr)[i]? = some k := by rw [← e, List.getElem?_map, here]; rfl
  rw [List.getElem?_map] at c
  cases z : is[i]? with
  | none => rw [z] at c; cases c
  | some y =>
    rw [z] at c
    cases c
    have g : is.getD i Str.empty = y := by simp [List.getD_eq_getElem?_getD, z]
    rw [g]
    exact Value.isStrOf_shape ok
section
variable {X : Cx}
def rMinKS : List V → Hp → VK → Prop := fun vs H Q => ∃ (a : Addr) (kvs : List (Key × V)) (is : List Str), vs = [V.ref a] ∧ Rd H a (.dK kvs) ∧ kvs.map (·.1) = is.map Sum.inr ∧ is ≠ [] ∧
  ∀ m, m ∈ is → (∀ j ∈ is, m.cps.toList ≤ j.cps.toList) → Q (.str m) H
theorem cr_minKS (calm : X.calm = true) : CallR X (.builtin "min") rMinKS := by
  rintro pns s σ H _ us Q I r ⟨a, kvs, is, rfl, rd, keys, ne, q⟩
  rw [Vals.ref1 r]
  obtain ⟨_, sys, vs, kv, dict⟩ := dk_rd I.hok rd
  obtain ⟨ep, dict⟩ := dict.dictAt
  have a_lt : a < s.heap.objs.size := by
    rcases id dict with ⟨_, _, here, _⟩
    exact Heap.lt_size here
  have keysV : vs.map (·.1) = is.map Sum.inr := by rw [← KV.keys kv]; exact keys
  have len : vs.length = is.length := by simpa using congrArg List.length keysV
  have pos : 0 < is.length := List.length_pos_iff.mpr ne
  let f : Nat → Str := fun i => is.getD i Str.empty
  have f_at : ∀ i (h : i < is.length), f i = is[i] := fun i h => by simp [f, List.getD_eq_getElem?_getD, List.getElem?_eq_getElem h]
  refine call_min_walk (wpAny_pyIter_dict (knd := mixKind X.prog X.w) sys dict ?_)
  have walk := Walks.dictKeys (prog := X.prog) (w := X.w) (knd := mixKind X.prog X.w) (A := X.A.in1) (I.ok.hd calm) s.heap.objs.size a (Nat.ne_of_lt a_lt) vs ep
  refine ⟨_, _, _, _, _, _, _, rfl, walk, ?start, ?inside, by omega, cmp_txt (f := f) fun i v h => key_txt keysV h, ?out⟩
  case start =>
    exact ⟨⟨_, Heap.get?_push_size _ rfl, rfl, rfl⟩, dict.keep fun _ _ z => Heap.get?_push_of_some _ z⟩
  case inside =>
    intro b hb
    have : b = s.heap.objs.size ∨ b = a := by simpa using hb
    refine Nat.lt_of_lt_of_eq (?_ : b < s.heap.objs.size + 1) (Heap.size_push ..).symm
    rcases this with z | z <;> subst z
    · exact Nat.lt_succ_self _
    · exact Nat.lt_succ_of_lt a_lt
  case out =>
    intro v h' tk pv kept
    obtain ⟨t, rfl⟩ := key_txt keysV pv
    have b1 := lowAt_le (fun i => (f i).cps.toList) (vs.length - 1)
    have b2 := lowAt_min (fun i => (f i).cps.toList) (vs.length - 1)
    have b3 : lowAt (fun i => (f i).cps.toList) (vs.length - 1) < is.length := by omega
    have I' : Inv X pns σ H { s with heap := h', toks := tk } := I.kept (t' := tk) fun b u e => by
      refine kept b u (fun z => ?_) (Heap.get?_push_of_some _ e)
      rw [List.mem_singleton.mp z] at e
      exact Nat.lt_irrefl _ (Heap.lt_size e)
    refine ⟨.str _, H, I', ⟨t, rfl⟩, q (f (lowAt (fun i => (f i).cps.toList) (vs.length - 1))) ?_ fun j hj => ?_⟩
    · rw [f_at _ b3]; exact List.getElem_mem b3
    · obtain ⟨i, hi, rfl⟩ := List.getElem_of_mem hj
      rw [← f_at i hi]
      exact b2 i (by omega)
theorem blt_minK (hc : X.calm = true) : CallR X (.builtin "min") (rL X.K minK) := by
  rintro pns s σ H xs us Q I r ⟨A, ds, ro, ga, vx, hf, q⟩
  unfold minK at hf
  split at hf
  · rename_i kvs
    simp only [bltD] at hf
    cases e : keyStrs kvs with
    | none => rw [e] at hf; cases hf
    | some ks =>
      rw [e] at hf
      cases ks with
      | nil => cases hf
      | cons k ks =>
        cases hf
        obtain ⟨x, rfl, hx⟩ := v1 vx
        simp only [View] at hx
        obtain ⟨a, ys, rfl, hd, hr⟩ := hx
        refine cr_minKS hc pns s σ H _ us Q I r ⟨a, ys, (k :: ks).map mkS, rfl, hd, keys_strs hr e, by simp, fun m hm hle => ?_⟩
        obtain ⟨l, hl, rfl⟩ := List.mem_map.mp hm
        have h1 := minT_ok ks k
        have e2 : l = minT k ks := by
          refine List.le_antisymm ?_ (h1.2 l hl)
          have := hle (mkS (minT k ks)) (List.mem_map.mpr ⟨_, h1.1, rfl⟩)
          rw [mkS_cps, mkS_cps] at this
          exact this
        rw [e2]
        exact q _ _ (Same.refl H) (by simp [ROR, Rp])
  · cases hf
end
end Fx

set_option Elab.async false
set_option linter.all false
set_option maxRecDepth 100000
/-! Fx33: dict comprehensions. -/
namespace Fx
open L2 PyProof.Rows PySem PySem.Spec
section
variable {K : PySem.W.Frag} {O : Addr → Prop} {env env0 env1 env2 env' : Cells} {σ σ0 σ1 σ2 σ' : L2.St} {H H0 H1 H2 H' : Hp}
/-- what is left of a dict comprehension once its source is there -/
def DcRest (K : PySem.W.Frag) (k el : Cells → Res R) (c : Cells → Res Bool) (t : Tg) (vs : List Nat) (σ : L2.St) (J : L2.It) (H1 : Hp) (Q : VK) : Prop :=
  ∀ D, H1 D = none → ∃ W : Nat → Nat → Hp → Prop, (∃ m, W 0 m (upd H1 D (.dK []))) ∧ ∀ i m H, W i m H →
    (J.stop i H ∧ Q (.ref D) H) ∨ (J.go i H ∧ ∃ Nx : Hp → Prop, (∀ H', Nx H' → ∃ m', m' < m ∧ W (i + 1) m' H') ∧ ∀ x H', J.yld i H x H' → gD K t x (wipe σ vs) H' fun σ2 H2 => wipe σ2 vs = wipe σ vs ∧ tT K c σ2 H2 fun b H3 =>
      if b = true then tE K k σ2 H3 fun y H4 => tE K el σ2 H4 fun z H5 => ∃ kvs kk, y = kV kk ∧ H5 D = some (.dK kvs) ∧ kvs.length < sizeLine ∧ Nx (upd H5 D (.dK (putK kvs kk z))) else Nx H3)
theorem dc_rest {k el : Cells → Res R} {c : Cells → Res Bool} {t : Tg} {vs : List Nat} {Q : VK} {J : L2.It} {ds : List Fx.D} {ys : List (DK × Fx.D)} (ht : ∀ i ∈ t.slots, i ∈ vs) (r1 : Rel K O env1 σ H1) (no : ∀ i ∈ vs, obAt env1 i = none)
    (yl : Yl K (Av O env1 σ H1) (Kp env1 σ H1) J ds) (e2 : dcRun vs t c k el ds [] env1 = .ok ys env2)
    (q : ∀ v H', Rel K (un O (nw (.new (.dic ys)) v)) (restC env1 env2 vs) σ H' → Step env1 σ H1 (restC env1 env2 vs) σ H' → RR K (un O (nw (.new (.dic ys)) v)) (restC env1 env2 vs) σ H1 H' (.new (.dic ys)) v → Q v H') :
    DcRest K k el c t vs σ J H1 Q := by
  intro p hp
  let N : Addr → Prop := nw (.new (.dic [])) (.ref p)
  have Np : ∀ a, N a → a = p := fun a z => by
    have z : V.ref p = .ref a := z
    cases z; rfl
  have N0 : ∀ a, N a → H1 a = none := fun a z => by rw [Np a z]; exact hp
  have pN : un O N p := .inr rfl
  -- the turns
  refine ⟨fun i m H' => m = ds.length - i ∧ i ≤ ds.length ∧ ∃ envi acc accV, (∀ j ∈ vs, obAt envi j = none) ∧ Rel K (un O N) (wipeC envi vs) (wipe σ vs) H' ∧
    Step env1 σ H1 (wipeC envi vs) (wipe σ vs) H' ∧ H' p = some (.dK accV) ∧ RpD K (Av (un O N) (wipeC envi vs) (wipe σ vs) H') acc accV ∧
    dcRun vs t c k el (ds.drop i) acc envi = .ok ys env2, ⟨ds.length, rfl, Nat.zero_le _, env1, [], [], no, ?_, ?_, upd_same, by simp [RpD], e2⟩, ?_⟩
  · have rg := r1.growN (H1 := upd H1 p (.dK [])) (N := N) (same_new hp) fun a z => ⟨N0 a z, by rw [Np a z]; exact ⟨_, upd_same, trivial⟩⟩
    exact (rel_wipe rg no).1
  · exact (Step.grow (same_new hp)).trans (rel_wipe (r1.grow (same_new hp)) no).2
  rintro i m H' ⟨rfl, hi, envi, acc, accV, noi, ri, si, hacc, racc, ei⟩
  have hS : Kp env1 σ H1 H' := fun a o h1 h2 => si.kp a o h1 h2
  have p0 : ¬ Ow (wipeC envi vs) (wipe σ vs) p := (ri.hid p pN).2
  by_cases hl : i < ds.length
  · refine .inr ⟨yl.go i H' hS hl, fun H3 => i + 1 ≤ ds.length ∧ ∃ envi acc accV, (∀ j ∈ vs, obAt envi j = none) ∧ Rel K (un O N) (wipeC envi vs) (wipe σ vs) H3 ∧
      Step env1 σ H1 (wipeC envi vs) (wipe σ vs) H3 ∧ H3 p = some (.dK accV) ∧ RpD K (Av (un O N) (wipeC envi vs) (wipe σ vs) H3) acc accV ∧
      dcRun vs t c k el (ds.drop (i + 1)) acc envi = .ok ys env2, fun H3 h3 => ⟨ds.length - (i + 1), by omega, rfl, h3⟩, ?_⟩
    intro x H2 hy
    obtain ⟨g, rp⟩ := yl.yld i H' x H2 ds[i] hS (List.getElem?_eq_getElem hl) hy
    rw [List.drop_eq_getElem_cons hl] at ei
    unfold dcRun at ei
    cases ea : asgD t ds[i] (wipeC envi vs) with
    | none => rw [ea] at ei; cases ei
    | some env3 =>
      rw [ea] at ei
      simp only at ei
      obtain ⟨b, env4, e4, ei⟩ := Res.bind_ok ei
      have hx : Rp K (Av (un O N) (wipeC envi vs) (wipe σ vs) H2) ds[i] x := by
        refine Rp.mono (fun a u k => ?_) _ _ rp
        rcases k with k | ⟨h1, h2⟩
        · exact (Step.grow g).av a u (si.avN N0 a u k)
        · exact ⟨ri.fresh_not h1, fun z => ri.hidT z h1, h2⟩
      refine ⟨un O N, wipeC envi vs, ds[i], env3, ri.grow g, hx, ea, fun σ2 H3 r3 s3 eq3 => ⟨wipe_eq eq3 ht, un O N, env3, r3, b, env4, e4, fun H4 r4 s4 => ?_⟩⟩
      have sA := ((Step.grow (env := wipeC envi vs) (σ := wipe σ vs) g).trans s3).trans s4
      -- the list is as it was
      have acc4 : H4 p = some (.dK accV) := sA.kp p _ hacc p0
      have ra4 := sA.rpD racc
      have goon : ∀ {env6 : Cells} {acc' : List (DK × Fx.D)} {accV' : List (Key × V)} {H6 : Hp}, vs.any (isOb env6) = false → Rel K (un O N) env6 σ2 H6 → Step env1 σ H1 env6 σ2 H6 → H6 p = some (.dK accV') →
          RpD K (Av (un O N) env6 σ2 H6) acc' accV' → dcRun vs t c k el (ds.drop (i + 1)) acc' env6 = .ok ys env2 →
          ∃ envi acc accV, (∀ j ∈ vs, obAt envi j = none) ∧ Rel K (un O N) (wipeC envi vs) (wipe σ vs) H6 ∧
            Step env1 σ H1 (wipeC envi vs) (wipe σ vs) H6 ∧ H6 p = some (.dK accV) ∧ RpD K (Av (un O N) (wipeC envi vs) (wipe σ vs) H6) acc accV ∧
            dcRun vs t c k el (ds.drop (i + 1)) acc envi = .ok ys env2 := by
        intro env6 acc' accV' H6 hno6 r6 s6 h6 ra6 e6
        have no6 := isOb_none (by rw [hno6]; exact Bool.false_ne_true)
        obtain ⟨r8, s8⟩ := rel_wipe r6 no6
        rw [wipe_eq eq3 ht] at r8 s8
        exact ⟨env6, acc', accV', no6, r8, s6.trans s8, h6, s8.rpD ra6, e6⟩
      cases b with
      | true =>
        show tE K k σ2 H4 _
        simp only [if_pos] at ei
        obtain ⟨kr, env5, e5, ei⟩ := Res.bind_ok ei
        refine ⟨un O N, env4, r4, kr, env5, e5, fun y H5 r5 s5 rr5 => ?_⟩
        cases kr with
        | own i => cases ei
        | new b => cases ei
        | d kd =>
        simp only at ei
        cases hk : keyOf kd with
        | none => rw [hk] at ei; cases ei
        | some kk =>
        rw [hk] at ei
        simp only at ei
        obtain ⟨r, env6, e6, ei⟩ := Res.bind_ok ei
        have ry : y = kV kk.toKey := keyOf_v (Rp.view (fun a u k => k.2.2) rr5) hk
        have r5' : Rel K (un O N) env5 σ2 H5 := r5.less fun a z => .inl z
        refine ⟨un O N, env5, r5', r, env6, e6, fun z H6 r6 s6 rr6 => ?_⟩
        cases g6 : frz env6 r with
        | none => rw [g6] at ei; cases ei
        | some pr =>
          obtain ⟨d, env7⟩ := pr
          rw [g6] at ei
          simp only at ei
          obtain ⟨r7, s7, rp7⟩ := frz_ok r6 (hs1_of r5' rr6) rr6 g6
          have sB := ((sA.trans s5).trans s6).trans s7
          have acc6 : H6 p = some (.dK accV) := sB.kp p _ hacc p0
          have ra6 := sB.rpD racc
          split at ei
          · rename_i hlim
            refine ⟨accV, kk.toKey, ry, acc6, ?_, hl, ?_⟩
            · rw [ra6.length]; exact Nat.lt_of_lt_of_le hlim.1 (by decide)
            · have av6 : ∀ a u, Av (un O N) env7 σ2 H6 a u → Av (un O N) env7 σ2 (upd H6 p (.dK (putK accV kk.toKey z))) a u := fun a u ⟨k1, k2, k3⟩ => by
                have ne : a ≠ p := fun z => k2 (by subst z; exact pN)
                refine ⟨k1, k2, ?_⟩
                rcases k3 with k3 | ⟨od, k3⟩
                · exact .inl ((upd_ne ne).trans k3)
                · exact .inr ⟨od, (upd_ne ne).trans k3⟩
              have r8 := rel_hidden (o' := .dK (putK accV kk.toKey z)) r7 pN trivial
              have sC := si.trans sB
              have s8 : Step env1 σ H1 env7 σ2 (upd H6 p (.dK (putK accV kk.toKey z))) := by
                refine ⟨fun a o e n => ?_, sC.ow, fun a e => ?_, sC.io⟩
                · have ne : a ≠ p := fun z => by subst z; rw [hp] at e; cases e
                  exact (upd_ne ne).trans (sC.kp a o e n)
                · by_cases z : a = p
                  · subst z; rw [upd_same]; simp
                  · rw [upd_ne z]; exact sC.th a e
              exact goon hlim.2 r8 s8 upd_same (rpd_put kk (Rp.mono av6 _ _ rp7) (RpD.mono av6 _ _ ra6)) ei
          · cases ei
      | false =>
        show i + 1 ≤ ds.length ∧ _
        simp only [if_neg Bool.false_ne_true] at ei
        split at ei
        · rename_i hno4
          exact ⟨hl, goon hno4 r4 (si.trans sA) acc4 ra4 ei⟩
        · cases ei
  · have hi' : ds.drop i = [] := List.drop_eq_nil_of_le (by omega)
    rw [hi'] at ei
    simp only [dcRun] at ei
    cases ei
    refine .inl ⟨yl.stop i H' hS (by omega), ?_⟩
    obtain ⟨r9, s9⟩ := rel_rest (vs := vs) r1 no ri noi N0 si
    refine q _ _ r9 s9 ⟨p, rfl, hp, accV, hacc, ?_⟩
    refine RpD.mono (fun a u k => ⟨fun o => k.1 ?_, k.2⟩) _ _ racc
    obtain ⟨j, b, h1, h2⟩ := o
    by_cases hj : j ∈ vs
    · have := no j hj
      unfold obAt at h1 this
      cases e9 : (restC env1 env2 vs)[j]? with
      | none => rw [e9] at h1; cases h1
      | some c9 =>
        rw [e9, restC_in hj e9] at h1
        cases e8 : env1[j]? with
        | none => rw [e8] at h1; cases h1
        | some c8 => rw [e8] at h1 this; rw [show Option.bind (some c8) Cell.ob = c8.ob from rfl] at this; rw [show (some ((some c8).getD Cell.none)).bind Cell.ob = c8.ob from rfl, this] at h1; cases h1
    · refine ⟨j, b, ?_, by rw [wipe_at hj]; exact h2⟩
      unfold obAt at h1 ⊢
      rw [restC_out hj] at h1
      rw [wipeC_out hj]
      exact h1
end
section
variable {K : PySem.W.Frag} {σ : L2.St} {H : Hp} {R : L2.It → Hp → Prop}
theorem tE_dcW {k el : Cells → Res Fx.R} {c : Cells → Res Bool} {it : Cells → Res (List Fx.D)} {t : Tg} {vs : List Nat} {Q : VK} (ht : ∀ i ∈ t.slots, i ∈ vs)
    (h : tE K (doDc k el t it c vs) σ H Q) : tUlE (tDc (tIW K it) (gD K t) (tT K c) (tE K k) (tE K el) vs) σ H Q := by
  obtain ⟨O, env, rel, r, env', e, q⟩ := h
  obtain ⟨ds, env1, e1, e⟩ := Res.bind_ok e
  split at e
  · cases e
  rename_i hno
  have no := isOb_none hno
  obtain ⟨ys, env2, e2, e⟩ := Res.bind_ok e
  cases e
  refine ⟨O, env, rel, ds, env1, e1, fun J H1 r1 s1 yl => dc_rest (Q := fun v H' => Ul H H' (Q v)) ht r1 no yl e2 fun v H' r9 s9 rr => .inl (q v H' r9 (s1.trans s9) (rr.back fun p => s1.back)),
    fun J H1 d od zs r1 s1 hd nd no' yl => dc_rest (Q := fun v H' => Ul H H' (Q v)) ht (lock_rel r1 hd nd no') no yl e2 fun v H' r9 s9 rr => ?_⟩
  obtain ⟨hd', s10⟩ := unlock_step nd hd s9
  exact .inr ⟨d, od, _, hd', ul_fin rel s1 hd, q v _ (unlock_rel r9 hd') (s1.trans s10) ((unlock_rr hd' rr).back fun p => s1.back)⟩
end
end Fx

set_option Elab.async false
set_option linter.all false
set_option maxRecDepth 100000
/-! Fx34: a list comprehension over a list that its slot owns and keeps. -/
namespace Fx
open L2 PyProof.Rows PySem PySem.Spec
section
variable {K : PySem.W.Frag} {O : Addr → Prop} {env env0 env1 env2 env' : Cells} {σ : L2.St} {H H0 H1 H2 H' : Hp}
theorem ob_aside {i : Nat} (j : Nat) : obAt (env.set i .none) j = if j = i then none else obAt env j := by
  unfold obAt
  by_cases e : j = i
  · subst e
    rw [if_pos rfl]
    by_cases hl : j < env.length
    · rw [List.getElem?_set_self hl]; rfl
    · rw [List.getElem?_eq_none (by simpa using hl)]; rfl
  · rw [if_neg e, List.getElem?_set_ne fun z => e z.symm]
theorem ow_aside {i : Nat} {p : Addr} {b : Ob} (rel : Rel K O env σ H) (hb : obAt env i = some b) (hp : σ[i]? = some (some (.ref p))) {a : Addr} : Ow (env.set i .none) σ a ↔ Ow env σ a ∧ a ≠ p := by
  constructor
  · rintro ⟨j, b', h1, h2⟩
    rw [ob_aside] at h1
    split at h1
    · cases h1
    · rename_i ne
      refine ⟨⟨j, b', h1, h2⟩, fun z => ?_⟩
      subst z
      exact ne (rel.inj j i b' b a h1 hb h2 hp)
  · rintro ⟨⟨j, b', h1, h2⟩, ne⟩
    refine ⟨j, b', ?_, h2⟩
    rw [ob_aside, if_neg]
    · exact h1
    · intro z
      subst z
      rw [hp] at h2
      cases h2
      exact ne rfl
/-- the list put aside: hidden -/
theorem rel_aside {i : Nat} {p : Addr} {b : Ob} (rel : Rel K O env σ H) (hb : obAt env i = some b) (hp : σ[i]? = some (some (.ref p))) :
    Rel K (un O fun a => a = p) (env.set i .none) σ H := by
  have hpO : ¬ O p := fun z => (rel.hid p z).2 ⟨i, b, hb, hp⟩
  have ow := fun a => ow_aside (a := a) rel hb hp
  have av : ∀ a u, Av O env σ H a u → Av (un O fun a => a = p) (env.set i .none) σ H a u := fun a u ⟨k1, k2, k3⟩ =>
    ⟨fun z => k1 ((ow a).mp z).1, fun z => z.elim k2 fun z => k1 (by subst z; exact ⟨i, b, hb, hp⟩), k3⟩
  refine ⟨by rw [List.length_set]; exact rel.len, fun j c e => ?_, fun j k b1 b2 q h1 h2 h3 h4 => ?_, fun a z => ?_⟩
  · by_cases ji : j = i
    · subst ji
      have hl : j < env.length := by
        have := (List.getElem?_eq_some_iff.mp e).1
        simpa using this
      rw [List.getElem?_set_self hl] at e
      cases e
      trivial
    · rw [List.getElem?_set_ne fun z => ji z.symm] at e
      have q := rel.at_ j c e
      cases c with
      | none => trivial
      | d y => obtain ⟨w, e1, q⟩ := q; exact ⟨w, e1, Rp.mono av _ _ q⟩
      | o b => obtain ⟨w, e1, q⟩ := q; exact ⟨w, e1, q.mono av rfl⟩
      | io b => obtain ⟨w, e1, q⟩ := q; exact ⟨w, e1, q.mono av rfl⟩
  · rw [ob_aside] at h1 h2
    split at h1
    · cases h1
    · split at h2
      · cases h2
      · exact rel.inj j k b1 b2 q h1 h2 h3 h4
  · rcases z with z | z
    · exact ⟨(rel.hid a z).1, fun o => (rel.hid a z).2 ((ow a).mp o).1⟩
    · subst z
      obtain ⟨q, e, ho⟩ := rel.ob hb
      rw [hp] at e
      cases e
      exact ⟨ho.some, fun o => ((ow a).mp o).2 rfl⟩
/-- the list back in its slot -/
theorem rel_back {N : Addr → Prop} {i : Nat} {p : Addr} {ds : List Fx.D} {xs : List V} (r : Rel K (un (un O fun a => a = p) N) env2 σ H') (hi : i < env2.length) (h0 : obAt env2 i = none) (hp : σ[i]? = some (some (.ref p)))
    (hO : ¬ O p) (hN : ¬ N p) (hx : H' p = some (.lst xs)) (hr : RpL K (Av (un O N) (env2.set i (.o (.lst ds))) σ H') ds xs) :
    Rel K (un O N) (env2.set i (.o (.lst ds))) σ H' ∧ (∀ a, Ow (env2.set i (.o (.lst ds))) σ a ↔ Ow env2 σ a ∨ a = p) ∧
      (∀ a u, Av (un (un O fun a => a = p) N) env2 σ H' a u → Av (un O N) (env2.set i (.o (.lst ds))) σ H' a u) := by
  have at_i : (env2.set i (.o (.lst ds)))[i]? = some (.o (.lst ds)) := List.getElem?_set_self hi
  have ob : ∀ j, obAt (env2.set i (.o (.lst ds))) j = if j = i then some (.lst ds) else obAt env2 j := by
    intro j
    unfold obAt
    by_cases e : j = i
    · subst e; rw [if_pos rfl, at_i]; rfl
    · rw [if_neg e, List.getElem?_set_ne fun z => e z.symm]
  have ow : ∀ a, Ow (env2.set i (.o (.lst ds))) σ a ↔ Ow env2 σ a ∨ a = p := by
    intro a
    constructor
    · rintro ⟨j, b, h1, h2⟩
      rw [ob] at h1
      split at h1
      · rename_i e
        subst e
        rw [hp] at h2
        cases h2
        exact .inr rfl
      · exact .inl ⟨j, b, h1, h2⟩
    · rintro (⟨j, b, h1, h2⟩ | rfl)
      · refine ⟨j, b, ?_, h2⟩
        rw [ob, if_neg]
        · exact h1
        · intro z; subst z; rw [h0] at h1; cases h1
      · exact ⟨i, _, obAt_o at_i, hp⟩
  have av : ∀ a u, Av (un (un O fun a => a = p) N) env2 σ H' a u → Av (un O N) (env2.set i (.o (.lst ds))) σ H' a u := fun a u ⟨k1, k2, k3⟩ =>
    ⟨fun z => ((ow a).mp z).elim k1 fun z => k2 (.inl (.inr z)), fun z => k2 (z.elim (fun z => .inl (.inl z)) .inr), k3⟩
  have np : ¬ Ow env2 σ p := (r.hid p (.inl (.inr rfl))).2
  refine ⟨⟨by rw [List.length_set]; exact r.len, fun j c e => ?_, fun j k b1 b2 q h1 h2 h3 h4 => ?_, fun a z => ?_⟩, ow, av⟩
  · by_cases ji : j = i
    · subst ji
      rw [at_i] at e
      cases e
      exact ⟨p, hp, xs, hx, hr⟩
    · rw [List.getElem?_set_ne fun z => ji z.symm] at e
      have q := r.at_ j c e
      cases c with
      | none => trivial
      | d y => obtain ⟨w, e1, q⟩ := q; exact ⟨w, e1, Rp.mono av _ _ q⟩
      | o b => obtain ⟨w, e1, q⟩ := q; exact ⟨w, e1, q.mono av rfl⟩
      | io b => obtain ⟨w, e1, q⟩ := q; exact ⟨w, e1, q.mono av rfl⟩
  · rw [ob] at h1 h2
    split at h1
    · split at h2
      · rename_i e1 e2; rw [e1, e2]
      · rename_i e1 e2
        subst e1
        rw [hp] at h3
        cases h3
        exact (np ⟨k, b2, h2, h4⟩).elim
    · split at h2
      · rename_i e1 e2
        subst e2
        rw [hp] at h4
        cases h4
        exact (np ⟨j, b1, h1, h3⟩).elim
      · exact r.inj j k b1 b2 q h1 h2 h3 h4
  · have z' : un (un O fun a => a = p) N a := z.elim (fun z => .inl (.inl z)) .inr
    refine ⟨(r.hid a z').1, fun o => ?_⟩
    rcases (ow a).mp o with o | o
    · exact (r.hid a z').2 o
    · subst o; exact z.elim hO hN
theorem tE_lck {el : Cells → Res Fx.R} {c : Cells → Res Bool} {i : Nat} {t : Tg} {vs : List Nat} {Q : VK} (ht : ∀ i ∈ t.slots, i ∈ vs)
    (h : tE K (doLck el t i c vs) σ H Q) : tUlE (tLc (iAnyL K (tE K (doVar i))) (gD K t) (tT K c) (tE K el) vs) σ H Q := by
  have plain : tE K (doLc el t (doIt1 walkOf (doVar i)) c vs) σ H Q → tUlE (tLc (iAnyL K (tE K (doVar i))) (gD K t) (tT K c) (tE K el) vs) σ H Q := fun h => tIW_any (tE_lcW ht h)
  obtain ⟨O, env, rel, r, env', e, q⟩ := h
  unfold doLck at e
  split at e
  case h_2 => exact plain ⟨O, env, rel, r, env', e, q⟩
  rename_i ds ei
  split at e
  · cases e
  rename_i hno
  rw [Bool.or_eq_true, not_or] at hno
  have no0 := isOb_none hno.2
  have hiv : i ∉ vs := fun z => hno.1 (by simpa using z)
  obtain ⟨ys, env2, e2, e⟩ := Res.bind_ok e
  cases e
  have hb := obAt_o ei
  have hil : i < env.length := (List.getElem?_eq_some_iff.mp ei).1
  obtain ⟨p, hp, xs0, hx0, hr0⟩ := rel.ob hb
  have no : ∀ j ∈ vs, obAt (env.set i .none) j = none := fun j hj => by
    rw [ob_aside]
    split
    · rfl
    · exact no0 j hj
  have hpO : ¬ O p := fun z => (rel.hid p z).2 ⟨i, _, hb, hp⟩
  refine .inl (.inl ⟨O, env, rel, .own i, env, by unfold doVar; rw [ei], fun v H1 r1u s1 rr => ?_⟩)
  have r1 : Rel K O env σ H1 := r1u.less fun a z => .inl z
  clear r1u
  have rr : σ[i]? = some (some v) := rr
  rw [hp] at rr
  cases rr
  obtain ⟨p', hp', xs, hx, hr⟩ := r1.ob hb
  rw [hp] at hp'
  cases hp'
  have ra := rel_aside r1 hb hp
  have rP := hr
  have npa : ¬ Ow (env.set i .none) σ p := (ra.hid p (.inr rfl)).2
  have ava : ∀ a u, Av O env σ H1 a u → Av (un O fun a => a = p) (env.set i .none) σ H1 a u := fun a u ⟨k1, k2, k3⟩ =>
    ⟨fun z => k1 ((ow_aside r1 hb hp).mp z).1, fun z => z.elim k2 fun z => k1 (by subst z; exact ⟨i, _, hb, hp⟩), k3⟩
  refine ⟨p, rfl, ⟨xs, .inl (.inl hx)⟩, ?_⟩
  have yl : Yl K (Av (un O fun a => a = p) (env.set i .none) σ H1) (Kp (env.set i .none) σ H1) (Itl K p) ds :=
    yl_list (fun H' k => .inl (.inl (k p _ hx npa))) (RpL.mono ava _ _ hr)
  refine lc_rest (Q := fun v H' => Ul H H' (Q v)) ht ra no yl e2 fun v H' r9 s9 rr => .inl ?_
  have nN : ∀ a, nw (.new (.lst ys)) v a → H1 a = none := fun a z => rr.fresh a z
  have hN : ¬ nw (.new (.lst ys)) v p := fun z => by have := nN p z; rw [hx] at this; cases this
  have len3 : i < (restC (env.set i .none) env2 vs).length := by
    rw [r9.len]
    rw [← rel.len]
    exact hil
  have h0 : obAt (restC (env.set i .none) env2 vs) i = none := by
    cases e9 : obAt (restC (env.set i .none) env2 vs) i with
    | none => rfl
    | some b =>
      exfalso
      exact (r9.hid p (.inl (.inr rfl))).2 ⟨i, b, e9, hp⟩
  have hx' : H' p = some (.lst xs) := s9.kp p _ hx npa
  -- the step of the whole
  have owF : ∀ a, H1 a ≠ none → ¬ Ow env σ a → ¬ Ow (restC (env.set i .none) env2 vs) σ a := fun a ha n => s9.ow a ha fun z => n ((ow_aside r1 hb hp).mp z).1
  have ow2 : ∀ a, Ow ((restC (env.set i .none) env2 vs).set i (.o (.lst ds))) σ a → Ow (restC (env.set i .none) env2 vs) σ a ∨ a = p := by
    rintro a ⟨j, b, h1, h2⟩
    by_cases ji : j = i
    · subst ji; rw [hp] at h2; cases h2; exact .inr rfl
    · refine .inl ⟨j, b, ?_, h2⟩
      unfold obAt at h1 ⊢
      rw [List.getElem?_set_ne fun z => ji z.symm] at h1
      exact h1
  have sF : Step env σ H1 ((restC (env.set i .none) env2 vs).set i (.o (.lst ds))) σ H' := by
    refine ⟨fun a o ha n => s9.kp a o ha fun z => n ((ow_aside r1 hb hp).mp z).1, fun a ha n z => ?_, s9.th, fun j b ej => ?_⟩
    · rcases ow2 a z with z | z
      · exact owF a ha n z
      · subst z; exact n ⟨i, _, hb, hp⟩
    · have ji : j ≠ i := fun z => by subst z; rw [ei] at ej; cases ej
      obtain ⟨h1, b', h2⟩ := s9.io j b (by rw [List.getElem?_set_ne fun z => ji z.symm]; exact ej)
      exact ⟨h1, b', by rw [List.getElem?_set_ne fun z => ji z.symm]; exact h2⟩
  have hrF : RpL K (Av (un O (nw (.new (.lst ys)) v)) ((restC (env.set i .none) env2 vs).set i (.o (.lst ds))) σ H') ds xs :=
    RpL.mono (fun a u k => sF.avN nN a u k) _ _ hr
  obtain ⟨rF, owF', avF⟩ := rel_back r9 len3 h0 hp hpO hN hx' hrF
  refine q v H' rF (s1.trans sF) ?_
  obtain ⟨p2, e1, e2, e3⟩ := rr
  exact ⟨p2, e1, s1.back e2, e3.mono avF rfl⟩
end
end Fx

set_option Elab.async false
set_option linter.all false
set_option maxRecDepth 100000
/-! Fx35: list(range(..)), list(d.values()), list(d.items()). -/
namespace Fx
open L2 PyProof.Rows PySem PySem.Spec
section
variable {K : PySem.W.Frag} {A : RdA} {σ : L2.St} {H : Hp} {Q : VK}
theorem rg_rpl (a : Int) (n : Nat) : RpL K A (rangeL a n 1) ((List.range n).map fun (i : Nat) => V.int (a + (i : Nat))) := by
  unfold rangeL
  have : ∀ l : List Nat, RpL K A (l.map fun (i : Nat) => D.int (a + (i : Int) * 1)) (l.map fun (i : Nat) => V.int (a + (i : Nat))) := by
    intro l
    induction l with
    | nil => exact .nil
    | cons i l ih =>
      refine .cons ?_ ih
      simp only [Rp, Int.mul_one]
  exact this _
theorem rg_ok {a b : Int} (h1 : a.natAbs ≤ lim) (h2 : b.natAbs ≤ lim) : RgOk a b := by
  have e : lim = 1000000 := rfl
  rw [e] at h1 h2
  have e2 : (2 : Int) ^ 62 = 4611686018427387904 := by decide
  have e3 : (2 : Nat) ^ 24 = 16777216 := by decide
  refine ⟨?_, ?_, ?_, ?_, ?_⟩ <;> omega
theorem tE_lrg1 {f : Cells → Res Fx.R} (h : tE K (do1 (fun x => (rg1D x).map RO.toR) f) σ H Q) : tLstRg (tRg1 (tE K f)) σ H Q := by
  obtain ⟨O, env, rel, r, env', e, q⟩ := tE_do1 h
  refine ⟨O, env, rel, r, env', e, fun v H1 r1 s1 rr => ?_⟩
  obtain ⟨A, dx, ro, ga, vw, ef, q⟩ := q v H1 r1 s1 rr
  cases dx with
  | int n =>
    simp only [View] at vw
    subst vw
    unfold rg1D at ef
    simp only at ef
    split at ef
    · rename_i hn
      cases ef
      refine ⟨n, rfl, rg_ok (by decide) hn, fun p hp => ?_⟩
      have g := give_lst (A := A) hp (rg_rpl 0 n.toNat) q
      have e0 : rgV 0 n = (List.range n.toNat).map fun i => V.int (0 + (i : Nat)) := by unfold rgV; rw [Int.sub_zero]
      rw [e0]
      exact g
    · cases ef
  | _ => cases ef
theorem tE_lrg2 {f g : Cells → Res Fx.R} (h : tE K (do2 (fun x y => (rg2D x y).map RO.toR) f g) σ H Q) : tLstRg (tRg2 (tE K f) (tE K g)) σ H Q := by
  obtain ⟨O, env, rel, r, env', e, q⟩ := tE_do2 h
  refine ⟨O, env, rel, r, env', e, fun v H1 r1 s1 rr => ?_⟩
  obtain ⟨O, env, rel, r, env', e, q⟩ := q v H1 r1 s1 rr
  refine ⟨O, env, rel, r, env', e, fun u H2 r2 s2 rr2 => ?_⟩
  obtain ⟨A, dx, dy, ro, ga, vx, vy, ef, q⟩ := q u H2 r2 s2 rr2
  cases dx with
  | int a =>
    cases dy with
    | int b =>
      simp only [View] at vx vy
      subst vx
      subst vy
      unfold rg2D at ef
      simp only at ef
      split at ef
      · rename_i hn
        cases ef
        exact ⟨a, b, rfl, rfl, rg_ok hn.1 hn.2, fun p hp => give_lst (A := A) hp (rg_rpl a (b - a).toNat) q⟩
      · cases ef
    | _ => cases ef
  | _ => cases ef
theorem rpd_vals : ∀ {kvs : List (DK × D)} {ys : List (Key × V)}, RpD K A kvs ys → RpL K A (kvs.map fun p => p.2) (ys.map fun p => p.2)
  | [], _, h => by simp only [RpD] at h; subst h; exact .nil
  | (k, d) :: kvs, _, h => by
    simp only [RpD] at h
    obtain ⟨x, r, rfl, hd, ht⟩ := h
    exact .cons hd (rpd_vals ht)
theorem rpd_its {A' : RdA} (hA : ∀ a u, A a u → A' a u) : ∀ {kvs : List (DK × D)} {ys : List (Key × V)} {ts : List Addr}, RpD K A kvs ys → Paired (fun (t : Addr) (q : Key × V) => A' t (.tup [kV q.1, q.2])) ts ys →
    RpL K A' (kvs.map fun p => .tup [p.1.toD, p.2]) (ts.map V.ref)
  | [], _, _, h, p => by
    simp only [RpD] at h
    subst h
    cases p
    exact .nil
  | (k, d) :: kvs, _, _, h, p => by
    simp only [RpD] at h
    obtain ⟨x, r, rfl, hd, ht⟩ := h
    cases p with
    | cons h1 h2 =>
      refine .cons ?_ (rpd_its hA ht h2)
      simp only [Rp]
      refine ⟨_, _, rfl, .inl h1, .cons ?_ (.cons (Rp.mono hA _ _ hd) .nil)⟩
      cases k <;> simp [DK.toD, DK.toKey, Rp, kV]
end
section
variable {X : Cx} {te : TE} {e : Expr} {apos pos p cpos : Pos}
theorem list_boot : bootBuiltins "list" = some (.type "list") := by decide +kernel
theorem view_star {m : Str} : starEach [.Call (.Attribute e m apos) [] [] cpos] X.env = (false, eval (.Call (.Attribute e m apos) [] [] cpos) X.env) :: starEach [] X.env := rfl
/-- list(d.values()) -/
theorem pe_listV (hc : X.calm = true) (hg : Gl X "list") (hm : X.mg "list" = none) (he : PE X e te) (hbase : attributeBase e "values" X.env (eval e X.env) = eval e X.env) (hline : (apos.endLine == cpos.line) = true) :
    PE X (.Call (.Name "list" p) [.Call (.Attribute e "values" apos) [] [] cpos] [] pos) (tUn (r1 X.K valsD) te) := by
  constructor
  intro pns s σ H Q I h
  refine wpAny_Call_Name_kw (ld_blt I hg hm list_boot (PyProof.Rows.callWith_type1 ?_ view_star rfl))
  rw [view_star]
  refine Calls.spliced_cons (wpAny_Call_method hbase rfl hline F.plainAttrs_dict F.slot_dict_values F.type_dict_values (thn (he.run pns s σ H _ I h) ?_))
  rintro u s1 ⟨x, H1, I1, rx, A, dx, ro, ga, vw, ef, q⟩
  cases dx with
  | dic kvs =>
    cases ef
    simp only [View] at vw
    obtain ⟨d, ys, rfl, hd, hr⟩ := vw
    cases rx
    obtain ⟨hz, sys, vs, kv, dof⟩ := dk_rd I1.hok hd
    obtain ⟨age, dat⟩ := dof.dictAt
    have I2 : Inv X pns σ H1 { s1 with heap := s1.heap.push { cls := .type "dict_values", data := .fields #[.ref d] } } := I1.kept (t' := s1.toks) fun b ob z => Heap.get?_push_of_some _ z
    refine ⟨dof.typeIs, dof.mapOf.noDict, method_meetsIn F.slot_dict_values F.entry_dict_values rfl (PySem.evalArgs_none ⟨rfl, dof.typeIs, F.args_dict_values_1 _, _, meets_dict_values (mixKind X.prog X.w) d sys, ⟨vs, dof⟩, Calls.spliced_nil ?_⟩)⟩
    have ln := KV.length kv
    refine PySem.W.kdl_call (PySem.W.kdl_values (knd := mixKind X.prog X.w) (kvs := vs) (ep := age)) (I1.ok.hd hc) ⟨⟨_, Heap.get?_push_size _ rfl, rfl, rfl⟩, dat.push _⟩ (by omega) fun h' tk acc n hk hS items => ?_
    have lay : Vals (ys.map fun p => p.2) acc.toList := by
      refine L2.vals_of_at (by have := items.1; simp only [List.length_map, Array.length_toList]; omega) fun j y w h1 h2 => ?_
      obtain ⟨k, hw⟩ := items.2 j w (by rw [← Array.getElem?_toList]; exact h2)
      obtain ⟨z, h3, h4⟩ := KV.at' kv hw
      rw [List.getElem?_map, h3] at h1
      cases h1
      exact h4
    refine ⟨.ref _, _, I2.laid (o := .lst (ys.map fun p => p.2)) (t' := tk) hk (Nat.le_refl _) ⟨by rw [List.length_map]; exact hz, acc.toList, n, lay, by rw [Array.toArray_toList]; exact hS⟩, rfl, ?_⟩
    exact give_lst (I2.hok.fresh (Nat.le_refl _)) (rpd_vals hr) q
  | _ => cases ef
def tIts (te : TE) : TE := fun σ H Q => te σ H fun x H1 => ∃ d ys, x = .ref d ∧ Rd H1 d (.dK ys) ∧ ∀ (H' : Hp) (p : Addr) (ts : List Addr), Same H1 H' → H1 p = none → (∀ t ∈ ts, H1 t = none) →
  H' p = some (.lst (ts.map V.ref)) → Paired (fun (t : Addr) (q : Key × V) => H' t = some (.tup [kV q.1, q.2])) ts ys → Q (.ref p) H'
/-- list(d.items()) -/
theorem pe_listI (hc : X.calm = true) (hg : Gl X "list") (hm : X.mg "list" = none) (he : PE X e te) (hbase : attributeBase e "items" X.env (eval e X.env) = eval e X.env) (hline : (apos.endLine == cpos.line) = true) :
    PE X (.Call (.Name "list" p) [.Call (.Attribute e "items" apos) [] [] cpos] [] pos) (tIts te) := by
  constructor
  intro pns s σ H Q I h
  refine wpAny_Call_Name_kw (ld_blt I hg hm list_boot (PyProof.Rows.callWith_type1 ?_ view_star rfl))
  rw [view_star]
  refine Calls.spliced_cons (wpAny_Call_method hbase rfl hline F.plainAttrs_dict F.slot_dict_items F.type_dict_items (thn (he.run pns s σ H _ I h) ?_))
  rintro u s1 ⟨x, H1, I1, rx, d, ys, rfl, hd, q⟩
  cases rx
  obtain ⟨hz, sys, vs, kv, dof⟩ := dk_rd I1.hok hd
  obtain ⟨age, dat⟩ := dof.dictAt
  have I2 : Inv X pns σ H1 { s1 with heap := s1.heap.push { cls := .type "dict_items", data := .fields #[.ref d] } } := I1.kept (t' := s1.toks) fun b ob z => Heap.get?_push_of_some _ z
  refine ⟨dof.typeIs, dof.mapOf.noDict, method_meetsIn F.slot_dict_items F.entry_dict_items rfl (PySem.evalArgs_none ⟨rfl, dof.typeIs, F.args_dict_items_1 _, _, meets_dict_items (mixKind X.prog X.w) d sys, ⟨vs, dof⟩, Calls.spliced_nil ?_⟩)⟩
  have ln := KV.length kv
  refine PySem.W.kdx_call (knd := mixKind X.prog X.w) (kvs := vs) (ep := age) (I1.ok.hd hc) ⟨_, Heap.get?_push_size _ rfl, rfl, rfl⟩ (dat.push _) (by omega) fun h' tk acc n as hk hS hl hG hacc => ?_
  obtain ⟨H', same, new, news, off, at_S, at_ts, J⟩ := LiI.items_laid (tk := tk) I2 hz kv hk hS hl hG hacc
  exact ⟨.ref _, H', J, rfl, q H' _ as same new news at_S at_ts⟩
end
section
variable {K : PySem.W.Frag} {σ : L2.St} {H : Hp} {Q : VK}
theorem paired_on {α β : Type} {F G : α → β → Prop} : ∀ {xs : List α} {ys : List β}, Paired F xs ys → (∀ x ∈ xs, ∀ y, F x y → G x y) → Paired G xs ys
  | _, _, .nil, _ => .nil
  | _, _, .cons h t, g => .cons (g _ List.mem_cons_self _ h) (paired_on t fun x hx y => g x (List.mem_cons_of_mem _ hx) y)
theorem tE_lit {f : Cells → Res Fx.R} (h : tE K (do1 (fun x => (itsD x).map RO.toR) f) σ H Q) : tIts (tE K f) σ H Q := by
  obtain ⟨O, env, rel, r, env', e, q⟩ := h
  obtain ⟨x, env1, e1, e⟩ := Res.bind_ok e
  refine ⟨O, env, rel, x, env1, e1, fun v H1 r1 s1 rr => ?_⟩
  cases g1 : x.get env1 with
  | none => rw [g1] at e; cases e
  | some dx =>
    rw [g1] at e
    obtain ⟨e3, e4⟩ := ofO_ok e
    subst e4
    cases dx with
    | dic kvs =>
      cases e3
      have vw := RR.view r1 rr g1
      simp only [View] at vw
      obtain ⟨d, ys, rfl, hd, hr⟩ := vw
      refine ⟨d, ys, rfl, hd, fun H' p ts g n1 n2 l pr => ?_⟩
      have rO : Rel K O env' σ H1 := r1.less fun a z => .inl z
      have np : ∀ a, nw (.new (.lst (kvs.map fun p => D.tup [p.1.toD, p.2]))) (.ref p) a → a = p := fun a z => by
        have z : V.ref p = .ref a := z
        cases z; rfl
      have r3 := rO.growN (N := nw (.new (.lst (kvs.map fun p => D.tup [p.1.toD, p.2]))) (.ref p)) g fun a z => by rw [np a z]; exact ⟨n1, _, l, trivial⟩
      refine q _ H' r3 (s1.trans (Step.grow g)) ⟨p, rfl, s1.back n1, ts.map V.ref, l, ?_⟩
      refine rpd_its (fun a u k => (Step.grow g).avN (fun a z => by rw [np a z]; exact n1) a u (av_anti (fun a z => .inl z) a u k)) hr (paired_on pr fun t ht y hy => ?_)
      have ht := n2 t ht
      refine ⟨rO.fresh_not ht, fun z => z.elim (fun z => rO.hidT z ht) fun z => ?_, .inl hy⟩
      have := np t z
      subst this
      rw [l] at hy
      cases hy
    | _ => cases e3
end
end Fx

set_option Elab.async false
set_option linter.all false
set_option maxRecDepth 100000
/-! Fx16: calls, methods, subscripts, walks, comprehensions: the compiled expressions are right. -/
namespace Fx
open L2 PyProof.Rows PySem PySem.Spec

section
variable {Γ : FT} {X : Cx} {c : Ctx}
theorem find_blt {x : Str} {b : Blt} (h : findBlt x = some b) : b ∈ blts ∧ bltName b = x := by
  unfold findBlt at h
  exact ⟨List.mem_of_find?_eq_some h, of_decide_eq_true (p := _) (by have := List.find?_some h; exact this)⟩
theorem find_ty {x : Str} {b : Ty} (h : findTy x = some b) : tyName b = x := by
  unfold findTy at h
  exact of_decide_eq_true (p := _) (by have := List.find?_some h; exact this)
theorem find_mut {x : Str} {b : Mut1} (h : findMut x = some b) : b ∈ muts ∧ mutName b = x := by
  unfold findMut at h
  exact ⟨List.mem_of_find?_eq_some h, of_decide_eq_true (p := _) (by have := List.find?_some h; exact this)⟩
theorem k_blt {rec : Expr → Option CE} (ok : XOk Γ X c) (hr : ∀ e ce, rec e = some ce → Snd Γ X e ce) {x : Str} {p cpos : Pos} {e : Expr} {es : List Expr} {ces : List CE} {b : Blt} (hx : okN x = true) (hb : btB c x = true)
    (hf : findBlt x = some b) (h : cEs rec (e :: es) = some ces) : PE X (.Call (.Name x p) (e :: es) [] cpos) (tE X.K (doBlt b (evEs Γ ces))) := by
  obtain ⟨hm, rfl⟩ := find_blt hf
  obtain ⟨gl, mg⟩ := lookup_mem hb ok
  obtain ⟨n1, _, n3⟩ := okN_of hx
  obtain ⟨pa, ns, _⟩ := k_es hr h
  rw [List.all_cons, Bool.and_eq_true] at ns
  have go : ∀ {id : String}, CallR X (.builtin id) (rL X.K (bltD b)) → bootBuiltins (bltName b) = some (.builtin id) → PE X (.Call (.Name (bltName b) p) (e :: es) [] cpos) (tE X.K (doBlt b (evEs Γ ces))) :=
    fun hc hv => (pe_callB hc gl mg hv pa n3 n1 (starE ns.1 _ _) (noStars ns.2)).imp fun σ H Q q => tE_doBlt q
  have goT : ∀ {T : String}, CallR X (.type T) (rL X.K (bltD b)) → bootBuiltins (bltName b) = some (.type T) → PE X (.Call (.Name (bltName b) p) (e :: es) [] cpos) (tE X.K (doBlt b (evEs Γ ces))) :=
    fun hc hv => (pe_callTy hc gl mg hv pa n3 n1 (starE ns.1 _ _) (noStars ns.2)).imp fun σ H Q q => tE_doBlt q
  have hu := ok.hu
  simp only [blts, List.mem_cons, List.not_mem_nil, or_false] at hm
  rcases hm with rfl | rfl | rfl | rfl | rfl | rfl | rfl | rfl | rfl | rfl | rfl | rfl | rfl | rfl
  · exact go blt_len (by decide +kernel)
  · exact go blt_abs (by decide +kernel)
  · exact go (blt_max ok.calm) (by decide +kernel)
  · exact go (blt_min ok.calm (blt_minK ok.calm)) (by decide +kernel)
  · exact go (blt_sum ok.calm) (by decide +kernel)
  · exact go (blt_all ok.calm) (by decide +kernel)
  · exact go (blt_any ok.calm) (by decide +kernel)
  · exact goT blt_int (by decide +kernel)
  · exact goT (blt_list ok.calm) (by decide +kernel)
  · exact goT blt_tuple (by decide +kernel)
  · exact go (blt_repr (by omega) ok.hg ok.sys) (by decide +kernel)
  · exact go (blt_sorted ok.hu ok.calm) (by decide +kernel)
  · exact goT (blt_dict ok.calm) (by decide +kernel)
  · exact goT blt_str (by decide +kernel)
theorem tE_isinst {K : PySem.W.Frag} {a : Cells → Res R} {ty : Ty} {σ : L2.St} {H : Hp} {Q : VK} (h : tE K (do1 (fun d => (some (RO.d (.bl (tyD ty d)))).map RO.toR) a) σ H Q) :
    tCB (fun xs H Q => ∃ A d x, xs = [x, .ty (tyN ty)] ∧ GoodA A H ∧ View K A H d x ∧ Q (.bl (tyD ty d)) H) (tCons (tE K a) (tCons (tC (.ty (tyN ty))) tNil)) σ H Q := by
  obtain ⟨O, env, rel, r, env', e, q⟩ := tE_do1 (f := fun d => some (RO.d (.bl (tyD ty d)))) h
  refine ⟨O, env, rel, r, env', e, fun v H' r1 s1 rr => ?_⟩
  obtain ⟨A, dx, ro, ga, vw, ef, q'⟩ := q v H' r1 s1 rr
  cases ef
  exact ⟨A, dx, v, rfl, ga, vw, q' _ _ (Same.refl _) (by simp [ROR, Rp])⟩
theorem k_isinst {rec : Expr → Option CE} (ok : XOk Γ X c) (hr : ∀ e ce, rec e = some ce → Snd Γ X e ce) {p cpos : Pos} {a t : Expr} {ce : CE} (hx : okN "isinstance" = true) (hb : btB c "isinstance" = true)
    (h : cIs c rec a t = some ce) : Snd Γ X (.Call (.Name "isinstance" p) [a, t] [] cpos) ce := by
  cases t with
  | Name t tp =>
    simp only [cIs] at h
    split at h
    · rename_i ht
      rw [Bool.and_eq_true] at ht
      cases e1 : findTy t with
      | none => rw [e1] at h; cases h
      | some ty =>
        cases e2 : rec a with
        | none => rw [e1, e2] at h; cases h
        | some ca =>
          rw [e1, e2] at h
          cases h
          have s := hr a ca e2
          obtain ⟨gl, mg⟩ := lookup_mem hb ok
          obtain ⟨n1, _, n3⟩ := okN_of hx
          obtain ⟨gl', mg'⟩ := lookup_mem ht.1 ok
          obtain ⟨m1, _, m3⟩ := okN_of ht.2
          have eb : bootBuiltins t = some (.type (tyN ty)) := by
            rw [← find_ty e1]
            cases ty <;> decide +kernel
          have pt : PE X (.Name t tp) (tC (.ty (tyN ty))) := pe_bltn gl' mg' eb rfl m3 m1
          have pa := pa_cons s.v (pa_cons pt pa_nil (starE rfl [] X.env)) (starE s.ns [.Name t tp] X.env)
          refine .of (f := do1 (fun d => (some (RO.d (.bl (tyD ty d)))).map RO.toR) (ev Γ ca).v) (by rw [ev]) ?_ rfl rfl rfl
          exact (pe_callB isi_G gl mg (by decide +kernel) pa n3 n1 (starE s.ns _ _) rfl).imp fun σ H Q q => tE_isinst q
    · cases h
  | _ => cases h
theorem k_fn {rec : Expr → Option CE} (ok : XOk Γ X c) (hr : ∀ e ce, rec e = some ce → Snd Γ X e ce) {x : Str} {p cpos : Pos} {e : Expr} {es : List Expr} {ces : List CE} {i m d : Nat} (hx : okN x = true) (hg : glB c.sc x = true)
    (hl : c.fns.lookup x = some (i, m, d)) (h1 : (e :: es).length ≤ m) (h2 : m ≤ (e :: es).length + d) (h : cEs rec (e :: es) = some ces) :
    PE X (.Call (.Name x p) (e :: es) [] cpos) (tE X.K (doCall Γ i (evEs Γ ces))) := by
  obtain ⟨fe, hf, hm, hd, ⟨k, f, fd, ps, F, hr', mg, hk, bd⟩⟩ := ok.fns x _ hl
  obtain ⟨n1, _, n3⟩ := okN_of hx
  obtain ⟨pa, ns, len⟩ := k_es hr h
  rw [List.all_cons, Bool.and_eq_true] at ns
  obtain ⟨dvs, ds, b1, b2, b3⟩ := bd (e :: es).length (by rw [hm]; exact h1) (by rw [hm, hd]; exact h2)
  refine (pe_callG (E := E0) F hr' ok.hg (gl_x hg ok) mg hk b2 b1 pass0 pa n1 (starE ns.1 _ _) (noStars ns.2)).imp fun σ H Q q => ?_
  exact tE_call hf b3 (fun env rs env' e => by rw [ev_len e, len]) q
theorem k_zip {rec : Expr → Option CE} (ok : XOk Γ X c) (hr : ∀ e ce, rec e = some ce → Snd Γ X e ce) {p cpos : Pos} {args : List Expr} {ce : CE} (hb : btB c "list" = true)
    (h : cZip c rec args = some ce) : Snd Γ X (.Call (.Name "list" p) args [] cpos) ce := by
  unfold cZip at h
  split at h
  · rename_i y yp a b zp
    split at h
    · rename_i ey
      subst ey
      split at h
      · rename_i hz
        cases e1 : cEs rec [a, b] with
        | none => rw [e1] at h; cases h
        | some ces =>
          rw [e1] at h
          cases h
          obtain ⟨gl, mg⟩ := lookup_mem hb ok
          obtain ⟨gl2, mg2⟩ := lookup_mem hz ok
          obtain ⟨pa, ns, _⟩ := k_es hr e1
          simp only [List.all_cons, Bool.and_eq_true] at ns
          exact .of (by rw [ev]) ((pe_colZ ok.calm gl mg gl2 mg2 pa (starE ns.1 _ _) (by rw [starE ns.2.1]; rfl)).imp fun σ H Q q => tE_colZ q) rfl rfl rfl
      · cases h
    · cases h
  · cases h
theorem k_lst {rec : Expr → Option CE} (ok : XOk Γ X c) (hr : ∀ e ce, rec e = some ce → Snd Γ X e ce) {p cpos : Pos} {args : List Expr} {ce : CE} (hb : btB c "list" = true)
    (h : cLst c rec args = some ce) : Snd Γ X (.Call (.Name "list" p) args [] cpos) ce := by
  obtain ⟨gl, mg⟩ := lookup_mem hb ok
  unfold cLst at h
  split at h
  · rename_i y yp a rp
    split at h
    · rename_i ey
      subst ey
      split at h
      · rename_i hz
        cases e1 : rec a with
        | none => rw [e1] at h; cases h
        | some ca =>
          rw [e1] at h
          cases h
          obtain ⟨gl2, mg2⟩ := lookup_mem hz ok
          have sa := hr a ca e1
          exact .of (by rw [ev]) ((pe_listRg ok.calm gl mg (prg_1 gl2 mg2 sa.v (starE sa.ns _ _))).imp fun σ H Q q => tE_lrg1 q) rfl rfl rfl
      · cases h
    · cases h
  · rename_i y yp a b rp
    split at h
    · rename_i ey
      subst ey
      split at h
      · rename_i hz
        cases e1 : rec a with
        | none => rw [e1] at h; cases h
        | some ca =>
          cases e2 : rec b with
          | none => rw [e1, e2] at h; cases h
          | some cb =>
            rw [e1, e2] at h
            cases h
            obtain ⟨gl2, mg2⟩ := lookup_mem hz ok
            have sa := hr a ca e1
            have sb := hr b cb e2
            exact .of (by rw [ev]) ((pe_listRg ok.calm gl mg (prg_2 gl2 mg2 sa.v sb.v (starE sa.ns _ _) (starE sb.ns _ _) (by rw [starE sb.ns]; rfl))).imp fun σ H Q q => tE_lrg2 q) rfl rfl rfl
      · cases h
    · exact k_zip ok hr hb h
  · rename_i o m apos cp
    split at h
    · rename_i hn
      rw [Bool.and_eq_true] at hn
      have hbase : ∀ m : Str, attributeBase o m X.env (eval o X.env) = eval o X.env := by
        intro m
        have := hn.1
        cases o <;> first | rfl | cases this
      split at h
      · rename_i em
        subst em
        cases e1 : rec o with
        | none => rw [e1] at h; cases h
        | some a =>
          rw [e1] at h
          cases h
          exact .of (by rw [ev]) ((pe_listV ok.calm gl mg (hr o a e1).v (hbase _) hn.2).imp fun σ H Q q => tE_do1 q) rfl rfl rfl
      · split at h
        · rename_i em
          subst em
          cases e1 : rec o with
          | none => rw [e1] at h; cases h
          | some a =>
            rw [e1] at h
            cases h
            exact .of (by rw [ev]) ((pe_listI ok.calm gl mg (hr o a e1).v (hbase _) hn.2).imp fun σ H Q q => tE_lit q) rfl rfl rfl
        · cases h
    · cases h
  · cases h
theorem k_dzip {rec : Expr → Option CE} (ok : XOk Γ X c) (hr : ∀ e ce, rec e = some ce → Snd Γ X e ce) {p cpos : Pos} {args : List Expr} {ce : CE} (hb : btB c "dict" = true)
    (h : cZip c rec args = some ce) : Snd Γ X (.Call (.Name "dict" p) args [] cpos) (.blt .dict [ce]) := by
  unfold cZip at h
  split at h
  · rename_i y yp a b zp
    split at h
    · rename_i ey
      subst ey
      split at h
      · rename_i hz
        cases e1 : cEs rec [a, b] with
        | none => rw [e1] at h; cases h
        | some ces =>
          rw [e1] at h
          cases h
          obtain ⟨gl, mg⟩ := lookup_mem hb ok
          obtain ⟨gl2, mg2⟩ := lookup_mem hz ok
          obtain ⟨pa, ns, _⟩ := k_es hr e1
          simp only [List.all_cons, Bool.and_eq_true] at ns
          exact .of (by rw [ev]) ((pe_dictZ ok.calm gl mg gl2 mg2 pa (starE ns.1 _ _) (by rw [starE ns.2.1]; rfl)).imp fun σ H Q q => tE_dictZ q) rfl rfl rfl
      · cases h
    · cases h
  · cases h
theorem k_call {rec : Expr → Option CE} (ok : XOk Γ X c) (hr : ∀ e ce, rec e = some ce → Snd Γ X e ce) {x : Str} {p cpos : Pos} {args : List Expr} {ce : CE} (h : cCall c rec x args = some ce) :
    Snd Γ X (.Call (.Name x p) args [] cpos) ce := by
  unfold cCall at h
  split at h
  · rename_i hx
    rw [Bool.and_eq_true] at hx
    cases args with
    | nil => simp at hx
    | cons e es =>
      split at h
      · rename_i i m d hl
        split at h
        · rename_i hg
          simp only [Bool.and_eq_true, decide_eq_true_eq] at hg
          cases e1 : cEs rec (e :: es) with
          | none => rw [e1] at h; cases h
          | some ces =>
            rw [e1] at h
            cases h
            exact .of (by rw [ev]) (k_fn ok hr hx.1 hg.1.1 hl hg.1.2 hg.2 e1) rfl rfl rfl
        · cases h
      · split at h
        · rename_i hb
          split at h
          · rename_i ce' hz
            cases h
            split at hz
            · rename_i el
              subst el
              exact k_lst ok hr hb hz
            · split at hz
              · rename_i el
                subst el
                cases e3 : cZip c rec (e :: es) with
                | none => rw [e3] at hz; cases hz
                | some ce3 =>
                  rw [e3] at hz
                  cases hz
                  exact k_dzip ok hr hb e3
              · cases hz
          split at h
          · rename_i b hf
            cases e1 : cEs rec (e :: es) with
            | none => rw [e1] at h; cases h
            | some ces =>
              rw [e1] at h
              cases h
              exact .of (by rw [ev]) (k_blt ok hr hx.1 hb hf e1) rfl rfl rfl
          · split at h
            · rename_i hi
              subst hi
              split at h
              · rename_i a t ea
                rw [ea]
                exact k_isinst ok hr hx.1 hb h
              · cases h
            · cases h
        · cases h
  · cases h
/-- a method of a constant text, one argument -/
theorem mth1_eq {Γ : FT} {m : Mth} {s : List Nat} {a : CE} : ev Γ (.mth m (.cst (.str s)) [a]) = .of (do1 (fun d => (mthD m (.str s) [d]).map RO.toR) (ev Γ a).v) := by
  rw [ev]
  congr 1
  funext env
  have e1 : (ev Γ (.cst (.str s))).v env = .ok (.d (.str s)) env := by rw [ev]; rfl
  have e2 : ∀ env, evEs Γ [a] env = ((ev Γ a).v env).bind fun r env1 => .ok [r] env1 := fun env => by
    rw [evEs]
    all_goals congr 1
    all_goals (funext r env1)
    all_goals (rw [evEs] <;> rfl)
  unfold doMth do1
  rw [e1]
  simp only [Res.bind]
  rw [e2]
  cases (ev Γ a).v env with
  | bad => rfl
  | exc x e => rfl
  | ok r env1 =>
    have e3 : R.get env1 (.d (.str s)) = some (.str s) := rfl
    simp only [Res.bind, gets]
    rw [e3]
    cases R.get env1 r <;> rfl
theorem tE_mth1 {K : PySem.W.Frag} {m : Mth} {s : List Nat} {a : Cells → Res R} {σ : L2.St} {H : Hp} {Q : VK} (h : tE K (do1 (fun d => (mthD m (.str s) [d]).map RO.toR) a) σ H Q) : tM1 (rMthG K m) (tC (.str (mkS s))) (tE K a) σ H Q := by
  have h2 := tE_do1 (f := fun d => mthD m (.str s) [d]) h
  obtain ⟨O, env, rel, r, env', e, q⟩ := h2
  refine ⟨⟨_, rfl⟩, O, env, rel, r, env', e, fun y H2 a b d => ?_⟩
  replace q := q y H2 a b d
  obtain ⟨A, dx, ro, ga, vw, ef, q⟩ := q
  refine ⟨A, .str s, [dx], ro, ga, by simp only [View], ?_, ef, q⟩
  simp only [ViewL]
  exact ⟨y, [], rfl, vw, rfl⟩
theorem k_meth {rec : Expr → Option CE} (ok : XOk Γ X c) (hr : ∀ e ce, rec e = some ce → Snd Γ X e ce) {o : Expr} {m : Str} {args : List Expr} {apos cpos : Pos} {ce : CE}
    (h : cMeth c rec o m args apos cpos = some ce) : Snd Γ X (.Call (.Attribute o m apos) args [] cpos) ce := by
  cases o with
  | Name x xp =>
    simp only [cMeth] at h
    split at h
    · rename_i hx
      simp only [Bool.and_eq_true] at hx
      obtain ⟨⟨hx, hv⟩, hline⟩ := hx
      obtain ⟨n1, n2, n3⟩ := okN_of hx
      split at h
      · rename_i i mu e1 e2
        cases h
        obtain ⟨hm, rfl⟩ := find_mut e2
        have po : PE X (.Name x xp) (tVar i) := pe_var (by rw [ok.N]; exact slot_get e1) (by rw [ok.sc]; exact vis_of hv) n1 n2
        have ee : ev Γ (.mut mu i []) = .of (doMut mu i (fun env => .ok [] env)) := by
          rw [ev]
          congr 2
          all_goals (funext env; rw [evEs])
        have go : ∀ {id : String}, Slot "list" (mutName mu) id → typeOf (.builtin id) = pure (.type "method_descriptor") → MtR X id (rMutG X.K mu) →
            Snd Γ X (.Call (.Attribute (.Name x xp) (mutName mu) apos) [] [] cpos) (.mut mu i []) := fun sl ty mr =>
          .of ee ((pe_bm0 F.plainAttrs_list sl ty mr po rfl hline).imp fun σ H Q q => tE_mut0 q) rfl rfl rfl
        simp only [muts, List.mem_cons, List.not_mem_nil, or_false] at hm
        obtain rfl | rfl | rfl | rfl := hm
        · exact go F.slot_list_append F.type_list_append mg_append
        · exact go F.slot_list_extend F.type_list_extend mg_extend
        · exact go F.slot_list_pop F.type_list_pop mg_pop
        · exact go F.slot_list_clear F.type_list_clear mg_clear
      · rename_i i mu e e1 e2
        cases e3 : rec e with
        | none => rw [e3] at h; cases h
        | some a =>
          rw [e3] at h
          cases h
          have s := hr e a e3
          obtain ⟨hm, rfl⟩ := find_mut e2
          have po : PE X (.Name x xp) (tVar i) := pe_var (by rw [ok.N]; exact slot_get e1) (by rw [ok.sc]; exact vis_of hv) n1 n2
          have es : cEs rec [e] = some [a] := by unfold cEs; rw [e3]; rfl
          obtain ⟨pa, ns, _⟩ := k_es hr es
          have few : ((backTo cpos (starEach [e] X.env)).all (fun x => !x.1) && (backToKw cpos (keywordEach [] X.env)).all (fun x => x.1.isSome)
              && decide ([e].length + ([] : List Keyword).length + (if ([] : List Keyword).isEmpty then 0 else 1) < 30)) = true := by
            rw [starE s.ns]; rfl
          have go : ∀ {id : String}, Slot "list" (mutName mu) id → typeOf (.builtin id) = pure (.type "method_descriptor") → MtR X id (rMutG X.K mu) →
              Snd Γ X (.Call (.Attribute (.Name x xp) (mutName mu) apos) [e] [] cpos) (.mut mu i [a]) := fun sl ty mr =>
            .of (by rw [ev]) ((pe_bm F.plainAttrs_list sl ty mr po pa rfl few hline (starE s.ns _ _) rfl).imp fun σ H Q q => tE_mut q) rfl rfl rfl
          simp only [muts, List.mem_cons, List.not_mem_nil, or_false] at hm
          obtain rfl | rfl | rfl | rfl := hm
          · exact go F.slot_list_append F.type_list_append mg_append
          · exact go F.slot_list_extend F.type_list_extend mg_extend
          · exact go F.slot_list_pop F.type_list_pop mg_pop
          · exact go F.slot_list_clear F.type_list_clear mg_clear
      · rename_i i e e1 e2
        split at h
        · rename_i em
          subst em
          cases e3 : rec e with
          | none => rw [e3] at h; cases h
          | some a =>
            rw [e3] at h
            cases h
            have s := hr e a e3
            have po : PE X (.Name x xp) (tE X.K (ev Γ (.var i)).v) := by
              have : ev Γ (.var i) = .of (doVar i) := by rw [ev]
              rw [this]
              exact (pe_var (by rw [ok.N]; exact slot_get e1) (by rw [ok.sc]; exact vis_of hv) n1 n2).imp fun σ H Q q => tE_var q
            have few : ((backTo cpos (starEach [e] X.env)).all (fun x => !x.1) && (backToKw cpos (keywordEach [] X.env)).all (fun x => x.1.isSome)
                && decide ([e].length + ([] : List Keyword).length + (if ([] : List Keyword).isEmpty then 0 else 1) < 30)) = true := by
              rw [starE s.ns]; rfl
            have hu := ok.hu
            have ee : ev Γ (.idx (.var i) a) = .of (do2 (fun x y => (idxD x y).map RO.toR) (chkL (ev Γ (.var i)).v) (ev Γ a).v) := by simp only [ev]
            exact .of ee ((pe_bm F.plainAttrs_list F.slot_list_index F.type_list_index (mg_index (by omega)) po (pa_cons s.v pa_nil (starE s.ns _ _)) rfl few hline (starE s.ns _ _) rfl).imp fun σ H Q q => tE_idx q) rfl rfl rfl
        · cases h
      · cases h
    · cases h
  | Constant k j kp =>
    cases k <;> simp only [cMeth, reduceCtorEq] at h
    rename_i z
    split at h
    · rename_i em
      subst em
      split at h
      · rename_i hline
        split at h
        · rename_i e
          cases e3 : rec e with
          | none => rw [e3] at h; cases h
          | some a =>
            rw [e3] at h
            cases h
            have s := hr e a e3
            have po : PE X (.Constant (.str z) j kp) (tC (.str (mkS z.cps.toList))) := by rw [mkS_of]; exact pe_str
            exact .of mth1_eq ((pe_m1 F.slot_str_join F.type_str_join mg_join po s.v (starE s.ns [] _) rfl hline).imp fun σ H Q q => tE_mth1 q) rfl rfl rfl
        · cases h
      · cases h
    · cases h
  | _ => cases h
theorem k_O {rec : Expr → Option CE} (hr : ∀ e ce, rec e = some ce → Snd Γ X e ce) {o : Option Expr} {co : Option CE} (h : cO rec o = some co) : PO X o (tO X.K (evO Γ co)) := by
  cases o with
  | none =>
    cases h
    refine po_none.imp fun σ H Q q => ?_
    have e : evO Γ none = fun env => .ok none env := by funext env; rw [evO]
    rw [e] at q
    exact tO_none q
  | some e =>
    simp only [cO] at h
    cases e1 : rec e with
    | none => rw [e1] at h; cases h
    | some a =>
      rw [e1] at h
      cases h
      refine (po_some (hr e a e1).v).imp fun σ H Q q => ?_
      have e : evO Γ (some a) = doInt (ev Γ a).v := by funext env; rw [evO]
      rw [e] at q
      exact tO_some q
theorem rev_str (z : Str) : (((Builtin.Str.strSliceIndices none none (-1) z.length).filterMap (z.cps[·]?)).toArray : Array Nat) = z.cps.toList.reverse.toArray := by
  congr 1
  rw [PyProof.Rows.picked_rev, PySem.W.krv_range, List.filterMap_reverse]
  congr 1
  exact PySem.W.krv_all z.cps
/-! x[::-1] of a text -/
section
variable {X : Cx} {pn : List (Addr × Obj)} {st : Shared} {σ : L2.St} {H : Hp} {P : Value → Shared → Prop}
/-- the parts of such a slice, one by one -/
theorem part_0 (iv : Inv X pn σ H st) (g : ∀ a st', Inv X pn σ H st' → IsPart a none → P a st') : wpAny (model X.prog X.w) X.A (evalPart none X.env) P X.xe st := by
  have w := (po_none (X := X)).run pn st σ H (fun o h => o = none ∧ h = H) iv ⟨rfl, rfl⟩
  exact thn w fun a st' ⟨o, h, jv, pa, eo, eh⟩ => (by subst eo; subst eh; exact g a st' jv pa)
theorem part_m {n : Nat} {pa pb : Pos} (iv : Inv X pn σ H st) (g : ∀ a st', Inv X pn σ H st' → IsPart a (some (-1)) → P a st') :
    wpAny (model X.prog X.w) X.A (evalPart (some (.UnaryOp .USub (.Constant (.int 1) n pa) pb)) X.env) P X.xe st := by
  have m : PO X (some (.UnaryOp .USub (.Constant (.int 1) n pa) pb)) _ := po_some (pe_un un_neg pe_int)
  have w := m.run pn st σ H (fun o h => o = some (-1) ∧ h = H) iv ⟨1, rfl, _, rfl, rfl, rfl⟩
  exact thn w fun a st' ⟨o, h, jv, pa, eo, eh⟩ => (by subst eo; subst eh; exact g a st' jv pa)
end
def backS (z : Str) : Str := ⟨z.cps.toList.reverse.toArray⟩
def tRevS (te : TE) : TE := fun σ H Q => te σ H fun x H1 => ∃ z : Str, x = .str z ∧ z.length ≤ sizeLine ∧ Q (.str (backS z)) H1
theorem pe_revS {X : Cx} {e : Expr} {te : TE} {n : Nat} {pa pb pc pos : Pos} (he : PE X e te) :
    PE X (.Subscript e (.Slice none none (some (.UnaryOp .USub (.Constant (.int 1) n pa) pb)) pc) pos) (tRevS te) where
  run := fun pn st σ H Q iv w => Subscript_ (thn (he.run pn st σ H _ iv w) fun u st1 hx => by
    obtain ⟨x, H1, iv1, ru, z, ez, hz, q⟩ := hx
    subst ez
    obtain ⟨tk, eu⟩ := ru
    subst eu
    refine wpAny_Slice (part_0 iv1 fun a st2 iv2 ha => part_0 iv2 fun b st3 iv3 hb => part_m iv3 fun c st4 iv4 hc => ?_)
    obtain ⟨ra, a1, a2⟩ := IsPart.raw ha
    obtain ⟨rb, b1, b2⟩ := IsPart.raw hb
    obtain ⟨rc, c1, c2⟩ := IsPart.raw hc
    have ka : ra.map (·.1) = none := by first | exact a1 | exact a1.symm | exact a2 | exact a2.symm
    have kb : rb.map (·.1) = none := by first | exact b1 | exact b1.symm | exact b2 | exact b2.symm
    have kc : rc.map (·.1) = some (-1) := by first | exact c1 | exact c1.symm | exact c2 | exact c2.symm
    have iv5 : Inv X pn σ H1 { st4 with heap := st4.heap.push { cls := .type "slice", data := .fields #[a, b, c] } } :=
      iv4.kept (t' := st4.toks) fun r o h => Heap.get?_push_of_some _ h
    have made : (PySem.sliceMade z tk ra rb rc).post (EP X pn σ Q) { st4 with heap := st4.heap.push { cls := .type "slice", data := .fields #[a, b, c] } } := by
      have em : PySem.sliceMade z tk ra rb rc = .str (backS z) := by
        unfold PySem.sliceMade PySem.slicePicked backS
        rw [ka, kb, kc, ← rev_str]
        rfl
      rw [em]
      have lz : (backS z).length ≤ sizeLine := by
        have : (backS z).length = z.length := by simp [backS, Str.length]
        omega
      exact ⟨lz, .str _, H1, iv5.tok _, ⟨_, rfl⟩, q⟩
    have isl : ({ st4 with heap := st4.heap.push { cls := .type "slice", data := .fields #[a, b, c] } } : Shared).heap.IsSlice st4.heap.objs.size ra rb rc := by
      subst_vars
      refine ⟨_, Heap.get?_push_size _ ?_, ?_, ?_⟩ <;> rfl
    have got := wpAny_getItem_str_slice (prog := X.prog) (w := X.w) (A := X.A) (E := X.xe) isl (by rw [kc]; rfl) made
    exact tail_any (typeIs_str _ _ _) F.slot_str_getitem.lookup got (by with_unfolding_all rfl))
/-- x[::-1], by what x is -/
theorem pe_rev {X : Cx} {e : Expr} {a : Cells → Res R} {n : Nat} {pa pb pc pos : Pos} (he : PE X e (tE X.K a)) :
    PE X (.Subscript e (.Slice none none (some (.UnaryOp .USub (.Constant (.int 1) n pa) pb)) pc) pos) (tE X.K (do1 (fun x => (revD x).map RO.toR) a)) where
  run := fun pn st σ H Q iv h => by
    obtain ⟨dx, g⟩ := tE_do1d h
    cases dx with
    | lst ds =>
      refine (pe_revL he).run pn st σ H Q iv (tE_mono g fun v H1 y => ?_)
      obtain ⟨A, ro, ga, vw, ef, q⟩ := y
      cases ef
      simp only [View] at vw
      obtain ⟨p, ys, rfl, hp, hr⟩ := vw
      exact ⟨p, ys, rfl, hp.seq, fun l hl => give_lst hl hr.reverse q⟩
    | str z =>
      refine (pe_revS he).run pn st σ H Q iv (tE_mono g fun v H1 y => ?_)
      obtain ⟨A, ro, ga, vw, ef, q⟩ := y
      simp only [revD] at ef
      split at ef
      · rename_i hl
        cases ef
        simp only [View] at vw
        subst vw
        refine ⟨mkS z, rfl, by rw [mkS_len]; exact lim_le hl, ?_⟩
        have : backS (mkS z) = mkS z.reverse := by simp [mkS, backS]
        rw [this]
        exact q _ _ (Same.refl H1) (by simp [ROR, Rp])
      · cases ef
    | _ =>
      refine Subscript_ (thn (he.run pn st σ H _ iv g) fun u st1 hx => ?_)
      obtain ⟨x, H1, iv1, ru, A, ro, ga, vw, ef, q⟩ := hx
      cases ef
theorem k_sub {rec : Expr → Option CE} (ok : XOk Γ X c) (hr : ∀ e ce, rec e = some ce → Snd Γ X e ce) {a i : Expr} {pos : Pos} {ce : CE} (h : cSub rec a i = some ce) : Snd Γ X (.Subscript a i pos) ce := by
  have hu := ok.hu
  have plain : ∀ {ce : CE}, plainIx i = true → (match rec a, rec i with
      | some ca, some ci => some (CE.ix ca ci)
      | _, _ => none) = some ce → Snd Γ X (.Subscript a i pos) ce := by
    intro ce hi h
    cases e1 : rec a with
    | none => rw [e1] at h; cases h
    | some ca =>
      cases e2 : rec i with
      | none => rw [e1, e2] at h; cases h
      | some ci =>
        rw [e1, e2] at h
        cases h
        exact .of (by rw [ev]) ((pe_ix (ix_G (by omega)) (hr a ca e1).v (hr i ci e2).v (plain_ix hi)).imp fun σ H Q q => tE_do2 q) rfl rfl rfl
  cases i with
  | Slice lo hi st sp =>
    simp only [cSub] at h
    split at h
    · cases e1 : rec a with
      | none => rw [e1] at h; cases h
      | some ca =>
        cases e2 : cO rec lo with
        | none => rw [e1, e2] at h; cases h
        | some l =>
          cases e3 : cO rec hi with
          | none => rw [e1, e2, e3] at h; cases h
          | some u =>
            rw [e1, e2, e3] at h
            cases h
            exact .of (by rw [ev]) ((pe_slice sl_G (hr a ca e1).v (k_O hr e2) (k_O hr e3)).imp fun σ H Q q => tE_sl q) rfl rfl rfl
    · split at h
      · cases e1 : rec a with
        | none => rw [e1] at h; cases h
        | some ca =>
          rw [e1] at h
          cases h
          exact .of (by rw [ev]) (pe_rev (hr a ca e1).v) rfl rfl rfl
      · cases h
    · cases h
  | _ => exact plain rfl h
/-- targets -/
theorem k_Ts {rec : Expr → Option Tg} (hr : ∀ e t, rec e = some t → PG X e (gD X.K t)) : ∀ {es : List Expr} {ts : List Tg}, es.all notStar = true → cTs rec es = some ts → PGs X es (gDs X.K ts) ∧ ts.length = es.length
  | [], ts, _, h => by cases h; exact ⟨pgs_nil.imp fun v σ H Q q => gDs_nil q, rfl⟩
  | e :: es, ts, ns, h => by
    rw [List.all_cons, Bool.and_eq_true] at ns
    unfold cTs at h
    cases e1 : rec e with
    | none => rw [e1] at h; cases h
    | some a =>
      cases e2 : cTs rec es with
      | none => rw [e1, e2] at h; cases h
      | some as =>
        rw [e1, e2] at h
        cases h
        obtain ⟨p, l⟩ := k_Ts hr ns.2 e2
        exact ⟨(pgs_cons (hr e a e1) p (by rw [assE ns.1]; rfl)).imp fun v σ H Q q => gDs_cons q, by simp [l]⟩
theorem loc_of {x : Str} (ok : XOk Γ X c) (h : locB c x = true) : Loc X.env.scope x ∧ (X.fn x = true ∨ X.env.scope.names.lookup x = some .local) := by
  unfold locB at h
  rw [ok.sc]
  split at h
  · rename_i e; exact ⟨.inl e, .inr e⟩
  · rename_i e; exact ⟨.inr e, .inl (ok.all h x)⟩
  · cases h
theorem k_T (ok : XOk Γ X c) : ∀ (n : Nat) (e : Expr) (t : Tg), cT c n e = some t → PG X e (gD X.K t)
  | 0, e, t, h => by cases e <;> simp [cT] at h
  | n + 1, e, t, h => by
    cases e with
    | Name x p =>
      simp only [cT] at h
      split at h
      · rename_i hl
        cases e1 : slotOf c.N x with
        | none => rw [e1] at h; cases h
        | some i =>
          rw [e1] at h
          cases h
          obtain ⟨l1, l2⟩ := loc_of ok hl
          exact (pg_name ok.nd (by rw [ok.N]; exact slot_get e1) l1 l2).imp fun v σ H Q q => gD_nm q
      · cases h
    | Tuple es k p =>
      simp only [cT] at h
      split at h
      · rename_i ns
        cases e1 : cTs (cT c n) es with
        | none => rw [e1] at h; cases h
        | some ts =>
          rw [e1] at h
          cases h
          obtain ⟨pg, l⟩ := k_Ts (k_T ok n) ns e1
          obtain ⟨l1, l2⟩ := ass_len (env := X.env) ns
          exact (pg_tup ok.calm pg (l1.trans l.symm) l2).imp fun v σ H Q q => gD_tup q
      · cases h
    | _ => simp [cT] at h
/-- walks -/
theorem k_I {rec : Expr → Option CE} (ok : XOk Γ X c) (hr : ∀ e ce, rec e = some ce → Snd Γ X e ce) {tg iter : Expr} {it : It} (h : cI c rec tg iter = some it) :
    PI X tg iter (tIW X.K (evI Γ it)) ∧ isSet iter = false := by
  have plain : ∀ {it : It}, (rec iter).map It.e = some it → PI X tg iter (tIW X.K (evI Γ it)) ∧ isSet iter = false := by
    intro it h
    cases e1 : rec iter with
    | none => rw [e1] at h; cases h
    | some a =>
      rw [e1] at h
      cases h
      have s := hr iter a e1
      refine ⟨(pi_anyL s.v).imp fun σ H Q q => ?_, s.nset⟩
      have e : evI Γ (.e a) = doIt1 walkOf (ev Γ a).v := by funext env; rw [evI]
      rw [e] at q
      exact tIW_any q
  cases iter with
  | Call f args kws cp =>
    cases kws with
    | cons k ks => exact plain h
    | nil =>
      cases f with
      | Name x xp =>
        simp only [cI] at h
        split at h
        · rename_i hx
          rw [Bool.and_eq_true] at hx
          obtain ⟨gl, mg⟩ := lookup_mem hx.1 ok
          split at h
          · rename_i ex
            subst ex
            split at h
            · rename_i hl
              simp only [Bool.and_eq_true, decide_eq_true_eq] at hl
              cases e1 : cEs rec args with
              | none => rw [e1] at h; cases h
              | some ces =>
                rw [e1] at h
                cases h
                obtain ⟨pa, ns, len⟩ := k_es hr e1
                have e : evI Γ (.range ces) = doRange (evEs Γ ces) := by funext env; rw [evI]
                rw [e]
                refine ⟨?_, rfl⟩
                match args, hl, ns, len with
                | [a], _, ns, len =>
                  rw [List.all_cons, Bool.and_eq_true] at ns
                  exact (pi_range1 gl mg pa (by rw [starE ns.1]; rfl)).imp fun σ H Q q => tI_range1 (fun env rs env' e => by rw [ev_len e, len]; rfl) (tIW_tI q)
                | [a, b], _, ns, len =>
                  simp only [List.all_cons, Bool.and_eq_true] at ns
                  exact (pi_range2 gl mg pa (by rw [starE ns.1, starE ns.2.1]; rfl) (by rw [starE ns.2.1]; rfl)).imp fun σ H Q q => tI_range2 (fun env rs env' e => by rw [ev_len e, len]; rfl) (tIW_tI q)
                | [a, b, d], _, ns, len =>
                  simp only [List.all_cons, Bool.and_eq_true] at ns
                  exact (pi_range3 gl mg pa (starE ns.1 _ _) (by rw [starE ns.2.1, starE ns.2.2.1]; rfl)).imp fun σ H Q q => tI_range3 (fun env rs env' e => by rw [ev_len e, len]; rfl) (tIW_tI q)
                | [], hl, _, _ => exact absurd hl.1 (by decide)
                | _ :: _ :: _ :: _ :: _, hl, _, _ => exact absurd hl.2 (by simp)
            · cases h
          · split at h
            · rename_i ex
              subst ex
              split at h
              · rename_i hl
                simp only [Bool.and_eq_true, decide_eq_true_eq] at hl
                cases e1 : cEs rec args with
                | none => rw [e1] at h; cases h
                | some ces =>
                  rw [e1] at h
                  cases h
                  obtain ⟨pa, ns, len⟩ := k_es hr e1
                  have e : evI Γ (.enum ces) = doItN enumD (evEs Γ ces) := by funext env; rw [evI]
                  rw [e]
                  refine ⟨?_, rfl⟩
                  cases tg with
                  | Tuple es k tp =>
                    match args, hl, ns with
                    | [a], _, ns =>
                      rw [List.all_cons, Bool.and_eq_true] at ns
                      exact (pi_enumK gl mg pa (by rw [starE ns.1]; rfl)).imp fun σ H Q q => tI_enum (tIW_tI q)
                    | [], hl, _ => exact absurd hl.2 (by decide)
                    | _ :: _ :: _, hl, _ => exact absurd hl.2 (by simp)
                  | _ => exact absurd hl.1 (by simp [isTup])
              · cases h
            · split at h
              · rename_i ex
                subst ex
                split at h
                · rename_i hl
                  simp only [Bool.and_eq_true, decide_eq_true_eq] at hl
                  cases e1 : cEs rec args with
                  | none => rw [e1] at h; cases h
                  | some ces =>
                    rw [e1] at h
                    cases h
                    obtain ⟨pa, ns, len⟩ := k_es hr e1
                    have e : evI Γ (.zip ces) = doItN zipD (evEs Γ ces) := by funext env; rw [evI]
                    rw [e]
                    refine ⟨?_, rfl⟩
                    cases tg with
                    | Tuple es k tp =>
                      match args, hl, ns with
                      | [a, b], _, ns =>
                        simp only [List.all_cons, Bool.and_eq_true] at ns
                        exact (pi_zipK gl mg pa (starE ns.1 _ _) (by rw [starE ns.2.1]; rfl)).imp fun σ H Q q => tI_zip (tIW_tI q)
                      | [], hl, _ => exact absurd hl.2 (by decide)
                      | [_], hl, _ => exact absurd hl.2 (by simp)
                      | _ :: _ :: _ :: _, hl, _ => exact absurd hl.2 (by simp)
                    | _ => exact absurd hl.1 (by simp [isTup])
                · cases h
              · exact plain h
        · exact plain h
      | Attribute o m apos =>
        cases args with
        | cons x xs => exact plain h
        | nil =>
          simp only [cI] at h
          split at h
          · rename_i hb
            rw [Bool.and_eq_true] at hb
            have hbase : attributeBase o m X.env (eval o X.env) = eval o X.env := by
              have := hb.1
              cases o <;> first | rfl | cases this
            split at h
            · rename_i em
              subst em
              split at h
              · rename_i ht
                cases e1 : rec o with
                | none => rw [e1] at h; cases h
                | some a =>
                  rw [e1] at h
                  cases h
                  have e : evI Γ (.items a) = doIt1 itemsL (ev Γ a).v := by funext env; rw [evI]
                  rw [e]
                  refine ⟨?_, rfl⟩
                  cases tg with
                  | Tuple es k tp => exact (pi_itemsL (hr o a e1).v hbase hb.2).imp fun σ H Q q => tIW_items q
                  | _ => exact absurd ht (by simp [isTup])
              · cases h
            · split at h
              · rename_i em
                subst em
                cases e1 : rec o with
                | none => rw [e1] at h; cases h
                | some a =>
                  rw [e1] at h
                  cases h
                  have e : evI Γ (.values a) = doIt1 valuesL (ev Γ a).v := by funext env; rw [evI]
                  rw [e]
                  exact ⟨(pi_valuesL (hr o a e1).v hbase hb.2).imp fun σ H Q q => tIW_values q, rfl⟩
              · exact plain h
          · exact plain h
      | _ => exact plain h
  | _ => exact plain h
theorem k_key {k : Option Expr} {dk : DK} (h : cKey k = some dk) : ∃ e, k = some e ∧ PE X e (tC (kV dk.toKey)) := by
  unfold cKey at h
  split at h
  · rename_i s j p
    cases h
    refine ⟨_, rfl, ?_⟩
    have e : kV (DK.s s.cps.toList).toKey = .str s := by
      show V.str (mkS s.cps.toList) = _
      rw [mkS_of]
    rw [e]
    exact pe_str
  · rename_i i j p
    cases h
    exact ⟨_, rfl, pe_int⟩
  · cases h
theorem k_ks {rec : Expr → Option CE} (hr : ∀ e ce, rec e = some ce → Snd Γ X e ce) {pos : Pos} : ∀ {ks : List (Option Expr)} {vs : List Expr} {cs : List (DK × CE)}, cKs rec ks vs = some cs →
    PPs X pos ks vs (trsK X.K Γ cs) ∧ ks.all (·.isSome) = true ∧ ks.length = vs.length ∧ cs.length = ks.length
  | [], [], cs, h => by cases h; exact ⟨pps_nil, rfl, rfl, rfl⟩
  | [], _ :: _, cs, h => by cases h
  | _ :: _, [], cs, h => by cases h
  | k :: ks, v :: vs, cs, h => by
    unfold cKs at h
    cases e1 : cKey k with
    | none => rw [e1] at h; cases h
    | some dk =>
      cases e2 : rec v with
      | none => rw [e1, e2] at h; cases h
      | some a =>
        cases e3 : cKs rec ks vs with
        | none => rw [e1, e2, e3] at h; cases h
        | some cs' =>
          rw [e1, e2, e3] at h
          cases h
          obtain ⟨e, rfl, pk⟩ := k_key (X := X) e1
          obtain ⟨pp, al, l1, l2⟩ := k_ks hr e3
          exact ⟨pps_cons pk (hr v a e2).v pp, by rw [List.all_cons, al]; rfl, by simp [l1], by simp [l2]⟩
theorem tE_disp0 {K : PySem.W.Frag} {σ : L2.St} {H : Hp} {Q : VK} (h : tE K (doDisp (evKs Γ [])) σ H Q) : tDNewK σ H Q := by
  have h2 := tE_disp (Γ := Γ) (ks := []) (by decide) h
  intro p hp
  obtain ⟨_, kvs, e, _, q⟩ := h2 p hp
  have e0 : kvs = [] := by
    cases kvs with
    | nil => rfl
    | cons a b => cases e
  subst e0
  rw [upd_upd] at q
  exact q
/-- the whole -/
theorem cE_ok : ∀ (n : Nat) (c : Ctx) (X : Cx), XOk Γ X c → ∀ e ce, cE n c e = some ce → Snd Γ X e ce
  | 0, c, X, ok, e, ce, h => by cases h
  | n + 1, c, X, ok, e, ce, h => by
    have hr := cE_ok n c X ok
    cases e with
    | Name x p => exact k_name ok h
    | Constant k j p => exact k_const h
    | BinOp a op b p =>
      simp only [cE] at h
      split at h
      · rename_i o x y e1 e2 e3
        cases h
        exact .of (by rw [ev]) ((pe_op (op_of e1) (hr a x e2).v (hr b y e3).v).imp fun σ H Q q => tE_do2 q) rfl rfl rfl
      · cases h
    | UnaryOp op a p =>
      simp only [cE] at h
      split at h
      · rename_i x e1
        cases h
        have un : UnR X (unaryOp .USub) (r1 X.K negD) := by
          intro pns s σ H x v Q I rx h
          obtain ⟨A, dx, ro, ga, vw, ef, q⟩ := h
          cases dx with
          | int i =>
            cases ef
            simp only [View] at vw
            exact un_neg pns s σ H x v Q I rx ⟨i, vw, q _ _ (Same.refl _) (by simp [ROR, Rp])⟩
          | _ => cases ef
        exact .of (by rw [ev]) ((pe_un un (hr a x e1).v).imp fun σ H Q q => tE_do1 q) rfl rfl rfl
      · rename_i x e1
        split at h
        · rename_i ht
          cases h
          have s := hr a x e1
          have ee : ev Γ (.not x) = ⟨doNot (ev Γ x).v, toNot (ev Γ x).t⟩ := by rw [ev]
          exact ⟨by rw [ee]; exact (pe_not s.v).imp fun σ H Q q => tE_not q, fun _ => by rw [ee]; exact (pt_not (s.t ht)).imp fun σ H Q q => tT_not q, rfl, rfl⟩
        · cases h
      · cases h
    | BoolOp op es p =>
      simp only [cE] at h
      split at h
      · rename_i ht
        obtain ⟨h1, h2⟩ := k_bool hr (p := p) ht h
        exact ⟨h1, fun _ => h2.pt, rfl, rfl⟩
      · cases h
    | Compare a ops bs p =>
      simp only [cE] at h
      have hu := ok.hu
      split at h
      · rename_i op b
        split at h
        · rename_i o x y e1 e2 e3
          cases h
          have sa := hr a x e2
          have sb := hr b y e3
          have ee : ev Γ (.cmp o x y) = .of (do2 (fun x y => (cmpD o x y).map fun b => .d (.bl b)) (ev Γ x).v (ev Γ y).v) := by rw [ev]
          exact ⟨by rw [ee]; exact (pe_cmpR (cop_of hu e1) sa.v sb.v (no_marks sb.nset)).imp fun σ H Q q => tE_cmp q,
            fun _ => by rw [ee]; exact (pt_cmpR (cop_of hu e1) sa.v sb.v (no_marks sb.nset)).imp fun σ H Q q => tT_cmp q, rfl, rfl⟩
        · cases h
      · rename_i op op' b d
        split at h
        · rename_i o o' x y z e1 e1' e2 e3 e4
          cases h
          have sa := hr a x e2
          have sb := hr b y e3
          have sd := hr d z e4
          have ee : ev Γ (.chain o o' x y z) = .of (doChain o o' (ev Γ x).v (ev Γ y).v (ev Γ z).v) := by rw [ev]
          have lm : lastMarks [op, op'] [b, d] = false := no_marks sd.nset
          exact ⟨by rw [ee]; exact (pe_chain (cop_of hu e1) (cop_of hu e1') sa.v sb.v sd.v lm).imp fun σ H Q q => tE_chain q,
            fun _ => by rw [ee]; exact (pt_chain (cop_of hu e1) (cop_of hu e1') sa.v sb.v sd.v lm).imp fun σ H Q q => tT_chain q, rfl, rfl⟩
        · cases h
      · cases h
    | IfExp t a b p =>
      simp only [cE] at h
      split at h
      · rename_i ht
        split at h
        · rename_i x y z e1 e2 e3
          cases h
          have ee : ev Γ (.ite x y z) = .of (doIte (ev Γ x).t (ev Γ y).v (ev Γ z).v) := by rw [ev]
          exact ⟨by rw [ee]; exact (pe_ifExp ((hr t x e1).t ht) (hr a y e2).v (hr b z e3).v).imp fun σ H Q q => tE_ite q, fun z => (by cases z), rfl, rfl⟩
        · cases h
      · cases h
    | Tuple es k p =>
      simp only [cE] at h
      cases e1 : cEs (cE n c) es with
      | none => rw [e1] at h; cases h
      | some ces =>
        rw [e1] at h
        cases h
        exact .of (by rw [ev]) ((pe_tup (k_es hr e1).1).imp fun σ H Q q => tE_tup q) rfl rfl rfl
    | List es p =>
      simp only [cE] at h
      cases e1 : cEs (cE n c) es with
      | none => rw [e1] at h; cases h
      | some ces =>
        rw [e1] at h
        cases h
        exact .of (by rw [ev]) ((pe_lst (k_es hr e1).1).imp fun σ H Q q => tE_lst q) rfl rfl rfl
    | Dict keys values p =>
      simp only [cE] at h
      split at h
      · rename_i ks e1
        split at h
        · rename_i h15
          cases h
          obtain ⟨pp, al, l1, l2⟩ := k_ks (pos := p) hr e1
          cases keys with
          | nil =>
            cases values with
            | cons _ _ => cases l1
            | nil =>
              have e0 : ks = [] := List.length_eq_zero_iff.mp l2
              subst e0
              exact .of (by rw [ev]) (pe_dnewK.imp fun σ H Q q => tE_disp0 q) rfl rfl rfl
          | cons k keys =>
            exact .of (by rw [ev]) ((pe_disp pp al l1 (by simp) (by rw [← l2]; exact h15)).imp fun σ H Q q => tE_disp h15 q) rfl rfl rfl
        · cases h
      · cases h
    | Call f args kws cpos =>
      simp only [cE] at h
      split at h
      · split at h
        · exact k_call ok hr h
        · exact k_meth ok hr h
        · cases h
      · cases h
    | Subscript a i p => exact k_sub ok hr h
    | ListComp elt gens scope p =>
      simp only [cE] at h
      split at h
      · rename_i tg iter ifs
        split at h
        · rename_i hb
          have bo := blkOk_by (N := c.N) (sc := c.sc) (scope := scope) (own := ownOf c.N scope) hb
          have bo' : BlkOk X.N X.env.scope scope (ownOf c.N scope) := by rw [ok.N, ok.sc]; exact bo
          have okb := fun s H C cl fp => ok.blk bo.kind s H C cl fp
          split at h
          · rename_i it t el e1 e2 e3
            split at h
            · rename_i hs
              cases h
              obtain ⟨pi, ns⟩ := k_I ok hr e1
              have ee : ev Γ (.lc el t it none ((ownOf c.N scope).map (·.2))) = .of (doLc (ev Γ el).v t (evI Γ it) (evC Γ none) ((ownOf c.N scope).map (·.2))) := by rw [ev]
              have ec : evC Γ none = fun env => .ok true env := by funext env; rw [evC]
              rw [ec] at ee
              refine .of ee ((pe_ul (pe_lc ok.calm ok.nd pi bo' (fun s H C cl fp => k_T (okb s H C cl fp) n tg t e2) (fun s H C cl fp => pts_nil.imp fun σ H Q q => tT_yes q)
                (fun s H C cl fp => (cE_ok n (c.blk scope) _ (okb s H C cl fp) elt el e3).v) (fun x => no_fold ns x))).imp fun σ H Q q => tE_lcW (fun i hi => ?_) q) rfl rfl rfl
              simpa using List.all_eq_true.mp hs i hi
            · cases h
          · rename_i it t el cd e1 e2 e3
            split at h
            · rename_i hs
              rw [Bool.and_eq_true] at hs
              cases e4 : cE n (c.blk scope) cd with
              | none => rw [e4] at h; cases h
              | some cc =>
                rw [e4] at h
                cases h
                obtain ⟨pi, ns⟩ := k_I ok hr e1
                by_cases hk : ∃ i j, cE n c iter = some (.var i) ∧ el = .var j
                · obtain ⟨i, j, ei, rfl⟩ := hk
                  have em : mkLc (cE n c iter) (.var j) t it cc ((ownOf c.N scope).map (·.2)) = .lck (.var j) t i cc ((ownOf c.N scope).map (·.2)) := by rw [ei]; rfl
                  dsimp only
                  rw [em]
                  have ee : ev Γ (.lck (.var j) t i cc ((ownOf c.N scope).map (·.2))) = .of (doLck (ev Γ (.var j)).v t i (ev Γ cc).t ((ownOf c.N scope).map (·.2))) := by simp only [ev]
                  have hv : PE X iter (tE X.K (doVar i)) := by
                    have := (hr iter _ ei).v
                    rwa [show (ev Γ (.var i)).v = doVar i by rw [ev]; rfl] at this
                  refine .of ee ((pe_ul (pe_lc ok.calm ok.nd (pi_anyL hv) bo' (fun s H C cl fp => k_T (okb s H C cl fp) n tg t e2) (fun s H C cl fp => pts_one ((cE_ok n (c.blk scope) _ (okb s H C cl fp) cd cc e4).t hs.1))
                    (fun s H C cl fp => (cE_ok n (c.blk scope) _ (okb s H C cl fp) elt (.var j) e3).v) (fun x => no_fold ns x))).imp fun σ H Q q => tE_lck (fun i hi => ?_) q) rfl rfl rfl
                  simpa using List.all_eq_true.mp hs.2 i hi
                dsimp only
                rw [mkLc_lc hk]
                have ee : ev Γ (.lc el t it (some cc) ((ownOf c.N scope).map (·.2))) = .of (doLc (ev Γ el).v t (evI Γ it) (evC Γ (some cc)) ((ownOf c.N scope).map (·.2))) := by rw [ev]
                have ec : evC Γ (some cc) = (ev Γ cc).t := by funext env; rw [evC]
                rw [ec] at ee
                refine .of ee ((pe_ul (pe_lc ok.calm ok.nd pi bo' (fun s H C cl fp => k_T (okb s H C cl fp) n tg t e2) (fun s H C cl fp => pts_one ((cE_ok n (c.blk scope) _ (okb s H C cl fp) cd cc e4).t hs.1))
                  (fun s H C cl fp => (cE_ok n (c.blk scope) _ (okb s H C cl fp) elt el e3).v) (fun x => no_fold ns x))).imp fun σ H Q q => tE_lcW (fun i hi => ?_) q) rfl rfl rfl
                simpa using List.all_eq_true.mp hs.2 i hi
            · cases h
          · cases h
        · cases h
      · cases h
    | DictComp key val gens scope p =>
      simp only [cE] at h
      split at h
      · rename_i tg iter ifs
        split at h
        · rename_i hb
          have bo := blkOk_by (N := c.N) (sc := c.sc) (scope := scope) (own := ownOf c.N scope) hb
          have bo' : BlkOk X.N X.env.scope scope (ownOf c.N scope) := by rw [ok.N, ok.sc]; exact bo
          have okb := fun s H C cl fp => ok.blk bo.kind s H C cl fp
          split at h
          · rename_i it t k el e1 e2 e5 e3
            split at h
            · rename_i hs
              cases h
              obtain ⟨pi, ns⟩ := k_I ok hr e1
              have ee : ev Γ (.dc k el t it none ((ownOf c.N scope).map (·.2))) = .of (doDc (ev Γ k).v (ev Γ el).v t (evI Γ it) (evC Γ none) ((ownOf c.N scope).map (·.2))) := by rw [ev]
              have ec : evC Γ none = fun env => .ok true env := by funext env; rw [evC]
              rw [ec] at ee
              refine .of ee ((pe_ul (pe_dc ok.calm ok.nd pi bo' (fun s H C cl fp => k_T (okb s H C cl fp) n tg t e2) (fun s H C cl fp => pts_nil.imp fun σ H Q q => tT_yes q)
                (fun s H C cl fp => (cE_ok n (c.blk scope) _ (okb s H C cl fp) key k e5).v)
                (fun s H C cl fp => (cE_ok n (c.blk scope) _ (okb s H C cl fp) val el e3).v) (fun x => no_fold ns x))).imp fun σ H Q q => tE_dcW (fun i hi => ?_) q) rfl rfl rfl
              simpa using List.all_eq_true.mp hs i hi
            · cases h
          · rename_i it t k el cd e1 e2 e5 e3
            split at h
            · rename_i hs
              rw [Bool.and_eq_true] at hs
              cases e4 : cE n (c.blk scope) cd with
              | none => rw [e4] at h; cases h
              | some cc =>
                rw [e4] at h
                cases h
                obtain ⟨pi, ns⟩ := k_I ok hr e1
                have ee : ev Γ (.dc k el t it (some cc) ((ownOf c.N scope).map (·.2))) = .of (doDc (ev Γ k).v (ev Γ el).v t (evI Γ it) (evC Γ (some cc)) ((ownOf c.N scope).map (·.2))) := by rw [ev]
                have ec : evC Γ (some cc) = (ev Γ cc).t := by funext env; rw [evC]
                rw [ec] at ee
                refine .of ee ((pe_ul (pe_dc ok.calm ok.nd pi bo' (fun s H C cl fp => k_T (okb s H C cl fp) n tg t e2) (fun s H C cl fp => pts_one ((cE_ok n (c.blk scope) _ (okb s H C cl fp) cd cc e4).t hs.1))
                  (fun s H C cl fp => (cE_ok n (c.blk scope) _ (okb s H C cl fp) key k e5).v)
                  (fun s H C cl fp => (cE_ok n (c.blk scope) _ (okb s H C cl fp) val el e3).v) (fun x => no_fold ns x))).imp fun σ H Q q => tE_dcW (fun i hi => ?_) q) rfl rfl rfl
                simpa using List.all_eq_true.mp hs.2 i hi
            · cases h
          · cases h
        · cases h
      · cases h
    | _ => cases h
end
end Fx

set_option Elab.async false
set_option linter.all false
set_option maxRecDepth 100000
/-! Fx17: statements into the core language; a def by its body. -/
namespace Fx
open L2 PyProof.Rows PySem PySem.Spec

def isComp : Expr → Bool
  | .ListComp _ _ _ _ => true
  | .SetComp _ _ _ _ => true
  | .DictComp _ _ _ _ _ => true
  | _ => false
def isName : Expr → Bool
  | .Name _ _ => true
  | _ => false
theorem no_swap {e : Expr} (h : isComp e = false) (tg : Option Expr) (l : Nat) (env : Env) : swapsWith e tg l env = pure false := by
  cases e <;> first | rfl | cases h
theorem no_swapS {tg e : Expr} (h : isComp e = false ∨ isName tg = false) (l : Nat) (env : Env) : swapsWithSole [tg] e l env = pure false := by
  show swapsWith e (some tg) l env = pure false
  rcases h with h | h
  · exact no_swap h _ _ _
  · cases e <;> first | rfl | (cases tg <;> first | rfl | cases h)
/-- a display of a tuple -/
theorem no_stores {tg e : Expr} (h : isTup e = false) (env : Env) : swappedStores [tg] e env = pure none := by
  cases e with
  | Tuple es k p => cases h
  | _ => cases tg <;> rfl
def localB (sc : Scope) (x : Str) : Bool := match sc.names.lookup x with
  | some .local => true
  | _ => false
theorem local_of {sc : Scope} {x : Str} (h : localB sc x = true) : sc.names.lookup x = some .local := by
  unfold localB at h
  split at h
  · assumption
  · cases h
theorem stores2 {x y : Str} {px py pt : Pos} {kt k2 : Nat} {pt2 : Pos} {a b : Expr} {env : Env} (hk : env.scope.kind = .function) (hx : env.scope.names.lookup x = some .local) (hy : env.scope.names.lookup y = some .local)
    (hl : (py.line == px.line) = true) (hxy : x ≠ y) (h1 : notStar a = true) (h2 : notStar b = true) (h3 : [a, b].all (foldedForSure 8) = false) (h4 : [a, b].all (constantsAlone 8) = false) :
    swappedStores [.Tuple [.Name x px, .Name y py] kt pt] (.Tuple [a, b] k2 pt2) env = pure (some [x, y]) := by
  have hb : env.blockKind = .function := by rw [Env.blockKind, hk]; rfl
  have kx : env.kindOf x = some .local := hx
  have ky : env.kindOf y = some NameKind.local := hy
  have e1 : ([x, y] : List Str).eraseDups = [x, y] := by
    have h' : (y == x) = false := beq_eq_false_iff_ne.mpr (Ne.symm hxy)
    rw [List.eraseDups_cons]
    simp [h']
    rfl
  unfold swappedStores
  simp only [hb, List.any_cons, List.any_nil, h3, h4, List.head?_cons, Option.map, Option.getD, Expr.pos, List.length_cons, List.length_nil]
  split
  · rename_i z; exact absurd z (by decide)
  split
  · cases h1
  split
  · cases h2
  simp only [List.filterMap_cons, kx, ky, hl, List.filterMap_nil]
  simp [e1]
theorem stores3 {x y z : Str} {px py pz pt : Pos} {kt k2 : Nat} {pt2 : Pos} {a b d : Expr} {env : Env} (hk : env.scope.kind = .function) (hx : env.scope.names.lookup x = some .local) (hy : env.scope.names.lookup y = some .local)
    (hz : env.scope.names.lookup z = some .local) (hl : (py.line == px.line) = true) (hl' : (pz.line == px.line) = true) (hxy : x ≠ y) (hxz : x ≠ z) (hyz : y ≠ z) (h1 : notStar a = true) (h2 : notStar b = true) (h2' : notStar d = true)
    (h3 : [a, b, d].all (foldedForSure 8) = false) (h4 : [a, b, d].all (constantsAlone 8) = false) :
    swappedStores [.Tuple [.Name x px, .Name y py, .Name z pz] kt pt] (.Tuple [a, b, d] k2 pt2) env = pure (some [x, y, z]) := by
  have hb : env.blockKind = .function := by rw [Env.blockKind, hk]; rfl
  have kx : env.kindOf x = some .local := hx
  have ky : env.kindOf y = some NameKind.local := hy
  have kz : env.kindOf z = some .local := hz
  have e1 : ([x, y, z] : List Str).eraseDups = [x, y, z] := by
    have g1 : (y == x) = false := beq_eq_false_iff_ne.mpr (Ne.symm hxy)
    have g2 : (z == x) = false := beq_eq_false_iff_ne.mpr (Ne.symm hxz)
    have g3 : (z == y) = false := beq_eq_false_iff_ne.mpr (Ne.symm hyz)
    rw [List.eraseDups_cons]
    simp [g1, g2]
    rw [List.eraseDups_cons]
    simp [g3]
    rfl
  unfold swappedStores
  simp only [hb, List.any_cons, List.any_nil, h3, h4, List.head?_cons, Option.map, Option.getD, Expr.pos, List.length_cons, List.length_nil]
  split
  · rename_i z; exact absurd z (by decide)
  split
  · cases h1
  split
  · cases h2
  split
  · cases h2'
  simp only [List.filterMap_cons, kx, ky, kz, hl, hl', List.filterMap_nil]
  simp [e1]
/-- a display of constants stored to a display: as any tuple -/
theorem stores_const {ts vs : List Expr} {kt k2 : Nat} {pt pt2 : Pos} {env : Env} (h : vs.all (foldedForSure 8) = true) (ns : vs.all notStar = true) :
    swappedStores [.Tuple ts kt pt] (.Tuple vs k2 pt2) env = pure none := by
  unfold swappedStores
  simp only [h]
  split
  · rfl
  split
  · rfl
  split
  · rfl
  · rfl

/-- a target that is no local name -/
def loneB (sc : Scope) : Expr → Bool
  | .Name x _ => localB sc x
  | _ => false
/-- a reading that misses one is shorter -/
theorem short {sc : Scope} (g : Expr → Option Str) (miss : ∀ e, loneB sc e = false → g e = none) : ∀ l : List Expr, l.all (loneB sc) = false → (l.filterMap g).length < l.length
  | [], h => nomatch h
  | e :: l, h => by
    have le := List.length_filterMap_le g l
    rw [List.filterMap_cons, List.length_cons]
    simp only [List.all_cons, Bool.and_eq_false_iff] at h
    rcases h with h | h
    · rw [miss e h]
      exact Nat.lt_succ_of_le le
    · have := short g miss l h
      split
      · omega
      · exact Nat.succ_lt_succ this
theorem stores_lone {ts vs : List Expr} {kt k2 : Nat} {pt pt2 : Pos} {env : Env} {sc : Scope} (hs : env.scope = sc) (h : ts.all (loneB sc) = false) (ns : vs.all notStar = true) :
    swappedStores [.Tuple ts kt pt] (.Tuple vs k2 pt2) env = pure none := by
  unfold swappedStores
  simp only
  split
  · rfl
  split
  · rfl
  split
  · rfl
  · rename_i hx
    exfalso
    apply hx
    rw [Bool.or_eq_true]
    left
    rw [bne_iff_ne]
    intro hlen
    refine absurd hlen (Nat.ne_of_lt (short _ (fun e lone => ?_) ts h))
    cases e with
    | Name id pos =>
      have there : env.kindOf id = sc.names.lookup id := by rw [← hs]; rfl
      have no : (env.kindOf id == some .local) = false := by
        rw [there]
        simp only [loneB, localB] at lone
        cases found : sc.names.lookup id with
        | none => rfl
        | some kd => rw [found] at lone; cases kd <;> first | rfl | cases lone
      simp [no]
    | _ => rfl

section
variable (c : Ctx)
def slotL (x : Str) : Option Nat := if localB c.sc x then slotOf c.N x else none
/-- a, b = e, e' -/
def cPar (rec : Expr → Option CE) (ts vs : List Expr) : Option CS :=
  if vs.all (foldedForSure 8) || vs.all (constantsAlone 8) then none else
  match ts, vs with
  | [.Name x px, .Name y py], [a, b] => if (py.line == px.line) && decide (x ≠ y) then (match slotL c x, slotL c y, cEs rec [a, b] with
      | some i, some j, some es => some (.par [.nm i, .nm j] es)
      | _, _, _ => none) else none
  | [.Name x px, .Name y py, .Name z pz], [a, b, d] => if (py.line == px.line) && (pz.line == px.line) && decide (x ≠ y) && decide (x ≠ z) && decide (y ≠ z) then (match slotL c x, slotL c y, slotL c z, cEs rec [a, b, d] with
      | some i, some j, some l, some es => some (.par [.nm i, .nm j, .nm l] es)
      | _, _, _, _ => none) else none
  | _, _ => none
/-- names in a row, and their slots -/
def namesC (c : Ctx) : List Expr → Option (List Nat)
  | [] => some []
  | .Name x _ :: es => if locB c x then (match slotOf c.N x, namesC c es with
      | some i, some is => some (i :: is)
      | _, _ => none) else none
  | _ => none
/-- a, b = e, e' through a tuple -/
def cParT (rec : Expr → Option CE) (ts vs : List Expr) : Option CS :=
  match namesC c ts, cEs rec vs with
  | some is, some es => if is.length ≤ 100 then some (.par (is.map .nm) es) else none
  | _, _ => none
/-- the comprehension's scope does not bind the name -/
def freshB (scope : Scope) (y : Str) : Bool := !(scope.names.any fun (n, k) => n == y && (k == .local || k == .cell))
def cAsg (n : Nat) (tg e : Expr) : Option CS :=
  match tg with
  | .Name x p => (match e with
    | .ListComp _ _ scope lp => if localB c.sc x && (p.line == lp.line) && freshB scope x then (match slotOf c.N x, cE n c e with
        | some i, some ce => some (.asg (.nm i) ce)
        | _, _ => none) else none
    | e => if isComp e then none else (match cT c n tg, cE n c e with
        | some t, some ce => some (.asg t ce)
        | _, _ => none))
  | .Tuple ts _ _ => (match e with
    | .Tuple vs _ _ => if vs.all (foldedForSure 8) then (match cT c n tg, cE n c e with
        | some t, some ce => some (.asg t ce)
        | _, _ => none) else if ts.all (loneB c.sc) = false then cParT c (cE n c) ts vs else cPar c (cE n c) ts vs
    | e => (match cT c n tg, cE n c e with
        | some t, some ce => some (.asg t ce)
        | _, _ => none))
  | .Subscript (.Name x _) i _ => if isComp e || !okN x || !visB c.sc x || !plainIx i || isTup e then none else (match slotOf c.N x, cE n c i, cE n c e with
      | some k, some ci, some ce => some (.set k ci ce)
      | _, _, _ => none)
  | _ => none
def isCall : Expr → Bool
  | .Call _ _ _ _ => true
  | _ => false
def cSs (rec : Stmt → Option CS) : List Stmt → Option (List CS)
  | [] => some []
  | s :: ss => match rec s, cSs rec ss with
    | some a, some as => some (a :: as)
    | _, _ => none
end
def cS : Nat → Ctx → Stmt → Option CS
  | 0, _, _ => none
  | n + 1, c, st => match st with
    | .Assign ts e _ => (match ts with
      | [tg] => cAsg c n tg e
      | _ => none)
    | .AugAssign tg op e _ => (match tg with
      | .Name x _ => if locB c x then (match slotOf c.N x, op, cE n c e with
        | some i, .Add, some ce => some (.aug i .add ce)
        | some i, .Sub, some ce => some (.aug i .sub ce)
        | _, _, _ => none) else none
      | _ => none)
    | .Expr e _ => if isCall e then (cE n c e).map .expr else none
    | .If t a b _ => if tstB t then (match cE n c t, cSs (cS n c) a, cSs (cS n c) b with
      | some ct, some ca, some cb => some (.ifs ct ca cb)
      | _, _, _ => none) else none
    | .While t a b _ => (match b with
      | [] => if tstB t then (match cE n c t, cSs (cS n c) a with
        | some ct, some ca => some (.whl ct ca)
        | _, _ => none) else none
      | _ => none)
    | .For tg iter a b _ => (match b with
      | [] => (match cI c (cE n c) tg iter, cT c n tg, cSs (cS n c) a with
        | some it, some t, some ca => some (.fors t it ca)
        | _, _, _ => none)
      | _ => none)
    | .Return o _ => (match o with
      | none => some .retN
      | some e => (cE n c e).map .ret)
    | .Break _ => some .brk
    | .Continue _ => some .cnt
    | .Pass _ => some .pas
    | .Raise _ _ _ => some .never
    | _ => none
section
variable {Γ : FT} {X : Cx} {c : Ctx}
theorem slotL_of {x : Str} {i : Nat} (ok : XOk Γ X c) (h : slotL c x = some i) : X.N[i]? = some x ∧ X.env.scope.names.lookup x = some .local := by
  unfold slotL at h
  split at h
  · rename_i hl
    rw [ok.N, ok.sc]
    exact ⟨slot_get h, local_of hl⟩
  · cases h
theorem slot_inj {N : List Str} {x y : Str} {i : Nat} (h1 : N[i]? = some x) (h2 : N[i]? = some y) : x = y := by
  rw [h1] at h2; cases h2; rfl
theorem k_par {rec : Expr → Option CE} (ok : XOk Γ X c) (hr : ∀ e ce, rec e = some ce → Snd Γ X e ce) {ts vs : List Expr} {kt k2 : Nat} {pt pt2 pos : Pos} {cs : CS} (h : cPar c rec ts vs = some cs) :
    PS X (.Assign [.Tuple ts kt pt] (.Tuple vs k2 pt2) pos) (tS X.K (evS Γ cs)) := by
  unfold cPar at h
  split at h
  · cases h
  rename_i hc
  simp only [Bool.or_eq_true, not_or, Bool.not_eq_true] at hc
  have hk : X.env.scope.kind = .function := by rw [ok.sc]; exact ok.kind
  split at h
  · rename_i x px y py a b
    split at h
    · rename_i hq
      simp only [Bool.and_eq_true, decide_eq_true_eq] at hq
      split at h
      · rename_i i j es e1 e2 e3
        cases h
        obtain ⟨a1, a2⟩ := slotL_of ok e1
        obtain ⟨b1, b2⟩ := slotL_of ok e2
        obtain ⟨pa, ns, _⟩ := k_es hr e3
        simp only [List.all_cons, Bool.and_eq_true] at ns
        have ij : i ≠ j := fun z => hq.2 (by subst z; exact slot_inj a1 b1)
        refine (ps_par ok.calm ok.nd a1 b1 ij a2 b2 pa (stores2 hk a2 b2 hq.1 hq.2 ns.1 ns.2.1 hc.1 hc.2)).imp fun D σ H q => par2 ?_
        have e : evS Γ (.par [.nm i, .nm j] es) = parF [.nm i, .nm j] (evEs Γ es) := by funext env; (rw [evS] <;> rfl)
        rw [e] at q
        exact q
      · cases h
    · cases h
  · rename_i x px y py z pz a b d
    split at h
    · rename_i hq
      simp only [Bool.and_eq_true, decide_eq_true_eq] at hq
      obtain ⟨⟨⟨⟨q1, q2⟩, q3⟩, q4⟩, q5⟩ := hq
      split at h
      · rename_i i j l es e1 e2 e3 e4
        cases h
        obtain ⟨a1, a2⟩ := slotL_of ok e1
        obtain ⟨b1, b2⟩ := slotL_of ok e2
        obtain ⟨d1, d2⟩ := slotL_of ok e3
        obtain ⟨pa, ns, _⟩ := k_es hr e4
        simp only [List.all_cons, Bool.and_eq_true] at ns
        have ij : i ≠ j := fun z => q3 (by subst z; exact slot_inj a1 b1)
        have il : i ≠ l := fun z => q4 (by subst z; exact slot_inj a1 d1)
        have jl : j ≠ l := fun z => q5 (by subst z; exact slot_inj b1 d1)
        refine (ps_par3 ok.calm ok.nd a1 b1 d1 ij il jl a2 b2 d2 pa (stores3 hk a2 b2 d2 q1 q2 q3 q4 q5 ns.1 ns.2.1 ns.2.2.1 hc.1 hc.2)).imp fun D σ H q => par3 ?_
        have e : evS Γ (.par [.nm i, .nm j, .nm l] es) = parF [.nm i, .nm j, .nm l] (evEs Γ es) := by funext env; (rw [evS] <;> rfl)
        rw [e] at q
        exact q
      · cases h
    · cases h
  · cases h
theorem ev_asg {t : Tg} {ce : CE} : evS Γ (.asg t ce) = fun env => ((ev Γ ce).v env).bind fun r env1 => match asgR t r env1 with
      | some env2 => .ok .next env2
      | none => .bad := by funext env; (rw [evS] <;> rfl)
theorem k_R (ok : XOk Γ X c) {n : Nat} {e : Expr} {t : Tg} (h : cT c n e = some t) : PG X e (gR X.K t) := by
  cases t with
  | tup ts => exact (k_T ok n e _ h).imp fun v σ H Q q => gR_tup q
  | nm i =>
    cases n with
    | zero => cases e <;> simp [cT] at h
    | succ n =>
      cases e with
      | Name x p =>
        simp only [cT] at h
        split at h
        · rename_i hl
          cases e1 : slotOf c.N x with
          | none => rw [e1] at h; cases h
          | some j =>
            rw [e1] at h
            cases h
            obtain ⟨l1, l2⟩ := loc_of ok hl
            exact (pg_name ok.nd (by rw [ok.N]; exact slot_get e1) l1 l2).imp fun v σ H Q q => gR_nm q
        · cases h
      | Tuple es k p =>
        simp only [cT] at h
        split at h
        · cases e1 : cTs (cT c n) es with
          | none => rw [e1] at h; cases h
          | some ts => rw [e1] at h; cases h
        · cases h
      | _ => simp [cT] at h
theorem target_ns {n : Nat} {e : Expr} {t : Tg} (h : cT c n e = some t) : notStar e = true := by
  cases n with
  | zero => cases e <;> simp [cT] at h
  | succ n => cases e <;> first | rfl | simp [cT] at h
theorem k_names (ok : XOk Γ X c) : ∀ {ts : List Expr} {is : List Nat}, namesC c ts = some is → PGs X ts (gNms is) ∧ ts.length = is.length ∧ ts.all notStar = true
  | [], _, h => by cases h; exact ⟨pgs_nil, rfl, rfl⟩
  | e :: ts, is, h => by
    cases e with
    | Name x p =>
      simp only [namesC] at h
      split at h
      · rename_i hl
        cases e1 : slotOf c.N x with
        | none => rw [e1] at h; cases h
        | some i =>
          cases e2 : namesC c ts with
          | none => rw [e1, e2] at h; cases h
          | some js =>
            rw [e1, e2] at h
            cases h
            obtain ⟨pg, l, ns⟩ := k_names ok e2
            obtain ⟨l1, l2⟩ := loc_of ok hl
            exact ⟨pgs_cons (pg_name ok.nd (by rw [ok.N]; exact slot_get e1) l1 l2) pg (by rw [assE rfl]; rfl), by simp [l], by rw [List.all_cons, ns]; rfl⟩
      · cases h
    | _ => simp [namesC] at h
theorem k_parT {rec : Expr → Option CE} (ok : XOk Γ X c) (hr : ∀ e ce, rec e = some ce → Snd Γ X e ce) {ts vs : List Expr} {kt k2 : Nat} {pt pt2 pos : Pos} {cs : CS} (hlo : ts.all (loneB c.sc) = false) (h : cParT c rec ts vs = some cs) :
    PS X (.Assign [.Tuple ts kt pt] (.Tuple vs k2 pt2) pos) (tS X.K (evS Γ cs)) := by
  unfold cParT at h
  split at h
  · rename_i is es e1 e2
    split at h
    · rename_i h100
      cases h
      obtain ⟨pg, l, ns⟩ := k_names ok e1
      obtain ⟨pa, nv, _⟩ := k_es hr e2
      obtain ⟨l1, l2⟩ := ass_len (env := X.env) ns
      have e : evS Γ (.par (is.map .nm) es) = parF (is.map .nm) (evEs Γ es) := by funext env; (rw [evS] <;> rfl)
      rw [e]
      exact (ps_asg (pe_tup pa) (pg_tup ok.calm pg (l1.trans l) l2) (no_swapS (.inl rfl) _ _) (stores_lone ok.sc hlo nv) (by rw [assE rfl]; rfl)).imp fun D σ H q => parT h100 q
    · cases h
  · cases h
theorem k_asg (ok : XOk Γ X c) {n : Nat} {tg e : Expr} {pos : Pos} {cs : CS} (h : cAsg c n tg e = some cs) : PS X (.Assign [tg] e pos) (tS X.K (evS Γ cs)) := by
  have hr := cE_ok (Γ := Γ) n c X ok
  have gen : ∀ {cs : CS}, isComp e = false ∨ isName tg = false → swappedStores [tg] e X.env = pure none → (match cT c n tg, cE n c e with
        | some t, some ce => some (CS.asg t ce)
        | _, _ => none) = some cs → PS X (.Assign [tg] e pos) (tS X.K (evS Γ cs)) := by
    intro cs h1 h2 h
    split at h
    · rename_i t ce e1 e2
      cases h
      rw [ev_asg]
      exact (ps_asg (hr e ce e2).v (k_R ok e1) (no_swapS h1 _ _) h2 (by rw [assE (target_ns e1)]; rfl)).imp fun D σ H q => s_asg q
    · cases h
  cases tg with
  | Name x p =>
    simp only [cAsg] at h
    split at h
    · rename_i elt gens scope lp
      split at h
      · rename_i hq
        simp only [Bool.and_eq_true] at hq ⊢
        obtain ⟨⟨q1, q2⟩, q3⟩ := hq
        split at h
        · rename_i i ce e1 e2
          cases h
          have xl : X.env.scope.names.lookup x = some .local := by rw [ok.sc]; exact local_of q1
          have hk : X.env.scope.kind = .function := by rw [ok.sc]; exact ok.kind
          have sw : ∀ {el gs}, swapsWith (.ListComp el gs scope lp) (some (.Name x p)) pos.line X.env = pure true := fun {el gs} => sw_true hk xl q2 (by simpa [freshB] using q3)
          cases n with
          | zero => cases e2
          | succ n =>
            have hrn := cE_ok (Γ := Γ) n c X ok
            simp only [cE] at e2
            split at e2
            · rename_i tg iter ifs
              split at e2
              · rename_i hb
                have bo := blkOk_by (N := c.N) (sc := c.sc) (scope := scope) (own := ownOf c.N scope) hb
                have bo' : BlkOk X.N X.env.scope scope (ownOf c.N scope) := by rw [ok.N, ok.sc]; exact bo
                have okb := fun s H C cl fp => ok.blk bo.kind s H C cl fp
                have xi : X.N[i]? = some x := by rw [ok.N]; exact slot_get e1
                split at e2
                · rename_i it t el f1 f2 f3
                  split at e2
                  · rename_i hs
                    cases e2
                    obtain ⟨pi, ns⟩ := k_I ok hrn f1
                    have ee : ev Γ (.lc el t it none ((ownOf c.N scope).map (·.2))) = .of (doLc (ev Γ el).v t (evI Γ it) (evC Γ none) ((ownOf c.N scope).map (·.2))) := by rw [ev]
                    have ec : evC Γ none = fun env => .ok true env := by funext env; rw [evC]
                    rw [ec] at ee
                    rw [ev_asg, ee]
                    refine (ps_ul (ps_setLc (te := tE X.K (ev Γ el).v) (g := gD X.K t) (tt := tT X.K fun env => .ok true env) ok.calm ok.nd xi xl sw pi bo' (fun s H C cl fp => k_T (okb s H C cl fp) n tg t f2) (fun s H C cl fp => pts_nil.imp fun σ H Q q => tT_yes q)
                      (fun s H C cl fp => (cE_ok n (c.blk scope) _ (okb s H C cl fp) elt el f3).v) (fun x => no_fold ns x))).imp fun D σ H q => ?_
                    exact tE_lcW (fun i hi => by simpa using List.all_eq_true.mp hs i hi) (tE_mono (s_asg q) fun v H' g => gR_nm g)
                  · cases e2
                · rename_i it t el cd f1 f2 f3
                  split at e2
                  · rename_i hs
                    rw [Bool.and_eq_true] at hs
                    cases f4 : cE n (c.blk scope) cd with
                    | none => rw [f4] at e2; cases e2
                    | some cc =>
                      rw [f4] at e2
                      cases e2
                      obtain ⟨pi, ns⟩ := k_I ok hrn f1
                      by_cases hk : ∃ i j, cE n c iter = some (.var i) ∧ el = .var j
                      · obtain ⟨i', j, ei, rfl⟩ := hk
                        have em : mkLc (cE n c iter) (.var j) t it cc ((ownOf c.N scope).map (·.2)) = .lck (.var j) t i' cc ((ownOf c.N scope).map (·.2)) := by rw [ei]; rfl
                        dsimp only
                        rw [em]
                        have ee : ev Γ (.lck (.var j) t i' cc ((ownOf c.N scope).map (·.2))) = .of (doLck (ev Γ (.var j)).v t i' (ev Γ cc).t ((ownOf c.N scope).map (·.2))) := by simp only [ev]
                        have hv : PE X iter (tE X.K (doVar i')) := by
                          have := (hrn iter _ ei).v
                          rwa [show (ev Γ (.var i')).v = doVar i' by rw [ev]; rfl] at this
                        rw [ev_asg, ee]
                        refine (ps_ul (ps_setLc (te := tE X.K (ev Γ (.var j)).v) (g := gD X.K t) (tt := tT X.K (ev Γ cc).t) ok.calm ok.nd xi xl sw (pi_anyL hv) bo' (fun s H C cl fp => k_T (okb s H C cl fp) n tg t f2) (fun s H C cl fp => pts_one ((cE_ok n (c.blk scope) _ (okb s H C cl fp) cd cc f4).t hs.1))
                          (fun s H C cl fp => (cE_ok n (c.blk scope) _ (okb s H C cl fp) elt (.var j) f3).v) (fun x => no_fold ns x))).imp fun D σ H q => ?_
                        exact tE_lck (fun i hi => by simpa using List.all_eq_true.mp hs.2 i hi) (tE_mono (s_asg q) fun v H' g => gR_nm g)
                      dsimp only
                      rw [mkLc_lc hk]
                      have ee : ev Γ (.lc el t it (some cc) ((ownOf c.N scope).map (·.2))) = .of (doLc (ev Γ el).v t (evI Γ it) (evC Γ (some cc)) ((ownOf c.N scope).map (·.2))) := by rw [ev]
                      have ec : evC Γ (some cc) = (ev Γ cc).t := by funext env; rw [evC]
                      rw [ec] at ee
                      rw [ev_asg, ee]
                      refine (ps_ul (ps_setLc (te := tE X.K (ev Γ el).v) (g := gD X.K t) (tt := tT X.K (ev Γ cc).t) ok.calm ok.nd xi xl sw pi bo' (fun s H C cl fp => k_T (okb s H C cl fp) n tg t f2) (fun s H C cl fp => pts_one ((cE_ok n (c.blk scope) _ (okb s H C cl fp) cd cc f4).t hs.1))
                        (fun s H C cl fp => (cE_ok n (c.blk scope) _ (okb s H C cl fp) elt el f3).v) (fun x => no_fold ns x))).imp fun D σ H q => ?_
                      exact tE_lcW (fun i hi => by simpa using List.all_eq_true.mp hs.2 i hi) (tE_mono (s_asg q) fun v H' g => gR_nm g)
                  · cases e2
                · cases e2
              · cases e2
            · cases e2
        · cases h
      · cases h
    · split at h
      · cases h
      · rename_i hc
        refine gen (.inl (by simpa using hc)) ?_ h
        cases e <;> rfl
  | Tuple ts k p =>
    simp only [cAsg] at h
    split at h
    · rename_i vs k2 p2
      split at h
      · rename_i hf
        refine gen (.inl rfl) ?_ h
        have hn : vs.all notStar = true := by
          cases e2 : cE n c (.Tuple vs k2 p2) with
          | none => rw [e2] at h; cases e9 : cT c n (.Tuple ts k p) <;> rw [e9] at h <;> cases h
          | some ce =>
            cases n with
            | zero => cases e2
            | succ n =>
              simp only [cE] at e2
              cases e3 : cEs (cE n c) vs with
              | none => rw [e3] at e2; cases e2
              | some ces => exact (k_es (cE_ok (Γ := Γ) n c X ok) e3).2.1
        exact stores_const hf hn
      split at h
      · rename_i hlo
        exact k_parT ok hr hlo h
      · exact k_par ok hr h
    · rename_i hne
      refine gen (.inr rfl) (no_stores ?_ _) h
      cases e <;> first | rfl | exact (hne _ _ _ rfl).elim
  | Subscript o i sp =>
    cases o with
    | Name x xp =>
      simp only [cAsg] at h
      split at h
      · cases h
      · rename_i hq
        simp only [Bool.or_eq_true, not_or, Bool.not_eq_true, Bool.not_eq_false'] at hq
        obtain ⟨⟨⟨⟨q1, q2⟩, q3⟩, q4⟩, q5⟩ := hq
        have q2 : okN x = true := by simpa using q2
        have q3 : visB c.sc x = true := by simpa using q3
        have q4 : plainIx i = true := by simpa using q4
        obtain ⟨n1, n2, n3⟩ := okN_of q2
        split at h
        · rename_i k ci ce e1 e2 e3
          cases h
          have po : PE X (.Name x xp) (tVar k) := pe_var (by rw [ok.N]; exact slot_get e1) (by rw [ok.sc]; exact vis_of q3) n1 n2
          have ee : evS Γ (.set k ci ce) = fun env => ((ev Γ ce).v env).bind fun r env1 => match frz env1 r with
              | none => .bad
              | some (v, env2) => if (obAt env2 k).isSome then ((ev Γ ci).v env2).bind fun kk env3 => match kk.get env3, obAt env3 k with
                | some dk, some b => match setD b dk v with
                  | some b' => .ok .next (putOb env3 k b')
                  | none => .bad
                | _, _ => .bad
                else .bad := by funext env; (rw [evS] <;> rfl)
          rw [ee]
          have hu := ok.hu
          have pg := (pg_sub (pos := sp) po (hr i ci e2).v (set_G (X := X) (by omega)) (by
            intro v
            cases i <;> first | rfl | cases q4)).imp fun v σ H Q q => gSet_sub q
          exact (ps_asg (hr e ce e3).v pg (no_swapS (.inr rfl) _ _) (no_stores q5 _) rfl).imp fun D σ H q => s_set q
        · cases h
    | _ => cases h
  | _ => cases h
end
end Fx

set_option Elab.async false
set_option linter.all false
set_option maxRecDepth 100000
/-! Fx18: bodies, defs, the table of a program's defs. -/
namespace Fx
open L2 PyProof.Rows PySem PySem.Spec

section
variable {Γ : FT} {X : Cx} {c : Ctx}
theorem k_Ss {rec : Stmt → Option CS} (hr : ∀ st cs, rec st = some cs → PS X st (tS X.K (evS Γ cs))) : ∀ {sts : List Stmt} {css : List CS}, cSs rec sts = some css → PSs X sts (tS X.K (evSs Γ css))
  | [], css, h => by
    cases h
    have e : evSs Γ [] = fun env => .ok .next env := by funext env; rw [evSs]
    rw [e]
    exact pss_nil.imp fun D σ H q => s_nil q
  | s :: ss, css, h => by
    unfold cSs at h
    cases e1 : rec s with
    | none => rw [e1] at h; cases h
    | some a =>
      cases e2 : cSs rec ss with
      | none => rw [e1, e2] at h; cases h
      | some as =>
        rw [e1, e2] at h
        cases h
        have e : evSs Γ (a :: as) = fun env => (evS Γ a env).bind fun fl env1 => match fl with
            | .next => evSs Γ as env1
            | fl => .ok fl env1 := by funext env; (rw [evSs] <;> rfl)
        rw [e]
        exact (pss_cons (hr s a e1) (k_Ss hr e2)).imp fun D σ H q => s_seq q
theorem cS_ok : ∀ (n : Nat) (c : Ctx) (X : Cx), XOk Γ X c → PassesOwn (model X.prog X.w) X.A X.env X.xe → ∀ st cs, cS n c st = some cs → PS X st (tS X.K (evS Γ cs))
  | 0, c, X, ok, hp, st, cs, h => by cases h
  | n + 1, c, X, ok, hp, st, cs, h => by
    have hr := cS_ok n c X ok hp
    have he := cE_ok (Γ := Γ) n c X ok
    cases st with
    | Assign ts e pos =>
      simp only [cS] at h
      split at h
      · exact k_asg ok h
      · cases h
    | AugAssign tg op e pos =>
      simp only [cS] at h
      split at h
      · rename_i x xp
        split at h
        · rename_i hl
          obtain ⟨l1, l2⟩ := loc_of ok hl
          split at h
          · rename_i i ce e1 e2
            cases h
            have ee : evS Γ (.aug i .add ce) = doAug i .add (ev Γ ce).v := by funext env; rw [evS]
            rw [ee]
            exact (ps_aug ok.nd (by rw [ok.N]; exact slot_get e1) l1 (he e ce e2).v ip_addG l2).imp fun D σ H q => s_aug q
          · rename_i i ce e1 e2
            cases h
            have ee : evS Γ (.aug i .sub ce) = doAug i .sub (ev Γ ce).v := by funext env; rw [evS]
            rw [ee]
            exact (ps_aug ok.nd (by rw [ok.N]; exact slot_get e1) l1 (he e ce e2).v ip_subG l2).imp fun D σ H q => s_aug q
          · cases h
        · cases h
      · cases h
    | Expr e pos =>
      simp only [cS] at h
      split at h
      · rename_i hc
        cases e1 : cE n c e with
        | none => rw [e1] at h; cases h
        | some ce =>
          rw [e1] at h
          cases h
          have ee : evS Γ (.expr ce) = fun env => ((ev Γ ce).v env).bind fun _ env1 => .ok .next env1 := by funext env; rw [evS]
          rw [ee]
          have nc : isComp e = false := by cases e <;> first | rfl | cases hc
          exact (ps_expr (he e ce e1).v (no_swap nc _ _ _)).imp fun D σ H q => s_expr q
      · cases h
    | If t a b pos =>
      simp only [cS] at h
      split at h
      · rename_i ht
        split at h
        · rename_i ct ca cb e1 e2 e3
          cases h
          have ee : evS Γ (.ifs ct ca cb) = fun env => ((ev Γ ct).t env).bind fun t env1 => if t then evSs Γ ca env1 else evSs Γ cb env1 := by funext env; rw [evS]
          rw [ee]
          exact (ps_if ((he t ct e1).t ht) (k_Ss hr e2) (k_Ss hr e3)).imp fun D σ H q => s_if q
        · cases h
      · cases h
    | While t a b pos =>
      simp only [cS] at h
      split at h
      · split at h
        · rename_i ht
          split at h
          · rename_i ct ca e1 e2
            cases h
            have ee : evS Γ (.whl ct ca) = whlRun (ev Γ ct).t (evSs Γ ca) fuel := by funext env; rw [evS]
            rw [ee]
            exact (ps_while hp ((he t ct e1).t ht) (k_Ss hr e2)).imp fun D σ H q => s_whl q
          · cases h
        · cases h
      · cases h
    | For tg iter a b pos =>
      simp only [cS] at h
      split at h
      · split at h
        · rename_i it t ca e1 e2 e3
          cases h
          have ee : evS Γ (.fors t it ca) = fun env => (evI Γ it env).bind fun xs env1 => forRun t (evSs Γ ca) xs env1 := by funext env; rw [evS]
          rw [ee]
          obtain ⟨pi, ns⟩ := k_I ok he e1
          exact (ps_ul (ps_for hp ok.calm pi (k_T ok n tg t e2) (k_Ss hr e3) (fun x => no_fold ns x))).imp fun D σ H q => s_forW q
        · cases h
      · cases h
    | Return o pos =>
      simp only [cS] at h
      split at h
      · cases h
        have ee : evS Γ .retN = fun env => .ok (.ret (.d .non)) env := by funext env; rw [evS]
        rw [ee]
        exact ps_retN.imp fun D σ H q => s_retN q
      · rename_i e
        cases e1 : cE n c e with
        | none => rw [e1] at h; cases h
        | some ce =>
          rw [e1] at h
          cases h
          have ee : evS Γ (.ret ce) = fun env => ((ev Γ ce).v env).bind fun r env1 => .ok (.ret r) env1 := by funext env; rw [evS]
          rw [ee]
          exact (ps_ret (he e ce e1).v).imp fun D σ H q => s_ret q
    | Break pos =>
      cases h
      have ee : evS Γ .brk = fun env => .ok .brk env := by funext env; rw [evS]
      rw [ee]
      exact ps_break.imp fun D σ H q => s_brk q
    | Continue pos =>
      cases h
      have ee : evS Γ .cnt = fun env => .ok .cnt env := by funext env; rw [evS]
      rw [ee]
      exact ps_continue.imp fun D σ H q => s_cnt q
    | Pass pos =>
      cases h
      have ee : evS Γ .pas = fun env => .ok .next env := by funext env; rw [evS]
      rw [ee]
      exact ps_pass.imp fun D σ H q => s_nil q
    | Raise a b pos =>
      cases h
      refine ps_never.imp fun D σ H q => ?_
      obtain ⟨O, env, rel, fl, env1, e, _⟩ := q
      rw [evS] at e
      cases e
    | _ => cases h
end

/-! ### defs -/
/-- what all defs of a program share -/
structure GOk (P : Program) (w : World) (K : PySem.W.Frag) (mg : Str → Option Value) (base : Heap) (k : Nat) (Γ : FT) (bts : List Str) (fns : List (Str × Nat × Nat × Nat)) (cs : List (Str × D)) : Prop where
  sys : SysOk base
  bts : ∀ x ∈ bts, mg x = none
  cs : ∀ x d, cs.lookup x = some d → ∃ u v, mg x = some u ∧ RelV v u ∧ ∀ A, Rp K A d v
  fns : ∀ x t, fns.lookup x = some t → ∃ fe, Γ[t.1]? = some fe ∧ fe.modes.length = t.2.1 ∧ fe.dvs.length = t.2.2 ∧
    ∃ (f : Addr) (fd : FuncData) (ps : List Str), FnG P w K mg base CX0 k f fd ps (spF K fe) ∧ mg x = some (.ref f) ∧ PySem.W.keepIn K (.ref f) = true ∧
    ∀ n, n ≤ fe.modes.length → fe.modes.length ≤ n + fe.dvs.length → ∃ dvs ds, Vals dvs ds ∧ Binds K fd ps ds ∧ ∀ A, RpL K A (fe.dvs.drop (fe.dvs.length + n - fe.modes.length)) dvs
section
variable {P : Program} {w : World} {K : PySem.W.Frag} {mg : Str → Option Value} {base : Heap} {k : Nat} {Γ : FT} {bts : List Str} {fns : List (Str × Nat × Nat × Nat)} {cs : List (Str × D)}
theorem GOk.ctx (g : GOk P w K mg base k Γ bts fns cs) {N ps : List Str} {ql : Str} {scope : Scope} {f : Addr} {cd : Value} {A : Around} {fs : List Env} {s : Shared} {H : Hp} {E : XK} (S : FnScope N ps scope)
    (hr : Room k (A.deeper (envOfC ql scope s.heap.objs.size f cd))) (hg : A.guards = some []) :
    XOk Γ (cxOf CX0 P w K mg base N ql scope f cd A fs s H E) ⟨N, scope, true, bts, fns, cs⟩ where
  N := rfl
  nd := S.nd
  sc := rfl
  kind := S.kind
  calm := rfl
  hg := hg
  hu := by have := hr.un; show (A.deeper _).units + 200 < cLine; omega
  sys := g.sys
  all := fun _ _ => rfl
  bts := g.bts
  cs := g.cs
  fns := fun x t h => by
    obtain ⟨fe, h1, h2, h3, f, fd, ps, h4, h5, h6, h7⟩ := g.fns x t h
    exact ⟨fe, h1, h2, h3, ⟨k, f, fd, ps, h4, hr, h5, h6, h7⟩⟩
/-- a def -/
theorem fn_ok (g : GOk P w K mg base k Γ bts fns cs) {nm ql : Str} {params : Arguments} {body : List Stmt} {scope : Scope} {dvs : List V} {kws : List (Str × V)} {N ps : List Str} {f : Addr} {fd : FuncData}
    (F : FunD K nm ql params body scope dvs kws f fd) (S : FnScope N ps scope) {fuelN : Nat} {css : List CS} {modes : List Bool} {ds : List D} (hm : modes.length = ps.length)
    (hc : cSs (cS fuelN ⟨N, scope, true, bts, fns, cs⟩) body = some css) : FnG P w K mg base CX0 (k + 1) f fd ps (spF K ⟨modes, ds, runF Γ N.length css⟩) := by
  refine fnG_of F S (fun vs H Q E h => (spF_len h).trans hm) fun cd A fs s H vs Q E hr hg h => ?_
  have ok := g.ctx (H := H) (E := E) (fs := fs) S hr hg
  exact ⟨_, k_Ss (cS_ok fuelN _ _ ok (passes_of rfl)) hc, callee_ok rfl h⟩
/-- one more def -/
theorem GOk.add (g : GOk P w K mg base k Γ bts fns cs) {nm ql : Str} {params : Arguments} {body : List Stmt} {scope : Scope} {dvs : List V} {kws : List (Str × V)} {N ps : List Str} {f : Addr} {fd : FuncData}
    (F : FunD K nm ql params body scope dvs kws f fd) (S : FnScope N ps scope) {fuelN : Nat} {css : List CS} {modes : List Bool} {ds : List D} (hm : modes.length = ps.length)
    (hc : cSs (cS fuelN ⟨N, scope, true, bts, fns, cs⟩) body = some css) {x : Str} (hx : mg x = some (.ref f))
    (hb : ∀ n, n ≤ modes.length → modes.length ≤ n + ds.length → ∃ dvs us, Vals dvs us ∧ Binds K fd ps us ∧ ∀ A, RpL K A (ds.drop (ds.length + n - modes.length)) dvs) :
    GOk P w K mg base (k + 1) (Γ ++ [⟨modes, ds, runF Γ N.length css⟩]) bts ((x, Γ.length, modes.length, ds.length) :: fns) cs where
  sys := g.sys
  bts := g.bts
  cs := g.cs
  fns := fun y t h => by
    rw [List.lookup_cons] at h
    cases e : y == x with
    | true =>
      rw [e] at h
      cases h
      have e : y = x := eq_of_beq e
      subst e
      exact ⟨_, by simp, rfl, rfl, f, fd, ps, fn_ok g F S hm hc, hx, F.kp, hb⟩
    | false =>
      rw [e] at h
      obtain ⟨fe, h1, h2, h3, f', fd', ps', h4, h5⟩ := g.fns y t h
      have hl := (List.getElem?_eq_some_iff.mp h1).1
      exact ⟨fe, by rw [List.getElem?_append_left hl]; exact h1, h2, h3, f', fd', ps', h4.up (Nat.le_succ k), h5⟩
/-- how the arguments of a def without defaults bind -/
theorem binds0 {nm ql : Str} {params : Arguments} {body : List Stmt} {scope : Scope} {kws : List (Str × V)} {ps : List Str} {f : Addr} {fd : FuncData} (F : FunD K nm ql params body scope [] kws f fd) {m : Nat} (hm : m = ps.length)
    (h : ∀ (kV doc pm : Value) (an : Option Addr) (cdv ct : Value) (us : List Value), us.length = ps.length → bindArgs (PySem.W.fnOf nm ql params body scope .none kV doc pm an cdv ct) ⟨us, []⟩ = pure (ps.zip us)) :
    ∀ n, n ≤ m → m ≤ n + ([] : List D).length → ∃ dvs us, Vals dvs us ∧ Binds K fd ps us ∧ ∀ A, RpL K A (([] : List D).drop (([] : List D).length + n - m)) dvs := fun n _ _ =>
  ⟨[], [], .nil, F.bindsN h, fun A => by simp [RpL]⟩
end
/-- a law's own promise, from what the evaluator answers -/
theorem spLaw {K : PySem.W.Frag} {H : Hp} {a : Addr} {ns : List Int} {sem : List Arg → FRes} (hS : LsH K H a (ns.map V.int)) (only : Only H) (h : sem [.d (.lst (ns.map .int))] = .ok (.d (.bl true)) []) :
    spF K ⟨[false], [], sem⟩ [.ref a] H (fun v _ => v = .bl true) fun _ _ _ => False := by
  have intsR : ∀ {A : RdA} (ns : List Int), RpL K A (ns.map D.int) (ns.map V.int) := by
    intro A ns
    induction ns with
    | nil => simp [RpL]
    | cons n ns ih => exact RpL.cons (by simp [Rp]) ih
  refine ⟨rfl, fun _ => False, [.d (.lst (ns.map .int))], ⟨rfl, fun i c e => ?_, fun i j b b' p h1 => ?_, fun a z => z.elim⟩, _, _, h, fun v H' rel st rr => ?_⟩
  · cases i with
    | succ i => simp at e
    | zero =>
      simp [argCell] at e
      subst e
      refine ⟨.ref a, rfl, ?_⟩
      simp only [Rp]
      refine ⟨a, ns.map V.int, rfl, hS.imp (fun r => ⟨?_, fun z => z, r⟩) id, intsR ns⟩
      rintro ⟨j, b, h1, _⟩
      cases j with
      | zero => simp [obAt, argCell, Cell.ob] at h1
      | succ j => simp [obAt] at h1
  · cases i with
    | zero => simp [obAt, argCell, Cell.ob] at h1
    | succ i => simp [obAt] at h1
  · simpa [RO.toR, RR, Rp] using rr
end Fx

set_option Elab.async false
set_option linter.all false
set_option maxRecDepth 100000
set_option maxHeartbeats 0
/-! the program, def by def (printed by fx_gen.py) -/
namespace K03
open PySem PySem.Spec PyProof.Rows L2 Fx
def tx (i : Nat) : Stmt := PySem.Challenge.pw_scanbars_k03_texts_with_so_many_elements.main.body.getD i (.Pass ⟨0, 0, 0, 0⟩)
def bts : List Str := ["len", "abs", "max", "min", "sum", "all", "int", "list", "tuple", "repr", "sorted", "dict", "str", "range", "isinstance", "bool"]
def cons : List (Str × D) := [("NAMES", (.str [48, 49, 50, 51, 52, 53, 54, 55, 56, 57, 97, 98, 99, 100, 101, 102, 103, 104, 105, 106, 107, 108, 109, 110, 111, 112, 113, 114, 115, 116, 117, 118, 119, 120, 121, 122])), ("MOST_CHARACTERS", (.int 10)), ("MOST_DURATIONS", (.int 400))]
-- is_integer
def N0 : List Str := ["value", "least", "most"]
def c0 : List CS := [(.ifs (.or (.not (.isinst (.var 0) .int)) (.isinst (.var 0) .bool)) [(.ret (.cst (.bl false)))] []),
  (.ret (.and (.or (.cmp .isN (.var 1) (.cst .non)) (.cmp .ge (.var 0) (.var 1))) (.or (.cmp .isN (.var 2) (.cst .non)) (.cmp .le (.var 0) (.var 2)))))]
def m0 : List Bool := [false, false, false]
def d0 : List D := [.non, .non]
def f0 : List (Str × Nat × Nat × Nat) := []
def G0 : FT := []
theorem s0 : FnScope N0 ["value", "least", "most"] (defScope (tx 8)) := ⟨by decide +kernel, by decide +kernel, by decide +kernel, by decide +kernel, by decide +kernel, by decide +kernel, by decide +kernel⟩
theorem k0 : cSs (cS 60 ⟨N0, defScope (tx 8), true, bts, f0, cons⟩) (defBody (tx 8)) = some c0 := by kernel_rfl
-- is_name
def N1 : List Str := ["value"]
def c1 : List CS := [(.ret (.and (.isinst (.var 0) .str) (.and (.cmp .eq (.blt .len [(.var 0)]) (.cst (.int 1))) (.cmp .isin (.var 0) (.cst (.str [48, 49, 50, 51, 52, 53, 54, 55, 56, 57, 97, 98, 99, 100, 101, 102, 103, 104, 105, 106, 107, 108, 109, 110, 111, 112, 113, 114, 115, 116, 117, 118, 119, 120, 121, 122]))))))]
def m1 : List Bool := [false]
def d1 : List D := []
def f1 : List (Str × Nat × Nat × Nat) := ("is_integer", 0, 3, 2) :: f0
def G1 : FT := G0 ++ [⟨m0, d0, runF G0 N0.length c0⟩]
theorem s1 : FnScope N1 ["value"] (defScope (tx 9)) := ⟨by decide +kernel, by decide +kernel, by decide +kernel, by decide +kernel, by decide +kernel, by decide +kernel, by decide +kernel⟩
theorem k1 : cSs (cS 60 ⟨N1, defScope (tx 9), true, bts, f1, cons⟩) (defBody (tx 9)) = some c1 := by kernel_rfl
-- are_widths
def N2 : List Str := ["value", "least", "most", "item"]
def c2 : List CS := [(.ifs (.or (.not (.isinst (.var 0) .tuple)) (.not (.chain .le .le (.var 1) (.blt .len [(.var 0)]) (.var 2)))) [(.ret (.cst (.bl false)))] []),
  (.ret (.blt .all [(.lc (.call 0 [(.var 3), (.cst (.int 1)), (.cst (.int 4))]) (.nm 3) (.e (.var 0)) none [3])]))]
def m2 : List Bool := [false, false, false]
def d2 : List D := []
def f2 : List (Str × Nat × Nat × Nat) := ("is_name", 1, 1, 0) :: f1
def G2 : FT := G1 ++ [⟨m1, d1, runF G1 N1.length c1⟩]
theorem s2 : FnScope N2 ["value", "least", "most"] (defScope (tx 10)) := ⟨by decide +kernel, by decide +kernel, by decide +kernel, by decide +kernel, by decide +kernel, by decide +kernel, by decide +kernel⟩
theorem k2 : cSs (cS 60 ⟨N2, defScope (tx 10), true, bts, f2, cons⟩) (defBody (tx 10)) = some c2 := by kernel_rfl
-- is_widths
def N3 : List Str := ["value"]
def c3 : List CS := [(.ret (.call 2 [(.var 0), (.cst (.int 1)), (.cst (.int 6))]))]
def m3 : List Bool := [false]
def d3 : List D := []
def f3 : List (Str × Nat × Nat × Nat) := ("are_widths", 2, 3, 0) :: f2
def G3 : FT := G2 ++ [⟨m2, d2, runF G2 N2.length c2⟩]
theorem s3 : FnScope N3 ["value"] (defScope (tx 11)) := ⟨by decide +kernel, by decide +kernel, by decide +kernel, by decide +kernel, by decide +kernel, by decide +kernel, by decide +kernel⟩
theorem k3 : cSs (cS 60 ⟨N3, defScope (tx 11), true, bts, f3, cons⟩) (defBody (tx 11)) = some c3 := by kernel_rfl
-- fault_of_characters
def N4 : List Str := ["value", "name"]
def c4 : List CS := [(.ifs (.or (.not (.isinst (.var 0) .dict)) (.not (.chain .le .le (.cst (.int 1)) (.blt .len [(.var 0)]) (.cst (.int 10))))) [(.ret (.lst [(.cst .non)]))] []),
  (.ifs (.not (.blt .all [(.lc (.call 1 [(.var 1)]) (.nm 1) (.e (.var 0)) none [1])])) [(.ret (.lst [(.cst .non)]))] []),
  (.ret (.sl (.lc (.var 1) (.nm 1) (.e (.blt .sorted [(.var 0)])) (some (.not (.call 3 [(.ix (.var 0) (.var 1))]))) [1]) none (some (.cst (.int 1)))))]
def m4 : List Bool := [false]
def d4 : List D := []
def f4 : List (Str × Nat × Nat × Nat) := ("is_widths", 3, 1, 0) :: f3
def G4 : FT := G3 ++ [⟨m3, d3, runF G3 N3.length c3⟩]
theorem s4 : FnScope N4 ["value"] (defScope (tx 12)) := ⟨by decide +kernel, by decide +kernel, by decide +kernel, by decide +kernel, by decide +kernel, by decide +kernel, by decide +kernel⟩
theorem k4 : cSs (cS 60 ⟨N4, defScope (tx 12), true, bts, f4, cons⟩) (defBody (tx 12)) = some c4 := by kernel_rfl
-- fault_of_code
def N5 : List Str := ["value", "start", "characters", "between", "stop", "found", "name"]
def c5 : List CS := [(.ifs (.or (.not (.isinst (.var 0) .tuple)) (.cmp .ne (.blt .len [(.var 0)]) (.cst (.int 4)))) [(.ret (.lst [(.tup [(.cst .non), (.cst .non)])]))] []),
  (.asg (.tup [(.nm 1), (.nm 2), (.nm 3), (.nm 4)]) (.var 0)),
  (.asg (.nm 5) (.lc (.tup [(.cst (.str [99, 104, 97, 114, 97, 99, 116, 101, 114, 115])), (.var 6)]) (.nm 6) (.e (.call 4 [(.var 2)])) none [6])),
  (.ifs (.not (.call 3 [(.var 1)])) [(.asg (.nm 5) (.lst [(.tup [(.cst (.str [115, 116, 97, 114, 116])), (.cst .non)])]))] []),
  (.ifs (.and (.cmp .eq (.var 5) (.lst [])) (.not (.call 2 [(.var 3), (.cst (.int 0)), (.cst (.int 2))]))) [(.asg (.nm 5) (.lst [(.tup [(.cst (.str [98, 101, 116, 119, 101, 101, 110])), (.cst .non)])]))] []),
  (.ifs (.and (.cmp .eq (.var 5) (.lst [])) (.not (.call 3 [(.var 4)]))) [(.asg (.nm 5) (.lst [(.tup [(.cst (.str [115, 116, 111, 112])), (.cst .non)])]))] []),
  (.ret (.var 5))]
def m5 : List Bool := [false]
def d5 : List D := []
def f5 : List (Str × Nat × Nat × Nat) := ("fault_of_characters", 4, 1, 0) :: f4
def G5 : FT := G4 ++ [⟨m4, d4, runF G4 N4.length c4⟩]
theorem s5 : FnScope N5 ["value"] (defScope (tx 13)) := ⟨by decide +kernel, by decide +kernel, by decide +kernel, by decide +kernel, by decide +kernel, by decide +kernel, by decide +kernel⟩
theorem k5 : cSs (cS 60 ⟨N5, defScope (tx 13), true, bts, f5, cons⟩) (defBody (tx 13)) = some c5 := by kernel_rfl
-- require_code
def N6 : List Str := ["value", "faults", "part", "name"]
def c6 : List CS := [(.asg (.nm 1) (.call 5 [(.var 0)])),
  (.ifs (.cmp .ne (.var 1) (.lst [])) [(.asg (.tup [(.nm 2), (.nm 3)]) (.ix (.var 1) (.cst (.int 0)))), .never] [])]
def m6 : List Bool := [false]
def d6 : List D := []
def f6 : List (Str × Nat × Nat × Nat) := ("fault_of_code", 5, 1, 0) :: f5
def G6 : FT := G5 ++ [⟨m5, d5, runF G5 N5.length c5⟩]
theorem s6 : FnScope N6 ["value"] (defScope (tx 14)) := ⟨by decide +kernel, by decide +kernel, by decide +kernel, by decide +kernel, by decide +kernel, by decide +kernel, by decide +kernel⟩
theorem k6 : cSs (cS 60 ⟨N6, defScope (tx 14), true, bts, f6, cons⟩) (defBody (tx 14)) = some c6 := by kernel_rfl
-- require_index
def N7 : List Str := ["value", "many"]
def c7 : List CS := [(.ifs (.or (.not (.call 0 [(.var 0), (.cst (.int 0))])) (.cmp .ge (.var 0) (.var 1))) [.never] [])]
def m7 : List Bool := [false, false]
def d7 : List D := []
def f7 : List (Str × Nat × Nat × Nat) := ("require_code", 6, 1, 0) :: f6
def G7 : FT := G6 ++ [⟨m6, d6, runF G6 N6.length c6⟩]
theorem s7 : FnScope N7 ["value", "many"] (defScope (tx 15)) := ⟨by decide +kernel, by decide +kernel, by decide +kernel, by decide +kernel, by decide +kernel, by decide +kernel, by decide +kernel⟩
theorem k7 : cSs (cS 60 ⟨N7, defScope (tx 15), true, bts, f7, cons⟩) (defBody (tx 15)) = some c7 := by kernel_rfl
-- words_of
def N8 : List Str := ["code", "name"]
def c8 : List CS := [(.ret (.dc (.var 1) (.bin .add (.ix (.ix (.var 0) (.cst (.int 1))) (.var 1)) (.ix (.var 0) (.cst (.int 2)))) (.nm 1) (.e (.blt .sorted [(.ix (.var 0) (.cst (.int 1)))])) none [1]))]
def m8 : List Bool := [false]
def d8 : List D := []
def f8 : List (Str × Nat × Nat × Nat) := ("require_index", 7, 2, 0) :: f7
def G8 : FT := G7 ++ [⟨m7, d7, runF G7 N7.length c7⟩]
theorem s8 : FnScope N8 ["code"] (defScope (tx 17)) := ⟨by decide +kernel, by decide +kernel, by decide +kernel, by decide +kernel, by decide +kernel, by decide +kernel, by decide +kernel⟩
theorem k8 : cSs (cS 60 ⟨N8, defScope (tx 17), true, bts, f8, cons⟩) (defBody (tx 17)) = some c8 := by kernel_rfl
-- size_without
def N9 : List Str := ["code"]
def c9 : List CS := [(.ret (.bin .add (.bin .add (.blt .len [(.ix (.var 0) (.cst (.int 0)))]) (.blt .len [(.ix (.var 0) (.cst (.int 2)))])) (.blt .len [(.ix (.var 0) (.cst (.int 3)))])))]
def m9 : List Bool := [false]
def d9 : List D := []
def f9 : List (Str × Nat × Nat × Nat) := ("words_of", 8, 1, 0) :: f8
def G9 : FT := G8 ++ [⟨m8, d8, runF G8 N8.length c8⟩]
theorem s9 : FnScope N9 ["code"] (defScope (tx 18)) := ⟨by decide +kernel, by decide +kernel, by decide +kernel, by decide +kernel, by decide +kernel, by decide +kernel, by decide +kernel⟩
theorem k9 : cSs (cS 60 ⟨N9, defScope (tx 18), true, bts, f9, cons⟩) (defBody (tx 18)) = some c9 := by kernel_rfl
-- ways_up_to
def N10 : List Str := ["words", "most", "found", "many", "word"]
def c10 : List CS := [(.asg (.nm 2) (.lst [(.cst (.int 1))])),
  (.fors (.nm 3) (.range [(.cst (.int 1)), (.bin .add (.var 1) (.cst (.int 1)))]) [(.expr (.mut .append 2 [(.blt .sum [(.lc (.ix (.var 2) (.bin .sub (.var 3) (.blt .len [(.var 4)]))) (.nm 4) (.values (.var 0)) (some (.cmp .le (.blt .len [(.var 4)]) (.var 3))) [4])])]))]),
  (.ret (.var 2))]
def m10 : List Bool := [false, false]
def d10 : List D := []
def f10 : List (Str × Nat × Nat × Nat) := ("size_without", 9, 1, 0) :: f9
def G10 : FT := G9 ++ [⟨m9, d9, runF G9 N9.length c9⟩]
theorem s10 : FnScope N10 ["words", "most"] (defScope (tx 19)) := ⟨by decide +kernel, by decide +kernel, by decide +kernel, by decide +kernel, by decide +kernel, by decide +kernel, by decide +kernel⟩
theorem k10 : cSs (cS 60 ⟨N10, defScope (tx 19), true, bts, f10, cons⟩) (defBody (tx 19)) = some c10 := by kernel_rfl
-- require_many
def N11 : List Str := ["value"]
def c11 : List CS := [(.ifs (.not (.call 0 [(.var 0), (.cst (.int 0)), (.cst (.int 400))])) [.never] [])]
def m11 : List Bool := [false]
def d11 : List D := []
def f11 : List (Str × Nat × Nat × Nat) := ("ways_up_to", 10, 2, 0) :: f10
def G11 : FT := G10 ++ [⟨m10, d10, runF G10 N10.length c10⟩]
theorem s11 : FnScope N11 ["value"] (defScope (tx 20)) := ⟨by decide +kernel, by decide +kernel, by decide +kernel, by decide +kernel, by decide +kernel, by decide +kernel, by decide +kernel⟩
theorem k11 : cSs (cS 60 ⟨N11, defScope (tx 20), true, bts, f11, cons⟩) (defBody (tx 20)) = some c11 := by kernel_rfl
-- count_texts
def N12 : List Str := ["code", "many", "left"]
def c12 : List CS := [(.expr (.call 6 [(.var 0)])),
  (.expr (.call 11 [(.var 1)])),
  (.asg (.nm 2) (.bin .sub (.var 1) (.call 9 [(.var 0)]))),
  (.ret (.ite (.cmp .ge (.var 2) (.cst (.int 0))) (.ix (.call 10 [(.call 8 [(.var 0)]), (.var 2)]) (.var 2)) (.cst (.int 0))))]
def m12 : List Bool := [false, false]
def d12 : List D := []
def f12 : List (Str × Nat × Nat × Nat) := ("require_many", 11, 1, 0) :: f11
def G12 : FT := G11 ++ [⟨m11, d11, runF G11 N11.length c11⟩]
theorem s12 : FnScope N12 ["code", "many"] (defScope (tx 21)) := ⟨by decide +kernel, by decide +kernel, by decide +kernel, by decide +kernel, by decide +kernel, by decide +kernel, by decide +kernel⟩
theorem k12 : cSs (cS 60 ⟨N12, defScope (tx 21), true, bts, f12, cons⟩) (defBody (tx 21)) = some c12 := by kernel_rfl
-- nth_text
def N13 : List Str := ["code", "many", "index", "words", "left", "text", "ways", "name", "word", "more"]
def c13 : List CS := [(.expr (.call 6 [(.var 0)])),
  (.expr (.call 11 [(.var 1)])),
  (.par [(.nm 3), (.nm 4), (.nm 5)] [(.call 8 [(.var 0)]), (.bin .sub (.var 1) (.call 9 [(.var 0)])), (.cst (.str []))]),
  (.asg (.nm 6) (.ite (.cmp .ge (.var 4) (.cst (.int 0))) (.call 10 [(.var 3), (.var 4)]) (.lst [(.cst (.int 0))]))),
  (.expr (.call 7 [(.var 2), (.ix (.var 6) (.neg (.cst (.int 1))))])),
  (.whl (.cmp .gt (.var 4) (.cst (.int 0))) [(.fors (.tup [(.nm 7), (.nm 8)]) (.items (.var 3)) [(.asg (.nm 9) (.ite (.cmp .le (.blt .len [(.var 8)]) (.var 4)) (.ix (.var 6) (.bin .sub (.var 4) (.blt .len [(.var 8)]))) (.cst (.int 0)))), (.ifs (.cmp .lt (.var 2) (.var 9)) [(.par [(.nm 5), (.nm 4)] [(.bin .add (.var 5) (.var 7)), (.bin .sub (.var 4) (.blt .len [(.var 8)]))]), .brk] []), (.aug 2 .sub (.var 9))])]),
  (.ret (.var 5))]
def m13 : List Bool := [false, false, false]
def d13 : List D := []
def f13 : List (Str × Nat × Nat × Nat) := ("count_texts", 12, 2, 0) :: f12
def G13 : FT := G12 ++ [⟨m12, d12, runF G12 N12.length c12⟩]
theorem s13 : FnScope N13 ["code", "many", "index"] (defScope (tx 22)) := ⟨by decide +kernel, by decide +kernel, by decide +kernel, by decide +kernel, by decide +kernel, by decide +kernel, by decide +kernel⟩
theorem k13 : cSs (cS 60 ⟨N13, defScope (tx 22), true, bts, f13, cons⟩) (defBody (tx 22)) = some c13 := by kernel_rfl
-- _law_fount
def N14 : List Str := ["script", "k", "cell"]
def c14 : List CS := [(.asg (.nm 2) (.ite (.cmp .lt (.var 1) (.blt .len [(.var 0)])) (.blt .abs [(.blt .int [(.ix (.var 0) (.var 1))])]) (.cst (.int 0)))),
  (.ret (.lst [(.blt .max [(.cst (.int 0)), (.bin .sub (.var 2) (.bin .pow (.cst (.int 10)) (.cst (.int 18))))]), (.bin .add (.bin .add (.bin .mul (.bin .mod (.blt .int [(.var 2)]) (.bin .add (.bin .pow (.cst (.int 10)) (.cst (.int 39))) (.cst (.int 61)))) (.cst (.int 64))) (.bin .mul (.cst (.int 31)) (.var 1))) (.cst (.int 17))), (.cst (.int 0))]))]
def m14 : List Bool := [false, false]
def d14 : List D := []
def f14 : List (Str × Nat × Nat × Nat) := ("nth_text", 13, 3, 0) :: f13
def G14 : FT := G13 ++ [⟨m13, d13, runF G13 N13.length c13⟩]
theorem s14 : FnScope N14 ["script", "k"] (defScope (tx 24)) := ⟨by decide +kernel, by decide +kernel, by decide +kernel, by decide +kernel, by decide +kernel, by decide +kernel, by decide +kernel⟩
theorem k14 : cSs (cS 60 ⟨N14, defScope (tx 24), true, bts, f14, cons⟩) (defBody (tx 24)) = some c14 := by kernel_rfl
-- _law_dip
def N15 : List Str := ["fount", "many", "digit", "mixed"]
def c15 : List CS := [(.ifs (.cmp .gt (.ix (.var 0) (.cst (.int 0))) (.cst (.int 0))) [(.asg (.nm 2) (.bin .mod (.blt .int [(.ix (.var 0) (.cst (.int 0)))]) (.var 1))), (.set 0 (.cst (.int 0)) (.bin .fdiv (.ix (.var 0) (.cst (.int 0))) (.var 1))), (.ret (.var 2))] []),
  (.set 0 (.cst (.int 2)) (.bin .add (.ix (.var 0) (.cst (.int 2))) (.cst (.int 1)))),
  (.asg (.nm 3) (.bin .mod (.blt .int [(.bin .pow (.bin .add (.ix (.var 0) (.cst (.int 1))) (.bin .mul (.cst (.int 49979687)) (.ix (.var 0) (.cst (.int 2))))) (.cst (.int 3)))]) (.bin .add (.bin .pow (.cst (.int 10)) (.cst (.int 42))) (.cst (.int 63))))),
  (.asg (.nm 3) (.bin .mod (.blt .int [(.bin .pow (.bin .add (.var 3) (.bin .mul (.cst (.int 67867967)) (.ix (.var 0) (.cst (.int 2))))) (.cst (.int 3)))]) (.bin .add (.bin .pow (.cst (.int 10)) (.cst (.int 40))) (.cst (.int 121))))),
  (.ret (.bin .mod (.blt .int [(.bin .fdiv (.var 3) (.bin .pow (.cst (.int 10)) (.cst (.int 9))))]) (.var 1)))]
def m15 : List Bool := [true, false]
def d15 : List D := []
def f15 : List (Str × Nat × Nat × Nat) := ("_law_fount", 14, 2, 0) :: f14
def G15 : FT := G14 ++ [⟨m14, d14, runF G14 N14.length c14⟩]
theorem s15 : FnScope N15 ["fount", "many"] (defScope (tx 25)) := ⟨by decide +kernel, by decide +kernel, by decide +kernel, by decide +kernel, by decide +kernel, by decide +kernel, by decide +kernel⟩
theorem k15 : cSs (cS 60 ⟨N15, defScope (tx 25), true, bts, f15, cons⟩) (defBody (tx 25)) = some c15 := by kernel_rfl
-- _law_widths
def N16 : List Str := ["fount", "least", "most", "top", "turn"]
def c16 : List CS := [(.asg (.nm 3) (.ix (.lst [(.cst (.int 2)), (.cst (.int 4)), (.cst (.int 4))]) (.call 15 [(.var 0), (.cst (.int 3))]))),
  (.ret (.blt .tuple [(.lc (.bin .add (.cst (.int 1)) (.call 15 [(.var 0), (.var 3)])) (.nm 4) (.range [(.bin .add (.var 1) (.call 15 [(.var 0), (.bin .add (.bin .sub (.var 2) (.var 1)) (.cst (.int 1)))]))]) none [4])]))]
def m16 : List Bool := [true, false, false]
def d16 : List D := []
def f16 : List (Str × Nat × Nat × Nat) := ("_law_dip", 15, 2, 0) :: f15
def G16 : FT := G15 ++ [⟨m15, d15, runF G15 N15.length c15⟩]
theorem s16 : FnScope N16 ["fount", "least", "most"] (defScope (tx 26)) := ⟨by decide +kernel, by decide +kernel, by decide +kernel, by decide +kernel, by decide +kernel, by decide +kernel, by decide +kernel⟩
theorem k16 : cSs (cS 60 ⟨N16, defScope (tx 26), true, bts, f16, cons⟩) (defBody (tx 26)) = some c16 := by kernel_rfl
-- _law_characters
def N17 : List Str := ["fount", "many", "most", "left", "found", "way", "size", "turn", "name", "known", "widths", "at"]
def c17 : List CS := [(.par [(.nm 3), (.nm 4)] [(.blt .list [(.cst (.str [97, 98, 99, 100, 101, 102, 103, 104, 105, 106, 107, 108, 110, 111, 112, 113, 114, 115, 116, 117, 118, 119, 120, 121, 122, 48, 49, 50, 51, 52, 54, 55, 56, 57]))]), (.disp [])]),
  (.par [(.nm 5), (.nm 6)] [(.call 15 [(.var 0), (.cst (.int 4))]), (.bin .add (.cst (.int 1)) (.call 15 [(.var 0), (.var 2)]))]),
  (.fors (.nm 7) (.range [(.var 1)]) [(.par [(.nm 8), (.nm 9)] [(.mut .pop 3 [(.call 15 [(.var 0), (.blt .len [(.var 3)])])]), (.lvs (.var 4))]), (.asg (.nm 10) (.call 16 [(.var 0), (.ite (.cmp .eq (.var 5) (.cst (.int 0))) (.var 6) (.cst (.int 1))), (.ite (.cmp .eq (.var 5) (.cst (.int 0))) (.var 6) (.var 2))])), (.ifs (.and (.cmp .ne (.var 9) (.lst [])) (.cmp .gt (.var 5) (.cst (.int 1)))) [(.asg (.nm 10) (.ix (.var 9) (.call 15 [(.var 0), (.blt .len [(.var 9)])]))), (.asg (.nm 11) (.call 15 [(.var 0), (.blt .len [(.var 10)])])), (.ifs (.cmp .eq (.var 5) (.cst (.int 2))) [(.asg (.nm 10) (.bin .add (.bin .add (.sl (.var 10) none (some (.var 11))) (.tup [(.bin .add (.cst (.int 1)) (.call 15 [(.var 0), (.cst (.int 4))]))])) (.sl (.var 10) (some (.bin .add (.var 11) (.cst (.int 1)))) none)))] [(.asg (.nm 10) (.sl (.bin .add (.var 10) (.ix (.var 9) (.call 15 [(.var 0), (.blt .len [(.var 9)])]))) (some (.var 11)) (some (.bin .add (.var 11) (.var 2)))))])] []), (.set 4 (.var 8) (.var 10))]),
  (.ret (.var 4))]
def m17 : List Bool := [true, false, false]
def d17 : List D := []
def f17 : List (Str × Nat × Nat × Nat) := ("_law_widths", 16, 3, 0) :: f16
def G17 : FT := G16 ++ [⟨m16, d16, runF G16 N16.length c16⟩]
theorem s17 : FnScope N17 ["fount", "many", "most"] (defScope (tx 27)) := ⟨by decide +kernel, by decide +kernel, by decide +kernel, by decide +kernel, by decide +kernel, by decide +kernel, by decide +kernel⟩
theorem k17 : cSs (cS 60 ⟨N17, defScope (tx 27), true, bts, f17, cons⟩) (defBody (tx 27)) = some c17 := by kernel_rfl
-- _law_code
def N18 : List Str := ["fount", "many", "most", "top", "start", "some", "between"]
def c18 : List CS := [(.asg (.nm 3) (.ix (.lst [(.cst (.int 3)), (.cst (.int 3)), (.cst (.int 6))]) (.call 15 [(.var 0), (.cst (.int 3))]))),
  (.par [(.nm 4), (.nm 5), (.nm 6)] [(.call 16 [(.var 0), (.cst (.int 1)), (.var 3)]), (.call 17 [(.var 0), (.var 1), (.var 2)]), (.call 16 [(.var 0), (.cst (.int 0)), (.cst (.int 2))])]),
  (.ret (.tup [(.var 4), (.var 5), (.var 6), (.call 16 [(.var 0), (.cst (.int 1)), (.var 3)])]))]
def m18 : List Bool := [true, false, false]
def d18 : List D := []
def f18 : List (Str × Nat × Nat × Nat) := ("_law_characters", 17, 3, 0) :: f17
def G18 : FT := G17 ++ [⟨m17, d17, runF G17 N17.length c17⟩]
theorem s18 : FnScope N18 ["fount", "many", "most"] (defScope (tx 28)) := ⟨by decide +kernel, by decide +kernel, by decide +kernel, by decide +kernel, by decide +kernel, by decide +kernel, by decide +kernel⟩
theorem k18 : cSs (cS 60 ⟨N18, defScope (tx 28), true, bts, f18, cons⟩) (defBody (tx 28)) = some c18 := by kernel_rfl
-- _law_row
def N19 : List Str := ["code", "text", "found", "name"]
def c19 : List CS := [(.asg (.nm 2) (.blt .list [(.bin .add (.ix (.var 0) (.cst (.int 0))) (.ix (.var 0) (.cst (.int 2))))])),
  (.fors (.nm 3) (.e (.var 1)) [(.asg (.nm 2) (.bin .add (.var 2) (.blt .list [(.bin .add (.ix (.ix (.var 0) (.cst (.int 1))) (.var 3)) (.ix (.var 0) (.cst (.int 2))))])))]),
  (.ret (.bin .add (.var 2) (.blt .list [(.ix (.var 0) (.cst (.int 3)))])))]
def m19 : List Bool := [false, false]
def d19 : List D := []
def f19 : List (Str × Nat × Nat × Nat) := ("_law_code", 18, 3, 0) :: f18
def G19 : FT := G18 ++ [⟨m18, d18, runF G18 N18.length c18⟩]
theorem s19 : FnScope N19 ["code", "text"] (defScope (tx 29)) := ⟨by decide +kernel, by decide +kernel, by decide +kernel, by decide +kernel, by decide +kernel, by decide +kernel, by decide +kernel⟩
theorem k19 : cSs (cS 60 ⟨N19, defScope (tx 29), true, bts, f19, cons⟩) (defBody (tx 29)) = some c19 := by kernel_rfl
-- _law_texts
def N20 : List Str := ["code", "many", "base", "found", "rows", "longer", "text", "size", "more", "name", "row"]
def c20 : List CS := [(.asg (.nm 2) (.bin .add (.bin .add (.blt .len [(.ix (.var 0) (.cst (.int 0)))]) (.blt .len [(.ix (.var 0) (.cst (.int 2)))])) (.blt .len [(.ix (.var 0) (.cst (.int 3)))]))),
  (.par [(.nm 3), (.nm 4)] [(.lst []), (.lst [(.tup [(.cst (.str [])), (.var 2)])])]),
  (.whl (.and (.cmp .ne (.var 4) (.lst [])) (.cmp .lt (.bin .add (.blt .len [(.var 4)]) (.blt .len [(.var 3)])) (.cst (.int 600)))) [(.asg (.nm 5) (.lst [])), (.fors (.tup [(.nm 6), (.nm 7)]) (.e (.var 4)) [(.ifs (.cmp .eq (.var 7) (.var 1)) [(.expr (.mut .append 3 [(.var 6)]))] []), (.asg (.nm 8) (.lc (.tup [(.bin .add (.var 6) (.var 9)), (.bin .add (.bin .add (.var 7) (.blt .len [(.ix (.ix (.var 0) (.cst (.int 1))) (.var 9))])) (.blt .len [(.ix (.var 0) (.cst (.int 2)))]))]) (.nm 9) (.e (.blt .sorted [(.ix (.var 0) (.cst (.int 1)))])) none [9])), (.asg (.nm 5) (.bin .add (.var 5) (.lck (.var 10) (.nm 10) 8 (.cmp .le (.ix (.var 10) (.cst (.int 1))) (.var 1)) [10])))]), (.asg (.nm 4) (.var 5))]),
  (.ret (.ite (.cmp .eq (.var 4) (.lst [])) (.blt .sorted [(.var 3)]) (.cst .non)))]
def m20 : List Bool := [false, false]
def d20 : List D := []
def f20 : List (Str × Nat × Nat × Nat) := ("_law_row", 19, 2, 0) :: f19
def G20 : FT := G19 ++ [⟨m19, d19, runF G19 N19.length c19⟩]
theorem s20 : FnScope N20 ["code", "many"] (defScope (tx 30)) := ⟨by decide +kernel, by decide +kernel, by decide +kernel, by decide +kernel, by decide +kernel, by decide +kernel, by decide +kernel⟩
theorem k20 : cSs (cS 60 ⟨N20, defScope (tx 30), true, bts, f20, cons⟩) (defBody (tx 30)) = some c20 := by kernel_rfl
-- law
def N21 : List Str := ["script", "k", "fount", "turn", "code", "kept", "base", "many", "due", "told", "spots", "lap", "spot", "index"]
def c21 : List CS := [(.fors (.nm 1) (.range [(.blt .max [(.cst (.int 1)), (.blt .min [(.cst (.int 3)), (.blt .len [(.var 0)])])])]) [(.asg (.nm 2) (.call 14 [(.var 0), (.var 1)])), (.fors (.nm 3) (.range [(.cst (.int 4))]) [(.asg (.nm 4) (.call 18 [(.var 2), (.bin .add (.cst (.int 1)) (.call 15 [(.var 2), (.cst (.int 4))])), (.cst (.int 3))])), (.asg (.nm 5) (.blt .repr [(.var 4)])), (.asg (.nm 6) (.bin .add (.bin .add (.blt .len [(.ix (.var 4) (.cst (.int 0)))]) (.blt .len [(.ix (.var 4) (.cst (.int 2)))])) (.blt .len [(.ix (.var 4) (.cst (.int 3)))]))), (.fors (.nm 7) (.e (.bin .add (.lst [(.cst (.int 0)), (.cst (.int 1))]) (.lrg2 (.bin .sub (.var 6) (.cst (.int 1))) (.bin .add (.var 6) (.cst (.int 9)))))) [(.asg (.nm 8) (.call 20 [(.var 4), (.var 7)])), (.ifs (.cmp .isN (.var 8) (.cst .non)) [.cnt] []), (.asg (.nm 9) (.lst [(.call 12 [(.var 4), (.var 7)]), (.call 12 [(.var 4), (.var 7)])])), (.ifs (.cmp .ne (.blt .repr [(.var 9)]) (.blt .repr [(.lst [(.blt .len [(.var 8)]), (.blt .len [(.var 8)])])])) [(.ret (.cst (.bl false)))] []), (.asg (.nm 10) (.lrg1 (.blt .len [(.var 8)]))), (.ifs (.cmp .gt (.blt .len [(.var 8)]) (.cst (.int 20))) [(.asg (.nm 10) (.bin .add (.bin .add (.sl (.var 10) none (some (.cst (.int 5)))) (.sl (.var 10) (some (.neg (.cst (.int 5)))) none)) (.lc (.call 15 [(.var 2), (.blt .len [(.var 8)])]) (.nm 11) (.range [(.cst (.int 5))]) none [11])))] []), (.ifs (.cmp .ne (.lc (.call 13 [(.var 4), (.var 7), (.var 12)]) (.nm 12) (.e (.var 10)) none [12]) (.lc (.ix (.var 8) (.var 12)) (.nm 12) (.e (.var 10)) none [12])) [(.ret (.cst (.bl false)))] [])]), (.ifs (.cmp .ne (.blt .repr [(.var 4)]) (.var 5)) [(.ret (.cst (.bl false)))] [])])]),
  (.asg (.nm 4) (.tup [(.tup [(.cst (.int 1)), (.cst (.int 1))]), (.disp [(.s [97], (.tup [(.cst (.int 1)), (.cst (.int 2))])), (.s [98], (.tup [(.cst (.int 2)), (.cst (.int 1))])), (.s [99], (.tup [(.cst (.int 1)), (.cst (.int 1)), (.cst (.int 1))]))]), (.tup []), (.tup [(.cst (.int 1))])])),
  (.asg (.nm 9) (.bin .add (.lc (.call 12 [(.var 4), (.var 7)]) (.nm 7) (.range [(.cst (.int 11))]) none [7]) (.lc (.call 13 [(.var 4), (.cst (.int 8)), (.var 13)]) (.nm 13) (.range [(.cst (.int 4))]) none [13]))),
  (.ifs (.cmp .ne (.var 9) (.lst [(.cst (.int 0)), (.cst (.int 0)), (.cst (.int 0)), (.cst (.int 1)), (.cst (.int 0)), (.cst (.int 2)), (.cst (.int 1)), (.cst (.int 4)), (.cst (.int 4)), (.cst (.int 9)), (.cst (.int 12)), (.cst (.str [97, 99])), (.cst (.str [98, 99])), (.cst (.str [99, 97])), (.cst (.str [99, 98]))])) [(.ret (.cst (.bl false)))] []),
  (.asg (.nm 4) (.tup [(.tup [(.cst (.int 1))]), (.disp [(.s [98], (.tup [(.cst (.int 1))])), (.s [48], (.tup [(.cst (.int 1))])), (.s [97], (.tup [(.cst (.int 2))]))]), (.tup []), (.tup [(.cst (.int 1))])])),
  (.ret (.cmp .eq (.lc (.call 13 [(.var 4), (.cst (.int 3)), (.var 13)]) (.nm 13) (.range [(.cst (.int 3))]) none [13]) (.lst [(.cst (.str [48])), (.cst (.str [97])), (.cst (.str [98]))])))]
def m21 : List Bool := [false]
def d21 : List D := []
def f21 : List (Str × Nat × Nat × Nat) := ("_law_texts", 20, 2, 0) :: f20
def G21 : FT := G20 ++ [⟨m20, d20, runF G20 N20.length c20⟩]
theorem s21 : FnScope N21 ["script"] (defScope (tx 31)) := ⟨by decide +kernel, by decide +kernel, by decide +kernel, by decide +kernel, by decide +kernel, by decide +kernel, by decide +kernel⟩
theorem k21 : cSs (cS 60 ⟨N21, defScope (tx 31), true, bts, f21, cons⟩) (defBody (tx 31)) = some c21 := by kernel_rfl
/-! what the top has written -/
abbrev FnP (K : PySem.W.Frag) (x : Str) (i : Nat) (dvs : List V) (f : Addr) (fd : FuncData) : Prop := FunD K x x (defArgs (tx i)) (defBody (tx i)) (defScope (tx i)) dvs [] f fd
section
variable {P : Program} {w : World} {K : PySem.W.Frag} {mg : Str → Option Value} {base : Heap}
theorem b0 {f : Addr} {fd : FuncData} (F : FnP K "is_integer" 8 [V.non, V.non] f fd) : ∀ n, n ≤ m0.length → m0.length ≤ n + d0.length → ∃ dvs us, Vals dvs us ∧ Binds K fd ["value", "least", "most"] us ∧ ∀ A, RpL K A (d0.drop (d0.length + n - m0.length)) dvs := by
  intro n h1 h2
  have h1 : n ≤ 3 := h1
  have h2 : 3 ≤ n + 2 := h2
  have hn : n = 1 ∨ n = 2 ∨ n = 3 := by omega
  rcases hn with rfl | rfl | rfl
  · obtain ⟨us, h3, h4⟩ := F.binds1 (ps := ["value", "least", "most"]) 1 0 (by simp) rfl fun _ _ _ _ _ _ _ us its hl hi => match us, its, hl, hi with | [_], [_, _], _, _ => ⟨_, rfl, rfl⟩
    exact ⟨_, us, h3, h4, fun A => by simp [d0, m0, RpL, Rp]⟩
  · obtain ⟨us, h3, h4⟩ := F.binds1 (ps := ["value", "least", "most"]) 2 1 (by simp) rfl fun _ _ _ _ _ _ _ us its hl hi => match us, its, hl, hi with | [_, _], [_, _], _, _ => ⟨_, rfl, rfl⟩
    exact ⟨_, us, h3, h4, fun A => by simp [d0, m0, RpL, Rp]⟩
  · obtain ⟨us, h3, h4⟩ := F.binds1 (ps := ["value", "least", "most"]) 3 2 (by simp) rfl fun _ _ _ _ _ _ _ us its hl hi => match us, its, hl, hi with | [_, _, _], [_, _], _, _ => ⟨_, rfl, rfl⟩
    exact ⟨_, us, h3, h4, fun A => by simp [d0, m0, RpL, Rp]⟩
theorem b1 {f : Addr} {fd : FuncData} (F : FnP K "is_name" 9 [] f fd) : ∀ n, n ≤ m1.length → m1.length ≤ n + d1.length → ∃ dvs us, Vals dvs us ∧ Binds K fd ["value"] us ∧ ∀ A, RpL K A (d1.drop (d1.length + n - m1.length)) dvs := by
  exact binds0 F rfl fun _ _ _ _ _ _ us hl => match us, hl with | [_], _ => rfl
theorem b2 {f : Addr} {fd : FuncData} (F : FnP K "are_widths" 10 [] f fd) : ∀ n, n ≤ m2.length → m2.length ≤ n + d2.length → ∃ dvs us, Vals dvs us ∧ Binds K fd ["value", "least", "most"] us ∧ ∀ A, RpL K A (d2.drop (d2.length + n - m2.length)) dvs := by
  exact binds0 F rfl fun _ _ _ _ _ _ us hl => match us, hl with | [_, _, _], _ => rfl
theorem b3 {f : Addr} {fd : FuncData} (F : FnP K "is_widths" 11 [] f fd) : ∀ n, n ≤ m3.length → m3.length ≤ n + d3.length → ∃ dvs us, Vals dvs us ∧ Binds K fd ["value"] us ∧ ∀ A, RpL K A (d3.drop (d3.length + n - m3.length)) dvs := by
  exact binds0 F rfl fun _ _ _ _ _ _ us hl => match us, hl with | [_], _ => rfl
theorem b4 {f : Addr} {fd : FuncData} (F : FnP K "fault_of_characters" 12 [] f fd) : ∀ n, n ≤ m4.length → m4.length ≤ n + d4.length → ∃ dvs us, Vals dvs us ∧ Binds K fd ["value"] us ∧ ∀ A, RpL K A (d4.drop (d4.length + n - m4.length)) dvs := by
  exact binds0 F rfl fun _ _ _ _ _ _ us hl => match us, hl with | [_], _ => rfl
theorem b5 {f : Addr} {fd : FuncData} (F : FnP K "fault_of_code" 13 [] f fd) : ∀ n, n ≤ m5.length → m5.length ≤ n + d5.length → ∃ dvs us, Vals dvs us ∧ Binds K fd ["value"] us ∧ ∀ A, RpL K A (d5.drop (d5.length + n - m5.length)) dvs := by
  exact binds0 F rfl fun _ _ _ _ _ _ us hl => match us, hl with | [_], _ => rfl
theorem b6 {f : Addr} {fd : FuncData} (F : FnP K "require_code" 14 [] f fd) : ∀ n, n ≤ m6.length → m6.length ≤ n + d6.length → ∃ dvs us, Vals dvs us ∧ Binds K fd ["value"] us ∧ ∀ A, RpL K A (d6.drop (d6.length + n - m6.length)) dvs := by
  exact binds0 F rfl fun _ _ _ _ _ _ us hl => match us, hl with | [_], _ => rfl
theorem b7 {f : Addr} {fd : FuncData} (F : FnP K "require_index" 15 [] f fd) : ∀ n, n ≤ m7.length → m7.length ≤ n + d7.length → ∃ dvs us, Vals dvs us ∧ Binds K fd ["value", "many"] us ∧ ∀ A, RpL K A (d7.drop (d7.length + n - m7.length)) dvs := by
  exact binds0 F rfl fun _ _ _ _ _ _ us hl => match us, hl with | [_, _], _ => rfl
theorem b8 {f : Addr} {fd : FuncData} (F : FnP K "words_of" 17 [] f fd) : ∀ n, n ≤ m8.length → m8.length ≤ n + d8.length → ∃ dvs us, Vals dvs us ∧ Binds K fd ["code"] us ∧ ∀ A, RpL K A (d8.drop (d8.length + n - m8.length)) dvs := by
  exact binds0 F rfl fun _ _ _ _ _ _ us hl => match us, hl with | [_], _ => rfl
theorem b9 {f : Addr} {fd : FuncData} (F : FnP K "size_without" 18 [] f fd) : ∀ n, n ≤ m9.length → m9.length ≤ n + d9.length → ∃ dvs us, Vals dvs us ∧ Binds K fd ["code"] us ∧ ∀ A, RpL K A (d9.drop (d9.length + n - m9.length)) dvs := by
  exact binds0 F rfl fun _ _ _ _ _ _ us hl => match us, hl with | [_], _ => rfl
theorem b10 {f : Addr} {fd : FuncData} (F : FnP K "ways_up_to" 19 [] f fd) : ∀ n, n ≤ m10.length → m10.length ≤ n + d10.length → ∃ dvs us, Vals dvs us ∧ Binds K fd ["words", "most"] us ∧ ∀ A, RpL K A (d10.drop (d10.length + n - m10.length)) dvs := by
  exact binds0 F rfl fun _ _ _ _ _ _ us hl => match us, hl with | [_, _], _ => rfl
theorem b11 {f : Addr} {fd : FuncData} (F : FnP K "require_many" 20 [] f fd) : ∀ n, n ≤ m11.length → m11.length ≤ n + d11.length → ∃ dvs us, Vals dvs us ∧ Binds K fd ["value"] us ∧ ∀ A, RpL K A (d11.drop (d11.length + n - m11.length)) dvs := by
  exact binds0 F rfl fun _ _ _ _ _ _ us hl => match us, hl with | [_], _ => rfl
theorem b12 {f : Addr} {fd : FuncData} (F : FnP K "count_texts" 21 [] f fd) : ∀ n, n ≤ m12.length → m12.length ≤ n + d12.length → ∃ dvs us, Vals dvs us ∧ Binds K fd ["code", "many"] us ∧ ∀ A, RpL K A (d12.drop (d12.length + n - m12.length)) dvs := by
  exact binds0 F rfl fun _ _ _ _ _ _ us hl => match us, hl with | [_, _], _ => rfl
theorem b13 {f : Addr} {fd : FuncData} (F : FnP K "nth_text" 22 [] f fd) : ∀ n, n ≤ m13.length → m13.length ≤ n + d13.length → ∃ dvs us, Vals dvs us ∧ Binds K fd ["code", "many", "index"] us ∧ ∀ A, RpL K A (d13.drop (d13.length + n - m13.length)) dvs := by
  exact binds0 F rfl fun _ _ _ _ _ _ us hl => match us, hl with | [_, _, _], _ => rfl
theorem b14 {f : Addr} {fd : FuncData} (F : FnP K "_law_fount" 24 [] f fd) : ∀ n, n ≤ m14.length → m14.length ≤ n + d14.length → ∃ dvs us, Vals dvs us ∧ Binds K fd ["script", "k"] us ∧ ∀ A, RpL K A (d14.drop (d14.length + n - m14.length)) dvs := by
  exact binds0 F rfl fun _ _ _ _ _ _ us hl => match us, hl with | [_, _], _ => rfl
theorem b15 {f : Addr} {fd : FuncData} (F : FnP K "_law_dip" 25 [] f fd) : ∀ n, n ≤ m15.length → m15.length ≤ n + d15.length → ∃ dvs us, Vals dvs us ∧ Binds K fd ["fount", "many"] us ∧ ∀ A, RpL K A (d15.drop (d15.length + n - m15.length)) dvs := by
  exact binds0 F rfl fun _ _ _ _ _ _ us hl => match us, hl with | [_, _], _ => rfl
theorem b16 {f : Addr} {fd : FuncData} (F : FnP K "_law_widths" 26 [] f fd) : ∀ n, n ≤ m16.length → m16.length ≤ n + d16.length → ∃ dvs us, Vals dvs us ∧ Binds K fd ["fount", "least", "most"] us ∧ ∀ A, RpL K A (d16.drop (d16.length + n - m16.length)) dvs := by
  exact binds0 F rfl fun _ _ _ _ _ _ us hl => match us, hl with | [_, _, _], _ => rfl
theorem b17 {f : Addr} {fd : FuncData} (F : FnP K "_law_characters" 27 [] f fd) : ∀ n, n ≤ m17.length → m17.length ≤ n + d17.length → ∃ dvs us, Vals dvs us ∧ Binds K fd ["fount", "many", "most"] us ∧ ∀ A, RpL K A (d17.drop (d17.length + n - m17.length)) dvs := by
  exact binds0 F rfl fun _ _ _ _ _ _ us hl => match us, hl with | [_, _, _], _ => rfl
theorem b18 {f : Addr} {fd : FuncData} (F : FnP K "_law_code" 28 [] f fd) : ∀ n, n ≤ m18.length → m18.length ≤ n + d18.length → ∃ dvs us, Vals dvs us ∧ Binds K fd ["fount", "many", "most"] us ∧ ∀ A, RpL K A (d18.drop (d18.length + n - m18.length)) dvs := by
  exact binds0 F rfl fun _ _ _ _ _ _ us hl => match us, hl with | [_, _, _], _ => rfl
theorem b19 {f : Addr} {fd : FuncData} (F : FnP K "_law_row" 29 [] f fd) : ∀ n, n ≤ m19.length → m19.length ≤ n + d19.length → ∃ dvs us, Vals dvs us ∧ Binds K fd ["code", "text"] us ∧ ∀ A, RpL K A (d19.drop (d19.length + n - m19.length)) dvs := by
  exact binds0 F rfl fun _ _ _ _ _ _ us hl => match us, hl with | [_, _], _ => rfl
theorem b20 {f : Addr} {fd : FuncData} (F : FnP K "_law_texts" 30 [] f fd) : ∀ n, n ≤ m20.length → m20.length ≤ n + d20.length → ∃ dvs us, Vals dvs us ∧ Binds K fd ["code", "many"] us ∧ ∀ A, RpL K A (d20.drop (d20.length + n - m20.length)) dvs := by
  exact binds0 F rfl fun _ _ _ _ _ _ us hl => match us, hl with | [_, _], _ => rfl
theorem b21 {f : Addr} {fd : FuncData} (F : FnP K "law" 31 [] f fd) : ∀ n, n ≤ m21.length → m21.length ≤ n + d21.length → ∃ dvs us, Vals dvs us ∧ Binds K fd ["script"] us ∧ ∀ A, RpL K A (d21.drop (d21.length + n - m21.length)) dvs := by
  exact binds0 F rfl fun _ _ _ _ _ _ us hl => match us, hl with | [_], _ => rfl
theorem all_ok (sys : SysOk base) (bt : ∀ x ∈ bts, mg x = none) (cs : ∀ x d, cons.lookup x = some d → ∃ u v, mg x = some u ∧ RelV v u ∧ ∀ A, Rp K A d v)
    {a0 : Addr} {e0 : FuncData} {a1 : Addr} {e1 : FuncData} {a2 : Addr} {e2 : FuncData} {a3 : Addr} {e3 : FuncData} {a4 : Addr} {e4 : FuncData} {a5 : Addr} {e5 : FuncData} {a6 : Addr} {e6 : FuncData} {a7 : Addr} {e7 : FuncData} {a8 : Addr} {e8 : FuncData} {a9 : Addr} {e9 : FuncData} {a10 : Addr} {e10 : FuncData} {a11 : Addr} {e11 : FuncData} {a12 : Addr} {e12 : FuncData} {a13 : Addr} {e13 : FuncData} {a14 : Addr} {e14 : FuncData} {a15 : Addr} {e15 : FuncData} {a16 : Addr} {e16 : FuncData} {a17 : Addr} {e17 : FuncData} {a18 : Addr} {e18 : FuncData} {a19 : Addr} {e19 : FuncData} {a20 : Addr} {e20 : FuncData} {a21 : Addr} {e21 : FuncData}
    (F0 : FnP K "is_integer" 8 [V.non, V.non] a0 e0) (h0 : mg "is_integer" = some (.ref a0))
    (F1 : FnP K "is_name" 9 [] a1 e1) (h1 : mg "is_name" = some (.ref a1))
    (F2 : FnP K "are_widths" 10 [] a2 e2) (h2 : mg "are_widths" = some (.ref a2))
    (F3 : FnP K "is_widths" 11 [] a3 e3) (h3 : mg "is_widths" = some (.ref a3))
    (F4 : FnP K "fault_of_characters" 12 [] a4 e4) (h4 : mg "fault_of_characters" = some (.ref a4))
    (F5 : FnP K "fault_of_code" 13 [] a5 e5) (h5 : mg "fault_of_code" = some (.ref a5))
    (F6 : FnP K "require_code" 14 [] a6 e6) (h6 : mg "require_code" = some (.ref a6))
    (F7 : FnP K "require_index" 15 [] a7 e7) (h7 : mg "require_index" = some (.ref a7))
    (F8 : FnP K "words_of" 17 [] a8 e8) (h8 : mg "words_of" = some (.ref a8))
    (F9 : FnP K "size_without" 18 [] a9 e9) (h9 : mg "size_without" = some (.ref a9))
    (F10 : FnP K "ways_up_to" 19 [] a10 e10) (h10 : mg "ways_up_to" = some (.ref a10))
    (F11 : FnP K "require_many" 20 [] a11 e11) (h11 : mg "require_many" = some (.ref a11))
    (F12 : FnP K "count_texts" 21 [] a12 e12) (h12 : mg "count_texts" = some (.ref a12))
    (F13 : FnP K "nth_text" 22 [] a13 e13) (h13 : mg "nth_text" = some (.ref a13))
    (F14 : FnP K "_law_fount" 24 [] a14 e14) (h14 : mg "_law_fount" = some (.ref a14))
    (F15 : FnP K "_law_dip" 25 [] a15 e15) (h15 : mg "_law_dip" = some (.ref a15))
    (F16 : FnP K "_law_widths" 26 [] a16 e16) (h16 : mg "_law_widths" = some (.ref a16))
    (F17 : FnP K "_law_characters" 27 [] a17 e17) (h17 : mg "_law_characters" = some (.ref a17))
    (F18 : FnP K "_law_code" 28 [] a18 e18) (h18 : mg "_law_code" = some (.ref a18))
    (F19 : FnP K "_law_row" 29 [] a19 e19) (h19 : mg "_law_row" = some (.ref a19))
    (F20 : FnP K "_law_texts" 30 [] a20 e20) (h20 : mg "_law_texts" = some (.ref a20))
    (F21 : FnP K "law" 31 [] a21 e21) (h21 : mg "law" = some (.ref a21))
    : FnG P w K mg base CX0 22 a21 e21 ["script"] (spF K ⟨m21, d21, runF G21 N21.length c21⟩) := by
  have g0 : GOk P w K mg base 0 G0 bts f0 cons := ⟨sys, bt, cs, fun x t h => by cases h⟩
  have g1 : GOk P w K mg base 1 G1 bts f1 cons := g0.add F0 s0 rfl k0 h0 (b0 F0)
  have g2 : GOk P w K mg base 2 G2 bts f2 cons := g1.add F1 s1 rfl k1 h1 (b1 F1)
  have g3 : GOk P w K mg base 3 G3 bts f3 cons := g2.add F2 s2 rfl k2 h2 (b2 F2)
  have g4 : GOk P w K mg base 4 G4 bts f4 cons := g3.add F3 s3 rfl k3 h3 (b3 F3)
  have g5 : GOk P w K mg base 5 G5 bts f5 cons := g4.add F4 s4 rfl k4 h4 (b4 F4)
  have g6 : GOk P w K mg base 6 G6 bts f6 cons := g5.add F5 s5 rfl k5 h5 (b5 F5)
  have g7 : GOk P w K mg base 7 G7 bts f7 cons := g6.add F6 s6 rfl k6 h6 (b6 F6)
  have g8 : GOk P w K mg base 8 G8 bts f8 cons := g7.add F7 s7 rfl k7 h7 (b7 F7)
  have g9 : GOk P w K mg base 9 G9 bts f9 cons := g8.add F8 s8 rfl k8 h8 (b8 F8)
  have g10 : GOk P w K mg base 10 G10 bts f10 cons := g9.add F9 s9 rfl k9 h9 (b9 F9)
  have g11 : GOk P w K mg base 11 G11 bts f11 cons := g10.add F10 s10 rfl k10 h10 (b10 F10)
  have g12 : GOk P w K mg base 12 G12 bts f12 cons := g11.add F11 s11 rfl k11 h11 (b11 F11)
  have g13 : GOk P w K mg base 13 G13 bts f13 cons := g12.add F12 s12 rfl k12 h12 (b12 F12)
  have g14 : GOk P w K mg base 14 G14 bts f14 cons := g13.add F13 s13 rfl k13 h13 (b13 F13)
  have g15 : GOk P w K mg base 15 G15 bts f15 cons := g14.add F14 s14 rfl k14 h14 (b14 F14)
  have g16 : GOk P w K mg base 16 G16 bts f16 cons := g15.add F15 s15 rfl k15 h15 (b15 F15)
  have g17 : GOk P w K mg base 17 G17 bts f17 cons := g16.add F16 s16 rfl k16 h16 (b16 F16)
  have g18 : GOk P w K mg base 18 G18 bts f18 cons := g17.add F17 s17 rfl k17 h17 (b17 F17)
  have g19 : GOk P w K mg base 19 G19 bts f19 cons := g18.add F18 s18 rfl k18 h18 (b18 F18)
  have g20 : GOk P w K mg base 20 G20 bts f20 cons := g19.add F19 s19 rfl k19 h19 (b19 F19)
  have g21 : GOk P w K mg base 21 G21 bts f21 cons := g20.add F20 s20 rfl k20 h20 (b20 F20)
  exact fn_ok g21 F21 s21 rfl k21
end
def fn : List He.DefD := [⟨("is_integer", none), "is_integer", "is_integer", defArgs (tx 8), defBody (tx 8), defScope (tx 8), [.non, .non], []⟩,
  ⟨("is_name", none), "is_name", "is_name", defArgs (tx 9), defBody (tx 9), defScope (tx 9), [], []⟩,
  ⟨("are_widths", none), "are_widths", "are_widths", defArgs (tx 10), defBody (tx 10), defScope (tx 10), [], []⟩,
  ⟨("is_widths", none), "is_widths", "is_widths", defArgs (tx 11), defBody (tx 11), defScope (tx 11), [], []⟩,
  ⟨("fault_of_characters", none), "fault_of_characters", "fault_of_characters", defArgs (tx 12), defBody (tx 12), defScope (tx 12), [], []⟩,
  ⟨("fault_of_code", none), "fault_of_code", "fault_of_code", defArgs (tx 13), defBody (tx 13), defScope (tx 13), [], []⟩,
  ⟨("require_code", none), "require_code", "require_code", defArgs (tx 14), defBody (tx 14), defScope (tx 14), [], []⟩,
  ⟨("require_index", none), "require_index", "require_index", defArgs (tx 15), defBody (tx 15), defScope (tx 15), [], []⟩,
  ⟨("words_of", none), "words_of", "words_of", defArgs (tx 17), defBody (tx 17), defScope (tx 17), [], []⟩,
  ⟨("size_without", none), "size_without", "size_without", defArgs (tx 18), defBody (tx 18), defScope (tx 18), [], []⟩,
  ⟨("ways_up_to", none), "ways_up_to", "ways_up_to", defArgs (tx 19), defBody (tx 19), defScope (tx 19), [], []⟩,
  ⟨("require_many", none), "require_many", "require_many", defArgs (tx 20), defBody (tx 20), defScope (tx 20), [], []⟩,
  ⟨("count_texts", none), "count_texts", "count_texts", defArgs (tx 21), defBody (tx 21), defScope (tx 21), [], []⟩,
  ⟨("nth_text", none), "nth_text", "nth_text", defArgs (tx 22), defBody (tx 22), defScope (tx 22), [], []⟩,
  ⟨("_law_fount", none), "_law_fount", "_law_fount", defArgs (tx 24), defBody (tx 24), defScope (tx 24), [], []⟩,
  ⟨("_law_dip", none), "_law_dip", "_law_dip", defArgs (tx 25), defBody (tx 25), defScope (tx 25), [], []⟩,
  ⟨("_law_widths", none), "_law_widths", "_law_widths", defArgs (tx 26), defBody (tx 26), defScope (tx 26), [], []⟩,
  ⟨("_law_characters", none), "_law_characters", "_law_characters", defArgs (tx 27), defBody (tx 27), defScope (tx 27), [], []⟩,
  ⟨("_law_code", none), "_law_code", "_law_code", defArgs (tx 28), defBody (tx 28), defScope (tx 28), [], []⟩,
  ⟨("_law_row", none), "_law_row", "_law_row", defArgs (tx 29), defBody (tx 29), defScope (tx 29), [], []⟩,
  ⟨("_law_texts", none), "_law_texts", "_law_texts", defArgs (tx 30), defBody (tx 30), defScope (tx 30), [], []⟩,
  ⟨("law", none), "law", "law", defArgs (tx 31), defBody (tx 31), defScope (tx 31), [], []⟩]
def fa : List He.Fa := [.glo "is_integer", .glo "is_name", .glo "are_widths", .glo "is_widths", .glo "fault_of_characters", .glo "fault_of_code", .glo "require_code", .glo "require_index", .glo "words_of", .glo "size_without", .glo "ways_up_to", .glo "require_many", .glo "count_texts", .glo "nth_text", .glo "_law_fount", .glo "_law_dip", .glo "_law_widths", .glo "_law_characters", .glo "_law_code", .glo "_law_row", .glo "_law_texts", .glo "law", .free "len", .free "abs", .free "max", .free "min", .free "sum", .free "all", .free "int", .free "list", .free "tuple", .free "repr", .free "sorted", .free "dict", .free "str", .free "range", .free "isinstance", .free "bool", .str "NAMES" (mkS [48, 49, 50, 51, 52, 53, 54, 55, 56, 57, 97, 98, 99, 100, 101, 102, 103, 104, 105, 106, 107, 108, 109, 110, 111, 112, 113, 114, 115, 116, 117, 118, 119, 120, 121, 122]), .int "MOST_CHARACTERS" (10), .int "MOST_DURATIONS" (400)]
abbrev R : PySem.W.OpenRow := PySem.W.OpenLaw.row PySem.Challenge.rw_scanbars_k03_texts_with_so_many_elements
abbrev hk : PySem.W.Hook := He.hookD 4 fa fn
def ob (s : PySem.W.SharedT) : He.AlD := He.obsDG 4 fa fn (HandSHeadRun.getT s)
theorem ob_eq (s : PySem.W.SharedT) : ob s = hk.obs s.abs := He.obsDG_eq (HandSHeadRun.getT_eq s)
def loose : List Str := (["ScanError", "InvalidNumber", "InvalidCode", "NAMES", "MOST_CHARACTERS", "MOST_DURATIONS", "is_integer", "is_name", "are_widths", "is_widths", "fault_of_characters", "fault_of_code", "require_code", "require_index", "words_of", "size_without", "ways_up_to", "require_many", "count_texts", "nth_text", "_law_fount", "_law_dip", "_law_widths", "_law_characters", "_law_code"] : List Str) ++ (["_law_row", "_law_texts"] : List Str)
theorem run (w : World) : HandSHeadRun.RunEq R (PySem.W.view R.prog [31]) hk ob 6000 loose w := by
  intro os
  kernel_rfl
theorem facts {P : Program} {w : World} {K : PySem.W.Frag} {h : Heap} {mg : Str → Option Value} {f : Addr} (X : K.In h) (G : h.Ns mainGlobals mg) (hfa : mg ("law" : Str) = some (.ref f)) (c : He.SaysD fa fn K) :
    ∃ fd : FuncData, (∀ (s : Shared) (v : Value), BindsTo s fd ⟨[v], []⟩ [("script", v)]) ∧ ∀ base : Heap, K.In base → base.Ns mainGlobals mg → SysOk base → FnG P w K mg base CX0 22 f fd ["script"] (spF K ⟨m21, d21, runF G21 N21.length c21⟩) := by
  obtain ⟨e0, F0⟩ := c.def_ 0
  have h0 := He.glo_ok X G (c.fact 0 (f := .glo "is_integer") rfl)
  obtain ⟨e1, F1⟩ := c.def_ 1
  have h1 := He.glo_ok X G (c.fact 1 (f := .glo "is_name") rfl)
  obtain ⟨e2, F2⟩ := c.def_ 2
  have h2 := He.glo_ok X G (c.fact 2 (f := .glo "are_widths") rfl)
  obtain ⟨e3, F3⟩ := c.def_ 3
  have h3 := He.glo_ok X G (c.fact 3 (f := .glo "is_widths") rfl)
  obtain ⟨e4, F4⟩ := c.def_ 4
  have h4 := He.glo_ok X G (c.fact 4 (f := .glo "fault_of_characters") rfl)
  obtain ⟨e5, F5⟩ := c.def_ 5
  have h5 := He.glo_ok X G (c.fact 5 (f := .glo "fault_of_code") rfl)
  obtain ⟨e6, F6⟩ := c.def_ 6
  have h6 := He.glo_ok X G (c.fact 6 (f := .glo "require_code") rfl)
  obtain ⟨e7, F7⟩ := c.def_ 7
  have h7 := He.glo_ok X G (c.fact 7 (f := .glo "require_index") rfl)
  obtain ⟨e8, F8⟩ := c.def_ 8
  have h8 := He.glo_ok X G (c.fact 8 (f := .glo "words_of") rfl)
  obtain ⟨e9, F9⟩ := c.def_ 9
  have h9 := He.glo_ok X G (c.fact 9 (f := .glo "size_without") rfl)
  obtain ⟨e10, F10⟩ := c.def_ 10
  have h10 := He.glo_ok X G (c.fact 10 (f := .glo "ways_up_to") rfl)
  obtain ⟨e11, F11⟩ := c.def_ 11
  have h11 := He.glo_ok X G (c.fact 11 (f := .glo "require_many") rfl)
  obtain ⟨e12, F12⟩ := c.def_ 12
  have h12 := He.glo_ok X G (c.fact 12 (f := .glo "count_texts") rfl)
  obtain ⟨e13, F13⟩ := c.def_ 13
  have h13 := He.glo_ok X G (c.fact 13 (f := .glo "nth_text") rfl)
  obtain ⟨e14, F14⟩ := c.def_ 14
  have h14 := He.glo_ok X G (c.fact 14 (f := .glo "_law_fount") rfl)
  obtain ⟨e15, F15⟩ := c.def_ 15
  have h15 := He.glo_ok X G (c.fact 15 (f := .glo "_law_dip") rfl)
  obtain ⟨e16, F16⟩ := c.def_ 16
  have h16 := He.glo_ok X G (c.fact 16 (f := .glo "_law_widths") rfl)
  obtain ⟨e17, F17⟩ := c.def_ 17
  have h17 := He.glo_ok X G (c.fact 17 (f := .glo "_law_characters") rfl)
  obtain ⟨e18, F18⟩ := c.def_ 18
  have h18 := He.glo_ok X G (c.fact 18 (f := .glo "_law_code") rfl)
  obtain ⟨e19, F19⟩ := c.def_ 19
  have h19 := He.glo_ok X G (c.fact 19 (f := .glo "_law_row") rfl)
  obtain ⟨e20, F20⟩ := c.def_ 20
  have h20 := He.glo_ok X G (c.fact 20 (f := .glo "_law_texts") rfl)
  obtain ⟨e21, F21⟩ := c.def_ 21
  have h21 := He.glo_ok X G (c.fact 21 (f := .glo "law") rfl)
  have e := hfa.symm.trans h21
  cases e
  have b := FunD.bindsA (ps := ["script"]) F21 fun _ _ _ _ _ _ us hl => match us, hl with | [_], _ => rfl
  refine ⟨e21, fun s v => b s [v] rfl, fun base _ _ sys => all_ok sys (fun x hx => ?_) (fun x d hx => ?_) F0 h0 F1 h1 F2 h2 F3 h3 F4 h4 F5 h5 F6 h6 F7 h7 F8 h8 F9 h9 F10 h10 F11 h11 F12 h12 F13 h13 F14 h14 F15 h15 F16 h16 F17 h17 F18 h18 F19 h19 F20 h20 F21 h21⟩
  · simp only [bts, List.mem_cons, List.not_mem_nil, or_false] at hx
    rcases hx with rfl | rfl | rfl | rfl | rfl | rfl | rfl | rfl | rfl | rfl | rfl | rfl | rfl | rfl | rfl | rfl
    · exact He.free_ok X G (c.fact 22 (f := .free "len") rfl)
    · exact He.free_ok X G (c.fact 23 (f := .free "abs") rfl)
    · exact He.free_ok X G (c.fact 24 (f := .free "max") rfl)
    · exact He.free_ok X G (c.fact 25 (f := .free "min") rfl)
    · exact He.free_ok X G (c.fact 26 (f := .free "sum") rfl)
    · exact He.free_ok X G (c.fact 27 (f := .free "all") rfl)
    · exact He.free_ok X G (c.fact 28 (f := .free "int") rfl)
    · exact He.free_ok X G (c.fact 29 (f := .free "list") rfl)
    · exact He.free_ok X G (c.fact 30 (f := .free "tuple") rfl)
    · exact He.free_ok X G (c.fact 31 (f := .free "repr") rfl)
    · exact He.free_ok X G (c.fact 32 (f := .free "sorted") rfl)
    · exact He.free_ok X G (c.fact 33 (f := .free "dict") rfl)
    · exact He.free_ok X G (c.fact 34 (f := .free "str") rfl)
    · exact He.free_ok X G (c.fact 35 (f := .free "range") rfl)
    · exact He.free_ok X G (c.fact 36 (f := .free "isinstance") rfl)
    · exact He.free_ok X G (c.fact 37 (f := .free "bool") rfl)
  · simp only [cons, List.lookup_cons, List.lookup_nil] at hx
    split at hx
    · rename_i ex
      have ex := eq_of_beq ex
      subst ex
      cases hx
      obtain ⟨t, ht⟩ := He.str_ok X G (c.fact 38 (f := .str "NAMES" (mkS [48, 49, 50, 51, 52, 53, 54, 55, 56, 57, 97, 98, 99, 100, 101, 102, 103, 104, 105, 106, 107, 108, 109, 110, 111, 112, 113, 114, 115, 116, 117, 118, 119, 120, 121, 122])) rfl)
      exact ⟨_, V.str (mkS [48, 49, 50, 51, 52, 53, 54, 55, 56, 57, 97, 98, 99, 100, 101, 102, 103, 104, 105, 106, 107, 108, 109, 110, 111, 112, 113, 114, 115, 116, 117, 118, 119, 120, 121, 122]), ht, ⟨t, rfl⟩, fun A => by simp [Rp]⟩
    split at hx
    · rename_i ex
      have ex := eq_of_beq ex
      subst ex
      cases hx
      obtain ⟨t, ht⟩ := He.int_ok X G (c.fact 39 (f := .int "MOST_CHARACTERS" (10)) rfl)
      exact ⟨_, V.int (10), ht, ⟨t, rfl⟩, fun A => by simp [Rp]⟩
    split at hx
    · rename_i ex
      have ex := eq_of_beq ex
      subst ex
      cases hx
      obtain ⟨t, ht⟩ := He.int_ok X G (c.fact 40 (f := .int "MOST_DURATIONS" (400)) rfl)
      exact ⟨_, V.int (400), ht, ⟨t, rfl⟩, fun A => by simp [Rp]⟩
    cases hx
end K03
/-! the claim: left is what the evaluator answers -/
open PySem PySem.W PySem.Calls PyProof.Rows in
theorem K03.holds (ans : ∀ ns : List Int, ns.length ≤ 63 → Fx.runF K03.G21 K03.N21.length K03.c21 [.d (.lst (ns.map .int))] = .ok (.d (.bl true)) []) : PySem.Challenge.rw_scanbars_k03_texts_with_so_many_elements.Holds := by
  w_on; o_law
  refine HandSHeadRun.head_any (r := OpenLaw.row PySem.Challenge.rw_scanbars_k03_texts_with_so_many_elements) (q := view (OpenLaw.row PySem.Challenge.rw_scanbars_k03_texts_with_so_many_elements).prog [31]) (H := K03.hk) (ob := K03.ob) (M := 6000) (loose := K03.loose) (d := HandSHeadRun.topDef (OpenLaw.row PySem.Challenge.rw_scanbars_k03_texts_with_so_many_elements).prog 31) (kwd := []) K03.ob_eq
    (by kernel_rfl) (fun s => by kernel_rfl) K03.run (by kernel_rfl) (by kernel_rfl) (by kernel_rfl) (by rfl) (by first | assumption | decide +kernel) (by decide +kernel) ⟨rfl, rfl, rfl, rfl, rfl, by decide +kernel⟩ ?hw ?hc
  case hw => w_witness2
  case hc =>
    refine Fx.walkG (l := PySem.Challenge.rw_scanbars_k03_texts_with_so_many_elements) (n := 63) (k := 22) (x := "script") (CX := fun _ => L2.CX0) rfl (by decide) (by kernel_rfl) ⟨rfl, by decide, by decide⟩ (by kernel_rfl) ?F (fun _ _ _ _ _ z => z)
    intro w mg fa h Y G hmg0
    obtain ⟨K, KX, c⟩ := Y
    have hmg : mg ("law" : PySem.Str) = some (.ref fa) := by
      have e : (HandSHeadRun.topDef (OpenLaw.row PySem.Challenge.rw_scanbars_k03_texts_with_so_many_elements).prog 31).name = ("law" : PySem.Str) := by kernel_rfl
      rw [← e]
      exact hmg0
    obtain ⟨fd, hb, hF⟩ := K03.facts (P := (PySem.Challenge.rw_scanbars_k03_texts_with_so_many_elements).prog) (w := w) KX G hmg c
    exact ⟨K, fd, _, KX, hb, fun H a ns hl ho hS => Fx.spLaw hS ho (ans ns hl), hF⟩

set_option Elab.async false
set_option linter.all false
set_option maxRecDepth 100000
/-! Fx21: running bodies step by step. -/
namespace Fx
section
variable {Γ : FT} {env env1 env2 : Cells}
theorem run_nil : evSs Γ [] env = .ok .next env := by rw [evSs]
theorem run_cons {s : CS} {ss : List CS} {r : Res Fl} (h : evS Γ s env = .ok .next env1) (t : evSs Γ ss env1 = r) : evSs Γ (s :: ss) env = r := by
  rw [evSs, h]; exact t
theorem run_ret {s : CS} {ss : List CS} {r : R} (h : evS Γ s env = .ok (.ret r) env1) : evSs Γ (s :: ss) env = .ok (.ret r) env1 := by
  rw [evSs, h]; rfl
theorem whl_eq {c : CE} {b : List CS} : evS Γ (.whl c b) env = whlRun (ev Γ c).t (evSs Γ b) fuel env := by rw [evS]
theorem for_eq {t : Tg} {it : Fx.It} {b : List CS} {xs : List D} (h : evI Γ it env = .ok xs env1) : evS Γ (.fors t it b) env = forRun t (evSs Γ b) xs env1 := by
  rw [evS, h]; rfl
theorem if_true {c : CE} {a b : List CS} {r : Res Fl} (h : (ev Γ c).t env = .ok true env1) (k : evSs Γ a env1 = r) : evS Γ (.ifs c a b) env = r := by
  rw [evS]
  show ((ev Γ c).t env).bind _ = r
  rw [h]
  exact k
theorem if_false {c : CE} {a b : List CS} {r : Res Fl} (h : (ev Γ c).t env = .ok false env1) (k : evSs Γ b env1 = r) : evS Γ (.ifs c a b) env = r := by
  rw [evS]
  show ((ev Γ c).t env).bind _ = r
  rw [h]
  exact k
theorem ret_eq {e : CE} {r : R} (h : (ev Γ e).v env = .ok r env1) : evS Γ (.ret e) env = .ok (.ret r) env1 := by
  rw [evS]
  show ((ev Γ e).v env).bind _ = _
  rw [h]
  rfl
theorem runF_of {n : Nat} {body : List CS} {as : List Arg} {fl : Fl} {r : R} {ro : RO} {ios : List Ob} (h1 : evSs Γ body (as.map argCell ++ List.replicate (n - as.length) .none) = .ok fl env)
    (h2 : retR fl = some r) (h3 : outF env r = some ro) (h4 : ioOf env as 0 = some ios) : runF Γ n body as = .ok ro ios := by
  unfold runF
  rw [h1]
  cases fl with
  | next =>
    cases h2
    cases h3
    simp only [h4]
  | ret r' =>
    cases h2
    cases r with
    | d x => cases h3; simp only [h4]
    | new b => cases h3; simp only [h4]
    | own i =>
      simp only [outF] at h3
      cases e : env[i]? with
      | none => rw [e] at h3; cases h3
      | some c =>
        rw [e] at h3
        cases c with
        | none => cases h3
        | io b => cases h3
        | o b => cases h3; simp only [e, h4]
        | d x => cases h3; simp only [e, h4]
  | brk => cases h2
  | cnt => cases h2
theorem asg_eq {t : Tg} {ce : CE} {r : R} (h : (ev Γ ce).v env = .ok r env1) (k : asgR t r env1 = some env2) : evS Γ (.asg t ce) env = .ok .next env2 := by
  rw [evS]
  show ((ev Γ ce).v env).bind _ = _
  rw [h]
  simp only [Res.bind, k]
/-- the turns of a for, one by one -/
theorem for_nil {t : Tg} {body : Cells → Res Fl} : forRun t body [] env = .ok .next env := rfl
theorem for_cons {t : Tg} {body : Cells → Res Fl} {x : D} {xs : List D} {r : Res Fl} (h : asgD t x env = some env1) (hb : body env1 = .ok .next env2) (k : forRun t body xs env2 = r) : forRun t body (x :: xs) env = r := by
  unfold forRun
  rw [h]
  show (body env1).bind _ = r
  rw [hb]
  exact k
theorem ite_ev {c a b : CE} : ev Γ (.ite c a b) = .of (doIte (ev Γ c).t (ev Γ a).v (ev Γ b).v) := by rw [ev]
theorem call_ev {f : Nat} {es : List CE} : ev Γ (.call f es) = .of (doCall Γ f (evEs Γ es)) := by rw [ev]
theorem lc_ev {el : CE} {t : Tg} {it : Fx.It} {c : Option CE} {own : List Nat} : ev Γ (.lc el t it c own) = .of (doLc (ev Γ el).v t (evI Γ it) (evC Γ c) own) := by rw [ev]
theorem cmp_ev {o : Cop} {a b : CE} : ev Γ (.cmp o a b) = .of (do2 (fun x y => (cmpD o x y).map fun b => .d (.bl b)) (ev Γ a).v (ev Γ b).v) := by rw [ev]
theorem or_ev {a b : CE} : ev Γ (.or a b) = ⟨doOr (ev Γ a).v (ev Γ b).v, toOr (ev Γ a).t (ev Γ b).t⟩ := by rw [ev]
theorem not_ev {a : CE} : ev Γ (.not a) = ⟨doNot (ev Γ a).v, toNot (ev Γ a).t⟩ := by rw [ev]
theorem blt_ev {b : Blt} {es : List CE} : ev Γ (.blt b es) = .of (doBlt b (evEs Γ es)) := by rw [ev]
theorem lst_ev {es : List CE} : ev Γ (.lst es) = .of (doSeq (fun xs => .new (.lst xs)) (evEs Γ es)) := by rw [ev]
theorem tup_ev {es : List CE} : ev Γ (.tup es) = .of (doSeq (fun xs => .d (.tup xs)) (evEs Γ es)) := by rw [ev]
theorem of_v (f : Cells → Res R) : (E2.of f).v = f := rfl
theorem of_t (f : Cells → Res R) : (E2.of f).t env = (f env).bind fun x env1 => match x.get env1 with
    | some d => ofO env1 (truD d)
    | none => .bad := rfl
theorem evT_eq (Γ : FT) (e : CE) : evT Γ e = (ev Γ e).t := rfl
theorem evE_eq (Γ : FT) (e : CE) : evE Γ e = (ev Γ e).v := rfl
end
end Fx

set_option Elab.async false
set_option linter.all false
set_option maxRecDepth 100000
/-! Fx22: what is asked of a run (weakest premises), construct by construct; every rule an equation or a step backwards. -/
namespace Fx
open PySem

/-! ### readings -/
@[irreducible] def wR {α : Type} (x : Res α) (E : Exn → Cells → Prop) (Q : α → Cells → Prop) : Prop :=
  match x with
  | .ok a env => Q a env
  | .exc e env => E e env
  | .bad => False
@[irreducible] def wO {α : Type} (x : Option α) (Q : α → Prop) : Prop :=
  match x with
  | some a => Q a
  | none => False
@[irreducible] def wF (x : FRes) (E : Exn → List Ob → Prop) (Q : RO → List Ob → Prop) : Prop :=
  match x with
  | .ok r ios => Q r ios
  | .exc e ios => E e ios
  | .bad => False
section
variable {α β : Type} {E : Exn → Cells → Prop} {Q : α → Cells → Prop} {P : α → Prop}
theorem wR_ok {a : α} {env : Cells} : wR (.ok a env) E Q = Q a env := by unfold wR; rfl
theorem wR_bad : wR (.bad : Res α) E Q = False := by unfold wR; rfl
theorem wR_exc {x : Exn} {env : Cells} : wR (.exc x env : Res α) E Q = E x env := by unfold wR; rfl
theorem wO_some {a : α} : wO (some a) P = P a := by unfold wO; rfl
theorem wO_none : wO (none : Option α) P = False := by unfold wO; rfl
theorem wF_ok {r : RO} {ios : List Ob} {E : Exn → List Ob → Prop} {Q : RO → List Ob → Prop} : wF (.ok r ios) E Q = Q r ios := by unfold wF; rfl
theorem wF_exc {x : Exn} {ios : List Ob} {E : Exn → List Ob → Prop} {Q : RO → List Ob → Prop} : wF (.exc x ios) E Q = E x ios := by unfold wF; rfl
theorem wF_bad {E : Exn → List Ob → Prop} {Q : RO → List Ob → Prop} : wF .bad E Q = False := by unfold wF; rfl
theorem wR_bind {x : Res β} {f : β → Cells → Res α} : wR (x.bind f) E Q = wR x E fun a env => wR (f a env) E Q := by cases x <;> simp only [Res.bind, wR_ok, wR_bad, wR_exc]
theorem wR_ofO {env : Cells} {o : Option α} : wR (ofO env o) E Q = wO o fun a => Q a env := by cases o <;> simp only [ofO, wR_ok, wR_bad, wO_some, wO_none]
theorem wR_if {b : Bool} {x y : Res α} : wR (if b then x else y) E Q = ((b = true → wR x E Q) ∧ (b = false → wR y E Q)) := by cases b <;> simp
theorem wR_ite {c : Prop} [Decidable c] {x : Res α} : wR (if c then x else .bad) E Q = (c ∧ wR x E Q) := by
  by_cases h : c <;> simp [h, wR_bad]
theorem wR_of {x : Res α} {a : α} {env : Cells} (h : x = .ok a env) (q : Q a env) : wR x E Q := by rw [h, wR_ok]; exact q
theorem wR_mono {x : Res α} {Q' : α → Cells → Prop} (h : wR x E Q') (m : ∀ a env, Q' a env → Q a env) : wR x E Q := by
  cases x with
  | ok a env => rw [wR_ok] at h ⊢; exact m _ _ h
  | exc e env => rw [wR_exc] at h ⊢; exact h
  | bad => rw [wR_bad] at h; exact h.elim
theorem wF_mono {x : FRes} {E : Exn → List Ob → Prop} {Q Q' : RO → List Ob → Prop} (h : wF x E Q') (m : ∀ a env, Q' a env → Q a env) : wF x E Q := by
  cases x with
  | ok a env => rw [wF_ok] at h ⊢; exact m _ _ h
  | exc e env => rw [wF_exc] at h ⊢; exact h
  | bad => rw [wF_bad] at h; exact h.elim
theorem wO_map {f : β → α} {o : Option β} : wO (o.map f) P = wO o fun b => P (f b) := by cases o <;> simp only [Option.map, wO_some, wO_none]
theorem wO_bind {f : β → Option α} {o : Option β} : wO (o.bind f) P = wO o fun b => wO (f b) P := by cases o <;> simp only [Option.bind, wO_some, wO_none]
theorem wO_ite {c : Prop} [Decidable c] {a : Option α} : wO (if c then a else none) P = (c ∧ wO a P) := by by_cases h : c <;> simp [h, wO_none]
theorem wO_itS {c : Prop} [Decidable c] {a : α} : wO (if c then some a else none) P = (c ∧ P a) := by rw [wO_ite, wO_some]
theorem wO_of {o : Option α} {a : α} (h : o = some a) (q : P a) : wO o P := by rw [h, wO_some]; exact q
theorem wO_mono {o : Option α} {P' : α → Prop} (h : wO o P') (m : ∀ a, P' a → P a) : wO o P := by
  cases o with
  | some a => rw [wO_some] at h ⊢; exact m _ h
  | none => rw [wO_none] at h; exact h.elim
theorem wF_of {x : FRes} {E : Exn → List Ob → Prop} {Q : RO → List Ob → Prop} {r : RO} {ios : List Ob} (h : x = .ok r ios) (q : Q r ios) : wF x E Q := by rw [h, wF_ok]; exact q
theorem wF_ex {x : FRes} {Q : RO → List Ob → Prop} (h : wF x (fun _ _ => False) Q) : ∃ r ios, x = .ok r ios ∧ Q r ios := by
  cases x with
  | ok a env => rw [wF_ok] at h; exact ⟨_, _, rfl, h⟩
  | exc e env => rw [wF_exc] at h; exact h.elim
  | bad => rw [wF_bad] at h; exact h.elim
end
local macro_rules
  | `(tactic| simp_wf) => `(tactic| first | rfl | with_unfolding_all rfl)

/-! ### cells -/
/-- the cell of a slot -/
def wLook : Cells → Nat → (Cell → Prop) → Prop
  | [], _, _ => False
  | c :: _, 0, K => K c
  | _ :: cs, n + 1, K => wLook cs n K
theorem wLook_0 {c : Cell} {cs : Cells} {K : Cell → Prop} : wLook (c :: cs) 0 K = K c := by simp_wf
theorem wLook_s {c : Cell} {cs : Cells} {n : Nat} {K : Cell → Prop} : wLook (c :: cs) (n + 1) K = wLook cs n K := by simp_wf
theorem wLook_eq : ∀ {cs : Cells} {n : Nat} {K : Cell → Prop}, wLook cs n K = wO cs[n]? K
  | [], n, K => by simp [wLook, wO_none]
  | c :: cs, 0, K => by simp [wLook, wO_some]
  | c :: cs, n + 1, K => by rw [wLook_s, wLook_eq]; simp
/-- a slot set -/
def wSet : Cells → Nat → Cell → (Cells → Prop) → Prop
  | [], _, _, K => K []
  | _ :: cs, 0, d, K => K (d :: cs)
  | c :: cs, n + 1, d, K => wSet cs n d fun cs' => K (c :: cs')
theorem wSet_0 {c d : Cell} {cs : Cells} {K : Cells → Prop} : wSet (c :: cs) 0 d K = K (d :: cs) := by simp_wf
theorem wSet_s {c d : Cell} {cs : Cells} {n : Nat} {K : Cells → Prop} : wSet (c :: cs) (n + 1) d K = wSet cs n d fun cs' => K (c :: cs') := by simp_wf
theorem wSet_eq : ∀ {cs : Cells} {n : Nat} {d : Cell} {K : Cells → Prop}, wSet cs n d K = K (cs.set n d)
  | [], n, d, K => by simp [wSet]
  | c :: cs, 0, d, K => by simp [wSet]
  | c :: cs, n + 1, d, K => by rw [wSet_s, wSet_eq]; simp
/-- may be stored to -/
def Fre : Cell → Prop
  | .io _ => False
  | _ => True
theorem Fre_io {b : Ob} : Fre (.io b) = False := by simp_wf
theorem Fre_o {b : Ob} : Fre (.o b) = True := by simp_wf
theorem Fre_d {x : D} : Fre (.d x) = True := by simp_wf
theorem Fre_n : Fre .none = True := by simp_wf
def wCv (c : Cell) (i : Nat) (env : Cells) (Q : R → Cells → Prop) : Prop :=
  match c with
  | .d x => Q (.d x) env
  | .o _ => Q (.own i) env
  | .io _ => Q (.own i) env
  | .none => False
theorem wCv_d {x : D} {i : Nat} {env : Cells} {Q : R → Cells → Prop} : wCv (.d x) i env Q = Q (.d x) env := by simp_wf
theorem wCv_o {x : Ob} {i : Nat} {env : Cells} {Q : R → Cells → Prop} : wCv (.o x) i env Q = Q (.own i) env := by simp_wf
theorem wCv_io {x : Ob} {i : Nat} {env : Cells} {Q : R → Cells → Prop} : wCv (.io x) i env Q = Q (.own i) env := by simp_wf
def wCg (c : Cell) (Q : D → Prop) : Prop :=
  match c with
  | .d x => Q x
  | .o b => Q b.toD
  | .io b => Q b.toD
  | .none => False
theorem wCg_d {x : D} {Q : D → Prop} : wCg (.d x) Q = Q x := by simp_wf
theorem wCg_ol {x : List D} {Q : D → Prop} : wCg (.o (.lst x)) Q = Q (.lst x) := by simp_wf
theorem wCg_iol {x : List D} {Q : D → Prop} : wCg (.io (.lst x)) Q = Q (.lst x) := by simp_wf
theorem wCg_od {x : List (DK × D)} {Q : D → Prop} : wCg (.o (.dic x)) Q = Q (.dic x) := by simp_wf
theorem wCg_iod {x : List (DK × D)} {Q : D → Prop} : wCg (.io (.dic x)) Q = Q (.dic x) := by simp_wf
/-- the data of a value -/
def wG (r : R) (env : Cells) (Q : D → Prop) : Prop := wO (r.get env) Q
theorem wG_d {x : D} {env : Cells} {Q : D → Prop} : wG (.d x) env Q = Q x := by simp_wf
theorem wG_nl {x : List D} {env : Cells} {Q : D → Prop} : wG (.new (.lst x)) env Q = Q (.lst x) := by simp_wf
theorem wG_nd {x : List (DK × D)} {env : Cells} {Q : D → Prop} : wG (.new (.dic x)) env Q = Q (.dic x) := by simp_wf
theorem wG_n {b : Ob} {env : Cells} {Q : D → Prop} : wG (.new b) env Q = Q b.toD := by simp_wf
theorem wG_own {i : Nat} {env : Cells} {Q : D → Prop} : wG (.own i) env Q = wLook env i fun c => wCg c Q := by
  rw [wLook_eq]
  simp only [wG, R.get]
  cases env[i]? with
  | none => simp_wf
  | some c => cases c <;> simp_wf
def wCz (c : Cell) (i : Nat) (env : Cells) (Q : D → Cells → Prop) : Prop :=
  match c with
  | .o b => wSet env i (.d b.toD) fun e => Q b.toD e
  | .d x => Q x env
  | _ => False
theorem wCz_d {x : D} {i : Nat} {env : Cells} {Q : D → Cells → Prop} : wCz (.d x) i env Q = Q x env := by simp_wf
theorem wCz_ol {x : List D} {i : Nat} {env : Cells} {Q : D → Cells → Prop} : wCz (.o (.lst x)) i env Q = wSet env i (.d (.lst x)) fun e => Q (.lst x) e := by simp_wf
theorem wCz_od {x : List (DK × D)} {i : Nat} {env : Cells} {Q : D → Cells → Prop} : wCz (.o (.dic x)) i env Q = wSet env i (.d (.dic x)) fun e => Q (.dic x) e := by simp_wf
theorem wCz_o {b : Ob} {i : Nat} {env : Cells} {Q : D → Cells → Prop} : wCz (.o b) i env Q = wSet env i (.d b.toD) fun e => Q b.toD e := by simp_wf
/-- to data -/
def wZ (r : R) (env : Cells) (Q : D → Cells → Prop) : Prop := wO (frz env r) fun p => Q p.1 p.2
theorem wZ_d {x : D} {env : Cells} {Q : D → Cells → Prop} : wZ (.d x) env Q = Q x env := by simp_wf
theorem wZ_nl {x : List D} {env : Cells} {Q : D → Cells → Prop} : wZ (.new (.lst x)) env Q = Q (.lst x) env := by simp_wf
theorem wZ_nd {x : List (DK × D)} {env : Cells} {Q : D → Cells → Prop} : wZ (.new (.dic x)) env Q = Q (.dic x) env := by simp_wf
theorem wZ_n {b : Ob} {env : Cells} {Q : D → Cells → Prop} : wZ (.new b) env Q = Q b.toD env := by simp_wf
theorem wZ_own {i : Nat} {env : Cells} {Q : D → Cells → Prop} : wZ (.own i) env Q = wLook env i fun c => wCz c i env Q := by
  rw [wLook_eq]
  simp only [wZ, frz]
  cases env[i]? with
  | none => simp_wf
  | some c =>
    cases c with
    | o b => simp only [wO_some, wCz]; rw [wSet_eq]
    | _ => simp_wf
def wGs : List R → Cells → (List D → Prop) → Prop
  | [], _, Q => Q []
  | r :: rs, env, Q => wG r env fun x => wGs rs env fun xs => Q (x :: xs)
theorem wGs_nil {env : Cells} {Q : List D → Prop} : wGs [] env Q = Q [] := by simp_wf
theorem wGs_cons {r : R} {rs : List R} {env : Cells} {Q : List D → Prop} : wGs (r :: rs) env Q = wG r env fun x => wGs rs env fun xs => Q (x :: xs) := by simp_wf
theorem wGs_eq {env : Cells} : ∀ {rs : List R} {Q : List D → Prop}, wGs rs env Q = wO (gets env rs) Q
  | [], Q => by simp_wf
  | r :: rs, Q => by
    rw [wGs_cons]
    unfold wG
    rw [gets]
    cases r.get env with
    | none => simp_wf
    | some x =>
      simp only [wO_some]
      rw [wGs_eq]
      cases gets env rs <;> simp_wf
def wZs : List R → Cells → (List D → Cells → Prop) → Prop
  | [], env, Q => Q [] env
  | r :: rs, env, Q => wZ r env fun x env1 => wZs rs env1 fun xs env2 => Q (x :: xs) env2
theorem wZs_nil {env : Cells} {Q : List D → Cells → Prop} : wZs [] env Q = Q [] env := by simp_wf
theorem wZs_cons {r : R} {rs : List R} {env : Cells} {Q : List D → Cells → Prop} : wZs (r :: rs) env Q = wZ r env fun x env1 => wZs rs env1 fun xs env2 => Q (x :: xs) env2 := by simp_wf
theorem wZs_eq : ∀ {rs : List R} {env : Cells} {Q : List D → Cells → Prop}, wZs rs env Q = wO (frzs env rs) fun p => Q p.1 p.2
  | [], env, Q => by simp_wf
  | r :: rs, env, Q => by
    rw [wZs_cons]
    unfold wZ
    rw [frzs]
    cases frz env r with
    | none => simp_wf
    | some p =>
      obtain ⟨x, env1⟩ := p
      simp only [wO_some]
      rw [wZs_eq]
      cases frzs env1 rs <;> simp_wf
/-- what a slot owns -/
def wCo (c : Cell) (Q : Ob → Prop) : Prop :=
  match c with
  | .o b => Q b
  | .io b => Q b
  | _ => False
theorem wCo_o {b : Ob} {Q : Ob → Prop} : wCo (.o b) Q = Q b := by simp_wf
theorem wCo_io {b : Ob} {Q : Ob → Prop} : wCo (.io b) Q = Q b := by simp_wf
theorem wOb_eq {env : Cells} {i : Nat} {Q : Ob → Prop} : wO (obAt env i) Q = wLook env i fun c => wCo c Q := by
  rw [wLook_eq]
  unfold obAt
  cases env[i]? with
  | none => simp_wf
  | some c => cases c <;> simp_wf
def wCp (c : Cell) (i : Nat) (b : Ob) (env : Cells) (Q : Cells → Prop) : Prop :=
  match c with
  | .io _ => wSet env i (.io b) Q
  | _ => wSet env i (.o b) Q
theorem wCp_o {b b' : Ob} {i : Nat} {env : Cells} {Q : Cells → Prop} : wCp (.o b') i b env Q = wSet env i (.o b) Q := by simp_wf
theorem wCp_io {b b' : Ob} {i : Nat} {env : Cells} {Q : Cells → Prop} : wCp (.io b') i b env Q = wSet env i (.io b) Q := by simp_wf
/-- an object left in its slot -/
def wPut (env : Cells) (i : Nat) (b : Ob) (Q : Cells → Prop) : Prop := Q (putOb env i b)
theorem wPut_eq {env : Cells} {i : Nat} {b : Ob} {Q : Cells → Prop} (h : i < env.length) : wPut env i b Q = wLook env i fun c => wCp c i b env Q := by
  rw [wLook_eq, List.getElem?_eq_getElem h]
  unfold wPut putOb
  rw [List.getElem?_eq_getElem h]
  cases env[i] <;> simp [wO_some, wCp, wSet_eq]
/-- stores -/
def wCs (c : Cell) (i : Nat) (d : Cell) (env : Cells) (Q : Cells → Prop) : Prop := Fre c ∧ wSet env i d Q
theorem wCs_eq {c d : Cell} {i : Nat} {env : Cells} {Q : Cells → Prop} : wCs c i d env Q = (Fre c ∧ wSet env i d Q) := by simp_wf
theorem wCs_o {b : Ob} {d : Cell} {i : Nat} {env : Cells} {Q : Cells → Prop} : wCs (.o b) i d env Q = wSet env i d Q := by simp [wCs, Fre]
theorem wCs_d {x : D} {d : Cell} {i : Nat} {env : Cells} {Q : Cells → Prop} : wCs (.d x) i d env Q = wSet env i d Q := by simp [wCs, Fre]
theorem wCs_n {d : Cell} {i : Nat} {env : Cells} {Q : Cells → Prop} : wCs .none i d env Q = wSet env i d Q := by simp [wCs, Fre]
def wAd (t : Tg) (x : D) (env : Cells) (Q : Cells → Prop) : Prop := wO (asgD t x env) Q
def wAds (ts : List Tg) (xs : List D) (env : Cells) (Q : Cells → Prop) : Prop := wO (asgDs ts xs env) Q
def wA (t : Tg) (r : R) (env : Cells) (Q : Cells → Prop) : Prop := wO (asgR t r env) Q
def wAs (ts : List Tg) (rs : List R) (env : Cells) (Q : Cells → Prop) : Prop := wO (asgRs ts rs env) Q
theorem wSto {i : Nat} {d : Cell} {env : Cells} {Q : Cells → Prop} : wO (match env[i]? with
    | some (.io _) => none
    | some _ => some (env.set i d)
    | none => none : Option Cells) Q = wLook env i fun c => wCs c i d env Q := by
  rw [wLook_eq]
  cases env[i]? with
  | none => simp_wf
  | some c => cases c <;> simp [wO_some, wO_none, wCs, Fre, wSet_eq]
theorem wAd_nm {i : Nat} {x : D} {env : Cells} {Q : Cells → Prop} : wAd (.nm i) x env Q = wLook env i fun c => wCs c i (.d x) env Q := by
  rw [← wSto]
  unfold wAd
  rw [asgD]
  all_goals cases env[i]? with
  | none => simp_wf
  | some c => cases c <;> simp_wf
theorem wAd_tup {ts : List Tg} {xs : List D} {env : Cells} {Q : Cells → Prop} : wAd (.tup ts) (.tup xs) env Q = wAds ts xs env Q := by
  unfold wAd wAds; rw [asgD]
theorem wAds_nil {env : Cells} {Q : Cells → Prop} : wAds [] [] env Q = Q env := by unfold wAds; rw [asgDs]; simp_wf
theorem wAds_cons {t : Tg} {ts : List Tg} {x : D} {xs : List D} {env : Cells} {Q : Cells → Prop} : wAds (t :: ts) (x :: xs) env Q = wAd t x env fun e => wAds ts xs e Q := by
  unfold wAds wAd
  rw [asgDs]
  cases asgD t x env <;> simp_wf
theorem wA_d {i : Nat} {x : D} {env : Cells} {Q : Cells → Prop} : wA (.nm i) (.d x) env Q = wLook env i fun c => wCs c i (.d x) env Q := by
  rw [← wSto]
  unfold wA asgR
  simp only [cellOf]
  all_goals cases env[i]? with
  | none => simp_wf
  | some c => cases c <;> simp_wf
theorem wA_n {i : Nat} {b : Ob} {env : Cells} {Q : Cells → Prop} : wA (.nm i) (.new b) env Q = wLook env i fun c => wCs c i (.o b) env Q := by
  rw [← wSto]
  unfold wA asgR
  simp only [cellOf]
  all_goals cases env[i]? with
  | none => simp_wf
  | some c => cases c <;> simp_wf
theorem wA_own {i j : Nat} {env : Cells} {Q : Cells → Prop} : wA (.nm i) (.own j) env Q = wZ (.own j) env fun x e => wLook e i fun c => wCs c i (.d x) e Q := by
  unfold wA asgR wZ
  simp only [cellOf]
  cases frz env (.own j) with
  | none => simp_wf
  | some p =>
    obtain ⟨x, e⟩ := p
    simp only [Option.map, wO_some]
    rw [← wSto (env := e)]
    all_goals
      show wO (match e[i]? with
        | some (.io _) => none
        | some _ => some (e.set i (.d x))
        | none => none) Q = _
      cases e[i]? with
      | none => simp_wf
      | some c => cases c <;> simp_wf
theorem wA_tup {ts : List Tg} {r : R} {env : Cells} {Q : Cells → Prop} : wA (.tup ts) r env Q = wZ r env fun x e => wAd (.tup ts) x e Q := by
  simp only [wA, asgR, wZ, wAd]
  cases frz env r <;> simp_wf
theorem wAs_nil {env : Cells} {Q : Cells → Prop} : wAs [] [] env Q = Q env := by simp_wf
theorem wAs_cons {t : Tg} {ts : List Tg} {r : R} {rs : List R} {env : Cells} {Q : Cells → Prop} : wAs (t :: ts) (r :: rs) env Q = wA t r env fun e => wAs ts rs e Q := by
  unfold wAs wA
  rw [asgRs]
  cases asgR t r env <;> simp_wf

/-! ### expressions -/
def wE (Γ : FT) (e : CE) (env : Cells) (E : Exn → Cells → Prop) (Q : R → Cells → Prop) : Prop := wR ((ev Γ e).v env) E Q
def wT (Γ : FT) (e : CE) (env : Cells) (E : Exn → Cells → Prop) (Q : Bool → Cells → Prop) : Prop := wR ((ev Γ e).t env) E Q
def wEs (Γ : FT) (es : List CE) (env : Cells) (E : Exn → Cells → Prop) (Q : List R → Cells → Prop) : Prop := wR (evEs Γ es env) E Q
def wEo (Γ : FT) (e : Option CE) (env : Cells) (E : Exn → Cells → Prop) (Q : Option Int → Cells → Prop) : Prop := wR (evO Γ e env) E Q
def wEc (Γ : FT) (e : Option CE) (env : Cells) (E : Exn → Cells → Prop) (Q : Bool → Cells → Prop) : Prop := wR (evC Γ e env) E Q
def wI (Γ : FT) (it : It) (env : Cells) (E : Exn → Cells → Prop) (Q : List D → Cells → Prop) : Prop := wR (evI Γ it env) E Q
/-- truth -/
def wD (d : D) (Q : Bool → Prop) : Prop := wO (truD d) Q
theorem wD_bl {b : Bool} {Q : Bool → Prop} : wD (.bl b) Q = Q b := by simp_wf
theorem wD_non {Q : Bool → Prop} : wD .non Q = Q false := by simp_wf
theorem wD_int {i : Int} {Q : Bool → Prop} : wD (.int i) Q = Q (i != 0) := by simp_wf
theorem wD_lst {i : List D} {Q : Bool → Prop} : wD (.lst i) Q = Q (!i.isEmpty) := by simp_wf
theorem wD_tup {i : List D} {Q : Bool → Prop} : wD (.tup i) Q = Q (!i.isEmpty) := by simp_wf
theorem wD_str {i : List Nat} {Q : Bool → Prop} : wD (.str i) Q = (i.length ≤ lim ∧ Q (!i.isEmpty)) := by
  unfold wD truD
  with_unfolding_all exact wO_ite
def wB (r : R) (Q : Bool → Prop) : Prop :=
  match r with
  | .d (.bl b) => Q b
  | _ => False
theorem wB_bl {b : Bool} {Q : Bool → Prop} : wB (.d (.bl b)) Q = Q b := by simp_wf
section
variable {Γ : FT} {env : Cells} {E : Exn → Cells → Prop} {Q : R → Cells → Prop} {T : Bool → Cells → Prop}
theorem w2 {f : D → D → Option R} {a b : Cells → Res R} : wR (do2 f a b env) E Q = wR (a env) E fun x env1 => wR (b env1) E fun y env2 => wG x env2 fun dx => wG y env2 fun dy => wO (f dx dy) fun r => Q r env2 := by
  unfold do2
  rw [wR_bind]
  refine congrArg _ (funext fun x => funext fun env1 => ?_)
  rw [wR_bind]
  refine congrArg _ (funext fun y => funext fun env2 => ?_)
  unfold wG
  cases x.get env2 with
  | none => simp_wf
  | some dx => cases y.get env2 with
    | none => simp_wf
    | some dy => with_unfolding_all exact wR_ofO
theorem w1 {f : D → Option R} {a : Cells → Res R} : wR (do1 f a env) E Q = wR (a env) E fun x env1 => wG x env1 fun dx => wO (f dx) fun r => Q r env1 := by
  unfold do1
  rw [wR_bind]
  refine congrArg _ (funext fun x => funext fun env1 => ?_)
  unfold wG
  cases x.get env1 with
  | none => simp_wf
  | some dx => with_unfolding_all exact wR_ofO
theorem wT_of {e : CE} {f : Cells → Res R} (h : ev Γ e = .of f) : wT Γ e env E T = wE Γ e env E fun x env1 => wG x env1 fun d => wD d fun b => T b env1 := by
  unfold wT wE
  rw [h, of_v, of_t, wR_bind]
  refine congrArg _ (funext fun x => funext fun env1 => ?_)
  unfold wG
  cases x.get env1 with
  | none => simp_wf
  | some dx => with_unfolding_all exact wR_ofO
theorem wE_var {i : Nat} : wE Γ (.var i) env E Q = wLook env i fun c => wCv c i env Q := by
  rw [wLook_eq]
  unfold wE
  rw [ev, of_v]
  unfold doVar
  cases env[i]? with
  | none => simp_wf
  | some c => cases c <;> simp_wf
theorem wT_var {i : Nat} : wT Γ (.var i) env E T = wE Γ (.var i) env E fun x env1 => wG x env1 fun d => wD d fun b => T b env1 := wT_of (by rw [ev])
theorem wE_cst {x : D} : wE Γ (.cst x) env E Q = Q (.d x) env := by unfold wE; rw [ev]; simp_wf
theorem wT_cst {x : D} : wT Γ (.cst x) env E T = wE Γ (.cst x) env E fun x env1 => wG x env1 fun d => wD d fun b => T b env1 := wT_of (by rw [ev])
theorem wE_bin {op : Bop} {a b : CE} : wE Γ (.bin op a b) env E Q = wE Γ a env E fun x env1 => wE Γ b env1 E fun y env2 => wG x env2 fun dx => wG y env2 fun dy => wO (binD op dx dy) fun r => Q r.toR env2 := by
  unfold wE
  rw [ev, of_v, w2]
  simp only [wO_map]
theorem wT_bin {op : Bop} {a b : CE} : wT Γ (.bin op a b) env E T = wE Γ (.bin op a b) env E fun x env1 => wG x env1 fun d => wD d fun b => T b env1 := wT_of (by rw [ev])
theorem wE_neg {a : CE} : wE Γ (.neg a) env E Q = wE Γ a env E fun x env1 => wG x env1 fun dx => wO (negD dx) fun r => Q r.toR env1 := by
  unfold wE
  rw [ev, of_v, w1]
  simp only [wO_map]
theorem wE_not {a : CE} : wE Γ (.not a) env E Q = wE Γ a env E fun x env1 => wB x fun b => Q (.d (.bl (!b))) env1 := by
  unfold wE
  rw [ev]
  show wR (doNot _ env) E Q = _
  unfold doNot
  rw [wR_bind]
  refine congrArg _ (funext fun x => funext fun env1 => ?_)
  cases x with
  | d x => cases x <;> simp_wf
  | _ => simp_wf
theorem wT_not {a : CE} : wT Γ (.not a) env E T = wT Γ a env E fun b env1 => T (!b) env1 := by
  unfold wT
  rw [ev]
  show wR (toNot _ env) E T = _
  unfold toNot
  rw [wR_bind]
  simp_wf
theorem wE_cmp {op : Cop} {a b : CE} : wE Γ (.cmp op a b) env E Q = wE Γ a env E fun x env1 => wE Γ b env1 E fun y env2 => wG x env2 fun dx => wG y env2 fun dy => wO (cmpD op dx dy) fun r => Q (.d (.bl r)) env2 := by
  unfold wE
  rw [ev, of_v, w2]
  simp only [wO_map]
theorem wT_cmp {op : Cop} {a b : CE} : wT Γ (.cmp op a b) env E T = wE Γ a env E fun x env1 => wE Γ b env1 E fun y env2 => wG x env2 fun dx => wG y env2 fun dy => wO (cmpD op dx dy) fun r => T r env2 := by
  rw [wT_of (f := _) (by rw [ev])]
  rw [wE_cmp]
  simp_wf
theorem wE_chain {op op' : Cop} {a b c : CE} : wE Γ (.chain op op' a b c) env E Q = wE Γ a env E fun x env1 => wE Γ b env1 E fun y env2 => wG x env2 fun dx => wG y env2 fun dy => wO (cmpD op dx dy) fun t =>
    (t = true → wE Γ c env2 E fun z env3 => wG y env3 fun dy' => wG z env3 fun dz => wO (cmpD op' dy' dz) fun r => Q (.d (.bl r)) env3) ∧ (t = false → Q (.d (.bl false)) env2) := by
  unfold wE
  rw [ev, of_v]
  unfold doChain
  rw [wR_bind]
  refine congrArg _ (funext fun x => funext fun env1 => ?_)
  rw [wR_bind]
  refine congrArg _ (funext fun y => funext fun env2 => ?_)
  unfold wG
  cases x.get env2 with
  | none => simp_wf
  | some dx => cases y.get env2 with
    | none => simp_wf
    | some dy =>
      simp only [wO_some]
      cases cmpD op dx dy with
      | none => simp_wf
      | some t =>
        simp only [wO_some]
        cases t with
        | false => simp [wR_ok]
        | true =>
          simp only [wR_bind, forall_const, reduceCtorEq, false_implies, and_true]
          refine congrArg _ (funext fun z => funext fun env3 => ?_)
          cases y.get env3 with
          | none => simp_wf
          | some dy' => cases z.get env3 with
            | none => simp_wf
            | some dz => simp only [wR_ofO, wO_map, wO_some]
theorem wT_chain {op op' : Cop} {a b c : CE} : wT Γ (.chain op op' a b c) env E T = wE Γ (.chain op op' a b c) env E fun x env1 => wG x env1 fun d => wD d fun b => T b env1 := wT_of (by rw [ev])
theorem wE_and {a b : CE} : wE Γ (.and a b) env E Q = wE Γ a env E fun x env1 => wB x fun t => (t = true → wE Γ b env1 E Q) ∧ (t = false → Q (.d (.bl false)) env1) := by
  unfold wE
  rw [ev]
  show wR (doAnd _ _ env) E Q = _
  unfold doAnd
  rw [wR_bind]
  refine congrArg _ (funext fun x => funext fun env1 => ?_)
  cases x with
  | d x => cases x with
    | bl t => cases t <;> simp [wB, wR_ok]
    | _ => simp_wf
  | _ => simp_wf
theorem wE_or {a b : CE} : wE Γ (.or a b) env E Q = wE Γ a env E fun x env1 => wB x fun t => (t = true → Q (.d (.bl true)) env1) ∧ (t = false → wE Γ b env1 E Q) := by
  unfold wE
  rw [ev]
  show wR (doOr _ _ env) E Q = _
  unfold doOr
  rw [wR_bind]
  refine congrArg _ (funext fun x => funext fun env1 => ?_)
  cases x with
  | d x => cases x with
    | bl t => cases t <;> simp [wB, wR_ok]
    | _ => simp_wf
  | _ => simp_wf
theorem wT_and {a b : CE} : wT Γ (.and a b) env E T = wT Γ a env E fun t env1 => (t = true → wT Γ b env1 E T) ∧ (t = false → T false env1) := by
  unfold wT
  rw [ev]
  show wR (toAnd _ _ env) E T = _
  unfold toAnd
  rw [wR_bind]
  refine congrArg _ (funext fun x => funext fun env1 => ?_)
  cases x <;> simp [wR_ok]
theorem wT_or {a b : CE} : wT Γ (.or a b) env E T = wT Γ a env E fun t env1 => (t = true → T true env1) ∧ (t = false → wT Γ b env1 E T) := by
  unfold wT
  rw [ev]
  show wR (toOr _ _ env) E T = _
  unfold toOr
  rw [wR_bind]
  refine congrArg _ (funext fun x => funext fun env1 => ?_)
  cases x <;> simp [wR_ok]
theorem wE_ite {c a b : CE} : wE Γ (.ite c a b) env E Q = wT Γ c env E fun t env1 => (t = true → wE Γ a env1 E Q) ∧ (t = false → wE Γ b env1 E Q) := by
  unfold wE wT
  rw [ev, of_v]
  unfold doIte
  rw [wR_bind]
  refine congrArg _ (funext fun x => funext fun env1 => ?_)
  cases x <;> simp
theorem wT_ite {c a b : CE} : wT Γ (.ite c a b) env E T = wE Γ (.ite c a b) env E fun x env1 => wG x env1 fun d => wD d fun b => T b env1 := wT_of (by rw [ev])
theorem wSeq {f : List D → R} {es : Cells → Res (List R)} : wR (doSeq f es env) E Q = wR (es env) E fun rs env1 => wZs rs env1 fun xs env2 => xs.length ≤ lim ∧ Q (f xs) env2 := by
  unfold doSeq
  rw [wR_bind]
  refine congrArg _ (funext fun rs => funext fun env1 => ?_)
  rw [wZs_eq]
  cases frzs env1 rs with
  | none => simp_wf
  | some p => with_unfolding_all exact wR_ite
theorem wE_tup {es : List CE} : wE Γ (.tup es) env E Q = wEs Γ es env E fun rs env1 => wZs rs env1 fun xs env2 => xs.length ≤ lim ∧ Q (.d (.tup xs)) env2 := by
  unfold wE; rw [ev, of_v, wSeq]; simp_wf
theorem wE_lst {es : List CE} : wE Γ (.lst es) env E Q = wEs Γ es env E fun rs env1 => wZs rs env1 fun xs env2 => xs.length ≤ lim ∧ Q (.new (.lst xs)) env2 := by
  unfold wE; rw [ev, of_v, wSeq]; simp_wf
theorem wT_tup {es : List CE} : wT Γ (.tup es) env E T = wE Γ (.tup es) env E fun x env1 => wG x env1 fun d => wD d fun b => T b env1 := wT_of (by rw [ev])
theorem wT_lst {es : List CE} : wT Γ (.lst es) env E T = wE Γ (.lst es) env E fun x env1 => wG x env1 fun d => wD d fun b => T b env1 := wT_of (by rw [ev])
theorem wE_blt {b : Blt} {es : List CE} : wE Γ (.blt b es) env E Q = wEs Γ es env E fun rs env1 => wGs rs env1 fun xs => wO (bltD b xs) fun r => Q r.toR env1 := by
  unfold wE
  rw [ev, of_v]
  unfold doBlt
  rw [wR_bind]
  refine congrArg _ (funext fun rs => funext fun env1 => ?_)
  rw [wGs_eq]
  cases gets env1 rs with
  | none => simp_wf
  | some xs => simp only [wR_ofO, wO_map, wO_some]
theorem wT_blt {b : Blt} {es : List CE} : wT Γ (.blt b es) env E T = wE Γ (.blt b es) env E fun x env1 => wG x env1 fun d => wD d fun b => T b env1 := wT_of (by rw [ev])
theorem wE_isinst {a : CE} {t : Ty} : wE Γ (.isinst a t) env E Q = wE Γ a env E fun x env1 => wG x env1 fun d => Q (.d (.bl (tyD t d))) env1 := by
  unfold wE; rw [ev, of_v, w1]; simp_wf
theorem wT_isinst {a : CE} {t : Ty} : wT Γ (.isinst a t) env E T = wE Γ a env E fun x env1 => wG x env1 fun d => T (tyD t d) env1 := by
  rw [wT_of (f := _) (by rw [ev]), wE_isinst]; simp_wf
theorem wE_mth {m : Mth} {o : CE} {es : List CE} : wE Γ (.mth m o es) env E Q = wE Γ o env E fun x env1 => wEs Γ es env1 E fun rs env2 => wG x env2 fun d => wGs rs env2 fun xs => wO (mthD m d xs) fun r => Q r.toR env2 := by
  unfold wE
  rw [ev, of_v]
  unfold doMth
  rw [wR_bind]
  refine congrArg _ (funext fun x => funext fun env1 => ?_)
  rw [wR_bind]
  refine congrArg _ (funext fun rs => funext fun env2 => ?_)
  unfold wG
  simp only [wGs_eq]
  cases x.get env2 with
  | none => simp_wf
  | some d => cases gets env2 rs with
    | none => simp_wf
    | some xs => simp only [wR_ofO, wO_map, wO_some]
theorem wE_ix {a i : CE} : wE Γ (.ix a i) env E Q = wE Γ a env E fun x env1 => wE Γ i env1 E fun y env2 => wG x env2 fun dx => wG y env2 fun dy => wO (ixD dx dy) fun r => Q (.d r) env2 := by
  unfold wE
  rw [ev, of_v, w2]
  simp only [wO_map, ixRO]
  simp_wf
theorem wT_ix {a i : CE} : wT Γ (.ix a i) env E T = wE Γ (.ix a i) env E fun x env1 => wG x env1 fun d => wD d fun b => T b env1 := wT_of (by rw [ev])
theorem wEo_none {P : Option Int → Cells → Prop} : wEo Γ none env E P = P none env := by unfold wEo; rw [evO]; simp_wf
/-- a number -/
def wN (d : D) (Q : Int → Prop) : Prop :=
  match d with
  | .int i => Q i
  | _ => False
theorem wN_int {i : Int} {Q : Int → Prop} : wN (.int i) Q = Q i := by simp_wf
theorem wEo_some {e : CE} {P : Option Int → Cells → Prop} : wEo Γ (some e) env E P = wE Γ e env E fun x env1 => wG x env1 fun d => wN d fun i => P (some i) env1 := by
  unfold wEo wE
  rw [evO]
  unfold doInt
  rw [wR_bind]
  refine congrArg _ (funext fun x => funext fun env1 => ?_)
  unfold wG
  cases x.get env1 with
  | none => simp_wf
  | some d => cases d <;> simp_wf
theorem wE_sl {a : CE} {lo hi : Option CE} : wE Γ (.sl a lo hi) env E Q = wE Γ a env E fun x env1 => wEo Γ lo env1 E fun l env2 => wEo Γ hi env2 E fun h env3 => wG x env3 fun dx => wO (slD dx l h) fun r => Q r.toR env3 := by
  unfold wE wEo
  rw [ev, of_v]
  unfold doSl
  rw [wR_bind]
  refine congrArg _ (funext fun x => funext fun env1 => ?_)
  rw [wR_bind]
  refine congrArg _ (funext fun l => funext fun env2 => ?_)
  rw [wR_bind]
  refine congrArg _ (funext fun h => funext fun env3 => ?_)
  unfold wG
  cases x.get env3 with
  | none => simp_wf
  | some d => simp only [wR_ofO, wO_map, wO_some]
theorem wE_rev {a : CE} : wE Γ (.rev a) env E Q = wE Γ a env E fun x env1 => wG x env1 fun dx => wO (revD dx) fun r => Q r.toR env1 := by
  unfold wE
  rw [ev, of_v, w1]
  simp only [wO_map]
theorem wEs_nil {P : List R → Cells → Prop} : wEs Γ [] env E P = P [] env := by unfold wEs; rw [evEs]; simp_wf
theorem wEs_cons {e : CE} {es : List CE} {P : List R → Cells → Prop} : wEs Γ (e :: es) env E P = wE Γ e env E fun r env1 => wEs Γ es env1 E fun rs env2 => P (r :: rs) env2 := by
  unfold wEs wE
  rw [evEs, wR_bind]
  refine congrArg _ (funext fun x => funext fun env1 => ?_)
  rw [wR_bind]
  simp_wf
/-- changing methods -/
theorem wE_mut {m : Mut1} {i : Nat} {es : List CE} : wE Γ (.mut m i es) env E Q = (isL env i = true ∧ wEs Γ es env E fun rs env1 => wZs rs env1 fun xs env2 => wO (obAt env2 i) fun b => wO (mutD m b xs) fun p => wPut env2 i p.2 fun e => Q (.d p.1) e) := by
  unfold wE wEs
  rw [ev, of_v]
  unfold doMut
  rw [wR_ite, wR_bind]
  refine congrArg _ (congrArg _ (funext fun rs => funext fun env1 => ?_))
  rw [wZs_eq]
  cases frzs env1 rs with
  | none => simp_wf
  | some p =>
    simp only [wO_some]
    cases obAt p.2 i with
    | none => simp_wf
    | some b =>
      simp only [wO_some]
      cases mutD m b p.1 <;> simp_wf
/-- calls -/
def wPre : List Bool → List R → Cells → (List PArg → Cells → Prop) → Prop
  | [], [], env, K => K [] env
  | true :: ms, .own i :: rs, env, K => wPre ms rs env fun ps e => K (.io i :: ps) e
  | false :: ms, r :: rs, env, K => wZ r env fun x env1 => wPre ms rs env1 fun ps e => K (.d x :: ps) e
  | _, _, _, _ => False
theorem wPre_nil {K : List PArg → Cells → Prop} : wPre [] [] env K = K [] env := by simp_wf
theorem wPre_io {ms : List Bool} {i : Nat} {rs : List R} {K : List PArg → Cells → Prop} : wPre (true :: ms) (.own i :: rs) env K = wPre ms rs env fun ps e => K (.io i :: ps) e := by simp_wf
theorem wPre_d {ms : List Bool} {r : R} {rs : List R} {K : List PArg → Cells → Prop} : wPre (false :: ms) (r :: rs) env K = wZ r env fun x env1 => wPre ms rs env1 fun ps e => K (.d x :: ps) e := by
  cases r <;> simp_wf
theorem wPre_eq : ∀ {ms : List Bool} {rs : List R} {env : Cells} {K : List PArg → Cells → Prop}, wPre ms rs env K = wO (preArgs env ms rs) fun p => K p.1 p.2
  | [], [], env, K => by simp_wf
  | [], r :: rs, env, K => by cases r <;> simp_wf
  | true :: ms, [], env, K => by simp_wf
  | false :: ms, [], env, K => by simp_wf
  | true :: ms, .own i :: rs, env, K => by
    rw [wPre_io, wPre_eq, preArgs]
    cases preArgs env ms rs <;> simp_wf
  | true :: ms, .d x :: rs, env, K => by simp_wf
  | true :: ms, .new x :: rs, env, K => by simp_wf
  | false :: ms, r :: rs, env, K => by
    rw [wPre_d, preArgs]
    unfold wZ
    cases frz env r with
    | none => simp_wf
    | some p =>
      simp only [wO_some]
      rw [wPre_eq]
      cases preArgs p.2 ms rs <;> simp_wf
def wArg : List PArg → Cells → (List Arg → Prop) → Prop
  | [], _, K => K []
  | .d x :: ps, env, K => wArg ps env fun as => K (.d x :: as)
  | .io i :: ps, env, K => wLook env i fun c => wCo c fun b => wArg ps env fun as => K (.io b :: as)
theorem wArg_nil {K : List Arg → Prop} : wArg [] env K = K [] := by simp_wf
theorem wArg_d {x : D} {ps : List PArg} {K : List Arg → Prop} : wArg (.d x :: ps) env K = wArg ps env fun as => K (.d x :: as) := by simp_wf
theorem wArg_io {i : Nat} {ps : List PArg} {K : List Arg → Prop} : wArg (.io i :: ps) env K = wLook env i fun c => wCo c fun b => wArg ps env fun as => K (.io b :: as) := by simp_wf
theorem wArg_eq : ∀ {ps : List PArg} {K : List Arg → Prop}, wArg ps env K = wO (toArgs env ps) K
  | [], K => by simp_wf
  | .d x :: ps, K => by
    rw [wArg_d, wArg_eq, toArgs]
    cases toArgs env ps <;> simp_wf
  | .io i :: ps, K => by
    rw [wArg_io, ← wOb_eq, toArgs]
    cases obAt env i with
    | none => simp_wf
    | some b =>
      simp only [wO_some]
      rw [wArg_eq]
      cases toArgs env ps <;> simp_wf
def wBack : List Nat → List Ob → Cells → (Cells → Prop) → Prop
  | [], [], env, K => K env
  | i :: is, b :: bs, env, K => wPut env i b fun e => wBack is bs e K
  | _, _, _, _ => False
theorem wBack_nil {K : Cells → Prop} : wBack [] [] env K = K env := by simp_wf
theorem wBack_cons {i : Nat} {is : List Nat} {b : Ob} {bs : List Ob} {K : Cells → Prop} : wBack (i :: is) (b :: bs) env K = wPut env i b fun e => wBack is bs e K := by simp_wf
theorem wBack_eq : ∀ {is : List Nat} {bs : List Ob} {env : Cells} {K : Cells → Prop}, wBack is bs env K = wO (setObs env is bs) K
  | [], [], env, K => by simp_wf
  | [], _ :: _, env, K => by simp_wf
  | _ :: _, [], env, K => by simp_wf
  | i :: is, b :: bs, env, K => by
    rw [wBack_cons, setObs]
    exact wBack_eq
def dfl (e : FE) (rs : List R) : List R := rs ++ (e.dvs.drop (e.dvs.length + rs.length - e.modes.length)).map .d
def wC (e : FE) (rs : List R) (env : Cells) (E : Exn → Cells → Prop) (Q : R → Cells → Prop) : Prop :=
  wPre e.modes rs env fun ps env1 => (ioIdx ps).Nodup ∧ wArg ps env1 fun as => wF (e.sem as) (fun x ios => wBack (ioIdx ps) ios env1 fun env2 => E x env2) (fun r ios => wBack (ioIdx ps) ios env1 fun env2 => Q r.toR env2)
class Lk (Γ : FT) (f : Nat) (e : outParam FE) : Prop where
  h : Γ[f]? = some e
theorem wE_call {f : Nat} {es : List CE} {e : FE} [l : Lk Γ f e] : wE Γ (.call f es) env E Q = wEs Γ es env E fun rs env1 => wC e (dfl e rs) env1 E Q := by
  unfold wE wEs
  rw [ev, of_v]
  unfold doCall
  rw [wR_bind]
  refine congrArg _ (funext fun rs => funext fun env1 => ?_)
  unfold callF wC
  rw [l.h]
  simp only
  rw [wPre_eq]
  show wR (match preArgs env1 e.modes (dfl e rs) with | none => _ | some (ps, env1) => _) E Q = _
  cases preArgs env1 e.modes (dfl e rs) with
  | none => simp_wf
  | some p =>
    obtain ⟨ps, env2⟩ := p
    simp only [wO_some]
    rw [wR_ite, wArg_eq]
    refine congrArg _ ?_
    cases toArgs env2 ps with
    | none => simp_wf
    | some as =>
      simp only [wO_some]
      cases e.sem as with
      | ok r ios =>
        simp only [wF, wBack_eq]
        cases setObs env2 (ioIdx ps) ios <;> simp_wf
      | exc x ios =>
        simp only [wF, wBack_eq]
        cases setObs env2 (ioIdx ps) ios <;> simp_wf
      | bad => simp_wf
theorem wT_call {f : Nat} {es : List CE} : wT Γ (.call f es) env E T = wE Γ (.call f es) env E fun x env1 => wG x env1 fun d => wD d fun b => T b env1 := wT_of (by rw [ev])
def wCc (m : List Bool) (s : List Arg → FRes) (rs : List R) (env : Cells) (E : Exn → Cells → Prop) (Q : R → Cells → Prop) : Prop :=
  wPre m rs env fun ps env1 => (ioIdx ps).Nodup ∧ wArg ps env1 fun as => wF (s as) (fun x ios => wBack (ioIdx ps) ios env1 fun env2 => E x env2) (fun r ios => wBack (ioIdx ps) ios env1 fun env2 => Q r.toR env2)
def dfl2 (m : List Bool) (d : List D) (rs : List R) : List R := rs ++ (d.drop (d.length + rs.length - m.length)).map .d
/-- a call without defaults; with some -/
theorem wC_0 {m : List Bool} {s : List Arg → FRes} {rs : List R} : wC ⟨m, [], s⟩ (dfl ⟨m, [], s⟩ rs) env E Q = wCc m s rs env E Q := by
  simp [dfl, wC, wCc]
theorem wC_1 {m : List Bool} {d : D} {ds : List D} {s : List Arg → FRes} {rs : List R} : wC ⟨m, d :: ds, s⟩ (dfl ⟨m, d :: ds, s⟩ rs) env E Q = wCc m s (dfl2 m (d :: ds) rs) env E Q := by simp_wf
theorem wCc_go {m : List Bool} {s : List Arg → FRes} {rs : List R} : wCc m s rs env E Q =
    wPre m rs env fun ps env1 => (ioIdx ps).Nodup ∧ wArg ps env1 fun as => wF (s as) (fun x ios => wBack (ioIdx ps) ios env1 fun env2 => E x env2) (fun r ios => wBack (ioIdx ps) ios env1 fun env2 => Q r.toR env2) := by simp_wf
/-- walks -/
theorem wI1 {P : List D → Cells → Prop} {f : D → Option (List D)} {a : Cells → Res R} : wR (doIt1 f a env) E P = wR (a env) E fun x env1 => wZ x env1 fun d env2 => wO (f d) fun xs => P xs env2 := by
  unfold doIt1
  rw [wR_bind]
  refine congrArg _ (funext fun x => funext fun env1 => ?_)
  unfold wZ
  cases frz env1 x with
  | none => simp_wf
  | some p => with_unfolding_all exact wR_ofO
theorem wIN {P : List D → Cells → Prop} {f : List D → Option (List D)} {es : Cells → Res (List R)} : wR (doItN f es env) E P = wR (es env) E fun rs env1 => wZs rs env1 fun xs env2 => wO (f xs) fun ys => P ys env2 := by
  unfold doItN
  rw [wR_bind]
  refine congrArg _ (funext fun rs => funext fun env1 => ?_)
  rw [wZs_eq]
  cases frzs env1 rs with
  | none => simp_wf
  | some p => with_unfolding_all exact wR_ofO
theorem wI_e {a : CE} {P : List D → Cells → Prop} : wI Γ (.e a) env E P = wE Γ a env E fun x env1 => wZ x env1 fun d env2 => wO (walkOf d) fun xs => P xs env2 := by
  unfold wI; rw [evI]; exact wI1
theorem wI_items {a : CE} {P : List D → Cells → Prop} : wI Γ (.items a) env E P = wE Γ a env E fun x env1 => wZ x env1 fun d env2 => wO (itemsL d) fun xs => P xs env2 := by
  unfold wI; rw [evI]; exact wI1
theorem wI_values {a : CE} {P : List D → Cells → Prop} : wI Γ (.values a) env E P = wE Γ a env E fun x env1 => wZ x env1 fun d env2 => wO (valuesL d) fun xs => P xs env2 := by
  unfold wI; rw [evI]; exact wI1
theorem wI_enum {es : List CE} {P : List D → Cells → Prop} : wI Γ (.enum es) env E P = wEs Γ es env E fun rs env1 => wZs rs env1 fun xs env2 => wO (enumD xs) fun ys => P ys env2 := by
  unfold wI; rw [evI]; exact wIN
theorem wI_zip {es : List CE} {P : List D → Cells → Prop} : wI Γ (.zip es) env E P = wEs Γ es env E fun rs env1 => wZs rs env1 fun xs env2 => wO (zipD xs) fun ys => P ys env2 := by
  unfold wI; rw [evI]; exact wIN
theorem wI_range {es : List CE} {P : List D → Cells → Prop} : wI Γ (.range es) env E P = wEs Γ es env E fun rs env1 => wGs rs env1 fun xs => wO (rangeD xs) fun ys => P ys env1 := by
  unfold wI wEs
  rw [evI]
  unfold doRange
  rw [wR_bind]
  refine congrArg _ (funext fun rs => funext fun env1 => ?_)
  rw [wGs_eq]
  cases gets env1 rs with
  | none => simp_wf
  | some xs => with_unfolding_all exact wR_ofO
theorem wE_col {es : List CE} : wE Γ (.col es) env E Q = wEs Γ es env E fun rs env1 => wZs rs env1 fun xs env2 => wO (zipD2 xs) fun ys => ys.length ≤ lim ∧ Q (.new (.lst ys)) env2 := by
  unfold wE
  rw [ev, of_v]
  unfold doCol
  rw [wR_bind, wIN]
  unfold wEs
  refine congrArg _ (funext fun rs => funext fun env1 => congrArg _ (funext fun xs => funext fun env2 => congrArg _ (funext fun ys => ?_)))
  with_unfolding_all exact wR_ite
theorem wEc_none {T : Bool → Cells → Prop} : wEc Γ none env E T = T true env := by unfold wEc; rw [evC]; simp_wf
theorem wEc_some {e : CE} {T : Bool → Cells → Prop} : wEc Γ (some e) env E T = wT Γ e env E T := by unfold wEc wT; rw [evC]
/-- a list comprehension's turns -/
def wLc (Γ : FT) (own : List Nat) (t : Tg) (c : Option CE) (el : CE) (xs acc : List D) (env : Cells) (E : Exn → Cells → Prop) (P : List D → Cells → Prop) : Prop := wR (lcRun own t (evC Γ c) (ev Γ el).v xs acc env) E P
theorem wE_lc {el : CE} {t : Tg} {it : It} {c : Option CE} {own : List Nat} : wE Γ (.lc el t it c own) env E Q = wI Γ it env E fun xs env1 => own.any (isOb env1) = false ∧ wLc Γ own t c el xs [] env1 E fun ys env2 => Q (.new (.lst ys)) (restC env1 env2 own) := by
  unfold wE
  rw [ev, of_v]
  unfold doLc
  rw [wR_bind]
  unfold wI
  refine congrArg _ (funext fun xs => funext fun env1 => ?_)
  rw [wR_if]
  unfold wLc
  rw [wR_bind]
  cases own.any (isOb env1) <;> simp [wR_bad, wR_ok]
theorem wLc_nil {own : List Nat} {t : Tg} {c : Option CE} {el : CE} {acc : List D} {P : List D → Cells → Prop} : wLc Γ own t c el [] acc env E P = P acc env := by
  unfold wLc; rw [lcRun]; simp_wf
theorem wLc_cons {own : List Nat} {t : Tg} {c : Option CE} {el : CE} {x : D} {xs acc : List D} {P : List D → Cells → Prop} : wLc Γ own t c el (x :: xs) acc env E P =
    wAd t x (wipeC env own) fun env1 => wEc Γ c env1 E fun b env2 =>
      (b = true → wE Γ el env2 E fun r env3 => wZ r env3 fun y env4 => (acc.length < lim ∧ own.any (isOb env4) = false) ∧ wLc Γ own t c el xs (acc ++ [y]) env4 E P) ∧
      (b = false → own.any (isOb env2) = false ∧ wLc Γ own t c el xs acc env2 E P) := by
  unfold wLc wAd wEc wE
  rw [lcRun]
  cases asgD t x (wipeC env own) with
  | none => simp_wf
  | some env1 =>
    simp only [wO_some]
    rw [wR_bind]
    refine congrArg _ (funext fun b => funext fun env2 => ?_)
    rw [wR_if, wR_bind, wR_ite]
    refine congrArg (fun z => (b = true → z) ∧ _) ?_
    refine congrArg _ (funext fun r => funext fun env3 => ?_)
    unfold wZ
    cases frz env3 r with
    | none => simp_wf
    | some p => with_unfolding_all exact wR_ite
/-! ### statements -/
def wS (Γ : FT) (s : CS) (env : Cells) (E : Exn → Cells → Prop) (P : Fl → Cells → Prop) : Prop := wR (evS Γ s env) E P
def wSs (Γ : FT) (ss : List CS) (env : Cells) (E : Exn → Cells → Prop) (P : Fl → Cells → Prop) : Prop := wR (evSs Γ ss env) E P
/-- on, or out -/
def wK (f : Fl) (env : Cells) (N : Cells → Prop) (P : Fl → Cells → Prop) : Prop :=
  match f with
  | .next => N env
  | f => P f env
theorem wK_next {N : Cells → Prop} {P : Fl → Cells → Prop} : wK .next env N P = N env := by simp_wf
theorem wK_ret {r : R} {N : Cells → Prop} {P : Fl → Cells → Prop} : wK (.ret r) env N P = P (.ret r) env := by simp_wf
theorem wK_brk {N : Cells → Prop} {P : Fl → Cells → Prop} : wK .brk env N P = P .brk env := by simp_wf
theorem wK_cnt {N : Cells → Prop} {P : Fl → Cells → Prop} : wK .cnt env N P = P .cnt env := by simp_wf
/-- behind a turn of a loop -/
def wKl (f : Fl) (env : Cells) (N : Cells → Prop) (P : Fl → Cells → Prop) : Prop :=
  match f with
  | .next => N env
  | .cnt => N env
  | .brk => P .next env
  | .ret r => P (.ret r) env
theorem wKl_next {N : Cells → Prop} {P : Fl → Cells → Prop} : wKl .next env N P = N env := by simp_wf
theorem wKl_cnt {N : Cells → Prop} {P : Fl → Cells → Prop} : wKl .cnt env N P = N env := by simp_wf
theorem wKl_brk {N : Cells → Prop} {P : Fl → Cells → Prop} : wKl .brk env N P = P .next env := by simp_wf
theorem wKl_ret {r : R} {N : Cells → Prop} {P : Fl → Cells → Prop} : wKl (.ret r) env N P = P (.ret r) env := by simp_wf
variable {P : Fl → Cells → Prop}
theorem wSs_nil : wSs Γ [] env E P = P .next env := by unfold wSs; rw [evSs]; simp_wf
theorem wSs_cons {s : CS} {ss : List CS} : wSs Γ (s :: ss) env E P = wS Γ s env E fun f env1 => wK f env1 (fun e => wSs Γ ss e E P) P := by
  unfold wSs wS
  rw [evSs, wR_bind]
  refine congrArg _ (funext fun f => funext fun env1 => ?_)
  cases f <;> simp_wf
theorem wStep {s : CS} {ss : List CS} (h : wS Γ s env E fun f env1 => wK f env1 (fun e => wSs Γ ss e E P) P) : wSs Γ (s :: ss) env E P := by rw [wSs_cons]; exact h
theorem wS_asg {t : Tg} {e : CE} : wS Γ (.asg t e) env E P = wE Γ e env E fun r env1 => wA t r env1 fun env2 => P .next env2 := by
  unfold wS wE wA
  rw [evS, wR_bind]
  refine congrArg _ (funext fun r => funext fun env1 => ?_)
  cases asgR t r env1 <;> simp_wf
def wPar (b : Bool) (ts : List Tg) (rs : List R) (env : Cells) (K : Cells → Prop) : Prop :=
  match b with
  | true => wAs ts rs env K
  | false => wZs rs env fun xs e => wAds ts xs e K
theorem wPar_t {ts : List Tg} {rs : List R} {K : Cells → Prop} : wPar true ts rs env K = wAs ts rs env K := by simp_wf
theorem wPar_f {ts : List Tg} {rs : List R} {K : Cells → Prop} : wPar false ts rs env K = wZs rs env fun xs e => wAds ts xs e K := by simp_wf
theorem wS_par {ts : List Tg} {es : List CE} : wS Γ (.par ts es) env E P = wEs Γ es env E fun rs env1 => wPar (noOwn rs) ts rs env1 fun env2 => P .next env2 := by
  unfold wS wEs
  rw [evS, wR_bind]
  refine congrArg _ (funext fun rs => funext fun env1 => ?_)
  cases noOwn rs with
  | true =>
    simp only [_root_.if_true, wPar, wAs]
    cases asgRs ts rs env1 <;> simp_wf
  | false =>
    simp only [Bool.false_eq_true, _root_.if_false, wPar, wZs_eq, wAds]
    cases frzs env1 rs with
    | none => simp_wf
    | some p =>
      simp only [wO_some]
      cases asgDs ts p.1 p.2 <;> simp_wf
theorem wS_set {i : Nat} {j e : CE} : wS Γ (.set i j e) env E P = wE Γ e env E fun r env1 => wZ r env1 fun v env2 => (obAt env2 i).isSome = true ∧ wE Γ j env2 E fun k env3 => wG k env3 fun dk => wO (obAt env3 i) fun b => wO (setD b dk v) fun b' => wPut env3 i b' fun e => P .next e := by
  unfold wS wE
  rw [evS, wR_bind]
  refine congrArg _ (funext fun r => funext fun env1 => ?_)
  unfold wZ
  cases frz env1 r with
  | none => simp_wf
  | some p =>
    simp only [wO_some]
    rw [wR_ite, wR_bind]
    refine congrArg _ (congrArg _ (funext fun k => funext fun env3 => ?_))
    unfold wG
    cases k.get env3 with
    | none => simp_wf
    | some dk => cases obAt env3 i with
      | none => simp_wf
      | some b =>
        simp only [wO_some]
        cases setD b dk p.1 <;> simp_wf
theorem wS_expr {e : CE} : wS Γ (.expr e) env E P = wE Γ e env E fun _ env1 => P .next env1 := by
  unfold wS wE; rw [evS, wR_bind]; simp_wf
theorem wS_ifs {c : CE} {a b : List CS} : wS Γ (.ifs c a b) env E P = wT Γ c env E fun t env1 => (t = true → wSs Γ a env1 E P) ∧ (t = false → wSs Γ b env1 E P) := by
  unfold wS wT wSs
  rw [evS, wR_bind]
  refine congrArg _ (funext fun t => funext fun env1 => ?_)
  cases t <;> simp
theorem wS_ret {e : CE} : wS Γ (.ret e) env E P = wE Γ e env E fun r env1 => P (.ret r) env1 := by
  unfold wS wE; rw [evS, wR_bind]; simp_wf
theorem wS_retN : wS Γ .retN env E P = P (.ret (.d .non)) env := by unfold wS; rw [evS]; simp_wf
theorem wS_brk : wS Γ .brk env E P = P .brk env := by unfold wS; rw [evS]; simp_wf
theorem wS_cnt : wS Γ .cnt env E P = P .cnt env := by unfold wS; rw [evS]; simp_wf
theorem wS_pas : wS Γ .pas env E P = P .next env := by unfold wS; rw [evS]; simp_wf
theorem wS_never : wS Γ .never env E P = False := by unfold wS; rw [evS]; simp_wf
def wCa (c : Cell) (Q : Int → Prop) : Prop :=
  match c with
  | .d (.int x) => Q x
  | _ => False
theorem wCa_int {x : Int} {Q : Int → Prop} : wCa (.d (.int x)) Q = Q x := by simp_wf
theorem wS_aug {i : Nat} {op : Bop} {e : CE} : wS Γ (.aug i op e) env E P = wLook env i fun c => wCa c fun x => wE Γ e env E fun r env1 => wG r env1 fun d => wN d fun y => wO (augD op x y) fun z => wAd (.nm i) (.int z) env1 fun env2 => P .next env2 := by
  rw [wLook_eq]
  unfold wS wE
  rw [evS]
  unfold doAug
  cases env[i]? with
  | none => simp_wf
  | some c =>
    cases c with
    | d x => cases x with
      | int x =>
        simp only [wO_some, wCa]
        rw [wR_bind]
        refine congrArg _ (funext fun r => funext fun env1 => ?_)
        unfold wG
        cases r.get env1 with
        | none => simp_wf
        | some d => cases d with
          | int y =>
            simp only [wO_some, wN]
            cases augD op x y with
            | none => simp_wf
            | some z =>
              simp only [wO_some, wAd]
              cases asgD (.nm i) (.int z) env1 <;> simp_wf
          | _ => simp_wf
      | _ => simp_wf
    | _ => simp_wf
/-- a for's turns -/
def wL (Γ : FT) (t : Tg) (b : List CS) (xs : List D) (env : Cells) (E : Exn → Cells → Prop) (P : Fl → Cells → Prop) : Prop := wR (forRun t (evSs Γ b) xs env) E P
theorem wS_fors {t : Tg} {it : It} {b : List CS} : wS Γ (.fors t it b) env E P = wI Γ it env E fun xs env1 => wL Γ t b xs env1 E P := by
  unfold wS wI
  rw [evS, wR_bind]
  simp_wf
theorem wL_nil {t : Tg} {b : List CS} : wL Γ t b [] env E P = P .next env := by simp_wf
theorem wL_cons {t : Tg} {b : List CS} {x : D} {xs : List D} : wL Γ t b (x :: xs) env E P = wAd t x env fun env1 => wSs Γ b env1 E fun f env2 => wKl f env2 (fun e => wL Γ t b xs e E P) P := by
  unfold wL wAd wSs
  rw [forRun]
  cases asgD t x env with
  | none => simp_wf
  | some env1 =>
    simp only [wO_some]
    rw [wR_bind]
    refine congrArg _ (funext fun f => funext fun env2 => ?_)
    cases f <;> simp_wf
/-- a for over a list, by an invariant -/
theorem wL_map {α : Type} {f : α → D} {l : List α} {t : Tg} {b : List CS} (I : Nat → Cells → Prop) (h0 : I 0 env)
    (hs : ∀ (i : Nat) (x : α) (e : Cells), l[i]? = some x → I i e → wAd t (f x) e fun env1 => wSs Γ b env1 E fun fl env2 => wKl fl env2 (I (i + 1)) P)
    (hd : ∀ e, I l.length e → P .next e) : wL Γ t b (l.map f) env E P := by
  have key : ∀ (k : Nat) (e : Cells), I k e → k ≤ l.length → wL Γ t b ((l.drop k).map f) e E P := by
    intro k
    generalize hn : l.length - k = n
    induction n generalizing k  with
    | zero =>
      intro e hi hk
      have : k = l.length := by omega
      subst this
      rw [List.drop_length, List.map_nil, wL_nil]
      exact hd e hi
    | succ n ih =>
      intro e hi hk
      have hk' : k < l.length := by omega
      rw [List.drop_eq_getElem_cons hk', List.map_cons, wL_cons]
      have h := hs k l[k] e (List.getElem?_eq_getElem hk') hi
      unfold wAd at h ⊢
      refine wO_mono h fun env1 h1 => ?_
      unfold wSs at h1 ⊢
      refine wR_mono h1 fun fl env2 h2 => ?_
      cases fl with
      | next => exact ih (k + 1) (by omega) env2 h2 (by omega)
      | cnt => exact ih (k + 1) (by omega) env2 h2 (by omega)
      | brk => exact h2
      | ret r => exact h2
  exact key 0 env h0 (Nat.zero_le _)
theorem wL_inv {xs : List D} {t : Tg} {b : List CS} (I : Nat → Cells → Prop) (h0 : I 0 env)
    (hs : ∀ (i : Nat) (x : D) (e : Cells), xs[i]? = some x → I i e → wAd t x e fun env1 => wSs Γ b env1 E fun fl env2 => wKl fl env2 (I (i + 1)) P)
    (hd : ∀ e, I xs.length e → P .next e) : wL Γ t b xs env E P := by
  have := wL_map (Γ := Γ) (E := E) (P := P) (f := fun x : D => x) (l := xs) (t := t) (b := b) I h0 hs hd
  simpa using this
theorem wL_range {lo : Int} {n : Nat} {st : Int} {t : Tg} {b : List CS} (I : Nat → Cells → Prop) (h0 : I 0 env)
    (hs : ∀ (i : Nat) (e : Cells), i < n → I i e → wAd t (.int (lo + (i : Int) * st)) e fun env1 => wSs Γ b env1 E fun fl env2 => wKl fl env2 (I (i + 1)) P)
    (hd : ∀ e, I n e → P .next e) : wL Γ t b (rangeL lo n st) env E P := by
  unfold rangeL
  refine wL_map I h0 (fun i x e hx hi => ?_) (fun e hi => hd e (by simpa using hi))
  obtain ⟨h1, h2⟩ := List.getElem?_eq_some_iff.mp hx
  rw [List.getElem_range] at h2
  subst h2
  exact hs i e (by simpa using h1) hi
/-- a comprehension, by an invariant -/
theorem wLc_map {α : Type} {f : α → D} {l : List α} {own : List Nat} {t : Tg} {c : Option CE} {el : CE} {K : List D → Cells → Prop} (I : Nat → List D → Cells → Prop) (h0 : I 0 [] env)
    (hs : ∀ (i : Nat) (x : α) (acc : List D) (e : Cells), l[i]? = some x → I i acc e → wAd t (f x) (wipeC e own) fun env1 => wEc Γ c env1 E fun b env2 =>
      (b = true → wE Γ el env2 E fun r env3 => wZ r env3 fun y env4 => (acc.length < lim ∧ own.any (isOb env4) = false) ∧ I (i + 1) (acc ++ [y]) env4) ∧
      (b = false → own.any (isOb env2) = false ∧ I (i + 1) acc env2))
    (hd : ∀ acc e, I l.length acc e → K acc e) : wLc Γ own t c el (l.map f) [] env E K := by
  have key : ∀ (k : Nat) (acc : List D) (e : Cells), I k acc e → k ≤ l.length → wLc Γ own t c el ((l.drop k).map f) acc e E K := by
    intro k
    generalize hn : l.length - k = n
    induction n generalizing k  with
    | zero =>
      intro acc e hi hk
      have : k = l.length := by omega
      subst this
      rw [List.drop_length, List.map_nil, wLc_nil]
      exact hd acc e hi
    | succ n ih =>
      intro acc e hi hk
      have hk' : k < l.length := by omega
      rw [List.drop_eq_getElem_cons hk', List.map_cons, wLc_cons]
      have h := hs k l[k] acc e (List.getElem?_eq_getElem hk') hi
      unfold wAd at h ⊢
      refine wO_mono h fun env1 h1 => ?_
      unfold wEc at h1 ⊢
      refine wR_mono h1 fun b env2 h2 => ⟨fun hb => ?_, fun hb => ?_⟩
      · have h3 := h2.1 hb
        unfold wE at h3 ⊢
        refine wR_mono h3 fun r env3 h4 => ?_
        unfold wZ at h4 ⊢
        exact wO_mono h4 fun p h5 => ⟨h5.1, ih (k + 1) (by omega) _ _ h5.2 (by omega)⟩
      · have h3 := h2.2 hb
        exact ⟨h3.1, ih (k + 1) (by omega) _ _ h3.2 (by omega)⟩
  exact key 0 [] env h0 (Nat.zero_le _)
/-- a while's turns -/
def wW (Γ : FT) (c : CE) (b : List CS) (n : Nat) (env : Cells) (E : Exn → Cells → Prop) (P : Fl → Cells → Prop) : Prop := wR (whlRun (ev Γ c).t (evSs Γ b) n env) E P
theorem wS_whl {c : CE} {b : List CS} : wS Γ (.whl c b) env E P = wW Γ c b fuel env E P := by unfold wS; rw [evS]; simp_wf
theorem wW_by {c : CE} {b : List CS} (I : Nat → Cells → Prop) (m : Nat) (h0 : I m env) (hm : m < fuel)
    (hs : ∀ (n : Nat) (e : Cells), I n e → wT Γ c e E fun t env1 => (t = true → wSs Γ b env1 E fun fl env2 => wKl fl env2 (fun e' => ∃ n', n' < n ∧ I n' e') P) ∧ (t = false → P .next env1)) : wW Γ c b fuel env E P := by
  have key : ∀ (f n : Nat) (e : Cells), I n e → n < f → wW Γ c b f e E P := by
    intro f
    induction f with
    | zero => intro n e _ h; omega
    | succ f ih =>
      intro n e hi hn
      unfold wW whlRun
      rw [wR_bind]
      have h := hs n e hi
      unfold wT at h
      refine wR_mono h fun t env1 h1 => ?_
      rw [wR_if]
      refine ⟨fun ht => ?_, fun ht => by rw [wR_ok]; exact h1.2 ht⟩
      have h2 := h1.1 ht
      unfold wSs at h2
      rw [wR_bind]
      refine wR_mono h2 fun fl env2 h3 => ?_
      cases fl with
      | next => obtain ⟨n', l, hi'⟩ := h3; exact ih n' env2 hi' (by omega)
      | cnt => obtain ⟨n', l, hi'⟩ := h3; exact ih n' env2 hi' (by omega)
      | brk => with_unfolding_all exact h3
      | ret r => with_unfolding_all exact h3
  exact key fuel m env h0 hm
/-- joining: what holds behind a statement -/
theorem wS_mid {s : CS} {P' : Fl → Cells → Prop} (h : wS Γ s env E P') (m : ∀ f e, P' f e → P f e) : wS Γ s env E P := wR_mono h m
theorem wSs_mid {s : List CS} {P' : Fl → Cells → Prop} (h : wSs Γ s env E P') (m : ∀ f e, P' f e → P f e) : wSs Γ s env E P := wR_mono h m
theorem wE_mid {e : CE} {Q' : R → Cells → Prop} (h : wE Γ e env E Q') (m : ∀ f e, Q' f e → Q f e) : wE Γ e env E Q := wR_mono h m
theorem wT_mid {e : CE} {T' : Bool → Cells → Prop} (h : wT Γ e env E T') (m : ∀ f e, T' f e → T f e) : wT Γ e env E T := wR_mono h m
end

/-! ### defs -/
def wCr (c : Cell) (K : RO → Prop) : Prop :=
  match c with
  | .o b => K (.new b)
  | .d x => K (.d x)
  | _ => False
theorem wCr_o {b : Ob} {K : RO → Prop} : wCr (.o b) K = K (.new b) := by simp_wf
theorem wCr_d {x : D} {K : RO → Prop} : wCr (.d x) K = K (.d x) := by simp_wf
def wOut (r : R) (env : Cells) (K : RO → Prop) : Prop := wO (outF env r) K
theorem wOut_d {x : D} {env : Cells} {K : RO → Prop} : wOut (.d x) env K = K (.d x) := by simp_wf
theorem wOut_n {b : Ob} {env : Cells} {K : RO → Prop} : wOut (.new b) env K = K (.new b) := by simp_wf
theorem wOut_own {i : Nat} {env : Cells} {K : RO → Prop} : wOut (.own i) env K = wLook env i fun c => wCr c K := by
  rw [wLook_eq]
  simp only [wOut, outF]
  cases env[i]? with
  | none => simp_wf
  | some c => cases c <;> simp_wf
def wFl (f : Fl) (env : Cells) (K : RO → Prop) : Prop :=
  match f with
  | .next => K (.d .non)
  | .ret r => wOut r env K
  | _ => False
theorem wFl_next {env : Cells} {K : RO → Prop} : wFl .next env K = K (.d .non) := by simp_wf
theorem wFl_ret {r : R} {env : Cells} {K : RO → Prop} : wFl (.ret r) env K = wOut r env K := by simp_wf
def wIo (c : Cell) (K : Ob → Prop) : Prop :=
  match c with
  | .io b => K b
  | _ => False
theorem wIo_io {b : Ob} {K : Ob → Prop} : wIo (.io b) K = K b := by simp_wf
/-- what the lent objects are -/
def wIos (env : Cells) (as : List Arg) (i : Nat) (K : List Ob → Prop) : Prop := wO (ioOf env as i) K
theorem wIos_nil {env : Cells} {i : Nat} {K : List Ob → Prop} : wIos env [] i K = K [] := by simp_wf
theorem wIos_d {env : Cells} {i : Nat} {x : D} {as : List Arg} {K : List Ob → Prop} : wIos env (.d x :: as) i K = wIos env as (i + 1) K := by simp_wf
theorem wIos_io {env : Cells} {i : Nat} {b : Ob} {as : List Arg} {K : List Ob → Prop} : wIos env (.io b :: as) i K = wLook env i fun c => wIo c fun b' => wIos env as (i + 1) fun bs => K (b' :: bs) := by
  rw [wLook_eq]
  unfold wIos
  rw [ioOf]
  cases env[i]? with
  | none => simp_wf
  | some c => cases c with
    | io b' => simp only [wO_some, wIo, wO_map]
    | _ => simp_wf
theorem wF_run {Γ : FT} {n : Nat} {body : List CS} {as : List Arg} {E : Exn → List Ob → Prop} {Q : RO → List Ob → Prop}
    (h : wSs Γ body (as.map argCell ++ List.replicate (n - as.length) .none) (fun x env => wIos env as 0 fun ios => E x ios) (fun f env => wFl f env fun ro => wIos env as 0 fun ios => Q ro ios)) : wF (runF Γ n body as) E Q := by
  unfold wSs at h
  cases e : evSs Γ body (as.map argCell ++ List.replicate (n - as.length) .none) with
  | bad => rw [e, wR_bad] at h; exact h.elim
  | exc x env =>
    rw [e, wR_exc] at h
    simp only [wIos] at h
    unfold runF
    rw [e]
    simp only
    cases e2 : ioOf env as 0 with
    | none => rw [e2, wO_none] at h; exact h.elim
    | some ios => rw [e2, wO_some] at h; simp only; rw [wF_exc]; exact h
  | ok f env =>
    rw [e, wR_ok] at h
    have key : ∀ r, retR f = some r → wO (outF env r) (fun ro => wO (ioOf env as 0) fun ios => Q ro ios) → wF (runF Γ n body as) E Q := by
      intro r hr q
      cases e3 : outF env r with
      | none => rw [e3, wO_none] at q; exact q.elim
      | some ro =>
        rw [e3, wO_some] at q
        cases e2 : ioOf env as 0 with
        | none => rw [e2, wO_none] at q; exact q.elim
        | some ios =>
          rw [e2, wO_some] at q
          rw [runF_of e hr e3 e2, wF_ok]
          exact q
    cases f with
    | next => exact key _ rfl (by rw [outF, wO_some]; exact h)
    | brk => exact h.elim
    | cnt => exact h.elim
    | ret r => exact key r rfl h

/-! ### operations on data -/
section
variable {K : RO → Prop} {B : Bool → Prop} {L : List D → Prop} {Dk : D → Prop}
theorem d_add {a b : Int} : wO (binD .add (.int a) (.int b)) K = K (.d (.int (a + b))) := by simp_wf
theorem d_sub {a b : Int} : wO (binD .sub (.int a) (.int b)) K = K (.d (.int (a - b))) := by simp_wf
theorem d_mul {a b : Int} : wO (binD .mul (.int a) (.int b)) K = (bits a + bits b ≤ lim ∧ K (.d (.int (a * b)))) := wO_itS
theorem d_fdiv {a b : Int} : wO (binD .fdiv (.int a) (.int b)) K = ((0 < b ∧ bits b < 9000) ∧ K (.d (.int (a / b)))) := wO_itS
theorem d_mod {a b : Int} : wO (binD .mod (.int a) (.int b)) K = (0 < b ∧ K (.d (.int (a % b)))) := wO_itS
theorem d_pow {a b : Int} : wO (binD .pow (.int a) (.int b)) K = ((0 ≤ b ∧ (bits a + 1) * b.toNat ≤ lim) ∧ K (.d (.int (a ^ b.toNat)))) := wO_itS
theorem d_adds {a b : List Nat} : wO (binD .add (.str a) (.str b)) K = (a.length + b.length ≤ lim ∧ K (.d (.str (a ++ b)))) := wO_itS
theorem d_addl {a b : List D} : wO (binD .add (.lst a) (.lst b)) K = (a.length + b.length ≤ lim ∧ K (.new (.lst (a ++ b)))) := wO_itS
theorem d_addt {a b : List D} : wO (binD .add (.tup a) (.tup b)) K = (a.length + b.length ≤ lim ∧ K (.d (.tup (a ++ b)))) := wO_itS
theorem d_mull {a : List D} {k : Int} : wO (binD .mul (.lst a) (.int k)) K = ((a.length * k.toNat ≤ lim ∧ k.natAbs ≤ lim) ∧ K (.new (.lst (List.replicate k.toNat a).flatten))) := wO_itS
theorem d_muls {a : List Nat} {k : Int} : wO (binD .mul (.str a) (.int k)) K = ((a.length * k.toNat ≤ lim ∧ k.natAbs ≤ lim) ∧ K (.d (.str (List.replicate k.toNat a).flatten))) := wO_itS
theorem d_neg {a : Int} : wO (negD (.int a)) K = K (.d (.int (-a))) := by simp_wf
theorem c_lt {a b : Int} : wO (cmpD .lt (.int a) (.int b)) B = B (decide (a < b)) := by simp_wf
theorem c_le {a b : Int} : wO (cmpD .le (.int a) (.int b)) B = B (decide (a ≤ b)) := by simp_wf
theorem c_gt {a b : Int} : wO (cmpD .gt (.int a) (.int b)) B = B (decide (b < a)) := by simp_wf
theorem c_ge {a b : Int} : wO (cmpD .ge (.int a) (.int b)) B = B (decide (b ≤ a)) := by simp_wf
theorem c_eqi {a b : Int} : wO (cmpD .eq (.int a) (.int b)) B = B (a == b) := by simp [cmpD, flatD, eqD, wO_some]
theorem c_nei {a b : Int} : wO (cmpD .ne (.int a) (.int b)) B = B (!(a == b)) := by simp [cmpD, flatD, eqD, wO_some]
theorem c_eqb {a b : Bool} : wO (cmpD .eq (.bl a) (.bl b)) B = B (a == b) := by simp [cmpD, flatD, eqD, wO_some]
theorem c_neb {a b : Bool} : wO (cmpD .ne (.bl a) (.bl b)) B = B (!(a == b)) := by simp [cmpD, flatD, eqD, wO_some]
theorem c_eqs {a b : List Nat} : wO (cmpD .eq (.str a) (.str b)) B = B (a == b) := by simp_wf
theorem c_nes {a b : List Nat} : wO (cmpD .ne (.str a) (.str b)) B = B (!(a == b)) := by simp_wf
theorem c_eqn {x : D} : wO (cmpD .eq x x) B = wO (cmpD .eq x x) B := by simp_wf
theorem c_in3 {i a b c : Int} : wO (cmpD .isin (.int i) (.tup [.int a, .int b, .int c])) B = B (a == i || (b == i || c == i)) := by
  simp [cmpD, inD, flatD, flatDs, eqD, wO_some]
theorem c_isN_non : wO (cmpD .isN .non .non) B = B true := by simp_wf
theorem c_isN_int {a : Int} : wO (cmpD .isN (.int a) .non) B = B false := by simp_wf
theorem c_isN_tup {a : List D} : wO (cmpD .isN (.tup a) .non) B = B false := by simp_wf
theorem c_isN_lst {a : List D} : wO (cmpD .isN (.lst a) .non) B = B false := by simp_wf
theorem c_isN_str {a : List Nat} : wO (cmpD .isN (.str a) .non) B = B false := by simp_wf
theorem c_isN_bl {a : Bool} : wO (cmpD .isN (.bl a) .non) B = B false := by simp_wf
theorem c_isN_dic {a : List (DK × D)} : wO (cmpD .isN (.dic a) .non) B = B false := by simp_wf
theorem c_notN_non : wO (cmpD .notN .non .non) B = B false := by simp_wf
theorem c_notN_int {a : Int} : wO (cmpD .notN (.int a) .non) B = B true := by simp_wf
theorem c_notN_tup {a : List D} : wO (cmpD .notN (.tup a) .non) B = B true := by simp_wf
theorem c_notN_lst {a : List D} : wO (cmpD .notN (.lst a) .non) B = B true := by simp_wf
theorem c_notN_str {a : List Nat} : wO (cmpD .notN (.str a) .non) B = B true := by simp_wf
theorem c_notN_bl {a : Bool} : wO (cmpD .notN (.bl a) .non) B = B true := by simp_wf
theorem c_notN_dic {a : List (DK × D)} : wO (cmpD .notN (.dic a) .non) B = B true := by simp_wf
theorem c_isN {x : D} : wO (cmpD .isN x .non) B = B (isNonD x) := by simp_wf
theorem c_notN {x : D} : wO (cmpD .notN x .non) B = B (!isNonD x) := by simp_wf
theorem b_lens {s : List Nat} : wO (bltD .len [.str s]) K = (s.length ≤ lim ∧ K (.d (.int s.length))) := wO_itS
theorem b_lenl {s : List D} : wO (bltD .len [.lst s]) K = K (.d (.int s.length)) := by simp_wf
theorem b_lent {s : List D} : wO (bltD .len [.tup s]) K = K (.d (.int s.length)) := by simp_wf
theorem b_lend {s : List (DK × D)} : wO (bltD .len [.dic s]) K = K (.d (.int s.length)) := by simp_wf
theorem b_abs {a : Int} : wO (bltD .abs [.int a]) K = K (.d (.int (if a < 0 then -a else a))) := by simp_wf
theorem b_max {a b : Int} : wO (bltD .max [.int a, .int b]) K = K (.d (.int (if b > a then b else a))) := by simp_wf
theorem b_min {a b : Int} : wO (bltD .min [.int a, .int b]) K = K (.d (.int (if b < a then b else a))) := by simp_wf
theorem b_inti {a : Int} : wO (bltD .int [.int a]) K = K (.d (.int a)) := by simp_wf
theorem b_intb {a : Bool} : wO (bltD .int [.bl a]) K = K (.d (.int (PyProof.Rows.b2i a))) := by simp_wf
theorem b_listl {a : List D} : wO (bltD .list [.lst a]) K = K (.new (.lst a)) := by simp_wf
theorem b_listt {a : List D} : wO (bltD .list [.tup a]) K = K (.new (.lst a)) := by simp_wf
theorem b_tupl {a : List D} : wO (bltD .tuple [.lst a]) K = K (.d (.tup a)) := by simp_wf
theorem b_tupt {a : List D} : wO (bltD .tuple [.tup a]) K = K (.d (.tup a)) := by simp_wf
theorem b_repr {x : D} : wO (bltD .repr [x]) K = (((toPy x).showable = true ∧ (toPy x).shown.length ≤ lim ∧ (toPy x).depth ≤ 40) ∧ K (.d (.str (toPy x).shown.cps.toList))) := wO_itS
theorem b_all {xs : List D} : wO (bltD .all [.lst xs]) K = wO (asBls xs) fun bs => K (.d (.bl (bs.all id))) := wO_map
theorem b_any {xs : List D} : wO (bltD .any [.lst xs]) K = wO (asBls xs) fun bs => K (.d (.bl (bs.any id))) := wO_map
theorem b_sum {xs : List D} : wO (bltD .sum [.lst xs]) K = wO (asInts xs) fun ns => K (.d (.int ns.sum)) := wO_map
theorem asB_nil {P : List Bool → Prop} : wO (asBls []) P = P [] := by simp_wf
theorem asB_cons {b : Bool} {r : List D} {P : List Bool → Prop} : wO (asBls (.bl b :: r)) P = wO (asBls r) fun bs => P (b :: bs) := wO_map
theorem asB_map {bs : List Bool} {P : List Bool → Prop} : wO (asBls (bs.map .bl)) P = P bs := by
  induction bs generalizing P with
  | nil => simp_wf
  | cons b bs ih => rw [List.map_cons, asB_cons, ih]
theorem asI_nil {P : List Int → Prop} : wO (asInts []) P = P [] := by simp_wf
theorem asI_cons {b : Int} {r : List D} {P : List Int → Prop} : wO (asInts (.int b :: r)) P = wO (asInts r) fun bs => P (b :: bs) := wO_map
theorem asI_map {bs : List Int} {P : List Int → Prop} : wO (asInts (bs.map .int)) P = P bs := by
  induction bs generalizing P with
  | nil => simp_wf
  | cons b bs ih => rw [List.map_cons, asI_cons, ih]
theorem m_append {xs : List D} {x : D} {P : D × Ob → Prop} : wO (mutD .append (.lst xs) [x]) P = (xs.length < lim ∧ P (.non, .lst (xs ++ [x]))) := wO_itS
theorem m_extend {xs ys : List D} {P : D × Ob → Prop} : wO (mutD .extend (.lst xs) [.lst ys]) P = (xs.length + ys.length ≤ lim ∧ P (.non, .lst (xs ++ ys))) := wO_itS
theorem m_extendt {xs ys : List D} {P : D × Ob → Prop} : wO (mutD .extend (.lst xs) [.tup ys]) P = (xs.length + ys.length ≤ lim ∧ P (.non, .lst (xs ++ ys))) := wO_itS
theorem i_lst {xs : List D} : wO (itemsOf (.lst xs)) L = L xs := by simp_wf
theorem i_tup {xs : List D} : wO (itemsOf (.tup xs)) L = L xs := by simp_wf
theorem i_str {xs : List Nat} : wO (itemsOf (.str xs)) L = L (xs.map fun c => .str [c]) := by simp_wf
theorem r_1 {n : Int} : wO (rangeD [.int n]) L = (n.natAbs ≤ lim ∧ L (rangeL 0 n.toNat 1)) := wO_itS
theorem r_2 {a b : Int} : wO (rangeD [.int a, .int b]) L = ((a.natAbs ≤ lim ∧ b.natAbs ≤ lim) ∧ L (rangeL a (b - a).toNat 1)) := wO_itS
theorem e_1 {x : D} : wO (enumD [x]) L = wO (itemsOf x) fun xs => L (enumL 0 xs) := wO_map
theorem z_l {x y : D} : wO (zipD [x, y]) L = wO (itemsOf x) fun xs => wO (itemsOf y) fun ys => L (zipL xs ys) := by
  show wO (Option.bind _ _) L = _
  rw [wO_bind]
  simp only [wO_map]
theorem z_2 {xs ys : List D} : wO (zipD2 [.lst xs, .lst ys]) L = L (zipL xs ys) := by simp_wf
theorem s_l {xs : List D} {lo hi : Option Int} : wO (slD (.lst xs) lo hi) K = K (.new (.lst (cutG xs lo hi))) := by simp_wf
theorem s_t {xs : List D} {lo hi : Option Int} : wO (slD (.tup xs) lo hi) K = K (.d (.tup (cutG xs lo hi))) := by simp_wf
theorem s_s {xs : List Nat} {lo hi : Option Int} : wO (slD (.str xs) lo hi) K = (xs.length ≤ lim ∧ K (.d (.str (cutG xs lo hi)))) := wO_itS
theorem v_l {xs : List D} : wO (revD (.lst xs)) K = K (.new (.lst xs.reverse)) := by simp_wf
theorem v_s {xs : List Nat} : wO (revD (.str xs)) K = (xs.length ≤ lim ∧ K (.d (.str xs.reverse))) := wO_itS
theorem x_l {xs : List D} {i : Int} : wO (ixD (.lst xs) (.int i)) Dk = wO (L2.atI xs i) Dk := by simp_wf
theorem x_t {xs : List D} {i : Int} : wO (ixD (.tup xs) (.int i)) Dk = wO (L2.atI xs i) Dk := by simp_wf
theorem x_s {xs : List Nat} {i : Int} : wO (ixD (.str xs) (.int i)) Dk = (xs.length ≤ lim ∧ wO (L2.atI xs i) fun c => Dk (.str [c])) := by
  show wO (if _ then _ else _) Dk = _
  rw [wO_ite, wO_map]
theorem x_d {kvs : List (DK × D)} {k : D} : wO (ixD (.dic kvs) k) Dk = wO (keyOf k) fun k => wO (look k kvs) Dk := wO_bind
theorem k_i {i : Int} {P : DK → Prop} : wO (keyOf (.int i)) P = P (.i i) := by simp_wf
theorem k_s {i : List Nat} {P : DK → Prop} : wO (keyOf (.str i)) P = P (.s i) := by simp_wf
theorem u_add {x y : Int} {P : Int → Prop} : wO (augD .add x y) P = P (x + y) := by simp_wf
theorem u_sub {x y : Int} {P : Int → Prop} : wO (augD .sub x y) P = P (x - y) := by simp_wf
theorem t_d {x : D} {env : Cells} {Q : R → Cells → Prop} : Q (RO.toR (.d x)) env = Q (.d x) env := by simp_wf
theorem toR_d {x : D} : RO.toR (.d x) = .d x := by simp_wf
theorem toR_n {x : Ob} : RO.toR (.new x) = .new x := by simp_wf
section
variable {α : Type} {A : α → Prop} {a b c d e f g h : α} {xs : List α}
theorem at_0 : wO (L2.atI (a :: xs) 0) A = A a := by simp [L2.atI, L2.ixN, wO_some]
theorem at_s {n : Nat} : wO (L2.atI (a :: xs) ((n : Int) + 1)) A = wO (L2.atI xs (n : Int)) A := by
  have h1 : (0 : Int) ≤ (n : Int) + 1 := by omega
  have h2 : (0 : Int) ≤ (n : Int) := by omega
  have e1 : ((n : Int) + 1).toNat = n + 1 := by omega
  simp only [L2.atI, L2.ixN, h1, h2, _root_.if_true, List.length_cons, e1, Int.toNat_natCast]
  by_cases hl : (n : Int) < (xs.length : Int)
  · have : (n : Int) + 1 < ((xs.length + 1 : Nat) : Int) := by omega
    simp [hl, this]
  · have : ¬ (n : Int) + 1 < ((xs.length + 1 : Nat) : Int) := by omega
    simp [hl, this]
theorem at_1 : wO (L2.atI (a :: b :: xs) 1) A = A b := by rw [show (1 : Int) = ((0 : Nat) : Int) + 1 from rfl, at_s]; exact at_0
theorem at_2 : wO (L2.atI (a :: b :: c :: xs) 2) A = A c := by rw [show (2 : Int) = ((1 : Nat) : Int) + 1 from rfl, at_s]; exact at_1
theorem at_3 : wO (L2.atI (a :: b :: c :: d :: xs) 3) A = A d := by rw [show (3 : Int) = ((2 : Nat) : Int) + 1 from rfl, at_s]; exact at_2
theorem at_4 : wO (L2.atI (a :: b :: c :: d :: e :: xs) 4) A = A e := by rw [show (4 : Int) = ((3 : Nat) : Int) + 1 from rfl, at_s]; exact at_3
theorem at_5 {i : α} : wO (L2.atI (a :: b :: c :: d :: e :: i :: xs) 5) A = A i := by rw [show (5 : Int) = ((4 : Nat) : Int) + 1 from rfl, at_s]; exact at_4
def wLast {α : Type} : List α → (α → Prop) → Prop
  | [], _ => False
  | [a], K => K a
  | _ :: b :: l, K => wLast (b :: l) K
theorem wLast_1 : wLast [a] A = A a := by simp_wf
theorem wLast_s : wLast (a :: b :: xs) A = wLast (b :: xs) A := by simp_wf
theorem wLast_app : ∀ {xs : List α}, wLast (xs ++ [a]) A = A a
  | [] => by simp_wf
  | [x] => by simp_wf
  | x :: y :: l => wLast_app (xs := y :: l)
theorem at_m1 : wO (L2.atI (a :: xs) (-1)) A = wLast (a :: xs) A := by
  rcases List.eq_nil_or_concat (a :: xs) with h | ⟨l, v, h⟩
  · cases h
  · rw [List.concat_eq_append] at h
    rw [h, wLast_app, L2.atI_last]
    simp_wf
theorem at_n {n : Nat} {v : α} (h : xs[n]? = some v) (q : A v) : wO (L2.atI xs (n : Int)) A := by rw [L2.atI_nat h, wO_some]; exact q
end
end
/-- an index drawn into a written list: some item of it -/
theorem at_any {xs : List D} {r : Int} {A : D → Prop} (h0 : 0 ≤ r) (h1 : r < xs.length) (q : ∀ x ∈ xs, A x) : wO (L2.atI xs r) A := by
  rcases Int.eq_ofNat_of_zero_le h0 with ⟨n, rfl⟩
  have hn : n < xs.length := by omega
  exact at_n (List.getElem?_eq_getElem hn) (q _ (List.getElem_mem hn))
/-! ### more -/
section
variable {c : Cell} {cs : Cells} {n : Nat} {b b' : Ob} {x : D} {K : Cells → Prop}
theorem wPut_s : wPut (c :: cs) (n + 1) b K = wPut cs n b fun cs' => K (c :: cs') := by
  unfold wPut putOb
  rw [List.getElem?_cons_succ]
  cases cs[n]? with
  | none => simp_wf
  | some d => cases d <;> simp_wf
theorem wPut_o : wPut (.o b' :: cs) 0 b K = K (.o b :: cs) := by simp_wf
theorem wPut_io : wPut (.io b' :: cs) 0 b K = K (.io b :: cs) := by simp_wf
theorem obAt_s : obAt (c :: cs) (n + 1) = obAt cs n := by unfold obAt; rw [List.getElem?_cons_succ]
theorem obAt_0o : obAt (.o b :: cs) 0 = some b := by simp_wf
theorem obAt_0io : obAt (.io b :: cs) 0 = some b := by simp_wf
theorem obAt_0d : obAt (.d x :: cs) 0 = none := by simp_wf
theorem obAt_0n : obAt (.none :: cs) 0 = none := by simp_wf
theorem isL_s : isL (c :: cs) (n + 1) = isL cs n := by unfold isL; rw [obAt_s]
theorem isL_o {xs : List D} : isL (.o (.lst xs) :: cs) 0 = true := by simp_wf
theorem isL_io {xs : List D} : isL (.io (.lst xs) :: cs) 0 = true := by simp_wf
theorem isOb_s : isOb (c :: cs) (n + 1) = isOb cs n := by unfold isOb; rw [obAt_s]
theorem isOb_0d : isOb (.d x :: cs) 0 = false := by simp_wf
theorem isOb_0n : isOb (.none :: cs) 0 = false := by simp_wf
theorem ioIdx_nil : ioIdx [] = [] := by simp_wf
theorem ioIdx_d {ps : List PArg} : ioIdx (.d x :: ps) = ioIdx ps := by simp_wf
theorem ioIdx_io {ps : List PArg} : ioIdx (.io n :: ps) = n :: ioIdx ps := by simp_wf
theorem wipeC_nil {env : Cells} : wipeC env [] = env := by simp_wf
theorem wipeC_cons {env : Cells} {v : Nat} {vs : List Nat} : wipeC env (v :: vs) = (wipeC env vs).set v .none := by simp_wf
theorem restC_nil {env env0 : Cells} : restC env0 env [] = env := by simp_wf
theorem restC_cons {env env0 : Cells} {v : Nat} {vs : List Nat} : restC env0 env (v :: vs) = (restC env0 env vs).set v (env0[v]?.getD .none) := by simp_wf
theorem noOwn_nil : noOwn [] = true := by simp_wf
theorem noOwn_d {rs : List R} : noOwn (.d x :: rs) = noOwn rs := by simp_wf
theorem noOwn_n {rs : List R} : noOwn (.new b :: rs) = noOwn rs := by simp_wf
theorem noOwn_o {rs : List R} : noOwn (.own n :: rs) = false := by simp_wf
theorem br_t {A B : Prop} : ((true = true → A) ∧ (true = false → B)) = A := by simp
theorem br_f {A B : Prop} : ((false = true → A) ∧ (false = false → B)) = B := by simp
theorem lim_is : lim = 1000000 := by simp_wf
theorem setD_l {xs : List D} {i : Int} {v : D} {P : Ob → Prop} : wO (setD (.lst xs) (.int i) v) P = wO (L2.ixN xs.length i) fun k => P (.lst (xs.set k v)) := wO_map
theorem setD_d {kvs : List (DK × D)} {k v : D} {P : Ob → Prop} : wO (setD (.dic kvs) k v) P = wO (keyOf k) fun k => kvs.length < lim ∧ P (.dic (put kvs k v)) := by
  show wO ((keyOf k).bind _) P = _
  rw [wO_bind]
  refine congrArg _ (funext fun k => wO_itS)
theorem abs_lit {n : Nat} : (no_index (OfNat.ofNat n) : Int).natAbs = (no_index (OfNat.ofNat n) : Nat) := by simp_wf
theorem ixN_lt {n k : Nat} {P : Nat → Prop} (h : k < n) : wO (L2.ixN n (k : Int)) P = P k := by
  have h1 : (0 : Int) ≤ (k : Int) := by omega
  have h2 : (k : Int) < (n : Int) := by omega
  simp [L2.ixN, h1, h, wO_some]
theorem ixN_0 {n : Nat} {P : Nat → Prop} : wO (L2.ixN (n + 1) 0) P = P 0 := ixN_lt (k := 0) (by omega)
theorem ixN_1 {n : Nat} {P : Nat → Prop} : wO (L2.ixN (n + 2) 1) P = P 1 := ixN_lt (k := 1) (by omega)
theorem ixN_2 {n : Nat} {P : Nat → Prop} : wO (L2.ixN (n + 3) 2) P = P 2 := ixN_lt (k := 2) (by omega)
end
/-! ### how long numbers are -/
theorem bits_lt {x : Int} {n : Nat} (h : x.natAbs < 2 ^ n) : bits x ≤ n := by
  unfold bits
  by_cases z : x.natAbs = 0
  · rw [z]; simp
  · have := (Nat.log2_lt z).mpr h
    omega
theorem bits_to {x : Int} {n : Nat} (h : bits x ≤ n) : x.natAbs < 2 ^ (n + 1) := by
  unfold bits at h
  by_cases z : x.natAbs = 0
  · rw [z]; exact Nat.two_pow_pos _
  · exact (Nat.log2_lt z).mp (by omega)
theorem bits_nat {x n : Nat} (h : x < 2 ^ n) : bits (x : Int) ≤ n := bits_lt (by rw [Int.natAbs_natCast]; exact h)
theorem bits_pos {x : Int} {n : Nat} (h0 : 0 ≤ x) (h : x < 2 ^ n) : bits x ≤ n := by
  obtain ⟨k, rfl⟩ := Int.eq_ofNat_of_zero_le h0
  exact bits_nat (by exact_mod_cast h)
theorem bits_mul {x y : Int} {m n : Nat} (h : bits x ≤ m) (k : bits y ≤ n) : bits (x * y) ≤ m + n + 2 := by
  refine bits_lt ?_
  rw [Int.natAbs_mul, show m + n + 2 = (m + 1) + (n + 1) by omega, Nat.pow_add]
  exact Nat.mul_lt_mul'' (bits_to h) (bits_to k)
theorem bits_add {x y : Int} {m n : Nat} (h : bits x ≤ m) (k : bits y ≤ n) : bits (x + y) ≤ m + n + 2 := by
  refine bits_lt ?_
  have h1 := bits_to h
  have h2 := bits_to k
  have e1 : 2 ^ (m + 1) * 1 ≤ 2 ^ (m + 1) * 2 ^ (n + 1) := Nat.mul_le_mul_left _ (Nat.two_pow_pos _)
  have e2 : 1 * 2 ^ (n + 1) ≤ 2 ^ (m + 1) * 2 ^ (n + 1) := Nat.mul_le_mul_right _ (Nat.two_pow_pos _)
  have e3 : (x + y).natAbs ≤ x.natAbs + y.natAbs := Int.natAbs_add_le x y
  have e4 : (2 : Nat) ^ (m + n + 2) = 2 ^ (m + 1) * 2 ^ (n + 1) := by rw [← Nat.pow_add]; congr 1; omega
  have g1 : 2 ≤ 2 ^ (m + 1) := by rw [Nat.pow_succ]; have := Nat.two_pow_pos m; omega
  have g2 : 2 ≤ 2 ^ (n + 1) := by rw [Nat.pow_succ]; have := Nat.two_pow_pos n; omega
  have e5 : 2 ^ (m + 1) + 2 ^ (n + 1) ≤ 2 ^ (m + 1) * 2 ^ (n + 1) := by
    generalize 2 ^ (m + 1) = a at *
    generalize 2 ^ (n + 1) = b at *
    have : a * 2 ≤ a * b := Nat.mul_le_mul_left _ g2
    have : 2 * b ≤ a * b := Nat.mul_le_mul_right _ g1
    omega
  rw [e4]
  omega
theorem bits_neg {x : Int} : bits (-x) = bits x := by unfold bits; rw [Int.natAbs_neg]
theorem bits_sub {x y : Int} {m n : Nat} (h : bits x ≤ m) (k : bits y ≤ n) : bits (x - y) ≤ m + n + 2 := by
  rw [Int.sub_eq_add_neg]
  exact bits_add h (by rw [bits_neg]; exact k)
theorem bits_mono {x y : Int} (h0 : 0 ≤ x) (h : x ≤ y) : bits x ≤ bits y := by
  have h1 : y.natAbs < 2 ^ (bits y + 1) := bits_to (Nat.le_refl _)
  unfold bits at *
  by_cases z : x.natAbs = 0
  · rw [z]; simp
  · have : x.natAbs.log2 < y.natAbs.log2 + 1 := (Nat.log2_lt z).mpr (by omega)
    omega
theorem bits_mod {x y : Int} (h : 0 < y) : bits (x % y) ≤ bits y := bits_mono (Int.emod_nonneg _ (by omega)) (Int.le_of_lt (Int.emod_lt_of_pos _ h))
theorem bits_div {x y : Int} (h0 : 0 ≤ x) (h : 0 < y) : bits (x / y) ≤ bits x := bits_mono (Int.ediv_nonneg h0 (by omega)) (Int.ediv_le_self _ h0)
theorem bits_pow {x : Int} {m : Nat} (h : bits x ≤ m) (k : Nat) : bits (x ^ k) ≤ (m + 1) * k := by
  cases k with
  | zero => exact Nat.le_of_eq (by simp only [Int.pow_zero, Nat.mul_zero]; decide)
  | succ k =>
    refine bits_lt ?_
    rw [Int.natAbs_pow, Nat.pow_mul]
    exact Nat.pow_lt_pow_left (bits_to h) (by omega)
end Fx

set_option Elab.async false
set_option linter.all false
set_option maxRecDepth 100000
set_option maxHeartbeats 0
/-! the same by statements; calls (printed by fx_gen.py) -/
namespace K03
open PySem Fx
def F0 : List Fx.Arg → FRes := runF G0 N0.length c0
def F1 : List Fx.Arg → FRes := runF G1 N1.length c1
def F2 : List Fx.Arg → FRes := runF G2 N2.length c2
def F3 : List Fx.Arg → FRes := runF G3 N3.length c3
def F4 : List Fx.Arg → FRes := runF G4 N4.length c4
def F5 : List Fx.Arg → FRes := runF G5 N5.length c5
def F6 : List Fx.Arg → FRes := runF G6 N6.length c6
def F7 : List Fx.Arg → FRes := runF G7 N7.length c7
def F8 : List Fx.Arg → FRes := runF G8 N8.length c8
def F9 : List Fx.Arg → FRes := runF G9 N9.length c9
def F10 : List Fx.Arg → FRes := runF G10 N10.length c10
def F11 : List Fx.Arg → FRes := runF G11 N11.length c11
def F12 : List Fx.Arg → FRes := runF G12 N12.length c12
def F13 : List Fx.Arg → FRes := runF G13 N13.length c13
def F14 : List Fx.Arg → FRes := runF G14 N14.length c14
def F15 : List Fx.Arg → FRes := runF G15 N15.length c15
def F16 : List Fx.Arg → FRes := runF G16 N16.length c16
def F17 : List Fx.Arg → FRes := runF G17 N17.length c17
def F18 : List Fx.Arg → FRes := runF G18 N18.length c18
def F19 : List Fx.Arg → FRes := runF G19 N19.length c19
def F20 : List Fx.Arg → FRes := runF G20 N20.length c20
def F21 : List Fx.Arg → FRes := runF G21 N21.length c21
-- is_integer
abbrev s0_1 : CS := (.ret (.cst (.bl false)))
abbrev b0_0 : List CS := [s0_1]
abbrev s0_0 : CS := (.ifs (.or (.not (.isinst (.var 0) .int)) (.isinst (.var 0) .bool)) b0_0 [])
abbrev s0_2 : CS := (.ret (.and (.or (.cmp .isN (.var 1) (.cst .non)) (.cmp .ge (.var 0) (.var 1))) (.or (.cmp .isN (.var 2) (.cst .non)) (.cmp .le (.var 0) (.var 2)))))
abbrev B0 : List CS := [s0_0, s0_2]
theorem run0 {x0 : D} {x1 : D} {x2 : D} {E : Exn → List Ob → Prop} {Q : RO → List Ob → Prop} (h : wSs G0 B0 [.d x0, .d x1, .d x2] (fun x env => E x []) (fun f env => wFl f env fun ro => Q ro [])) : wF (F0 [.d x0, .d x1, .d x2]) E Q := wF_run (by simp only [wIos_io, wIos_d, wIos_nil]; exact h)
-- is_name
abbrev s1_0 : CS := (.ret (.and (.isinst (.var 0) .str) (.and (.cmp .eq (.blt .len [(.var 0)]) (.cst (.int 1))) (.cmp .isin (.var 0) (.cst (.str [48, 49, 50, 51, 52, 53, 54, 55, 56, 57, 97, 98, 99, 100, 101, 102, 103, 104, 105, 106, 107, 108, 109, 110, 111, 112, 113, 114, 115, 116, 117, 118, 119, 120, 121, 122]))))))
abbrev B1 : List CS := [s1_0]
theorem run1 {x0 : D} {E : Exn → List Ob → Prop} {Q : RO → List Ob → Prop} (h : wSs G1 B1 [.d x0] (fun x env => E x []) (fun f env => wFl f env fun ro => Q ro [])) : wF (F1 [.d x0]) E Q := wF_run (by simp only [wIos_io, wIos_d, wIos_nil]; exact h)
-- are_widths
abbrev s2_1 : CS := (.ret (.cst (.bl false)))
abbrev b2_0 : List CS := [s2_1]
abbrev s2_0 : CS := (.ifs (.or (.not (.isinst (.var 0) .tuple)) (.not (.chain .le .le (.var 1) (.blt .len [(.var 0)]) (.var 2)))) b2_0 [])
abbrev s2_2 : CS := (.ret (.blt .all [(.lc (.call 0 [(.var 3), (.cst (.int 1)), (.cst (.int 4))]) (.nm 3) (.e (.var 0)) none [3])]))
abbrev B2 : List CS := [s2_0, s2_2]
instance : Lk G2 0 ⟨[false, false, false], [.non, .non], F0⟩ := ⟨rfl⟩
theorem run2 {x0 : D} {x1 : D} {x2 : D} {E : Exn → List Ob → Prop} {Q : RO → List Ob → Prop} (h : wSs G2 B2 [.d x0, .d x1, .d x2, .none] (fun x env => E x []) (fun f env => wFl f env fun ro => Q ro [])) : wF (F2 [.d x0, .d x1, .d x2]) E Q := wF_run (by simp only [wIos_io, wIos_d, wIos_nil]; exact h)
-- is_widths
abbrev s3_0 : CS := (.ret (.call 2 [(.var 0), (.cst (.int 1)), (.cst (.int 6))]))
abbrev B3 : List CS := [s3_0]
instance : Lk G3 2 ⟨[false, false, false], [], F2⟩ := ⟨rfl⟩
theorem run3 {x0 : D} {E : Exn → List Ob → Prop} {Q : RO → List Ob → Prop} (h : wSs G3 B3 [.d x0] (fun x env => E x []) (fun f env => wFl f env fun ro => Q ro [])) : wF (F3 [.d x0]) E Q := wF_run (by simp only [wIos_io, wIos_d, wIos_nil]; exact h)
-- fault_of_characters
abbrev s4_1 : CS := (.ret (.lst [(.cst .non)]))
abbrev b4_0 : List CS := [s4_1]
abbrev s4_0 : CS := (.ifs (.or (.not (.isinst (.var 0) .dict)) (.not (.chain .le .le (.cst (.int 1)) (.blt .len [(.var 0)]) (.cst (.int 10))))) b4_0 [])
abbrev s4_3 : CS := (.ret (.lst [(.cst .non)]))
abbrev b4_1 : List CS := [s4_3]
abbrev s4_2 : CS := (.ifs (.not (.blt .all [(.lc (.call 1 [(.var 1)]) (.nm 1) (.e (.var 0)) none [1])])) b4_1 [])
abbrev s4_4 : CS := (.ret (.sl (.lc (.var 1) (.nm 1) (.e (.blt .sorted [(.var 0)])) (some (.not (.call 3 [(.ix (.var 0) (.var 1))]))) [1]) none (some (.cst (.int 1)))))
abbrev B4 : List CS := [s4_0, s4_2, s4_4]
instance : Lk G4 1 ⟨[false], [], F1⟩ := ⟨rfl⟩
instance : Lk G4 3 ⟨[false], [], F3⟩ := ⟨rfl⟩
theorem run4 {x0 : D} {E : Exn → List Ob → Prop} {Q : RO → List Ob → Prop} (h : wSs G4 B4 [.d x0, .none] (fun x env => E x []) (fun f env => wFl f env fun ro => Q ro [])) : wF (F4 [.d x0]) E Q := wF_run (by simp only [wIos_io, wIos_d, wIos_nil]; exact h)
-- fault_of_code
abbrev s5_1 : CS := (.ret (.lst [(.tup [(.cst .non), (.cst .non)])]))
abbrev b5_0 : List CS := [s5_1]
abbrev s5_0 : CS := (.ifs (.or (.not (.isinst (.var 0) .tuple)) (.cmp .ne (.blt .len [(.var 0)]) (.cst (.int 4)))) b5_0 [])
abbrev s5_2 : CS := (.asg (.tup [(.nm 1), (.nm 2), (.nm 3), (.nm 4)]) (.var 0))
abbrev s5_3 : CS := (.asg (.nm 5) (.lc (.tup [(.cst (.str [99, 104, 97, 114, 97, 99, 116, 101, 114, 115])), (.var 6)]) (.nm 6) (.e (.call 4 [(.var 2)])) none [6]))
abbrev s5_5 : CS := (.asg (.nm 5) (.lst [(.tup [(.cst (.str [115, 116, 97, 114, 116])), (.cst .non)])]))
abbrev b5_1 : List CS := [s5_5]
abbrev s5_4 : CS := (.ifs (.not (.call 3 [(.var 1)])) b5_1 [])
abbrev s5_7 : CS := (.asg (.nm 5) (.lst [(.tup [(.cst (.str [98, 101, 116, 119, 101, 101, 110])), (.cst .non)])]))
abbrev b5_2 : List CS := [s5_7]
abbrev s5_6 : CS := (.ifs (.and (.cmp .eq (.var 5) (.lst [])) (.not (.call 2 [(.var 3), (.cst (.int 0)), (.cst (.int 2))]))) b5_2 [])
abbrev s5_9 : CS := (.asg (.nm 5) (.lst [(.tup [(.cst (.str [115, 116, 111, 112])), (.cst .non)])]))
abbrev b5_3 : List CS := [s5_9]
abbrev s5_8 : CS := (.ifs (.and (.cmp .eq (.var 5) (.lst [])) (.not (.call 3 [(.var 4)]))) b5_3 [])
abbrev s5_10 : CS := (.ret (.var 5))
abbrev B5 : List CS := [s5_0, s5_2, s5_3, s5_4, s5_6, s5_8, s5_10]
instance : Lk G5 2 ⟨[false, false, false], [], F2⟩ := ⟨rfl⟩
instance : Lk G5 3 ⟨[false], [], F3⟩ := ⟨rfl⟩
instance : Lk G5 4 ⟨[false], [], F4⟩ := ⟨rfl⟩
theorem run5 {x0 : D} {E : Exn → List Ob → Prop} {Q : RO → List Ob → Prop} (h : wSs G5 B5 [.d x0, .none, .none, .none, .none, .none, .none] (fun x env => E x []) (fun f env => wFl f env fun ro => Q ro [])) : wF (F5 [.d x0]) E Q := wF_run (by simp only [wIos_io, wIos_d, wIos_nil]; exact h)
-- require_code
abbrev s6_0 : CS := (.asg (.nm 1) (.call 5 [(.var 0)]))
abbrev s6_2 : CS := (.asg (.tup [(.nm 2), (.nm 3)]) (.ix (.var 1) (.cst (.int 0))))
abbrev s6_3 : CS := .never
abbrev b6_0 : List CS := [s6_2, s6_3]
abbrev s6_1 : CS := (.ifs (.cmp .ne (.var 1) (.lst [])) b6_0 [])
abbrev B6 : List CS := [s6_0, s6_1]
instance : Lk G6 5 ⟨[false], [], F5⟩ := ⟨rfl⟩
theorem run6 {x0 : D} {E : Exn → List Ob → Prop} {Q : RO → List Ob → Prop} (h : wSs G6 B6 [.d x0, .none, .none, .none] (fun x env => E x []) (fun f env => wFl f env fun ro => Q ro [])) : wF (F6 [.d x0]) E Q := wF_run (by simp only [wIos_io, wIos_d, wIos_nil]; exact h)
-- require_index
abbrev s7_1 : CS := .never
abbrev b7_0 : List CS := [s7_1]
abbrev s7_0 : CS := (.ifs (.or (.not (.call 0 [(.var 0), (.cst (.int 0))])) (.cmp .ge (.var 0) (.var 1))) b7_0 [])
abbrev B7 : List CS := [s7_0]
instance : Lk G7 0 ⟨[false, false, false], [.non, .non], F0⟩ := ⟨rfl⟩
theorem run7 {x0 : D} {x1 : D} {E : Exn → List Ob → Prop} {Q : RO → List Ob → Prop} (h : wSs G7 B7 [.d x0, .d x1] (fun x env => E x []) (fun f env => wFl f env fun ro => Q ro [])) : wF (F7 [.d x0, .d x1]) E Q := wF_run (by simp only [wIos_io, wIos_d, wIos_nil]; exact h)
-- words_of
abbrev s8_0 : CS := (.ret (.dc (.var 1) (.bin .add (.ix (.ix (.var 0) (.cst (.int 1))) (.var 1)) (.ix (.var 0) (.cst (.int 2)))) (.nm 1) (.e (.blt .sorted [(.ix (.var 0) (.cst (.int 1)))])) none [1]))
abbrev B8 : List CS := [s8_0]
theorem run8 {x0 : D} {E : Exn → List Ob → Prop} {Q : RO → List Ob → Prop} (h : wSs G8 B8 [.d x0, .none] (fun x env => E x []) (fun f env => wFl f env fun ro => Q ro [])) : wF (F8 [.d x0]) E Q := wF_run (by simp only [wIos_io, wIos_d, wIos_nil]; exact h)
-- size_without
abbrev s9_0 : CS := (.ret (.bin .add (.bin .add (.blt .len [(.ix (.var 0) (.cst (.int 0)))]) (.blt .len [(.ix (.var 0) (.cst (.int 2)))])) (.blt .len [(.ix (.var 0) (.cst (.int 3)))])))
abbrev B9 : List CS := [s9_0]
theorem run9 {x0 : D} {E : Exn → List Ob → Prop} {Q : RO → List Ob → Prop} (h : wSs G9 B9 [.d x0] (fun x env => E x []) (fun f env => wFl f env fun ro => Q ro [])) : wF (F9 [.d x0]) E Q := wF_run (by simp only [wIos_io, wIos_d, wIos_nil]; exact h)
-- ways_up_to
abbrev s10_0 : CS := (.asg (.nm 2) (.lst [(.cst (.int 1))]))
abbrev s10_2 : CS := (.expr (.mut .append 2 [(.blt .sum [(.lc (.ix (.var 2) (.bin .sub (.var 3) (.blt .len [(.var 4)]))) (.nm 4) (.values (.var 0)) (some (.cmp .le (.blt .len [(.var 4)]) (.var 3))) [4])])]))
abbrev b10_0 : List CS := [s10_2]
abbrev s10_1 : CS := (.fors (.nm 3) (.range [(.cst (.int 1)), (.bin .add (.var 1) (.cst (.int 1)))]) b10_0)
abbrev s10_3 : CS := (.ret (.var 2))
abbrev B10 : List CS := [s10_0, s10_1, s10_3]
theorem run10 {x0 : D} {x1 : D} {E : Exn → List Ob → Prop} {Q : RO → List Ob → Prop} (h : wSs G10 B10 [.d x0, .d x1, .none, .none, .none] (fun x env => E x []) (fun f env => wFl f env fun ro => Q ro [])) : wF (F10 [.d x0, .d x1]) E Q := wF_run (by simp only [wIos_io, wIos_d, wIos_nil]; exact h)
-- require_many
abbrev s11_1 : CS := .never
abbrev b11_0 : List CS := [s11_1]
abbrev s11_0 : CS := (.ifs (.not (.call 0 [(.var 0), (.cst (.int 0)), (.cst (.int 400))])) b11_0 [])
abbrev B11 : List CS := [s11_0]
instance : Lk G11 0 ⟨[false, false, false], [.non, .non], F0⟩ := ⟨rfl⟩
theorem run11 {x0 : D} {E : Exn → List Ob → Prop} {Q : RO → List Ob → Prop} (h : wSs G11 B11 [.d x0] (fun x env => E x []) (fun f env => wFl f env fun ro => Q ro [])) : wF (F11 [.d x0]) E Q := wF_run (by simp only [wIos_io, wIos_d, wIos_nil]; exact h)
-- count_texts
abbrev s12_0 : CS := (.expr (.call 6 [(.var 0)]))
abbrev s12_1 : CS := (.expr (.call 11 [(.var 1)]))
abbrev s12_2 : CS := (.asg (.nm 2) (.bin .sub (.var 1) (.call 9 [(.var 0)])))
abbrev s12_3 : CS := (.ret (.ite (.cmp .ge (.var 2) (.cst (.int 0))) (.ix (.call 10 [(.call 8 [(.var 0)]), (.var 2)]) (.var 2)) (.cst (.int 0))))
abbrev B12 : List CS := [s12_0, s12_1, s12_2, s12_3]
instance : Lk G12 6 ⟨[false], [], F6⟩ := ⟨rfl⟩
instance : Lk G12 8 ⟨[false], [], F8⟩ := ⟨rfl⟩
instance : Lk G12 9 ⟨[false], [], F9⟩ := ⟨rfl⟩
instance : Lk G12 10 ⟨[false, false], [], F10⟩ := ⟨rfl⟩
instance : Lk G12 11 ⟨[false], [], F11⟩ := ⟨rfl⟩
theorem run12 {x0 : D} {x1 : D} {E : Exn → List Ob → Prop} {Q : RO → List Ob → Prop} (h : wSs G12 B12 [.d x0, .d x1, .none] (fun x env => E x []) (fun f env => wFl f env fun ro => Q ro [])) : wF (F12 [.d x0, .d x1]) E Q := wF_run (by simp only [wIos_io, wIos_d, wIos_nil]; exact h)
-- nth_text
abbrev s13_0 : CS := (.expr (.call 6 [(.var 0)]))
abbrev s13_1 : CS := (.expr (.call 11 [(.var 1)]))
abbrev s13_2 : CS := (.par [(.nm 3), (.nm 4), (.nm 5)] [(.call 8 [(.var 0)]), (.bin .sub (.var 1) (.call 9 [(.var 0)])), (.cst (.str []))])
abbrev s13_3 : CS := (.asg (.nm 6) (.ite (.cmp .ge (.var 4) (.cst (.int 0))) (.call 10 [(.var 3), (.var 4)]) (.lst [(.cst (.int 0))])))
abbrev s13_4 : CS := (.expr (.call 7 [(.var 2), (.ix (.var 6) (.neg (.cst (.int 1))))]))
abbrev s13_7 : CS := (.asg (.nm 9) (.ite (.cmp .le (.blt .len [(.var 8)]) (.var 4)) (.ix (.var 6) (.bin .sub (.var 4) (.blt .len [(.var 8)]))) (.cst (.int 0))))
abbrev s13_9 : CS := (.par [(.nm 5), (.nm 4)] [(.bin .add (.var 5) (.var 7)), (.bin .sub (.var 4) (.blt .len [(.var 8)]))])
abbrev s13_10 : CS := .brk
abbrev b13_2 : List CS := [s13_9, s13_10]
abbrev s13_8 : CS := (.ifs (.cmp .lt (.var 2) (.var 9)) b13_2 [])
abbrev s13_11 : CS := (.aug 2 .sub (.var 9))
abbrev b13_1 : List CS := [s13_7, s13_8, s13_11]
abbrev s13_6 : CS := (.fors (.tup [(.nm 7), (.nm 8)]) (.items (.var 3)) b13_1)
abbrev b13_0 : List CS := [s13_6]
abbrev s13_5 : CS := (.whl (.cmp .gt (.var 4) (.cst (.int 0))) b13_0)
abbrev s13_12 : CS := (.ret (.var 5))
abbrev B13 : List CS := [s13_0, s13_1, s13_2, s13_3, s13_4, s13_5, s13_12]
instance : Lk G13 6 ⟨[false], [], F6⟩ := ⟨rfl⟩
instance : Lk G13 7 ⟨[false, false], [], F7⟩ := ⟨rfl⟩
instance : Lk G13 8 ⟨[false], [], F8⟩ := ⟨rfl⟩
instance : Lk G13 9 ⟨[false], [], F9⟩ := ⟨rfl⟩
instance : Lk G13 10 ⟨[false, false], [], F10⟩ := ⟨rfl⟩
instance : Lk G13 11 ⟨[false], [], F11⟩ := ⟨rfl⟩
theorem run13 {x0 : D} {x1 : D} {x2 : D} {E : Exn → List Ob → Prop} {Q : RO → List Ob → Prop} (h : wSs G13 B13 [.d x0, .d x1, .d x2, .none, .none, .none, .none, .none, .none, .none] (fun x env => E x []) (fun f env => wFl f env fun ro => Q ro [])) : wF (F13 [.d x0, .d x1, .d x2]) E Q := wF_run (by simp only [wIos_io, wIos_d, wIos_nil]; exact h)
-- _law_fount
abbrev s14_0 : CS := (.asg (.nm 2) (.ite (.cmp .lt (.var 1) (.blt .len [(.var 0)])) (.blt .abs [(.blt .int [(.ix (.var 0) (.var 1))])]) (.cst (.int 0))))
abbrev s14_1 : CS := (.ret (.lst [(.blt .max [(.cst (.int 0)), (.bin .sub (.var 2) (.bin .pow (.cst (.int 10)) (.cst (.int 18))))]), (.bin .add (.bin .add (.bin .mul (.bin .mod (.blt .int [(.var 2)]) (.bin .add (.bin .pow (.cst (.int 10)) (.cst (.int 39))) (.cst (.int 61)))) (.cst (.int 64))) (.bin .mul (.cst (.int 31)) (.var 1))) (.cst (.int 17))), (.cst (.int 0))]))
abbrev B14 : List CS := [s14_0, s14_1]
theorem run14 {x0 : D} {x1 : D} {E : Exn → List Ob → Prop} {Q : RO → List Ob → Prop} (h : wSs G14 B14 [.d x0, .d x1, .none] (fun x env => E x []) (fun f env => wFl f env fun ro => Q ro [])) : wF (F14 [.d x0, .d x1]) E Q := wF_run (by simp only [wIos_io, wIos_d, wIos_nil]; exact h)
-- _law_dip
abbrev s15_1 : CS := (.asg (.nm 2) (.bin .mod (.blt .int [(.ix (.var 0) (.cst (.int 0)))]) (.var 1)))
abbrev s15_2 : CS := (.set 0 (.cst (.int 0)) (.bin .fdiv (.ix (.var 0) (.cst (.int 0))) (.var 1)))
abbrev s15_3 : CS := (.ret (.var 2))
abbrev b15_0 : List CS := [s15_1, s15_2, s15_3]
abbrev s15_0 : CS := (.ifs (.cmp .gt (.ix (.var 0) (.cst (.int 0))) (.cst (.int 0))) b15_0 [])
abbrev s15_4 : CS := (.set 0 (.cst (.int 2)) (.bin .add (.ix (.var 0) (.cst (.int 2))) (.cst (.int 1))))
abbrev s15_5 : CS := (.asg (.nm 3) (.bin .mod (.blt .int [(.bin .pow (.bin .add (.ix (.var 0) (.cst (.int 1))) (.bin .mul (.cst (.int 49979687)) (.ix (.var 0) (.cst (.int 2))))) (.cst (.int 3)))]) (.bin .add (.bin .pow (.cst (.int 10)) (.cst (.int 42))) (.cst (.int 63)))))
abbrev s15_6 : CS := (.asg (.nm 3) (.bin .mod (.blt .int [(.bin .pow (.bin .add (.var 3) (.bin .mul (.cst (.int 67867967)) (.ix (.var 0) (.cst (.int 2))))) (.cst (.int 3)))]) (.bin .add (.bin .pow (.cst (.int 10)) (.cst (.int 40))) (.cst (.int 121)))))
abbrev s15_7 : CS := (.ret (.bin .mod (.blt .int [(.bin .fdiv (.var 3) (.bin .pow (.cst (.int 10)) (.cst (.int 9))))]) (.var 1)))
abbrev B15 : List CS := [s15_0, s15_4, s15_5, s15_6, s15_7]
theorem run15 {b0 : Ob} {x1 : D} {E : Exn → List Ob → Prop} {Q : RO → List Ob → Prop} (h : wSs G15 B15 [.io b0, .d x1, .none, .none] (fun x env => wLook env 0 fun c => wIo c fun b0 => E x [b0]) (fun f env => wFl f env fun ro => wLook env 0 fun c => wIo c fun b0 => Q ro [b0])) : wF (F15 [.io b0, .d x1]) E Q := wF_run (by simp only [wIos_io, wIos_d, wIos_nil]; exact h)
-- _law_widths
abbrev s16_0 : CS := (.asg (.nm 3) (.ix (.lst [(.cst (.int 2)), (.cst (.int 4)), (.cst (.int 4))]) (.call 15 [(.var 0), (.cst (.int 3))])))
abbrev s16_1 : CS := (.ret (.blt .tuple [(.lc (.bin .add (.cst (.int 1)) (.call 15 [(.var 0), (.var 3)])) (.nm 4) (.range [(.bin .add (.var 1) (.call 15 [(.var 0), (.bin .add (.bin .sub (.var 2) (.var 1)) (.cst (.int 1)))]))]) none [4])]))
abbrev B16 : List CS := [s16_0, s16_1]
instance : Lk G16 15 ⟨[true, false], [], F15⟩ := ⟨rfl⟩
theorem run16 {b0 : Ob} {x1 : D} {x2 : D} {E : Exn → List Ob → Prop} {Q : RO → List Ob → Prop} (h : wSs G16 B16 [.io b0, .d x1, .d x2, .none, .none] (fun x env => wLook env 0 fun c => wIo c fun b0 => E x [b0]) (fun f env => wFl f env fun ro => wLook env 0 fun c => wIo c fun b0 => Q ro [b0])) : wF (F16 [.io b0, .d x1, .d x2]) E Q := wF_run (by simp only [wIos_io, wIos_d, wIos_nil]; exact h)
-- _law_characters
abbrev s17_0 : CS := (.par [(.nm 3), (.nm 4)] [(.blt .list [(.cst (.str [97, 98, 99, 100, 101, 102, 103, 104, 105, 106, 107, 108, 110, 111, 112, 113, 114, 115, 116, 117, 118, 119, 120, 121, 122, 48, 49, 50, 51, 52, 54, 55, 56, 57]))]), (.disp [])])
abbrev s17_1 : CS := (.par [(.nm 5), (.nm 6)] [(.call 15 [(.var 0), (.cst (.int 4))]), (.bin .add (.cst (.int 1)) (.call 15 [(.var 0), (.var 2)]))])
abbrev s17_3 : CS := (.par [(.nm 8), (.nm 9)] [(.mut .pop 3 [(.call 15 [(.var 0), (.blt .len [(.var 3)])])]), (.lvs (.var 4))])
abbrev s17_4 : CS := (.asg (.nm 10) (.call 16 [(.var 0), (.ite (.cmp .eq (.var 5) (.cst (.int 0))) (.var 6) (.cst (.int 1))), (.ite (.cmp .eq (.var 5) (.cst (.int 0))) (.var 6) (.var 2))]))
abbrev s17_6 : CS := (.asg (.nm 10) (.ix (.var 9) (.call 15 [(.var 0), (.blt .len [(.var 9)])])))
abbrev s17_7 : CS := (.asg (.nm 11) (.call 15 [(.var 0), (.blt .len [(.var 10)])]))
abbrev s17_9 : CS := (.asg (.nm 10) (.bin .add (.bin .add (.sl (.var 10) none (some (.var 11))) (.tup [(.bin .add (.cst (.int 1)) (.call 15 [(.var 0), (.cst (.int 4))]))])) (.sl (.var 10) (some (.bin .add (.var 11) (.cst (.int 1)))) none)))
abbrev b17_2 : List CS := [s17_9]
abbrev s17_10 : CS := (.asg (.nm 10) (.sl (.bin .add (.var 10) (.ix (.var 9) (.call 15 [(.var 0), (.blt .len [(.var 9)])]))) (some (.var 11)) (some (.bin .add (.var 11) (.var 2)))))
abbrev b17_3 : List CS := [s17_10]
abbrev s17_8 : CS := (.ifs (.cmp .eq (.var 5) (.cst (.int 2))) b17_2 b17_3)
abbrev b17_1 : List CS := [s17_6, s17_7, s17_8]
abbrev s17_5 : CS := (.ifs (.and (.cmp .ne (.var 9) (.lst [])) (.cmp .gt (.var 5) (.cst (.int 1)))) b17_1 [])
abbrev s17_11 : CS := (.set 4 (.var 8) (.var 10))
abbrev b17_0 : List CS := [s17_3, s17_4, s17_5, s17_11]
abbrev s17_2 : CS := (.fors (.nm 7) (.range [(.var 1)]) b17_0)
abbrev s17_12 : CS := (.ret (.var 4))
abbrev B17 : List CS := [s17_0, s17_1, s17_2, s17_12]
instance : Lk G17 15 ⟨[true, false], [], F15⟩ := ⟨rfl⟩
instance : Lk G17 16 ⟨[true, false, false], [], F16⟩ := ⟨rfl⟩
theorem run17 {b0 : Ob} {x1 : D} {x2 : D} {E : Exn → List Ob → Prop} {Q : RO → List Ob → Prop} (h : wSs G17 B17 [.io b0, .d x1, .d x2, .none, .none, .none, .none, .none, .none, .none, .none, .none] (fun x env => wLook env 0 fun c => wIo c fun b0 => E x [b0]) (fun f env => wFl f env fun ro => wLook env 0 fun c => wIo c fun b0 => Q ro [b0])) : wF (F17 [.io b0, .d x1, .d x2]) E Q := wF_run (by simp only [wIos_io, wIos_d, wIos_nil]; exact h)
-- _law_code
abbrev s18_0 : CS := (.asg (.nm 3) (.ix (.lst [(.cst (.int 3)), (.cst (.int 3)), (.cst (.int 6))]) (.call 15 [(.var 0), (.cst (.int 3))])))
abbrev s18_1 : CS := (.par [(.nm 4), (.nm 5), (.nm 6)] [(.call 16 [(.var 0), (.cst (.int 1)), (.var 3)]), (.call 17 [(.var 0), (.var 1), (.var 2)]), (.call 16 [(.var 0), (.cst (.int 0)), (.cst (.int 2))])])
abbrev s18_2 : CS := (.ret (.tup [(.var 4), (.var 5), (.var 6), (.call 16 [(.var 0), (.cst (.int 1)), (.var 3)])]))
abbrev B18 : List CS := [s18_0, s18_1, s18_2]
instance : Lk G18 15 ⟨[true, false], [], F15⟩ := ⟨rfl⟩
instance : Lk G18 16 ⟨[true, false, false], [], F16⟩ := ⟨rfl⟩
instance : Lk G18 17 ⟨[true, false, false], [], F17⟩ := ⟨rfl⟩
theorem run18 {b0 : Ob} {x1 : D} {x2 : D} {E : Exn → List Ob → Prop} {Q : RO → List Ob → Prop} (h : wSs G18 B18 [.io b0, .d x1, .d x2, .none, .none, .none, .none] (fun x env => wLook env 0 fun c => wIo c fun b0 => E x [b0]) (fun f env => wFl f env fun ro => wLook env 0 fun c => wIo c fun b0 => Q ro [b0])) : wF (F18 [.io b0, .d x1, .d x2]) E Q := wF_run (by simp only [wIos_io, wIos_d, wIos_nil]; exact h)
-- _law_row
abbrev s19_0 : CS := (.asg (.nm 2) (.blt .list [(.bin .add (.ix (.var 0) (.cst (.int 0))) (.ix (.var 0) (.cst (.int 2))))]))
abbrev s19_2 : CS := (.asg (.nm 2) (.bin .add (.var 2) (.blt .list [(.bin .add (.ix (.ix (.var 0) (.cst (.int 1))) (.var 3)) (.ix (.var 0) (.cst (.int 2))))])))
abbrev b19_0 : List CS := [s19_2]
abbrev s19_1 : CS := (.fors (.nm 3) (.e (.var 1)) b19_0)
abbrev s19_3 : CS := (.ret (.bin .add (.var 2) (.blt .list [(.ix (.var 0) (.cst (.int 3)))])))
abbrev B19 : List CS := [s19_0, s19_1, s19_3]
theorem run19 {x0 : D} {x1 : D} {E : Exn → List Ob → Prop} {Q : RO → List Ob → Prop} (h : wSs G19 B19 [.d x0, .d x1, .none, .none] (fun x env => E x []) (fun f env => wFl f env fun ro => Q ro [])) : wF (F19 [.d x0, .d x1]) E Q := wF_run (by simp only [wIos_io, wIos_d, wIos_nil]; exact h)
-- _law_texts
abbrev s20_0 : CS := (.asg (.nm 2) (.bin .add (.bin .add (.blt .len [(.ix (.var 0) (.cst (.int 0)))]) (.blt .len [(.ix (.var 0) (.cst (.int 2)))])) (.blt .len [(.ix (.var 0) (.cst (.int 3)))])))
abbrev s20_1 : CS := (.par [(.nm 3), (.nm 4)] [(.lst []), (.lst [(.tup [(.cst (.str [])), (.var 2)])])])
abbrev s20_3 : CS := (.asg (.nm 5) (.lst []))
abbrev s20_6 : CS := (.expr (.mut .append 3 [(.var 6)]))
abbrev b20_2 : List CS := [s20_6]
abbrev s20_5 : CS := (.ifs (.cmp .eq (.var 7) (.var 1)) b20_2 [])
abbrev s20_7 : CS := (.asg (.nm 8) (.lc (.tup [(.bin .add (.var 6) (.var 9)), (.bin .add (.bin .add (.var 7) (.blt .len [(.ix (.ix (.var 0) (.cst (.int 1))) (.var 9))])) (.blt .len [(.ix (.var 0) (.cst (.int 2)))]))]) (.nm 9) (.e (.blt .sorted [(.ix (.var 0) (.cst (.int 1)))])) none [9]))
abbrev s20_8 : CS := (.asg (.nm 5) (.bin .add (.var 5) (.lck (.var 10) (.nm 10) 8 (.cmp .le (.ix (.var 10) (.cst (.int 1))) (.var 1)) [10])))
abbrev b20_1 : List CS := [s20_5, s20_7, s20_8]
abbrev s20_4 : CS := (.fors (.tup [(.nm 6), (.nm 7)]) (.e (.var 4)) b20_1)
abbrev s20_9 : CS := (.asg (.nm 4) (.var 5))
abbrev b20_0 : List CS := [s20_3, s20_4, s20_9]
abbrev s20_2 : CS := (.whl (.and (.cmp .ne (.var 4) (.lst [])) (.cmp .lt (.bin .add (.blt .len [(.var 4)]) (.blt .len [(.var 3)])) (.cst (.int 600)))) b20_0)
abbrev s20_10 : CS := (.ret (.ite (.cmp .eq (.var 4) (.lst [])) (.blt .sorted [(.var 3)]) (.cst .non)))
abbrev B20 : List CS := [s20_0, s20_1, s20_2, s20_10]
theorem run20 {x0 : D} {x1 : D} {E : Exn → List Ob → Prop} {Q : RO → List Ob → Prop} (h : wSs G20 B20 [.d x0, .d x1, .none, .none, .none, .none, .none, .none, .none, .none, .none] (fun x env => E x []) (fun f env => wFl f env fun ro => Q ro [])) : wF (F20 [.d x0, .d x1]) E Q := wF_run (by simp only [wIos_io, wIos_d, wIos_nil]; exact h)
-- law
abbrev s21_1 : CS := (.asg (.nm 2) (.call 14 [(.var 0), (.var 1)]))
abbrev s21_3 : CS := (.asg (.nm 4) (.call 18 [(.var 2), (.bin .add (.cst (.int 1)) (.call 15 [(.var 2), (.cst (.int 4))])), (.cst (.int 3))]))
abbrev s21_4 : CS := (.asg (.nm 5) (.blt .repr [(.var 4)]))
abbrev s21_5 : CS := (.asg (.nm 6) (.bin .add (.bin .add (.blt .len [(.ix (.var 4) (.cst (.int 0)))]) (.blt .len [(.ix (.var 4) (.cst (.int 2)))])) (.blt .len [(.ix (.var 4) (.cst (.int 3)))])))
abbrev s21_7 : CS := (.asg (.nm 8) (.call 20 [(.var 4), (.var 7)]))
abbrev s21_9 : CS := .cnt
abbrev b21_3 : List CS := [s21_9]
abbrev s21_8 : CS := (.ifs (.cmp .isN (.var 8) (.cst .non)) b21_3 [])
abbrev s21_10 : CS := (.asg (.nm 9) (.lst [(.call 12 [(.var 4), (.var 7)]), (.call 12 [(.var 4), (.var 7)])]))
abbrev s21_12 : CS := (.ret (.cst (.bl false)))
abbrev b21_4 : List CS := [s21_12]
abbrev s21_11 : CS := (.ifs (.cmp .ne (.blt .repr [(.var 9)]) (.blt .repr [(.lst [(.blt .len [(.var 8)]), (.blt .len [(.var 8)])])])) b21_4 [])
abbrev s21_13 : CS := (.asg (.nm 10) (.lrg1 (.blt .len [(.var 8)])))
abbrev s21_15 : CS := (.asg (.nm 10) (.bin .add (.bin .add (.sl (.var 10) none (some (.cst (.int 5)))) (.sl (.var 10) (some (.neg (.cst (.int 5)))) none)) (.lc (.call 15 [(.var 2), (.blt .len [(.var 8)])]) (.nm 11) (.range [(.cst (.int 5))]) none [11])))
abbrev b21_5 : List CS := [s21_15]
abbrev s21_14 : CS := (.ifs (.cmp .gt (.blt .len [(.var 8)]) (.cst (.int 20))) b21_5 [])
abbrev s21_17 : CS := (.ret (.cst (.bl false)))
abbrev b21_6 : List CS := [s21_17]
abbrev s21_16 : CS := (.ifs (.cmp .ne (.lc (.call 13 [(.var 4), (.var 7), (.var 12)]) (.nm 12) (.e (.var 10)) none [12]) (.lc (.ix (.var 8) (.var 12)) (.nm 12) (.e (.var 10)) none [12])) b21_6 [])
abbrev b21_2 : List CS := [s21_7, s21_8, s21_10, s21_11, s21_13, s21_14, s21_16]
abbrev s21_6 : CS := (.fors (.nm 7) (.e (.bin .add (.lst [(.cst (.int 0)), (.cst (.int 1))]) (.lrg2 (.bin .sub (.var 6) (.cst (.int 1))) (.bin .add (.var 6) (.cst (.int 9)))))) b21_2)
abbrev s21_19 : CS := (.ret (.cst (.bl false)))
abbrev b21_7 : List CS := [s21_19]
abbrev s21_18 : CS := (.ifs (.cmp .ne (.blt .repr [(.var 4)]) (.var 5)) b21_7 [])
abbrev b21_1 : List CS := [s21_3, s21_4, s21_5, s21_6, s21_18]
abbrev s21_2 : CS := (.fors (.nm 3) (.range [(.cst (.int 4))]) b21_1)
abbrev b21_0 : List CS := [s21_1, s21_2]
abbrev s21_0 : CS := (.fors (.nm 1) (.range [(.blt .max [(.cst (.int 1)), (.blt .min [(.cst (.int 3)), (.blt .len [(.var 0)])])])]) b21_0)
abbrev s21_20 : CS := (.asg (.nm 4) (.tup [(.tup [(.cst (.int 1)), (.cst (.int 1))]), (.disp [(.s [97], (.tup [(.cst (.int 1)), (.cst (.int 2))])), (.s [98], (.tup [(.cst (.int 2)), (.cst (.int 1))])), (.s [99], (.tup [(.cst (.int 1)), (.cst (.int 1)), (.cst (.int 1))]))]), (.tup []), (.tup [(.cst (.int 1))])]))
abbrev s21_21 : CS := (.asg (.nm 9) (.bin .add (.lc (.call 12 [(.var 4), (.var 7)]) (.nm 7) (.range [(.cst (.int 11))]) none [7]) (.lc (.call 13 [(.var 4), (.cst (.int 8)), (.var 13)]) (.nm 13) (.range [(.cst (.int 4))]) none [13])))
abbrev s21_23 : CS := (.ret (.cst (.bl false)))
abbrev b21_8 : List CS := [s21_23]
abbrev s21_22 : CS := (.ifs (.cmp .ne (.var 9) (.lst [(.cst (.int 0)), (.cst (.int 0)), (.cst (.int 0)), (.cst (.int 1)), (.cst (.int 0)), (.cst (.int 2)), (.cst (.int 1)), (.cst (.int 4)), (.cst (.int 4)), (.cst (.int 9)), (.cst (.int 12)), (.cst (.str [97, 99])), (.cst (.str [98, 99])), (.cst (.str [99, 97])), (.cst (.str [99, 98]))])) b21_8 [])
abbrev s21_24 : CS := (.asg (.nm 4) (.tup [(.tup [(.cst (.int 1))]), (.disp [(.s [98], (.tup [(.cst (.int 1))])), (.s [48], (.tup [(.cst (.int 1))])), (.s [97], (.tup [(.cst (.int 2))]))]), (.tup []), (.tup [(.cst (.int 1))])]))
abbrev s21_25 : CS := (.ret (.cmp .eq (.lc (.call 13 [(.var 4), (.cst (.int 3)), (.var 13)]) (.nm 13) (.range [(.cst (.int 3))]) none [13]) (.lst [(.cst (.str [48])), (.cst (.str [97])), (.cst (.str [98]))])))
abbrev B21 : List CS := [s21_0, s21_20, s21_21, s21_22, s21_24, s21_25]
instance : Lk G21 12 ⟨[false, false], [], F12⟩ := ⟨rfl⟩
instance : Lk G21 13 ⟨[false, false, false], [], F13⟩ := ⟨rfl⟩
instance : Lk G21 14 ⟨[false, false], [], F14⟩ := ⟨rfl⟩
instance : Lk G21 15 ⟨[true, false], [], F15⟩ := ⟨rfl⟩
instance : Lk G21 18 ⟨[true, false, false], [], F18⟩ := ⟨rfl⟩
instance : Lk G21 20 ⟨[false, false], [], F20⟩ := ⟨rfl⟩
theorem run21 {x0 : D} {E : Exn → List Ob → Prop} {Q : RO → List Ob → Prop} (h : wSs G21 B21 [.d x0, .none, .none, .none, .none, .none, .none, .none, .none, .none, .none, .none, .none, .none] (fun x env => E x []) (fun f env => wFl f env fun ro => Q ro [])) : wF (F21 [.d x0]) E Q := wF_run (by simp only [wIos_io, wIos_d, wIos_nil]; exact h)
end K03

set_option Elab.async false
set_option linter.all false
set_option maxRecDepth 100000
/-! Fx23: fractions. -/
namespace Fx
open PySem
abbrev pd (a b : Int) : D := .tup [.int a, .int b]
abbrev qd (q : Rat) : D := .tup [.int q.num, .int (q.den : Int)]
def Sz (n : Nat) (q : Rat) : Prop := bits q.num ≤ n ∧ bits (q.den : Int) ≤ n
theorem q_mk {a b : Nat} : (a : Rat) / (b : Rat) = mkRat (a : Int) b := by
  rw [Rat.mkRat_eq_div]; rfl
theorem q_num {a b : Nat} (hb : 0 < b) : ((a : Rat) / (b : Rat)).num = ((a / Nat.gcd a b : Nat) : Int) := by
  rw [q_mk, Rat.num_mkRat, if_neg (by omega), Int.natAbs_natCast, Nat.gcd_comm]
  exact (Int.natCast_ediv _ _).symm
theorem q_den {a b : Nat} (hb : 0 < b) : ((a : Rat) / (b : Rat)).den = b / Nat.gcd a b := by
  rw [q_mk, Rat.den_mkRat, if_neg (by omega), Int.natAbs_natCast, Nat.gcd_comm]
theorem qd_eq {a b : Nat} (hb : 0 < b) : qd ((a : Rat) / (b : Rat)) = pd ((a / Nat.gcd a b : Nat) : Int) ((b / Nat.gcd a b : Nat) : Int) := by
  unfold qd pd
  rw [q_num hb, q_den hb]
theorem q_self (q : Rat) : (q.num : Rat) / (q.den : Rat) = q := by
  have h := Rat.mkRat_eq_div q.num q.den
  rw [Rat.mkRat_self] at h
  exact h.symm
theorem q_self' (q : Rat) : (q.num : Rat) / ((q.den : Int) : Rat) = q := q_self q
theorem q_pos (q : Rat) : (0 : Int) < (q.den : Int) := by have := q.den_pos; omega
theorem num_pos {q : Rat} (h : 0 < q) : 0 < q.num := by
  have := (Rat.lt_iff 0 q).mp h
  simpa using this
theorem q_lt {a b c d : Int} (hb : 0 < b) (hd : 0 < d) : (c : Rat) / (d : Rat) < (a : Rat) / (b : Rat) ↔ c * b < a * d := by
  have hb' : (0 : Rat) < (b : Rat) := Rat.intCast_pos.mpr hb
  have hd' : (0 : Rat) < (d : Rat) := Rat.intCast_pos.mpr hd
  rw [Rat.div_lt_iff hd', show (a : Rat) / (b : Rat) * (d : Rat) = ((a : Rat) * (d : Rat)) / (b : Rat) by simp only [Rat.div_def]; grind, Rat.lt_div_iff hb', ← Rat.intCast_mul, ← Rat.intCast_mul, Rat.intCast_lt_intCast]
theorem q_mul (a b c d : Int) : (a : Rat) / (b : Rat) * ((c : Rat) / (d : Rat)) = ((a * c : Int) : Rat) / ((b * d : Int) : Rat) := by
  rw [Rat.intCast_mul, Rat.intCast_mul, Rat.div_def, Rat.div_def, Rat.div_def, Rat.inv_mul_rev]
  grind
theorem q_inv (a b : Int) : ((a : Rat) / (b : Rat))⁻¹ = (b : Rat) / (a : Rat) := by
  rw [Rat.div_def, Rat.div_def, Rat.inv_mul_rev, Rat.inv_inv]
theorem q_div (a b c d : Int) : (a : Rat) / (b : Rat) / ((c : Rat) / (d : Rat)) = ((a * d : Int) : Rat) / ((b * c : Int) : Rat) := by
  rw [Rat.div_def, q_inv, q_mul]
theorem q_pos_of {a b : Int} (ha : 0 < a) (hb : 0 < b) : 0 < (a : Rat) / (b : Rat) := by
  rw [Rat.div_def]
  exact Rat.mul_pos (Rat.intCast_pos.mpr ha) (Rat.inv_pos.mpr (Rat.intCast_pos.mpr hb))
/-- the same fraction in lowest terms -/
theorem qd_inj {p q : Rat} (h : p = q) : qd p = qd q := by rw [h]
theorem num_le {a b : Int} (ha : 0 ≤ a) (hb : 0 < b) : 0 ≤ ((a : Rat) / (b : Rat)).num ∧ ((a : Rat) / (b : Rat)).num ≤ a ∧ (((a : Rat) / (b : Rat)).den : Int) ≤ b := by
  obtain ⟨m, rfl⟩ := Int.eq_ofNat_of_zero_le ha
  obtain ⟨n, rfl⟩ := Int.eq_ofNat_of_zero_le (Int.le_of_lt hb)
  have hn : 0 < n := by omega
  have h1 := q_num (a := m) hn
  have h2 := q_den (a := m) hn
  simp only [Rat.intCast_natCast]
  rw [h1, h2]
  refine ⟨Int.natCast_nonneg _, ?_, ?_⟩
  · exact_mod_cast Nat.div_le_self _ _
  · exact_mod_cast Nat.div_le_self _ _
theorem Sz.of {a b : Int} {n : Nat} (ha : 0 ≤ a) (hb : 0 < b) (h1 : bits a ≤ n) (h2 : bits b ≤ n) : Sz n ((a : Rat) / (b : Rat)) := by
  obtain ⟨e0, e1, e2⟩ := num_le ha hb
  exact ⟨Nat.le_trans (bits_mono e0 e1) h1, Nat.le_trans (bits_mono (by omega) e2) h2⟩
theorem Sz.up {n m : Nat} {q : Rat} (h : Sz n q) (l : n ≤ m) : Sz m q := ⟨Nat.le_trans h.1 l, Nat.le_trans h.2 l⟩
theorem q_cast {a : Int} (h : 0 ≤ a) : (a : Rat) = ((a.toNat : Nat) : Rat) := by
  obtain ⟨m, rfl⟩ := Int.eq_ofNat_of_zero_le h
  rfl
/-- greatest common divisors by the while loop: one step -/
theorem gcd_step (a b : Nat) : Nat.gcd b (a % b) = Nat.gcd a b := by rw [Nat.gcd_comm b, ← Nat.gcd_rec, Nat.gcd_comm]
theorem fuel_big {b n : Nat} (h : bits (b : Int) ≤ n) (hn : n ≤ 6600) : b < fuel := by
  have h1 := bits_to h
  rw [Int.natAbs_natCast] at h1
  have h2 : (2 : Nat) ^ (n + 1) ≤ 2 ^ 6601 := Nat.pow_le_pow_right (by decide) (by omega)
  have h3 : (2 : Nat) ^ 6601 < fuel := by decide +kernel
  omega
theorem gcd_vc {a b n : Nat} (hb : 0 < b) (h : bits (b : Int) ≤ n) (hn : n ≤ 6600) : (0 : Int) < ((Nat.gcd a b : Nat) : Int) ∧ bits ((Nat.gcd a b : Nat) : Int) < 9000 := by
  have h1 : Nat.gcd a b ≤ b := Nat.gcd_le_right a hb
  have h2 : 0 < Nat.gcd a b := Nat.gcd_pos_of_pos_right a hb
  have h3 := bits_mono (x := ((Nat.gcd a b : Nat) : Int)) (y := (b : Int)) (by omega) (by omega)
  exact ⟨by omega, by omega⟩
/-- the greater step between two numbers -/
theorem q_max {a b : Int} (ha : 0 < a) (hb : 0 < b) : ((if b > a then b else a : Int) : Rat) / ((if b < a then b else a : Int) : Rat) = max ((a : Rat) / (b : Rat)) ((b : Rat) / (a : Rat)) := by
  have e1 : ((a : Rat) / (b : Rat) ≤ (b : Rat) / (a : Rat)) ↔ a ≤ b := by
    rw [← Rat.not_lt, q_lt hb ha]
    constructor
    · intro h
      apply Classical.byContradiction
      intro h'
      have g1 : b * b ≤ b * a := Int.mul_le_mul_of_nonneg_left (by omega) (by omega)
      have g2 : b * a < a * a := Int.mul_lt_mul_of_pos_right (by omega) (by omega)
      omega
    · intro h h'
      have := Int.mul_le_mul h h (by omega) (by omega)
      omega
  rw [Rat.max_def]
  by_cases h : a ≤ b
  · rw [if_pos (e1.mpr h)]
    by_cases h2 : a < b
    · rw [if_pos (show b > a from h2), if_neg (by omega)]
    · have : a = b := by omega
      subst this
      simp
  · rw [if_neg (fun z => h (e1.mp z)), if_neg (by omega), if_pos (by omega)]
/-- a fraction, lowest terms or not: its value, its size -/
def Fq (n : Nat) (q : Rat) (d : D) : Prop := ∃ a b : Int, d = pd a b ∧ 0 < a ∧ 0 < b ∧ bits a ≤ n ∧ bits b ≤ n ∧ (a : Rat) / (b : Rat) = q
theorem Fq.qd {n : Nat} {q : Rat} (h : 0 < q) (s : Sz n q) : Fq n q (qd q) := ⟨q.num, q.den, rfl, num_pos h, q_pos q, s.1, s.2, q_self q⟩
theorem Fq.pos {n : Nat} {q : Rat} {d : D} (h : Fq n q d) : 0 < q := by
  obtain ⟨a, b, _, ha, hb, _, _, rfl⟩ := h
  exact q_pos_of ha hb
theorem Fq.sz {n : Nat} {q : Rat} {d : D} (h : Fq n q d) : Sz n q := by
  obtain ⟨a, b, _, ha, hb, s, t, rfl⟩ := h
  exact Sz.of (by omega) hb s t
theorem Fq.up {n m : Nat} {q : Rat} {d : D} (h : Fq n q d) (l : n ≤ m) : Fq m q d := by
  obtain ⟨a, b, e, ha, hb, s, t, r⟩ := h
  exact ⟨a, b, e, ha, hb, by omega, by omega, r⟩
theorem Fq.val {n : Nat} {p q : Rat} {d : D} (h : Fq n p d) (e : p = q) : Fq n q d := e ▸ h
theorem Fq.mul {n m : Nat} {p q : Rat} {a b c d : Int} (h : Fq n p (pd a b)) (k : Fq m q (pd c d)) : Fq (n + m + 2) (p * q) (pd (a * c) (b * d)) := by
  obtain ⟨a', b', e, ha, hb, s, t, r⟩ := h
  cases e
  obtain ⟨c', d', e', hc, hd, s', t', r'⟩ := k
  cases e'
  exact ⟨a * c, b * d, rfl, Int.mul_pos ha hc, Int.mul_pos hb hd, bits_mul s s', bits_mul t t', by rw [← r, ← r', q_mul]⟩
theorem Fq.inv {n : Nat} {p : Rat} {a b : Int} (h : Fq n p (pd a b)) : Fq n p⁻¹ (pd b a) := by
  obtain ⟨a', b', e, ha, hb, s, t, r⟩ := h
  cases e
  exact ⟨b, a, rfl, hb, ha, t, s, by rw [← r, q_inv]⟩
theorem bits_1 : bits 1 = 0 := by decide
theorem bits_0 : bits 0 = 0 := by decide
theorem div_1 (q : Rat) : q / ((1 : Int) : Rat) = q := by
  have : ((1 : Int) : Rat) = 1 := rfl
  rw [this]
  grind
theorem Fq.int {n : Nat} {w : Int} (h : 0 < w) (hb : bits w ≤ n) : Fq n (w : Rat) (pd w 1) := ⟨w, 1, rfl, h, by decide, hb, by rw [bits_1]; omega, div_1 _⟩
theorem Fq.one {n : Nat} : Fq n 1 (pd 1 1) := ⟨1, 1, rfl, by decide, by decide, by rw [bits_1]; omega, by rw [bits_1]; omega, div_1 _⟩
theorem q_one_le {a b : Int} (hb : 0 < b) (h : b ≤ a) : 1 ≤ (a : Rat) / (b : Rat) := by
  rw [← Rat.not_lt]
  intro h2
  have e : (1 : Rat) = ((1 : Int) : Rat) / ((1 : Int) : Rat) := by rw [div_1]; rfl
  rw [e, q_lt (by decide) hb] at h2
  omega
/-- a written fraction in lowest terms -/
theorem pd_qd {a b : Nat} (hb : 0 < b) (h : Nat.gcd a b = 1) : pd (a : Int) (b : Int) = qd (((a : Int) : Rat) / ((b : Int) : Rat)) := by
  have := qd_eq (a := a) hb
  rw [h] at this
  simp only [Nat.div_one] at this
  exact this.symm
/-- some item of a written list -/
theorem at_P {xs : List D} {r : Int} {A : D → Prop} (P : D → Prop) (h0 : 0 ≤ r) (h1 : r < xs.length) (hp : ∀ x ∈ xs, P x) (q : ∀ x, P x → A x) : wO (L2.atI xs r) A :=
  at_any h0 h1 fun x hx => q x (hp x hx)
/-- a factor -/
def Fac (n : Nat) (d : D) : Prop := ∃ q, d = qd q ∧ 1 ≤ q ∧ Sz n q
theorem Fac.of {n : Nat} {a b : Int} (hb : 0 < b) (h : b ≤ a) (ha : bits a ≤ n) : Fac n (qd ((a : Rat) / (b : Rat))) :=
  ⟨_, rfl, q_one_le hb h, Sz.of (by omega) hb ha (Nat.le_trans (bits_mono (by omega) h) ha)⟩
theorem Fac.lit (a b : Nat) {n : Nat} (hb : 0 < b) (h : b ≤ a) (hg : Nat.gcd a b = 1) (ha : bits (a : Int) ≤ n) : Fac n (pd (a : Int) (b : Int)) := by
  rw [pd_qd hb hg]
  exact Fac.of (by omega) (by omega) ha
end Fx

set_option Elab.async false
set_option linter.all false
set_option maxRecDepth 100000
/-! Fx25: repr of data: when it stays small. -/
namespace Fx
open PySem
def okK : DK → Prop
  | .i n => bits n ≤ 1900
  | .s l => ∀ c ∈ l, c < 1114112
mutual
/-- numbers below 2^1900, signs there are -/
def okR : D → Prop
  | .int i => bits i ≤ 1900
  | .str s => ∀ c ∈ s, c < 1114112
  | .tup xs => okRs xs
  | .lst xs => okRs xs
  | .dic kvs => okRk kvs
  | _ => True
def okRs : List D → Prop
  | [] => True
  | x :: xs => okR x ∧ okRs xs
def okRk : List (DK × D) → Prop
  | [] => True
  | (k, v) :: r => okK k ∧ okR v ∧ okRk r
end
def blkK : DK → Nat
  | .i _ => 0
  | .s l => l.length
mutual
def blk : D → Nat
  | .str s => s.length
  | .tup xs => blks xs
  | .lst xs => blks xs
  | .dic kvs => blkk kvs
  | _ => 0
def blks : List D → Nat
  | [] => 0
  | x :: xs => blk x + 1 + blks xs
def blkk : List (DK × D) → Nat
  | [] => 0
  | (k, v) :: r => blkK k + blk v + 2 + blkk r
end
mutual
def dpt : D → Nat
  | .tup xs => dpts xs + 1
  | .lst xs => dpts xs + 1
  | .dic kvs => dptk kvs + 1
  | _ => 0
def dpts : List D → Nat
  | [] => 0
  | x :: xs => max (dpt x) (dpts xs)
def dptk : List (DK × D) → Nat
  | [] => 0
  | (k, v) :: r => max (dpt v) (dptk r)
end
theorem int_sh {i : Int} (h : bits i ≤ 1900) : (PyData.int i).showable = true ∧ (PyData.int i).leavesShort 600 = true := by
  have h2 : i.natAbs < 2 ^ 1901 := bits_to h
  have h3 : (2 : Nat) ^ 1901 ≤ 10 ^ 573 := by decide +kernel
  have h4 : i.natAbs < 10 ^ 573 := Nat.lt_of_lt_of_le h2 h3
  have e := int_text_length_le10 (k := 573) (by decide) h4
  refine ⟨?_, ?_⟩
  · unfold bits at h
    simp only [decide_eq_true_eq, PyData.showable]
    omega
  · simp only [PyData.leavesShort, decide_eq_true_eq]
    have e2 : (PyData.shown (.int i)).length = (toString i).length := by
      show (Str.ofString (toString i)).length = _
      exact ofString_length _
    rw [e2]
    omega
theorem str_sh {s : List Nat} (h : ∀ c ∈ s, c < 1114112) : (PyData.str (mkS s)).showable = true ∧ (PyData.str (mkS s)).leavesShort 600 = true := by
  refine ⟨rfl, ?_⟩
  simp only [PyData.leavesShort, List.all_eq_true, decide_eq_true_eq, mkS]
  intro c hc
  have := h c (by simpa using hc)
  have : (1114112 : Nat) ≤ 16 ^ 8 := by decide
  omega
theorem key_sh {k : DK} (h : okK k) : (toPy k.toD).showable = true ∧ (toPy k.toD).leavesShort 600 = true := by
  cases k with
  | i n => exact int_sh h
  | s l => exact str_sh h
mutual
theorem repr_sh : ∀ (d : D), okR d → (toPy d).showable = true ∧ (toPy d).leavesShort 600 = true
  | .non, _ => ⟨rfl, rfl⟩
  | .bl b, _ => ⟨rfl, rfl⟩
  | .int i, h => int_sh h
  | .str s, h => str_sh h
  | .tup xs, h => by
    have := reprs_sh xs h
    simpa [toPy, PyData.showable, PyData.leavesShort] using this
  | .lst xs, h => by
    have := reprs_sh xs h
    simpa [toPy, PyData.showable, PyData.leavesShort] using this
  | .dic kvs, h => by
    have := reprk_sh kvs h
    simpa [toPy, PyData.showable, PyData.leavesShort] using this
theorem reprs_sh : ∀ (d : List D), okRs d → PyData.showableAll (toPys d) = true ∧ PyData.leavesShortAll 600 (toPys d) = true
  | [], _ => ⟨rfl, rfl⟩
  | x :: xs, h => by
    obtain ⟨h1, h2⟩ := h
    obtain ⟨a, b⟩ := repr_sh x h1
    obtain ⟨c, d⟩ := reprs_sh xs h2
    simp [toPys, PyData.showableAll, PyData.leavesShortAll, a, b, c, d]
theorem reprk_sh : ∀ (d : List (DK × D)), okRk d → PyData.showableKv (toPyk d) = true ∧ PyData.leavesShortKv 600 (toPyk d) = true
  | [], _ => ⟨rfl, rfl⟩
  | (k, v) :: r, h => by
    obtain ⟨h1, h2, h3⟩ := h
    obtain ⟨a, b⟩ := repr_sh v h2
    obtain ⟨c, d⟩ := reprk_sh r h3
    obtain ⟨e, f⟩ := key_sh h1
    cases k with
    | i n =>
      have e : (PyData.int n).showable = true := e
      have f : (PyData.int n).leavesShort 600 = true := f
      simp [toPyk, PyData.showableKv, PyData.leavesShortKv, a, b, c, d, e, f]
    | s l =>
      have e : (PyData.str (mkS l)).showable = true := e
      have f : (PyData.str (mkS l)).leavesShort 600 = true := f
      simp [toPyk, PyData.showableKv, PyData.leavesShortKv, a, b, c, d, e, f]
end
mutual
theorem blk_eq : ∀ (d : D), (toPy d).bulk = blk d
  | .non => rfl
  | .bl b => rfl
  | .int i => rfl
  | .str s => by simp [toPy, PyData.bulk, blk, mkS]
  | .tup xs => by simp [toPy, PyData.bulk, blk, blks_eq xs]
  | .lst xs => by simp [toPy, PyData.bulk, blk, blks_eq xs]
  | .dic kvs => by simp [toPy, PyData.bulk, blk, blkk_eq kvs]
theorem blks_eq : ∀ (d : List D), PyData.bulkAll (toPys d) = blks d
  | [] => rfl
  | x :: xs => by simp [toPys, PyData.bulkAll, blks, blk_eq x, blks_eq xs]
theorem blkk_eq : ∀ (d : List (DK × D)), PyData.bulkKv (toPyk d) = blkk d
  | [] => rfl
  | (k, v) :: r => by
    cases k <;> simp [toPyk, PyData.bulkKv, PyData.bulk, blkk, blkK, blk_eq v, blkk_eq r, mkS]
end
mutual
theorem dpt_eq : ∀ (d : D), (toPy d).depth = dpt d
  | .non => rfl
  | .bl b => rfl
  | .int i => rfl
  | .str s => rfl
  | .tup xs => by simp [toPy, PyData.depth, dpt, dpts_eq xs]
  | .lst xs => by simp [toPy, PyData.depth, dpt, dpts_eq xs]
  | .dic kvs => by simp [toPy, PyData.depth, dpt, dptk_eq kvs]
theorem dpts_eq : ∀ (d : List D), PyData.depthAll (toPys d) = dpts d
  | [] => rfl
  | x :: xs => by simp [toPys, PyData.depthAll, dpts, dpt_eq x, dpts_eq xs]
theorem dptk_eq : ∀ (d : List (DK × D)), PyData.depthKv (toPyk d) = dptk d
  | [] => rfl
  | (k, v) :: r => by
    cases k <;> simp [toPyk, PyData.depthKv, PyData.depth, dptk, dpt_eq v, dptk_eq r]
end
/-- repr gives a text -/
theorem repr_vc {d : D} (h : okR d) (hb : blk d ≤ 1500) (hd : dpt d ≤ 40) : (toPy d).showable = true ∧ (toPy d).shown.length ≤ 1000000 ∧ (toPy d).depth ≤ 40 := by
  obtain ⟨h1, h2⟩ := repr_sh d h
  have h3 := PyData.shown_le_bulk 600 (by decide) (toPy d) h2
  rw [blk_eq] at h3
  refine ⟨h1, ?_, by rw [dpt_eq]; exact hd⟩
  omega
theorem okRs_map {α : Type} {f : α → D} : ∀ {l : List α}, (∀ x ∈ l, okR (f x)) → okRs (l.map f)
  | [], _ => trivial
  | x :: l, h => ⟨h x (by simp), okRs_map fun y hy => h y (by simp [hy])⟩
theorem blks_map {α : Type} {f : α → D} {n : Nat} : ∀ {l : List α}, (∀ x ∈ l, blk (f x) ≤ n) → blks (l.map f) ≤ (n + 1) * l.length
  | [], _ => by simp [blks]
  | x :: l, h => by
    have h1 := h x (by simp)
    have h2 := blks_map (l := l) fun y hy => h y (by simp [hy])
    simp only [List.map_cons, blks, List.length_cons, Nat.mul_succ]
    omega
theorem dpts_map {α : Type} {f : α → D} {n : Nat} : ∀ {l : List α}, (∀ x ∈ l, dpt (f x) ≤ n) → dpts (l.map f) ≤ n
  | [], _ => by simp [dpts]
  | x :: l, h => by
    have h1 := h x (by simp)
    have h2 := dpts_map (l := l) fun y hy => h y (by simp [hy])
    simp only [List.map_cons, dpts]
    omega
end Fx

set_option Elab.async false
set_option linter.all false
set_option maxRecDepth 100000
/-! Fx32: weakest premises of dicts, sorted, join. -/
namespace Fx
open PySem
section
variable {Γ : FT} {env : Cells} {E : Exn → Cells → Prop} {Q : R → Cells → Prop} {K : RO → Prop} {B : Bool → Prop} {L : List D → Prop}
def wKs (Γ : FT) (ks : List (DK × CE)) (env : Cells) (E : Exn → Cells → Prop) (P : List (DK × D) → Cells → Prop) : Prop := wR (evKs Γ ks env) E P
theorem wE_disp {ks : List (DK × CE)} : wE Γ (.disp ks) env E Q = wKs Γ ks env E fun kvs env1 => Q (.new (.dic (putAll kvs))) env1 := by
  unfold wE
  rw [ev, of_v]
  unfold doDisp
  rw [wR_bind]
  unfold wKs
  refine congrArg _ (funext fun xs => funext fun env1 => ?_)
  rw [wR_ok]
  rfl
theorem wKs_nil {P : List (DK × D) → Cells → Prop} : wKs Γ [] env E P = P [] env := by
  unfold wKs
  rw [evKs, wR_ok]
theorem wKs_cons {k : DK} {c : CE} {ks : List (DK × CE)} {P : List (DK × D) → Cells → Prop} : wKs Γ ((k, c) :: ks) env E P = wE Γ c env E fun r env1 => wZ r env1 fun x env2 => wKs Γ ks env2 E fun kvs env3 => P ((k, x) :: kvs) env3 := by
  unfold wKs wE wZ
  rw [evKs, wR_bind]
  refine congrArg _ (funext fun r => funext fun env1 => ?_)
  cases frz env1 r with
  | none => simp only [wR_bad, wO_none]
  | some p =>
    obtain ⟨x, env2⟩ := p
    simp only [wO_some, wR_bind, wR_ok]
theorem wk_lst {xs : List D} : wO (walkOf (.lst xs)) L = L xs := wO_some
theorem wk_tup {xs : List D} : wO (walkOf (.tup xs)) L = L xs := wO_some
theorem wk_str {xs : List Nat} : wO (walkOf (.str xs)) L = L (xs.map fun c => .str [c]) := wO_some
theorem wk_dic {kvs : List (DK × D)} : wO (walkOf (.dic kvs)) L = L (kvs.map fun p => p.1.toD) := wO_some
theorem wk_items {kvs : List (DK × D)} : wO (itemsL (.dic kvs)) L = L (kvs.map fun p => .tup [p.1.toD, p.2]) := wO_some
theorem wk_vals {kvs : List (DK × D)} : wO (valuesL (.dic kvs)) L = L (kvs.map fun p => p.2) := wO_some
theorem d_mult {a : List D} {k : Int} : wO (binD .mul (.tup a) (.int k)) K = ((a.length * k.toNat ≤ lim ∧ k.natAbs ≤ lim) ∧ K (.d (.tup (List.replicate k.toNat a).flatten))) := wO_itS
theorem c_isB {a b : Bool} : wO (cmpD .isN (.bl a) (.bl b)) B = B (decide (a = b)) := wO_some
theorem c_notB {a b : Bool} : wO (cmpD .notN (.bl a) (.bl b)) B = B (!decide (a = b)) := wO_some
theorem asI_of {ns : List Int} : asInts (ns.map D.int) = some ns := by
  induction ns with
  | nil => rfl
  | cons n ns ih => rw [List.map_cons, asInts, ih]; rfl
theorem asS_of {ss : List (List Nat)} : asStrs (ss.map D.str) = some ss := by
  induction ss with
  | nil => rfl
  | cons n ns ih => rw [List.map_cons, asStrs, ih]; rfl
theorem b_sortD {kvs : List (DK × D)} : wO (bltD .sorted [.dic kvs]) K = wO (keyStrs kvs) fun ks => ks.length < 64 ∧ K (.new (.lst ((sortT ks).map .str))) := by
  show wO (Option.bind _ _) K = _
  rw [wO_bind]
  exact congrArg _ (funext fun ks => wO_itS)
theorem b_dict {ps : List D} : wO (bltD .dict [.lst ps]) K = (ps.length ≤ lim ∧ wO (asPairs ps) fun kvs => K (.new (.dic (putAll kvs)))) := by
  show wO (if _ then _ else _) K = _
  rw [wO_ite, wO_map]
theorem b_str {i : Int} : wO (bltD .str [.int i]) K = (bits i < 1920 ∧ K (.d (.str (intS i)))) := wO_itS
theorem b_lists {s : List Nat} : wO (bltD .list [.str s]) K = (s.length ≤ lim ∧ K (.new (.lst (s.map fun c => .str [c])))) := wO_itS
theorem m_join {s : List Nat} {ss : List (List Nat)} : wO (mthD .join (.str s) [.lst (ss.map .str)]) K = ((ss.map (·.length)).sum + ss.length * s.length ≤ lim ∧ K (.d (.str (joinL s ss)))) := by
  show wO (Option.bind (asStrs _) _) K = _
  rw [asS_of]
  exact wO_itS
theorem c_inS {c : Nat} {b : List Nat} : wO (cmpD .isin (.str [c]) (.str b)) B = B (b.contains c) := wO_some
theorem c_inD {x : D} {kvs : List (DK × D)} : wO (cmpD .isin x (.dic kvs)) B = wO (keyOf x) fun k => B (look k kvs).isSome := by
  have e : cmpD .isin x (.dic kvs) = (keyOf x).map fun k => (look k kvs).isSome := by cases x <;> rfl
  rw [e, wO_map]
theorem c_ninD {x : D} {kvs : List (DK × D)} : wO (cmpD .notin x (.dic kvs)) B = wO (keyOf x) fun k => B (!(look k kvs).isSome) := by
  have e : cmpD .notin x (.dic kvs) = ((keyOf x).map fun k => (look k kvs).isSome).map (! ·) := by cases x <;> rfl
  rw [e, wO_map, wO_map]
theorem c_eqe : wO (cmpD .eq (.lst []) (.lst [])) B = B true := wO_some
theorem c_nee : wO (cmpD .ne (.lst []) (.lst [])) B = B false := wO_some
theorem c_lts {a b : List Nat} : wO (cmpD .lt (.str a) (.str b)) B = B (ltS a b) := wO_some
/-- the least of texts -/
def wMinT (ks : List (List Nat)) (P : List Nat → Prop) : Prop :=
  match ks with
  | [] => False
  | x :: r => P (minT x r)
theorem b_minD {kvs : List (DK × D)} : wO (bltD .min [.dic kvs]) K = wO (keyStrs kvs) fun ks => wMinT ks fun t => K (.d (.str t)) := by
  show wO (Option.bind _ _) K = _
  rw [wO_bind]
  refine congrArg _ (funext fun ks => ?_)
  cases ks with
  | nil => rw [wO_none]; rfl
  | cons x r => rw [wO_some]; rfl
theorem b_listd {kvs : List (DK × D)} : wO (bltD .list [.dic kvs]) K = K (.new (.lst (kvs.map fun p => p.1.toD))) := wO_some
/-- data alike and not -/
theorem c_eq {x y : D} (h1 : flatD 40 x = true) (h2 : flatD 40 y = true) : wO (cmpD .eq x y) B = B (eqD x y) := by
  have e : cmpD .eq x y = some (eqD x y) := by
    cases x <;> cases y <;> first | rfl | (simp only [cmpD]; rw [if_pos ⟨h1, h2⟩])
  rw [e, wO_some]
theorem c_ne {x y : D} (h1 : flatD 40 x = true) (h2 : flatD 40 y = true) : wO (cmpD .ne x y) B = B (!eqD x y) := by
  have e : cmpD .ne x y = some (!eqD x y) := by
    cases x <;> cases y <;> first | rfl | (simp only [cmpD]; rw [if_pos ⟨h1, h2⟩])
  rw [e, wO_some]
theorem wLc_inv {xs : List D} {own : List Nat} {t : Tg} {c : Option CE} {el : CE} {K : List D → Cells → Prop} (I : Nat → List D → Cells → Prop) (h0 : I 0 [] env)
    (hs : ∀ (i : Nat) (x : D) (acc : List D) (e : Cells), xs[i]? = some x → I i acc e → wAd t x (wipeC e own) fun env1 => wEc Γ c env1 E fun b env2 =>
      (b = true → wE Γ el env2 E fun r env3 => wZ r env3 fun y env4 => (acc.length < lim ∧ own.any (isOb env4) = false) ∧ I (i + 1) (acc ++ [y]) env4) ∧
      (b = false → own.any (isOb env2) = false ∧ I (i + 1) acc env2))
    (hd : ∀ acc e, I xs.length acc e → K acc e) : wLc Γ own t c el xs [] env E K := by
  have := wLc_map (Γ := Γ) (E := E) (f := fun x : D => x) (l := xs) (own := own) (t := t) (c := c) (el := el) (K := K) I h0 hs hd
  simpa using this
theorem wE_lrg1 {a : CE} : wE Γ (.lrg1 a) env E Q = wE Γ a env E fun x env1 => wG x env1 fun dx => wO (rg1D dx) fun r => Q r.toR env1 := by
  unfold wE
  rw [ev, of_v, w1]
  simp only [wO_map]
theorem wE_lrg2 {a b : CE} : wE Γ (.lrg2 a b) env E Q = wE Γ a env E fun x env1 => wE Γ b env1 E fun y env2 => wG x env2 fun dx => wG y env2 fun dy => wO (rg2D dx dy) fun r => Q r.toR env2 := by
  unfold wE
  rw [ev, of_v, w2]
  simp only [wO_map]
theorem wE_lvs {a : CE} : wE Γ (.lvs a) env E Q = wE Γ a env E fun x env1 => wG x env1 fun dx => wO (valsD dx) fun r => Q r.toR env1 := by
  unfold wE
  rw [ev, of_v, w1]
  simp only [wO_map]
theorem wE_lit {a : CE} : wE Γ (.lit a) env E Q = wE Γ a env E fun x env1 => wG x env1 fun dx => wO (itsD dx) fun r => Q r.toR env1 := by
  unfold wE
  rw [ev, of_v, w1]
  simp only [wO_map]
theorem d_rg1 {n : Int} : wO (rg1D (.int n)) K = (n.natAbs ≤ lim ∧ K (.new (.lst (rangeL 0 n.toNat 1)))) := wO_itS
theorem d_rg2 {a b : Int} : wO (rg2D (.int a) (.int b)) K = ((a.natAbs ≤ lim ∧ b.natAbs ≤ lim) ∧ K (.new (.lst (rangeL a (b - a).toNat 1)))) := wO_itS
theorem d_vals {kvs : List (DK × D)} : wO (valsD (.dic kvs)) K = K (.new (.lst (kvs.map fun p => p.2))) := wO_some
theorem d_its {kvs : List (DK × D)} : wO (itsD (.dic kvs)) K = K (.new (.lst (kvs.map fun p => .tup [p.1.toD, p.2]))) := wO_some
/-- a comprehension over what a slot holds -/
def wKc (cell : Cell) (A : List D → Prop) (B : Prop) : Prop :=
  match cell with
  | .o (.lst ds) => A ds
  | _ => B
theorem wKc_o {ds : List D} {A : List D → Prop} {B : Prop} : wKc (.o (.lst ds)) A B = A ds := rfl
theorem wKc_d {x : D} {A : List D → Prop} {B : Prop} : wKc (.d x) A B = B := rfl
theorem wE_lck {el : CE} {t : Tg} {i : Nat} {c : CE} {own : List Nat} : wE Γ (.lck el t i c own) env E Q =
    wLook env i fun cell => wKc cell (fun ds => (own.contains i || own.any (isOb env)) = false ∧ wSet env i .none fun env1 => wLc Γ own t (some c) el ds [] env1 E fun ys env2 => wSet (restC env1 env2 own) i (.o (.lst ds)) fun e => Q (.new (.lst ys)) e)
      (wE Γ (.lc el t (.e (.var i)) (some c) own) env E Q) := by
  have pl : wE Γ (.lc el t (.e (.var i)) (some c) own) env E Q = wR (doLc (ev Γ el).v t (doIt1 walkOf (doVar i)) (ev Γ c).t own env) E Q := by
    unfold wE
    rw [ev, of_v]
    have e1 : evI Γ (.e (.var i)) = doIt1 walkOf (doVar i) := by funext e; rw [evI, ev]; rfl
    have e2 : evC Γ (some c) = (ev Γ c).t := by funext e; rw [evC]
    rw [e1, e2]
  rw [pl, wLook_eq]
  unfold wE
  rw [ev, of_v]
  unfold doLck
  cases ei : env[i]? with
  | none =>
    rw [wO_none]
    unfold doLc doIt1 doVar
    rw [ei]
    exact wR_bad
  | some cell =>
    rw [wO_some]
    cases cell with
    | o b =>
      cases b with
      | lst ds =>
        rw [wKc_o]
        simp only [wSet_eq]
        rw [wR_if, wR_bind]
        unfold wLc
        cases (own.contains i || own.any (isOb env)) <;> simp [wR_bad, wR_ok, evC]
      | dic kvs => rfl
    | d x => rfl
    | io b => rfl
    | none => rfl
/-- a dict comprehension's turns -/
def wDc (Γ : FT) (own : List Nat) (t : Tg) (c : Option CE) (k el : CE) (xs : List D) (acc : List (DK × D)) (env : Cells) (E : Exn → Cells → Prop) (P : List (DK × D) → Cells → Prop) : Prop :=
  wR (dcRun own t (evC Γ c) (ev Γ k).v (ev Γ el).v xs acc env) E P
theorem wE_dc {k el : CE} {t : Tg} {it : It} {c : Option CE} {own : List Nat} : wE Γ (.dc k el t it c own) env E Q =
    wI Γ it env E fun xs env1 => own.any (isOb env1) = false ∧ wDc Γ own t c k el xs [] env1 E fun ys env2 => Q (.new (.dic ys)) (restC env1 env2 own) := by
  unfold wE
  rw [ev, of_v]
  unfold doDc
  rw [wR_bind]
  unfold wI
  refine congrArg _ (funext fun xs => funext fun env1 => ?_)
  rw [wR_if]
  unfold wDc
  rw [wR_bind]
  cases own.any (isOb env1) <;> simp [wR_bad, wR_ok]
theorem wDc_nil {own : List Nat} {t : Tg} {c : Option CE} {k el : CE} {acc : List (DK × D)} {P : List (DK × D) → Cells → Prop} : wDc Γ own t c k el [] acc env E P = P acc env := by
  unfold wDc; rw [dcRun, wR_ok]
/-- a key come as data -/
def wKy (r : R) (P : DK → Prop) : Prop := match r with
  | .d d => wO (keyOf d) P
  | _ => False
theorem wKy_i {i : Int} {P : DK → Prop} : wKy (.d (.int i)) P = P (.i i) := wO_some
theorem wKy_s {s : List Nat} {P : DK → Prop} : wKy (.d (.str s)) P = P (.s s) := wO_some
theorem wDc_cons {own : List Nat} {t : Tg} {c : Option CE} {k el : CE} {x : D} {xs : List D} {acc : List (DK × D)} {P : List (DK × D) → Cells → Prop} : wDc Γ own t c k el (x :: xs) acc env E P =
    wAd t x (wipeC env own) fun env1 => wEc Γ c env1 E fun b env2 =>
      (b = true → wE Γ k env2 E fun kr env3 => wKy kr fun kk => wE Γ el env3 E fun r env4 => wZ r env4 fun y env5 => (acc.length < lim ∧ own.any (isOb env5) = false) ∧ wDc Γ own t c k el xs (put acc kk y) env5 E P) ∧
      (b = false → own.any (isOb env2) = false ∧ wDc Γ own t c k el xs acc env2 E P) := by
  unfold wDc wAd wEc wE
  rw [dcRun]
  cases asgD t x (wipeC env own) with
  | none => rw [wO_none, wR_bad]
  | some env1 =>
    rw [wO_some]
    show wR ((evC Γ c env1).bind _) E P = _
    rw [wR_bind]
    refine congrArg _ (funext fun b => funext fun env2 => ?_)
    rw [wR_if, wR_bind, wR_ite]
    refine congrArg (fun z => (b = true → z) ∧ _) ?_
    refine congrArg _ (funext fun kr => funext fun env3 => ?_)
    cases kr with
    | own i => exact wR_bad
    | new o => exact wR_bad
    | d kd =>
      unfold wKy
      simp only
      cases keyOf kd with
      | none => rw [wO_none, wR_bad]
      | some kk =>
        rw [wO_some]
        show wR (((ev Γ el).v env3).bind _) E P = _
        rw [wR_bind]
        refine congrArg _ (funext fun r => funext fun env4 => ?_)
        unfold wZ
        cases frz env4 r with
        | none => rw [wO_none, wR_bad]
        | some p => with_unfolding_all exact wR_ite
/-- by an invariant -/
theorem wDc_inv {xs : List D} {own : List Nat} {t : Tg} {c : Option CE} {k el : CE} {K : List (DK × D) → Cells → Prop} (I : Nat → List (DK × D) → Cells → Prop) (h0 : I 0 [] env)
    (hs : ∀ (i : Nat) (x : D) (acc : List (DK × D)) (e : Cells), xs[i]? = some x → I i acc e → wAd t x (wipeC e own) fun env1 => wEc Γ c env1 E fun b env2 =>
      (b = true → wE Γ k env2 E fun kr env3 => wKy kr fun kk => wE Γ el env3 E fun r env4 => wZ r env4 fun y env5 => (acc.length < lim ∧ own.any (isOb env5) = false) ∧ I (i + 1) (put acc kk y) env5) ∧
      (b = false → own.any (isOb env2) = false ∧ I (i + 1) acc env2))
    (hd : ∀ acc e, I xs.length acc e → K acc e) : wDc Γ own t c k el xs [] env E K := by
  have run : ∀ (left i : Nat) (acc : List (DK × D)) (e : Cells), i + left = xs.length → I i acc e → wDc Γ own t c k el (xs.drop i) acc e E K := by
    intro left
    induction left with
    | zero =>
      intro i acc e hi at_i
      obtain rfl : i = xs.length := hi
      rw [List.drop_length, wDc_nil]
      exact hd acc e at_i
    | succ left on =>
      intro i acc e hi at_i
      have lt : i < xs.length := by omega
      rw [List.drop_eq_getElem_cons lt, wDc_cons]
      have h := hs i xs[i] acc e (List.getElem?_eq_getElem lt) at_i
      unfold wAd at h ⊢
      refine wO_mono h fun env1 h1 => ?_
      unfold wEc at h1 ⊢
      refine wR_mono h1 fun b env2 h2 => ⟨fun hb => ?_, fun hb => ?_⟩
      · have h3 := h2.1 hb
        unfold wE at h3 ⊢
        refine wR_mono h3 fun kr env3 h4 => ?_
        unfold wKy at h4 ⊢
        cases kr with
        | own i => exact h4
        | new o => exact h4
        | d kd =>
          refine wO_mono h4 fun kk h5 => wR_mono h5 fun r env4 h6 => ?_
          unfold wZ at h6 ⊢
          exact wO_mono h6 fun p h7 => ⟨h7.1, on (i + 1) _ _ (by omega) h7.2⟩
      · have h3 := h2.2 hb
        exact ⟨h3.1, on (i + 1) _ _ (by omega) h3.2⟩
  exact run xs.length 0 [] env (Nat.zero_add _) h0
/-- list.index -/
def wLk (r : R) (env : Cells) (P : Prop) : Prop := isLst (r.get env) = true ∧ P
theorem wLk_d {xs : List D} {P : Prop} : wLk (.d (.lst xs)) env P = P := by
  unfold wLk; simp [R.get, isLst]
theorem wLk_own {i : Nat} {xs : List D} {P : Prop} (h : obAt env i = some (.lst xs)) (p : P) : wLk (.own i) env P := by
  unfold wLk
  refine ⟨?_, p⟩
  unfold obAt at h
  cases e : env[i]? with
  | none => rw [e] at h; cases h
  | some c =>
    rw [e] at h
    cases c with
    | o b => cases (h : some b = _); simp [R.get, e, Ob.toD, isLst]
    | io b => cases (h : some b = _); simp [R.get, e, Ob.toD, isLst]
    | d x => cases h
    | none => cases h
theorem wE_idx {a b : CE} : wE Γ (.idx a b) env E Q = wE Γ a env E fun x env1 => wLk x env1 (wE Γ b env1 E fun y env2 => wG x env2 fun dx => wG y env2 fun dy => wO (idxD dx dy) fun r => Q r.toR env2) := by
  unfold wE
  rw [ev, of_v, w2]
  unfold chkL
  rw [wR_bind]
  refine congrArg _ (funext fun x => funext fun env1 => ?_)
  unfold wLk
  rw [wR_if]
  simp only [wR_ok, wR_bad, wO_map]
  cases isLst (x.get env1) <;> simp
theorem d_idx {xs : List D} {y : D} {j : Nat} {P : RO → Prop} (h1 : flatD 40 (.lst xs) = true) (h2 : flatD 40 y = true) (h3 : (xs.findIdx? fun x => eqD x y) = some j) : wO (idxD (.lst xs) y) P = P (.d (.int (j : Nat))) := by
  have e : idxD (.lst xs) y = some (.d (.int (j : Nat))) := by
    simp only [idxD]
    rw [if_pos ⟨h1, h2⟩, h3]
    rfl
  rw [e, wO_some]
end
end Fx

set_option Elab.async false
set_option linter.all false
set_option maxRecDepth 100000
set_option maxHeartbeats 800000
namespace K03
open PySem Fx
local macro_rules
  | `(tactic| array_get_dec) => `(tactic| try simp only [↓wO_some, ↓wO_none, ↓wO_map, ↓wO_bind, ↓wO_ite, ↓wLook_0, ↓wLook_s, ↓wSet_0, ↓wSet_s, ↓wCv_d, ↓wCv_o, ↓wCv_io, ↓wCg_d, ↓wCg_ol, ↓wCg_iol, ↓wCg_od, ↓wCg_iod, ↓wG_d, ↓wG_nl, ↓wG_nd, ↓wG_own, ↓wCz_d, ↓wCz_ol, ↓wCz_od, ↓wZ_d, ↓wZ_nl, ↓wZ_nd, ↓wZ_own, ↓wGs_nil, ↓wGs_cons, ↓wZs_nil, ↓wZs_cons, ↓wCo_o, ↓wCo_io, ↓wCp_o, ↓wCp_io, ↓wCs_eq, ↓wAd_nm, ↓wAd_tup, ↓wAds_nil, ↓wAds_cons, ↓wA_d, ↓wA_n, ↓wA_own, ↓wA_tup, ↓wAs_nil, ↓wAs_cons, ↓wD_bl, ↓wD_non, ↓wD_int, ↓wD_lst, ↓wD_tup, ↓wD_str, ↓wB_bl, ↓wE_var, ↓wT_var, ↓wE_cst, ↓wT_cst, ↓wE_bin, ↓wT_bin, ↓wE_neg, ↓wE_not, ↓wT_not, ↓wE_cmp, ↓wT_cmp, ↓wE_chain, ↓wT_chain, ↓wE_and, ↓wE_or, ↓wT_and, ↓wT_or, ↓wE_ite, ↓wT_ite, ↓wE_tup, ↓wE_lst, ↓wT_tup, ↓wT_lst, ↓wE_blt, ↓wT_blt, ↓wE_isinst, ↓wT_isinst, ↓wE_mth, ↓wE_ix, ↓wT_ix, ↓wEo_none, ↓wN_int, ↓wEo_some, ↓wE_sl, ↓wE_rev, ↓wEs_nil, ↓wEs_cons, ↓wE_mut, ↓wPre_nil, ↓wPre_io, ↓wPre_d, ↓wArg_nil, ↓wArg_d, ↓wArg_io, ↓wBack_nil, ↓wBack_cons, ↓wE_call, ↓wT_call, ↓wC_0, ↓wC_1, ↓wCc_go, ↓wI_e, ↓wI_items, ↓wI_values, ↓wI_enum, ↓wI_zip, ↓wI_range, ↓wE_col, ↓wEc_none, ↓wEc_some, ↓wE_lc, ↓wK_next, ↓wK_ret, ↓wK_brk, ↓wK_cnt, ↓wKl_next, ↓wKl_cnt, ↓wKl_brk, ↓wKl_ret, ↓wS_asg, ↓wPar_t, ↓wPar_f, ↓wS_par, ↓wS_set, ↓wS_expr, ↓wS_ifs, ↓wS_ret, ↓wS_retN, ↓wS_brk, ↓wS_cnt, ↓wS_pas, ↓wS_never, ↓wCa_int, ↓wS_aug, ↓wS_fors, ↓wS_whl, ↓wCr_o, ↓wCr_d, ↓wOut_d, ↓wOut_n, ↓wOut_own, ↓wFl_next, ↓wFl_ret, ↓wIo_io, ↓d_add, ↓d_sub, ↓d_mul, ↓d_fdiv, ↓d_mod, ↓d_pow, ↓d_adds, ↓d_addl, ↓d_addt, ↓d_mull, ↓d_muls, ↓d_neg, ↓c_lt, ↓c_le, ↓c_gt, ↓c_ge, ↓c_eqi, ↓c_nei, ↓c_eqb, ↓c_neb, ↓c_eqs, ↓c_nes, ↓c_in3, ↓c_isN_non, ↓c_isN_int, ↓c_isN_tup, ↓c_isN_lst, ↓c_isN_str, ↓c_isN_bl, ↓c_isN_dic, ↓c_notN_non, ↓c_notN_int, ↓c_notN_tup, ↓c_notN_lst, ↓c_notN_str, ↓c_notN_bl, ↓c_notN_dic, ↓b_lens, ↓b_lenl, ↓b_lent, ↓b_lend, ↓b_abs, ↓b_max, ↓b_min, ↓b_inti, ↓b_intb, ↓b_listl, ↓b_listt, ↓b_tupl, ↓b_tupt, ↓b_repr, ↓b_all, ↓b_any, ↓b_sum, ↓asB_nil, ↓asB_cons, ↓asB_map, ↓asI_nil, ↓asI_cons, ↓asI_map, ↓m_append, ↓m_extend, ↓m_extendt, ↓i_lst, ↓i_tup, ↓i_str, ↓r_1, ↓r_2, ↓e_1, ↓z_l, ↓z_2, ↓s_l, ↓s_t, ↓s_s, ↓v_l, ↓v_s, ↓x_l, ↓x_t, ↓x_s, ↓x_d, ↓k_i, ↓k_s, ↓u_add, ↓u_sub, ↓toR_d, ↓toR_n, ↓wPut_s, ↓wPut_o, ↓wPut_io, ↓at_0, ↓at_1, ↓at_2, ↓at_3, ↓at_4, ↓at_5, ↓at_m1, ↓wLast_1, ↓wLast_s, ↓wLast_app, ↓setD_l, ↓setD_d, ↓ixN_0, ↓ixN_1, ↓ixN_2, ↓br_t, ↓br_f, ↓wL_nil, ↓wLc_nil, ↓wSs_nil, enumL, zipL, dfl2, List.drop_succ_cons, List.drop_zero, Fre_io, Fre_o, Fre_d, Fre_n, obAt_s, obAt_0o, obAt_0io, obAt_0d, obAt_0n, isL_s, isL_o, isL_io, isOb_s, isOb_0d, isOb_0n, ioIdx_nil, ioIdx_d, ioIdx_io, wipeC_nil, wipeC_cons, restC_nil, restC_cons, noOwn_nil, noOwn_d, noOwn_n, noOwn_o, lim_is, tyD, argCell, Option.isSome_some, List.set_cons_succ, List.set_cons_zero, List.getElem?_cons_succ, List.getElem?_cons_zero, Option.getD_some, List.any_cons, List.any_nil, List.nodup_nil, List.nodup_cons, List.not_mem_nil, List.mem_cons, List.length_cons, List.length_nil, List.length_map, Nat.zero_add, true_and, and_true, forall_const, reduceCtorEq, false_implies, true_implies, Bool.not_true, Bool.not_false, Bool.or_false, Bool.false_or, Bool.or_true, Bool.true_or, Bool.and_true, Bool.true_and, Bool.and_false, Bool.false_and, Bool.not_eq_true, Bool.not_eq_false, Bool.not_eq_true', Bool.not_eq_false', decide_eq_true_eq, decide_eq_false_iff_not, Bool.false_eq_true, Bool.true_eq_false, beq_iff_eq, beq_eq_false_iff_ne, ne_eq, not_false_eq_true, not_true_eq_false, List.cons_append, List.nil_append, List.map_cons, List.map_nil, Bool.decide_eq_true, Int.toNat_natCast, Int.natAbs_natCast, abs_lit, Int.cast_ofNat_Int, Nat.reduceAdd, Nat.reduceMul, Nat.reduceSub, Nat.reduceLeDiff, Nat.reduceLT, Nat.reduceGT, Nat.reduceEqDiff, Int.reduceAdd, Int.reduceMul, Int.reduceSub, Int.reduceNeg, Int.reduceLT, Int.reduceLE, Int.reduceGT, Int.reduceGE, Int.reduceEq, Int.reduceNe, Int.reducePow, Int.reduceToNat, Int.reduceBEq, Int.reduceBNe, List.all_cons, List.all_nil, List.any_cons, List.any_nil, id_eq, ↓wE_disp, ↓wKs_nil, ↓wKs_cons, ↓wk_lst, ↓wk_tup, ↓wk_str, ↓wk_dic, ↓wk_items, ↓wk_vals, ↓d_mult, ↓c_isB, ↓c_notB, ↓b_sortD, ↓b_dict, ↓b_str, ↓b_lists, ↓m_join, ↓c_inS, ↓c_inD, ↓c_ninD, ↓c_eqe, ↓c_nee, ↓c_lts, ↓b_minD, ↓b_listd, ↓wE_dc, ↓wDc_nil, ↓wKy_i, ↓wKy_s, ↓wE_idx, ↓wLk_d, ↓wE_lck, ↓wKc_o, ↓wKc_d, ↓wE_lrg1, ↓wE_lrg2, ↓wE_lvs, ↓wE_lit, ↓d_rg1, ↓d_rg2, ↓d_vals, ↓d_its])
local macro_rules
  | `(tactic| array_mem_dec) => `(tactic| (refine wStep ?_; simp only [↓wO_some, ↓wO_none, ↓wO_map, ↓wO_bind, ↓wO_ite, ↓wLook_0, ↓wLook_s, ↓wSet_0, ↓wSet_s, ↓wCv_d, ↓wCv_o, ↓wCv_io, ↓wCg_d, ↓wCg_ol, ↓wCg_iol, ↓wCg_od, ↓wCg_iod, ↓wG_d, ↓wG_nl, ↓wG_nd, ↓wG_own, ↓wCz_d, ↓wCz_ol, ↓wCz_od, ↓wZ_d, ↓wZ_nl, ↓wZ_nd, ↓wZ_own, ↓wGs_nil, ↓wGs_cons, ↓wZs_nil, ↓wZs_cons, ↓wCo_o, ↓wCo_io, ↓wCp_o, ↓wCp_io, ↓wCs_eq, ↓wAd_nm, ↓wAd_tup, ↓wAds_nil, ↓wAds_cons, ↓wA_d, ↓wA_n, ↓wA_own, ↓wA_tup, ↓wAs_nil, ↓wAs_cons, ↓wD_bl, ↓wD_non, ↓wD_int, ↓wD_lst, ↓wD_tup, ↓wD_str, ↓wB_bl, ↓wE_var, ↓wT_var, ↓wE_cst, ↓wT_cst, ↓wE_bin, ↓wT_bin, ↓wE_neg, ↓wE_not, ↓wT_not, ↓wE_cmp, ↓wT_cmp, ↓wE_chain, ↓wT_chain, ↓wE_and, ↓wE_or, ↓wT_and, ↓wT_or, ↓wE_ite, ↓wT_ite, ↓wE_tup, ↓wE_lst, ↓wT_tup, ↓wT_lst, ↓wE_blt, ↓wT_blt, ↓wE_isinst, ↓wT_isinst, ↓wE_mth, ↓wE_ix, ↓wT_ix, ↓wEo_none, ↓wN_int, ↓wEo_some, ↓wE_sl, ↓wE_rev, ↓wEs_nil, ↓wEs_cons, ↓wE_mut, ↓wPre_nil, ↓wPre_io, ↓wPre_d, ↓wArg_nil, ↓wArg_d, ↓wArg_io, ↓wBack_nil, ↓wBack_cons, ↓wE_call, ↓wT_call, ↓wC_0, ↓wC_1, ↓wCc_go, ↓wI_e, ↓wI_items, ↓wI_values, ↓wI_enum, ↓wI_zip, ↓wI_range, ↓wE_col, ↓wEc_none, ↓wEc_some, ↓wE_lc, ↓wK_next, ↓wK_ret, ↓wK_brk, ↓wK_cnt, ↓wKl_next, ↓wKl_cnt, ↓wKl_brk, ↓wKl_ret, ↓wS_asg, ↓wPar_t, ↓wPar_f, ↓wS_par, ↓wS_set, ↓wS_expr, ↓wS_ifs, ↓wS_ret, ↓wS_retN, ↓wS_brk, ↓wS_cnt, ↓wS_pas, ↓wS_never, ↓wCa_int, ↓wS_aug, ↓wS_fors, ↓wS_whl, ↓wCr_o, ↓wCr_d, ↓wOut_d, ↓wOut_n, ↓wOut_own, ↓wFl_next, ↓wFl_ret, ↓wIo_io, ↓d_add, ↓d_sub, ↓d_mul, ↓d_fdiv, ↓d_mod, ↓d_pow, ↓d_adds, ↓d_addl, ↓d_addt, ↓d_mull, ↓d_muls, ↓d_neg, ↓c_lt, ↓c_le, ↓c_gt, ↓c_ge, ↓c_eqi, ↓c_nei, ↓c_eqb, ↓c_neb, ↓c_eqs, ↓c_nes, ↓c_in3, ↓c_isN_non, ↓c_isN_int, ↓c_isN_tup, ↓c_isN_lst, ↓c_isN_str, ↓c_isN_bl, ↓c_isN_dic, ↓c_notN_non, ↓c_notN_int, ↓c_notN_tup, ↓c_notN_lst, ↓c_notN_str, ↓c_notN_bl, ↓c_notN_dic, ↓b_lens, ↓b_lenl, ↓b_lent, ↓b_lend, ↓b_abs, ↓b_max, ↓b_min, ↓b_inti, ↓b_intb, ↓b_listl, ↓b_listt, ↓b_tupl, ↓b_tupt, ↓b_repr, ↓b_all, ↓b_any, ↓b_sum, ↓asB_nil, ↓asB_cons, ↓asB_map, ↓asI_nil, ↓asI_cons, ↓asI_map, ↓m_append, ↓m_extend, ↓m_extendt, ↓i_lst, ↓i_tup, ↓i_str, ↓r_1, ↓r_2, ↓e_1, ↓z_l, ↓z_2, ↓s_l, ↓s_t, ↓s_s, ↓v_l, ↓v_s, ↓x_l, ↓x_t, ↓x_s, ↓x_d, ↓k_i, ↓k_s, ↓u_add, ↓u_sub, ↓toR_d, ↓toR_n, ↓wPut_s, ↓wPut_o, ↓wPut_io, ↓at_0, ↓at_1, ↓at_2, ↓at_3, ↓at_4, ↓at_5, ↓at_m1, ↓wLast_1, ↓wLast_s, ↓wLast_app, ↓setD_l, ↓setD_d, ↓ixN_0, ↓ixN_1, ↓ixN_2, ↓br_t, ↓br_f, ↓wL_nil, ↓wLc_nil, ↓wSs_nil, enumL, zipL, dfl2, List.drop_succ_cons, List.drop_zero, Fre_io, Fre_o, Fre_d, Fre_n, obAt_s, obAt_0o, obAt_0io, obAt_0d, obAt_0n, isL_s, isL_o, isL_io, isOb_s, isOb_0d, isOb_0n, ioIdx_nil, ioIdx_d, ioIdx_io, wipeC_nil, wipeC_cons, restC_nil, restC_cons, noOwn_nil, noOwn_d, noOwn_n, noOwn_o, lim_is, tyD, argCell, Option.isSome_some, List.set_cons_succ, List.set_cons_zero, List.getElem?_cons_succ, List.getElem?_cons_zero, Option.getD_some, List.any_cons, List.any_nil, List.nodup_nil, List.nodup_cons, List.not_mem_nil, List.mem_cons, List.length_cons, List.length_nil, List.length_map, Nat.zero_add, true_and, and_true, forall_const, reduceCtorEq, false_implies, true_implies, Bool.not_true, Bool.not_false, Bool.or_false, Bool.false_or, Bool.or_true, Bool.true_or, Bool.and_true, Bool.true_and, Bool.and_false, Bool.false_and, Bool.not_eq_true, Bool.not_eq_false, Bool.not_eq_true', Bool.not_eq_false', decide_eq_true_eq, decide_eq_false_iff_not, Bool.false_eq_true, Bool.true_eq_false, beq_iff_eq, beq_eq_false_iff_ne, ne_eq, not_false_eq_true, not_true_eq_false, List.cons_append, List.nil_append, List.map_cons, List.map_nil, Bool.decide_eq_true, Int.toNat_natCast, Int.natAbs_natCast, abs_lit, Int.cast_ofNat_Int, Nat.reduceAdd, Nat.reduceMul, Nat.reduceSub, Nat.reduceLeDiff, Nat.reduceLT, Nat.reduceGT, Nat.reduceEqDiff, Int.reduceAdd, Int.reduceMul, Int.reduceSub, Int.reduceNeg, Int.reduceLT, Int.reduceLE, Int.reduceGT, Int.reduceGE, Int.reduceEq, Int.reduceNe, Int.reducePow, Int.reduceToNat, Int.reduceBEq, Int.reduceBNe, List.all_cons, List.all_nil, List.any_cons, List.any_nil, id_eq, ↓wE_disp, ↓wKs_nil, ↓wKs_cons, ↓wk_lst, ↓wk_tup, ↓wk_str, ↓wk_dic, ↓wk_items, ↓wk_vals, ↓d_mult, ↓c_isB, ↓c_notB, ↓b_sortD, ↓b_dict, ↓b_str, ↓b_lists, ↓m_join, ↓c_inS, ↓c_inD, ↓c_ninD, ↓c_eqe, ↓c_nee, ↓c_lts, ↓b_minD, ↓b_listd, ↓wE_dc, ↓wDc_nil, ↓wKy_i, ↓wKy_s, ↓wE_idx, ↓wLk_d, ↓wE_lck, ↓wKc_o, ↓wKc_d, ↓wE_lrg1, ↓wE_lrg2, ↓wE_lvs, ↓wE_lit, ↓d_rg1, ↓d_rg2, ↓d_vals, ↓d_its]))
local macro_rules
  | `(tactic| apply_ext_theorem) => `(tactic| (rw [wLc_cons]; array_get_dec))
local macro_rules
  | `(tactic| nofun) => `(tactic| (rw [wL_cons]; array_get_dec))
/-! ### greatest common divisors, lowest terms -/
/-! ### comparing -/
/-! ### whole numbers, fractions, factors -/
theorem w_is_integer1 {x : Int} {E : Exn → List Ob → Prop} {Q : RO → List Ob → Prop} (h : 1 ≤ x) (k : Q (.d (.bl true)) []) : wF (F0 [.d (.int x), .d (.int 1), .d .non]) E Q := by
  refine run0 ?_
  array_mem_dec
  array_mem_dec
  refine ⟨fun _ => k, fun z => ?_⟩
  omega
theorem w_is_integer4 {x : Int} {E : Exn → List Ob → Prop} {Q : RO → List Ob → Prop} (h : 1 ≤ x) (h2 : x ≤ 4) (k : Q (.d (.bl true)) []) : wF (F0 [.d (.int x), .d (.int 1), .d (.int 4)]) E Q := by
  refine run0 ?_
  array_mem_dec
  array_mem_dec
  refine ⟨fun _ => ?_, fun z => ?_⟩
  · simpa [h2] using k
  · omega
/-- widths -/
abbrev wds (ws : List Int) : List D := ws.map .int
theorem w_are_widths {ws : List Int} {a b : Int} {E : Exn → List Ob → Prop} {Q : RO → List Ob → Prop} (h : ∀ w ∈ ws, 1 ≤ w ∧ w ≤ 4) (h1 : a ≤ ws.length) (h2 : (ws.length : Int) ≤ b) (h3 : ws.length ≤ 100000) (k : Q (.d (.bl true)) []) : wF (F2 [.d (.tup (wds ws)), .d (.int a), .d (.int b)]) E Q := by
  refine run2 ?_
  array_mem_dec
  refine ⟨fun _ => ⟨fun z => absurd h2 z, fun _ => ?_⟩, fun z => absurd h1 z⟩
  array_mem_dec
  refine wLc_map (f := fun w : Int => D.int w) (l := ws) (fun i acc e => i ≤ ws.length ∧ acc = List.replicate i (.bl true) ∧ ∃ c, (c = .none ∨ ∃ x, c = .d x) ∧ e = [.d (.tup (wds ws)), .d (.int a), .d (.int b), c]) ⟨by omega, rfl, _, .inl rfl, rfl⟩ ?_ ?_
  · rintro i x acc e hx ⟨hi, rfl, c, hc, rfl⟩
    obtain ⟨hi', hxe⟩ := List.getElem?_eq_some_iff.mp hx
    have hw := h x (by rw [← hxe]; exact List.getElem_mem hi')
    array_get_dec
    refine w_is_integer4 hw.1 hw.2 ?_
    array_get_dec
    simp only [List.length_replicate]
    exact ⟨by omega, by omega, by simp [List.replicate_succ'], _, .inr ⟨_, rfl⟩, rfl⟩
  · rintro acc e ⟨_, rfl, c, hc, rfl⟩
    have e1 : List.replicate ws.length (D.bl true) = (List.replicate ws.length true).map D.bl := by simp
    rw [e1]
    array_get_dec
    simpa using k
end K03

set_option Elab.async false
set_option linter.all false
set_option maxRecDepth 100000
set_option maxHeartbeats 800000
namespace K03
open PySem Fx
local macro_rules
  | `(tactic| array_get_dec) => `(tactic| try simp only [↓wO_some, ↓wO_none, ↓wO_map, ↓wO_bind, ↓wO_ite, ↓wLook_0, ↓wLook_s, ↓wSet_0, ↓wSet_s, ↓wCv_d, ↓wCv_o, ↓wCv_io, ↓wCg_d, ↓wCg_ol, ↓wCg_iol, ↓wCg_od, ↓wCg_iod, ↓wG_d, ↓wG_nl, ↓wG_nd, ↓wG_own, ↓wCz_d, ↓wCz_ol, ↓wCz_od, ↓wZ_d, ↓wZ_nl, ↓wZ_nd, ↓wZ_own, ↓wGs_nil, ↓wGs_cons, ↓wZs_nil, ↓wZs_cons, ↓wCo_o, ↓wCo_io, ↓wCp_o, ↓wCp_io, ↓wCs_eq, ↓wAd_nm, ↓wAd_tup, ↓wAds_nil, ↓wAds_cons, ↓wA_d, ↓wA_n, ↓wA_own, ↓wA_tup, ↓wAs_nil, ↓wAs_cons, ↓wD_bl, ↓wD_non, ↓wD_int, ↓wD_lst, ↓wD_tup, ↓wD_str, ↓wB_bl, ↓wE_var, ↓wT_var, ↓wE_cst, ↓wT_cst, ↓wE_bin, ↓wT_bin, ↓wE_neg, ↓wE_not, ↓wT_not, ↓wE_cmp, ↓wT_cmp, ↓wE_chain, ↓wT_chain, ↓wE_and, ↓wE_or, ↓wT_and, ↓wT_or, ↓wE_ite, ↓wT_ite, ↓wE_tup, ↓wE_lst, ↓wT_tup, ↓wT_lst, ↓wE_blt, ↓wT_blt, ↓wE_isinst, ↓wT_isinst, ↓wE_mth, ↓wE_ix, ↓wT_ix, ↓wEo_none, ↓wN_int, ↓wEo_some, ↓wE_sl, ↓wE_rev, ↓wEs_nil, ↓wEs_cons, ↓wE_mut, ↓wPre_nil, ↓wPre_io, ↓wPre_d, ↓wArg_nil, ↓wArg_d, ↓wArg_io, ↓wBack_nil, ↓wBack_cons, ↓wE_call, ↓wT_call, ↓wC_0, ↓wC_1, ↓wCc_go, ↓wI_e, ↓wI_items, ↓wI_values, ↓wI_enum, ↓wI_zip, ↓wI_range, ↓wE_col, ↓wEc_none, ↓wEc_some, ↓wE_lc, ↓wK_next, ↓wK_ret, ↓wK_brk, ↓wK_cnt, ↓wKl_next, ↓wKl_cnt, ↓wKl_brk, ↓wKl_ret, ↓wS_asg, ↓wPar_t, ↓wPar_f, ↓wS_par, ↓wS_set, ↓wS_expr, ↓wS_ifs, ↓wS_ret, ↓wS_retN, ↓wS_brk, ↓wS_cnt, ↓wS_pas, ↓wS_never, ↓wCa_int, ↓wS_aug, ↓wS_fors, ↓wS_whl, ↓wCr_o, ↓wCr_d, ↓wOut_d, ↓wOut_n, ↓wOut_own, ↓wFl_next, ↓wFl_ret, ↓wIo_io, ↓d_add, ↓d_sub, ↓d_mul, ↓d_fdiv, ↓d_mod, ↓d_pow, ↓d_adds, ↓d_addl, ↓d_addt, ↓d_mull, ↓d_muls, ↓d_neg, ↓c_lt, ↓c_le, ↓c_gt, ↓c_ge, ↓c_eqi, ↓c_nei, ↓c_eqb, ↓c_neb, ↓c_eqs, ↓c_nes, ↓c_in3, ↓c_isN_non, ↓c_isN_int, ↓c_isN_tup, ↓c_isN_lst, ↓c_isN_str, ↓c_isN_bl, ↓c_isN_dic, ↓c_notN_non, ↓c_notN_int, ↓c_notN_tup, ↓c_notN_lst, ↓c_notN_str, ↓c_notN_bl, ↓c_notN_dic, ↓b_lens, ↓b_lenl, ↓b_lent, ↓b_lend, ↓b_abs, ↓b_max, ↓b_min, ↓b_inti, ↓b_intb, ↓b_listl, ↓b_listt, ↓b_tupl, ↓b_tupt, ↓b_repr, ↓b_all, ↓b_any, ↓b_sum, ↓asB_nil, ↓asB_cons, ↓asB_map, ↓asI_nil, ↓asI_cons, ↓asI_map, ↓m_append, ↓m_extend, ↓m_extendt, ↓i_lst, ↓i_tup, ↓i_str, ↓r_1, ↓r_2, ↓e_1, ↓z_l, ↓z_2, ↓s_l, ↓s_t, ↓s_s, ↓v_l, ↓v_s, ↓x_l, ↓x_t, ↓x_s, ↓x_d, ↓k_i, ↓k_s, ↓u_add, ↓u_sub, ↓toR_d, ↓toR_n, ↓wPut_s, ↓wPut_o, ↓wPut_io, ↓at_0, ↓at_1, ↓at_2, ↓at_3, ↓at_4, ↓at_5, ↓at_m1, ↓wLast_1, ↓wLast_s, ↓wLast_app, ↓setD_l, ↓setD_d, ↓ixN_0, ↓ixN_1, ↓ixN_2, ↓br_t, ↓br_f, ↓wL_nil, ↓wLc_nil, ↓wSs_nil, enumL, zipL, dfl2, List.drop_succ_cons, List.drop_zero, Fre_io, Fre_o, Fre_d, Fre_n, obAt_s, obAt_0o, obAt_0io, obAt_0d, obAt_0n, isL_s, isL_o, isL_io, isOb_s, isOb_0d, isOb_0n, ioIdx_nil, ioIdx_d, ioIdx_io, wipeC_nil, wipeC_cons, restC_nil, restC_cons, noOwn_nil, noOwn_d, noOwn_n, noOwn_o, lim_is, tyD, argCell, Option.isSome_some, List.set_cons_succ, List.set_cons_zero, List.getElem?_cons_succ, List.getElem?_cons_zero, Option.getD_some, List.any_cons, List.any_nil, List.nodup_nil, List.nodup_cons, List.not_mem_nil, List.mem_cons, List.length_cons, List.length_nil, List.length_map, Nat.zero_add, true_and, and_true, forall_const, reduceCtorEq, false_implies, true_implies, Bool.not_true, Bool.not_false, Bool.or_false, Bool.false_or, Bool.or_true, Bool.true_or, Bool.and_true, Bool.true_and, Bool.and_false, Bool.false_and, Bool.not_eq_true, Bool.not_eq_false, Bool.not_eq_true', Bool.not_eq_false', decide_eq_true_eq, decide_eq_false_iff_not, Bool.false_eq_true, Bool.true_eq_false, beq_iff_eq, beq_eq_false_iff_ne, ne_eq, not_false_eq_true, not_true_eq_false, List.cons_append, List.nil_append, List.map_cons, List.map_nil, Bool.decide_eq_true, Int.toNat_natCast, Int.natAbs_natCast, abs_lit, Int.cast_ofNat_Int, Nat.reduceAdd, Nat.reduceMul, Nat.reduceSub, Nat.reduceLeDiff, Nat.reduceLT, Nat.reduceGT, Nat.reduceEqDiff, Int.reduceAdd, Int.reduceMul, Int.reduceSub, Int.reduceNeg, Int.reduceLT, Int.reduceLE, Int.reduceGT, Int.reduceGE, Int.reduceEq, Int.reduceNe, Int.reducePow, Int.reduceToNat, Int.reduceBEq, Int.reduceBNe, List.all_cons, List.all_nil, List.any_cons, List.any_nil, id_eq, ↓wE_disp, ↓wKs_nil, ↓wKs_cons, ↓wk_lst, ↓wk_tup, ↓wk_str, ↓wk_dic, ↓wk_items, ↓wk_vals, ↓d_mult, ↓c_isB, ↓c_notB, ↓b_sortD, ↓b_dict, ↓b_str, ↓b_lists, ↓m_join, ↓c_inS, ↓c_inD, ↓c_ninD, ↓c_eqe, ↓c_nee, ↓c_lts, ↓b_minD, ↓b_listd, ↓wE_dc, ↓wDc_nil, ↓wKy_i, ↓wKy_s, ↓wE_idx, ↓wLk_d, ↓wE_lck, ↓wKc_o, ↓wKc_d, ↓wE_lrg1, ↓wE_lrg2, ↓wE_lvs, ↓wE_lit, ↓d_rg1, ↓d_rg2, ↓d_vals, ↓d_its])
local macro_rules
  | `(tactic| array_mem_dec) => `(tactic| (refine wStep ?_; simp only [↓wO_some, ↓wO_none, ↓wO_map, ↓wO_bind, ↓wO_ite, ↓wLook_0, ↓wLook_s, ↓wSet_0, ↓wSet_s, ↓wCv_d, ↓wCv_o, ↓wCv_io, ↓wCg_d, ↓wCg_ol, ↓wCg_iol, ↓wCg_od, ↓wCg_iod, ↓wG_d, ↓wG_nl, ↓wG_nd, ↓wG_own, ↓wCz_d, ↓wCz_ol, ↓wCz_od, ↓wZ_d, ↓wZ_nl, ↓wZ_nd, ↓wZ_own, ↓wGs_nil, ↓wGs_cons, ↓wZs_nil, ↓wZs_cons, ↓wCo_o, ↓wCo_io, ↓wCp_o, ↓wCp_io, ↓wCs_eq, ↓wAd_nm, ↓wAd_tup, ↓wAds_nil, ↓wAds_cons, ↓wA_d, ↓wA_n, ↓wA_own, ↓wA_tup, ↓wAs_nil, ↓wAs_cons, ↓wD_bl, ↓wD_non, ↓wD_int, ↓wD_lst, ↓wD_tup, ↓wD_str, ↓wB_bl, ↓wE_var, ↓wT_var, ↓wE_cst, ↓wT_cst, ↓wE_bin, ↓wT_bin, ↓wE_neg, ↓wE_not, ↓wT_not, ↓wE_cmp, ↓wT_cmp, ↓wE_chain, ↓wT_chain, ↓wE_and, ↓wE_or, ↓wT_and, ↓wT_or, ↓wE_ite, ↓wT_ite, ↓wE_tup, ↓wE_lst, ↓wT_tup, ↓wT_lst, ↓wE_blt, ↓wT_blt, ↓wE_isinst, ↓wT_isinst, ↓wE_mth, ↓wE_ix, ↓wT_ix, ↓wEo_none, ↓wN_int, ↓wEo_some, ↓wE_sl, ↓wE_rev, ↓wEs_nil, ↓wEs_cons, ↓wE_mut, ↓wPre_nil, ↓wPre_io, ↓wPre_d, ↓wArg_nil, ↓wArg_d, ↓wArg_io, ↓wBack_nil, ↓wBack_cons, ↓wE_call, ↓wT_call, ↓wC_0, ↓wC_1, ↓wCc_go, ↓wI_e, ↓wI_items, ↓wI_values, ↓wI_enum, ↓wI_zip, ↓wI_range, ↓wE_col, ↓wEc_none, ↓wEc_some, ↓wE_lc, ↓wK_next, ↓wK_ret, ↓wK_brk, ↓wK_cnt, ↓wKl_next, ↓wKl_cnt, ↓wKl_brk, ↓wKl_ret, ↓wS_asg, ↓wPar_t, ↓wPar_f, ↓wS_par, ↓wS_set, ↓wS_expr, ↓wS_ifs, ↓wS_ret, ↓wS_retN, ↓wS_brk, ↓wS_cnt, ↓wS_pas, ↓wS_never, ↓wCa_int, ↓wS_aug, ↓wS_fors, ↓wS_whl, ↓wCr_o, ↓wCr_d, ↓wOut_d, ↓wOut_n, ↓wOut_own, ↓wFl_next, ↓wFl_ret, ↓wIo_io, ↓d_add, ↓d_sub, ↓d_mul, ↓d_fdiv, ↓d_mod, ↓d_pow, ↓d_adds, ↓d_addl, ↓d_addt, ↓d_mull, ↓d_muls, ↓d_neg, ↓c_lt, ↓c_le, ↓c_gt, ↓c_ge, ↓c_eqi, ↓c_nei, ↓c_eqb, ↓c_neb, ↓c_eqs, ↓c_nes, ↓c_in3, ↓c_isN_non, ↓c_isN_int, ↓c_isN_tup, ↓c_isN_lst, ↓c_isN_str, ↓c_isN_bl, ↓c_isN_dic, ↓c_notN_non, ↓c_notN_int, ↓c_notN_tup, ↓c_notN_lst, ↓c_notN_str, ↓c_notN_bl, ↓c_notN_dic, ↓b_lens, ↓b_lenl, ↓b_lent, ↓b_lend, ↓b_abs, ↓b_max, ↓b_min, ↓b_inti, ↓b_intb, ↓b_listl, ↓b_listt, ↓b_tupl, ↓b_tupt, ↓b_repr, ↓b_all, ↓b_any, ↓b_sum, ↓asB_nil, ↓asB_cons, ↓asB_map, ↓asI_nil, ↓asI_cons, ↓asI_map, ↓m_append, ↓m_extend, ↓m_extendt, ↓i_lst, ↓i_tup, ↓i_str, ↓r_1, ↓r_2, ↓e_1, ↓z_l, ↓z_2, ↓s_l, ↓s_t, ↓s_s, ↓v_l, ↓v_s, ↓x_l, ↓x_t, ↓x_s, ↓x_d, ↓k_i, ↓k_s, ↓u_add, ↓u_sub, ↓toR_d, ↓toR_n, ↓wPut_s, ↓wPut_o, ↓wPut_io, ↓at_0, ↓at_1, ↓at_2, ↓at_3, ↓at_4, ↓at_5, ↓at_m1, ↓wLast_1, ↓wLast_s, ↓wLast_app, ↓setD_l, ↓setD_d, ↓ixN_0, ↓ixN_1, ↓ixN_2, ↓br_t, ↓br_f, ↓wL_nil, ↓wLc_nil, ↓wSs_nil, enumL, zipL, dfl2, List.drop_succ_cons, List.drop_zero, Fre_io, Fre_o, Fre_d, Fre_n, obAt_s, obAt_0o, obAt_0io, obAt_0d, obAt_0n, isL_s, isL_o, isL_io, isOb_s, isOb_0d, isOb_0n, ioIdx_nil, ioIdx_d, ioIdx_io, wipeC_nil, wipeC_cons, restC_nil, restC_cons, noOwn_nil, noOwn_d, noOwn_n, noOwn_o, lim_is, tyD, argCell, Option.isSome_some, List.set_cons_succ, List.set_cons_zero, List.getElem?_cons_succ, List.getElem?_cons_zero, Option.getD_some, List.any_cons, List.any_nil, List.nodup_nil, List.nodup_cons, List.not_mem_nil, List.mem_cons, List.length_cons, List.length_nil, List.length_map, Nat.zero_add, true_and, and_true, forall_const, reduceCtorEq, false_implies, true_implies, Bool.not_true, Bool.not_false, Bool.or_false, Bool.false_or, Bool.or_true, Bool.true_or, Bool.and_true, Bool.true_and, Bool.and_false, Bool.false_and, Bool.not_eq_true, Bool.not_eq_false, Bool.not_eq_true', Bool.not_eq_false', decide_eq_true_eq, decide_eq_false_iff_not, Bool.false_eq_true, Bool.true_eq_false, beq_iff_eq, beq_eq_false_iff_ne, ne_eq, not_false_eq_true, not_true_eq_false, List.cons_append, List.nil_append, List.map_cons, List.map_nil, Bool.decide_eq_true, Int.toNat_natCast, Int.natAbs_natCast, abs_lit, Int.cast_ofNat_Int, Nat.reduceAdd, Nat.reduceMul, Nat.reduceSub, Nat.reduceLeDiff, Nat.reduceLT, Nat.reduceGT, Nat.reduceEqDiff, Int.reduceAdd, Int.reduceMul, Int.reduceSub, Int.reduceNeg, Int.reduceLT, Int.reduceLE, Int.reduceGT, Int.reduceGE, Int.reduceEq, Int.reduceNe, Int.reducePow, Int.reduceToNat, Int.reduceBEq, Int.reduceBNe, List.all_cons, List.all_nil, List.any_cons, List.any_nil, id_eq, ↓wE_disp, ↓wKs_nil, ↓wKs_cons, ↓wk_lst, ↓wk_tup, ↓wk_str, ↓wk_dic, ↓wk_items, ↓wk_vals, ↓d_mult, ↓c_isB, ↓c_notB, ↓b_sortD, ↓b_dict, ↓b_str, ↓b_lists, ↓m_join, ↓c_inS, ↓c_inD, ↓c_ninD, ↓c_eqe, ↓c_nee, ↓c_lts, ↓b_minD, ↓b_listd, ↓wE_dc, ↓wDc_nil, ↓wKy_i, ↓wKy_s, ↓wE_idx, ↓wLk_d, ↓wE_lck, ↓wKc_o, ↓wKc_d, ↓wE_lrg1, ↓wE_lrg2, ↓wE_lvs, ↓wE_lit, ↓d_rg1, ↓d_rg2, ↓d_vals, ↓d_its]))
local macro_rules
  | `(tactic| apply_ext_theorem) => `(tactic| (rw [wLc_cons]; array_get_dec))
local macro_rules
  | `(tactic| nofun) => `(tactic| (rw [wL_cons]; array_get_dec))
/-! ### the law's own pool of numbers -/
/-- widths of a character -/
def Wd (ws : List Int) : Prop := ws ≠ [] ∧ ws.length ≤ 6 ∧ ∀ w ∈ ws, 1 ≤ w ∧ w ≤ 4
abbrev wd (ws : List Int) : D := .tup (ws.map .int)
theorem wd_of {vs : List Int} {m : Nat} (h : vs.length = m) (h1 : 1 ≤ m) (h6 : m ≤ 6) (hw : ∀ w ∈ vs, 1 ≤ w ∧ w ≤ 4) : Wd vs :=
  ⟨fun z => (by rw [z] at h; simp at h; omega), by omega, hw⟩
theorem flat_ints : ∀ (ws : List Int) (n : Nat), flatDs n (ws.map .int) = true
  | [], _ => by rw [List.map_nil, flatDs]
  | w :: ws, n => by rw [List.map_cons, flatDs, flat_ints ws n]; cases n <;> simp [flatD]
theorem flat_wd (ws : List Int) (n : Nat) : flatD (n + 1) (wd ws) = true := by rw [wd, flatD]; exact flat_ints ws n
theorem flat_wds : ∀ (ss : List (List Int)) (n : Nat), flatDs (n + 1) (ss.map wd) = true
  | [], _ => by rw [List.map_nil, flatDs]
  | w :: ws, n => by rw [List.map_cons, flatDs, flat_wds ws n, flat_wd]; rfl
theorem c_ne_wds {ss : List (List Int)} {B : Bool → Prop} : wO (cmpD .ne (.lst (ss.map wd)) (.lst [])) B = B (!ss.isEmpty) := by
  have e : cmpD .ne (.lst (ss.map wd)) (.lst []) = if flatD 40 (.lst (ss.map wd)) ∧ flatD 40 (.lst []) then some (!eqD (.lst (ss.map wd)) (.lst [])) else none := rfl
  rw [e, if_pos ⟨by rw [flatD]; exact flat_wds ss 38, by decide⟩, wO_some]
  cases ss <;> simp [eqD, eqDs]
theorem cut_to {α : Type} (xs : List α) (k : Nat) : cutG xs none (some (k : Int)) = xs.take k := by
  unfold cutG
  rw [HT.sIx_none, HT.sIx_nat, List.drop_zero, Nat.sub_zero, List.take_eq_take_iff]
  omega
theorem cut_from {α : Type} (xs : List α) (k : Nat) : cutG xs (some (k : Int)) none = xs.drop k := by
  unfold cutG
  rw [HT.sIx_none, HT.sIx_nat]
  by_cases h : k ≤ xs.length
  · rw [Nat.min_eq_left h]
    apply List.take_of_length_le
    rw [List.length_drop]
    omega
  · rw [Nat.min_eq_right (by omega), Nat.sub_self, List.take_zero, List.drop_eq_nil_of_le (by omega)]
end K03

set_option Elab.async false
set_option linter.all false
set_option maxRecDepth 100000
set_option maxHeartbeats 800000
namespace K03
open PySem Fx
local macro_rules
  | `(tactic| array_get_dec) => `(tactic| try simp only [↓wO_some, ↓wO_none, ↓wO_map, ↓wO_bind, ↓wO_ite, ↓wLook_0, ↓wLook_s, ↓wSet_0, ↓wSet_s, ↓wCv_d, ↓wCv_o, ↓wCv_io, ↓wCg_d, ↓wCg_ol, ↓wCg_iol, ↓wCg_od, ↓wCg_iod, ↓wG_d, ↓wG_nl, ↓wG_nd, ↓wG_own, ↓wCz_d, ↓wCz_ol, ↓wCz_od, ↓wZ_d, ↓wZ_nl, ↓wZ_nd, ↓wZ_own, ↓wGs_nil, ↓wGs_cons, ↓wZs_nil, ↓wZs_cons, ↓wCo_o, ↓wCo_io, ↓wCp_o, ↓wCp_io, ↓wCs_eq, ↓wAd_nm, ↓wAd_tup, ↓wAds_nil, ↓wAds_cons, ↓wA_d, ↓wA_n, ↓wA_own, ↓wA_tup, ↓wAs_nil, ↓wAs_cons, ↓wD_bl, ↓wD_non, ↓wD_int, ↓wD_lst, ↓wD_tup, ↓wD_str, ↓wB_bl, ↓wE_var, ↓wT_var, ↓wE_cst, ↓wT_cst, ↓wE_bin, ↓wT_bin, ↓wE_neg, ↓wE_not, ↓wT_not, ↓wE_cmp, ↓wT_cmp, ↓wE_chain, ↓wT_chain, ↓wE_and, ↓wE_or, ↓wT_and, ↓wT_or, ↓wE_ite, ↓wT_ite, ↓wE_tup, ↓wE_lst, ↓wT_tup, ↓wT_lst, ↓wE_blt, ↓wT_blt, ↓wE_isinst, ↓wT_isinst, ↓wE_mth, ↓wE_ix, ↓wT_ix, ↓wEo_none, ↓wN_int, ↓wEo_some, ↓wE_sl, ↓wE_rev, ↓wEs_nil, ↓wEs_cons, ↓wE_mut, ↓wPre_nil, ↓wPre_io, ↓wPre_d, ↓wArg_nil, ↓wArg_d, ↓wArg_io, ↓wBack_nil, ↓wBack_cons, ↓wE_call, ↓wT_call, ↓wC_0, ↓wC_1, ↓wCc_go, ↓wI_e, ↓wI_items, ↓wI_values, ↓wI_enum, ↓wI_zip, ↓wI_range, ↓wE_col, ↓wEc_none, ↓wEc_some, ↓wE_lc, ↓wK_next, ↓wK_ret, ↓wK_brk, ↓wK_cnt, ↓wKl_next, ↓wKl_cnt, ↓wKl_brk, ↓wKl_ret, ↓wS_asg, ↓wPar_t, ↓wPar_f, ↓wS_par, ↓wS_set, ↓wS_expr, ↓wS_ifs, ↓wS_ret, ↓wS_retN, ↓wS_brk, ↓wS_cnt, ↓wS_pas, ↓wS_never, ↓wCa_int, ↓wS_aug, ↓wS_fors, ↓wS_whl, ↓wCr_o, ↓wCr_d, ↓wOut_d, ↓wOut_n, ↓wOut_own, ↓wFl_next, ↓wFl_ret, ↓wIo_io, ↓d_add, ↓d_sub, ↓d_mul, ↓d_fdiv, ↓d_mod, ↓d_pow, ↓d_adds, ↓d_addl, ↓d_addt, ↓d_mull, ↓d_muls, ↓d_neg, ↓c_lt, ↓c_le, ↓c_gt, ↓c_ge, ↓c_eqi, ↓c_nei, ↓c_eqb, ↓c_neb, ↓c_eqs, ↓c_nes, ↓c_in3, ↓c_isN_non, ↓c_isN_int, ↓c_isN_tup, ↓c_isN_lst, ↓c_isN_str, ↓c_isN_bl, ↓c_isN_dic, ↓c_notN_non, ↓c_notN_int, ↓c_notN_tup, ↓c_notN_lst, ↓c_notN_str, ↓c_notN_bl, ↓c_notN_dic, ↓b_lens, ↓b_lenl, ↓b_lent, ↓b_lend, ↓b_abs, ↓b_max, ↓b_min, ↓b_inti, ↓b_intb, ↓b_listl, ↓b_listt, ↓b_tupl, ↓b_tupt, ↓b_repr, ↓b_all, ↓b_any, ↓b_sum, ↓asB_nil, ↓asB_cons, ↓asB_map, ↓asI_nil, ↓asI_cons, ↓asI_map, ↓m_append, ↓m_extend, ↓m_extendt, ↓i_lst, ↓i_tup, ↓i_str, ↓r_1, ↓r_2, ↓e_1, ↓z_l, ↓z_2, ↓s_l, ↓s_t, ↓s_s, ↓v_l, ↓v_s, ↓x_l, ↓x_t, ↓x_s, ↓x_d, ↓k_i, ↓k_s, ↓u_add, ↓u_sub, ↓toR_d, ↓toR_n, ↓wPut_s, ↓wPut_o, ↓wPut_io, ↓at_0, ↓at_1, ↓at_2, ↓at_3, ↓at_4, ↓at_5, ↓at_m1, ↓wLast_1, ↓wLast_s, ↓wLast_app, ↓setD_l, ↓setD_d, ↓ixN_0, ↓ixN_1, ↓ixN_2, ↓br_t, ↓br_f, ↓wL_nil, ↓wLc_nil, ↓wSs_nil, enumL, zipL, dfl2, List.drop_succ_cons, List.drop_zero, Fre_io, Fre_o, Fre_d, Fre_n, obAt_s, obAt_0o, obAt_0io, obAt_0d, obAt_0n, isL_s, isL_o, isL_io, isOb_s, isOb_0d, isOb_0n, ioIdx_nil, ioIdx_d, ioIdx_io, wipeC_nil, wipeC_cons, restC_nil, restC_cons, noOwn_nil, noOwn_d, noOwn_n, noOwn_o, lim_is, tyD, argCell, Option.isSome_some, List.set_cons_succ, List.set_cons_zero, List.getElem?_cons_succ, List.getElem?_cons_zero, Option.getD_some, List.any_cons, List.any_nil, List.nodup_nil, List.nodup_cons, List.not_mem_nil, List.mem_cons, List.length_cons, List.length_nil, List.length_map, Nat.zero_add, true_and, and_true, forall_const, reduceCtorEq, false_implies, true_implies, Bool.not_true, Bool.not_false, Bool.or_false, Bool.false_or, Bool.or_true, Bool.true_or, Bool.and_true, Bool.true_and, Bool.and_false, Bool.false_and, Bool.not_eq_true, Bool.not_eq_false, Bool.not_eq_true', Bool.not_eq_false', decide_eq_true_eq, decide_eq_false_iff_not, Bool.false_eq_true, Bool.true_eq_false, beq_iff_eq, beq_eq_false_iff_ne, ne_eq, not_false_eq_true, not_true_eq_false, List.cons_append, List.nil_append, List.map_cons, List.map_nil, Bool.decide_eq_true, Int.toNat_natCast, Int.natAbs_natCast, abs_lit, Int.cast_ofNat_Int, Nat.reduceAdd, Nat.reduceMul, Nat.reduceSub, Nat.reduceLeDiff, Nat.reduceLT, Nat.reduceGT, Nat.reduceEqDiff, Int.reduceAdd, Int.reduceMul, Int.reduceSub, Int.reduceNeg, Int.reduceLT, Int.reduceLE, Int.reduceGT, Int.reduceGE, Int.reduceEq, Int.reduceNe, Int.reducePow, Int.reduceToNat, Int.reduceBEq, Int.reduceBNe, List.all_cons, List.all_nil, List.any_cons, List.any_nil, id_eq, ↓wE_disp, ↓wKs_nil, ↓wKs_cons, ↓wk_lst, ↓wk_tup, ↓wk_str, ↓wk_dic, ↓wk_items, ↓wk_vals, ↓d_mult, ↓c_isB, ↓c_notB, ↓b_sortD, ↓b_dict, ↓b_str, ↓b_lists, ↓m_join, ↓c_inS, ↓c_inD, ↓c_ninD, ↓c_eqe, ↓c_nee, ↓c_lts, ↓b_minD, ↓b_listd, ↓wE_dc, ↓wDc_nil, ↓wKy_i, ↓wKy_s, ↓wE_idx, ↓wLk_d, ↓wE_lck, ↓wKc_o, ↓wKc_d, ↓wE_lrg1, ↓wE_lrg2, ↓wE_lvs, ↓wE_lit, ↓d_rg1, ↓d_rg2, ↓d_vals, ↓d_its])
local macro_rules
  | `(tactic| array_mem_dec) => `(tactic| (refine wStep ?_; simp only [↓wO_some, ↓wO_none, ↓wO_map, ↓wO_bind, ↓wO_ite, ↓wLook_0, ↓wLook_s, ↓wSet_0, ↓wSet_s, ↓wCv_d, ↓wCv_o, ↓wCv_io, ↓wCg_d, ↓wCg_ol, ↓wCg_iol, ↓wCg_od, ↓wCg_iod, ↓wG_d, ↓wG_nl, ↓wG_nd, ↓wG_own, ↓wCz_d, ↓wCz_ol, ↓wCz_od, ↓wZ_d, ↓wZ_nl, ↓wZ_nd, ↓wZ_own, ↓wGs_nil, ↓wGs_cons, ↓wZs_nil, ↓wZs_cons, ↓wCo_o, ↓wCo_io, ↓wCp_o, ↓wCp_io, ↓wCs_eq, ↓wAd_nm, ↓wAd_tup, ↓wAds_nil, ↓wAds_cons, ↓wA_d, ↓wA_n, ↓wA_own, ↓wA_tup, ↓wAs_nil, ↓wAs_cons, ↓wD_bl, ↓wD_non, ↓wD_int, ↓wD_lst, ↓wD_tup, ↓wD_str, ↓wB_bl, ↓wE_var, ↓wT_var, ↓wE_cst, ↓wT_cst, ↓wE_bin, ↓wT_bin, ↓wE_neg, ↓wE_not, ↓wT_not, ↓wE_cmp, ↓wT_cmp, ↓wE_chain, ↓wT_chain, ↓wE_and, ↓wE_or, ↓wT_and, ↓wT_or, ↓wE_ite, ↓wT_ite, ↓wE_tup, ↓wE_lst, ↓wT_tup, ↓wT_lst, ↓wE_blt, ↓wT_blt, ↓wE_isinst, ↓wT_isinst, ↓wE_mth, ↓wE_ix, ↓wT_ix, ↓wEo_none, ↓wN_int, ↓wEo_some, ↓wE_sl, ↓wE_rev, ↓wEs_nil, ↓wEs_cons, ↓wE_mut, ↓wPre_nil, ↓wPre_io, ↓wPre_d, ↓wArg_nil, ↓wArg_d, ↓wArg_io, ↓wBack_nil, ↓wBack_cons, ↓wE_call, ↓wT_call, ↓wC_0, ↓wC_1, ↓wCc_go, ↓wI_e, ↓wI_items, ↓wI_values, ↓wI_enum, ↓wI_zip, ↓wI_range, ↓wE_col, ↓wEc_none, ↓wEc_some, ↓wE_lc, ↓wK_next, ↓wK_ret, ↓wK_brk, ↓wK_cnt, ↓wKl_next, ↓wKl_cnt, ↓wKl_brk, ↓wKl_ret, ↓wS_asg, ↓wPar_t, ↓wPar_f, ↓wS_par, ↓wS_set, ↓wS_expr, ↓wS_ifs, ↓wS_ret, ↓wS_retN, ↓wS_brk, ↓wS_cnt, ↓wS_pas, ↓wS_never, ↓wCa_int, ↓wS_aug, ↓wS_fors, ↓wS_whl, ↓wCr_o, ↓wCr_d, ↓wOut_d, ↓wOut_n, ↓wOut_own, ↓wFl_next, ↓wFl_ret, ↓wIo_io, ↓d_add, ↓d_sub, ↓d_mul, ↓d_fdiv, ↓d_mod, ↓d_pow, ↓d_adds, ↓d_addl, ↓d_addt, ↓d_mull, ↓d_muls, ↓d_neg, ↓c_lt, ↓c_le, ↓c_gt, ↓c_ge, ↓c_eqi, ↓c_nei, ↓c_eqb, ↓c_neb, ↓c_eqs, ↓c_nes, ↓c_in3, ↓c_isN_non, ↓c_isN_int, ↓c_isN_tup, ↓c_isN_lst, ↓c_isN_str, ↓c_isN_bl, ↓c_isN_dic, ↓c_notN_non, ↓c_notN_int, ↓c_notN_tup, ↓c_notN_lst, ↓c_notN_str, ↓c_notN_bl, ↓c_notN_dic, ↓b_lens, ↓b_lenl, ↓b_lent, ↓b_lend, ↓b_abs, ↓b_max, ↓b_min, ↓b_inti, ↓b_intb, ↓b_listl, ↓b_listt, ↓b_tupl, ↓b_tupt, ↓b_repr, ↓b_all, ↓b_any, ↓b_sum, ↓asB_nil, ↓asB_cons, ↓asB_map, ↓asI_nil, ↓asI_cons, ↓asI_map, ↓m_append, ↓m_extend, ↓m_extendt, ↓i_lst, ↓i_tup, ↓i_str, ↓r_1, ↓r_2, ↓e_1, ↓z_l, ↓z_2, ↓s_l, ↓s_t, ↓s_s, ↓v_l, ↓v_s, ↓x_l, ↓x_t, ↓x_s, ↓x_d, ↓k_i, ↓k_s, ↓u_add, ↓u_sub, ↓toR_d, ↓toR_n, ↓wPut_s, ↓wPut_o, ↓wPut_io, ↓at_0, ↓at_1, ↓at_2, ↓at_3, ↓at_4, ↓at_5, ↓at_m1, ↓wLast_1, ↓wLast_s, ↓wLast_app, ↓setD_l, ↓setD_d, ↓ixN_0, ↓ixN_1, ↓ixN_2, ↓br_t, ↓br_f, ↓wL_nil, ↓wLc_nil, ↓wSs_nil, enumL, zipL, dfl2, List.drop_succ_cons, List.drop_zero, Fre_io, Fre_o, Fre_d, Fre_n, obAt_s, obAt_0o, obAt_0io, obAt_0d, obAt_0n, isL_s, isL_o, isL_io, isOb_s, isOb_0d, isOb_0n, ioIdx_nil, ioIdx_d, ioIdx_io, wipeC_nil, wipeC_cons, restC_nil, restC_cons, noOwn_nil, noOwn_d, noOwn_n, noOwn_o, lim_is, tyD, argCell, Option.isSome_some, List.set_cons_succ, List.set_cons_zero, List.getElem?_cons_succ, List.getElem?_cons_zero, Option.getD_some, List.any_cons, List.any_nil, List.nodup_nil, List.nodup_cons, List.not_mem_nil, List.mem_cons, List.length_cons, List.length_nil, List.length_map, Nat.zero_add, true_and, and_true, forall_const, reduceCtorEq, false_implies, true_implies, Bool.not_true, Bool.not_false, Bool.or_false, Bool.false_or, Bool.or_true, Bool.true_or, Bool.and_true, Bool.true_and, Bool.and_false, Bool.false_and, Bool.not_eq_true, Bool.not_eq_false, Bool.not_eq_true', Bool.not_eq_false', decide_eq_true_eq, decide_eq_false_iff_not, Bool.false_eq_true, Bool.true_eq_false, beq_iff_eq, beq_eq_false_iff_ne, ne_eq, not_false_eq_true, not_true_eq_false, List.cons_append, List.nil_append, List.map_cons, List.map_nil, Bool.decide_eq_true, Int.toNat_natCast, Int.natAbs_natCast, abs_lit, Int.cast_ofNat_Int, Nat.reduceAdd, Nat.reduceMul, Nat.reduceSub, Nat.reduceLeDiff, Nat.reduceLT, Nat.reduceGT, Nat.reduceEqDiff, Int.reduceAdd, Int.reduceMul, Int.reduceSub, Int.reduceNeg, Int.reduceLT, Int.reduceLE, Int.reduceGT, Int.reduceGE, Int.reduceEq, Int.reduceNe, Int.reducePow, Int.reduceToNat, Int.reduceBEq, Int.reduceBNe, List.all_cons, List.all_nil, List.any_cons, List.any_nil, id_eq, ↓wE_disp, ↓wKs_nil, ↓wKs_cons, ↓wk_lst, ↓wk_tup, ↓wk_str, ↓wk_dic, ↓wk_items, ↓wk_vals, ↓d_mult, ↓c_isB, ↓c_notB, ↓b_sortD, ↓b_dict, ↓b_str, ↓b_lists, ↓m_join, ↓c_inS, ↓c_inD, ↓c_ninD, ↓c_eqe, ↓c_nee, ↓c_lts, ↓b_minD, ↓b_listd, ↓wE_dc, ↓wDc_nil, ↓wKy_i, ↓wKy_s, ↓wE_idx, ↓wLk_d, ↓wE_lck, ↓wKc_o, ↓wKc_d, ↓wE_lrg1, ↓wE_lrg2, ↓wE_lvs, ↓wE_lit, ↓d_rg1, ↓d_rg2, ↓d_vals, ↓d_its]))
local macro_rules
  | `(tactic| apply_ext_theorem) => `(tactic| (rw [wLc_cons]; array_get_dec))
local macro_rules
  | `(tactic| nofun) => `(tactic| (rw [wL_cons]; array_get_dec))
/-! ### codes as data -/
def nms : List Nat := [48, 49, 50, 51, 52, 53, 54, 55, 56, 57, 97, 98, 99, 100, 101, 102, 103, 104, 105, 106, 107, 108, 109, 110, 111, 112, 113, 114, 115, 116, 117, 118, 119, 120, 121, 122]
abbrev tx1 (c : Nat) : D := .str [c]
structure Cd where
  start : List Int
  chars : List (Nat × List Int)
  between : List Int
  stop : List Int
def Cd.d (c : Cd) : D := .tup [wd c.start, .dic (c.chars.map fun p => (.s [p.1], wd p.2)), wd c.between, wd c.stop]
structure Cd.Ok (c : Cd) : Prop where
  st : Wd c.start
  n1 : 1 ≤ c.chars.length
  n10 : c.chars.length ≤ 10
  nm : ∀ p ∈ c.chars, p.1 ∈ nms
  nd : (c.chars.map (·.1)).Nodup
  ws : ∀ p ∈ c.chars, Wd p.2
  b2 : c.between.length ≤ 2
  bw : ∀ w ∈ c.between, 1 ≤ w ∧ w ≤ 4
  sp : Wd c.stop
theorem nms_nd : nms.Nodup := by decide
theorem m_pop {xs : List D} {k : Nat} {x : D} {P : D × Ob → Prop} (h : xs[k]? = some x) (q : P (x, .lst (xs.eraseIdx k))) : wO (mutD .pop (.lst xs) [.int (k : Int)]) P := by
  have hk : k < xs.length := (List.getElem?_eq_some_iff.mp h).1
  show wO ((L2.ixN xs.length (k : Int)).bind fun k => xs[k]?.map fun y => (y, Ob.lst (xs.eraseIdx k))) P
  rw [wO_bind, ixN_lt hk, wO_map, h, wO_some]
  exact q
theorem as_pairs : ∀ (ns : List Nat) (ss : List (List Int)), asPairs (zipL (ns.map tx1) (ss.map wd)) = some ((ns.zip ss).map fun p => (.s [p.1], wd p.2))
  | [], ss => by cases ss <;> rfl
  | n :: ns, [] => rfl
  | n :: ns, s :: ss => by
    rw [List.map_cons, List.map_cons, zipL, asPairs]
    show (asPairs _).map _ = _
    rw [as_pairs ns ss]
    rfl
theorem put_all {kvs : List (DK × D)} : (kvs.map (·.1)).Nodup → putAll kvs = kvs := by
  have go : ∀ (r acc : List (DK × D)), ((acc ++ r).map (·.1)).Nodup → r.foldl (fun acc p => put acc p.1 p.2) acc = acc ++ r := by
    intro r
    induction r with
    | nil => intro acc _; simp
    | cons p r ih =>
      intro acc h
      rw [List.foldl_cons]
      have hn : acc.any (fun q => decide (q.1 = p.1)) = false := by
        rw [List.any_eq_false]
        intro q hq e
        have e := of_decide_eq_true e
        rw [List.map_append, List.nodup_append] at h
        exact h.2.2 q.1 (List.mem_map.mpr ⟨q, hq, rfl⟩) p.1 (by simp) e
      have e : put acc p.1 p.2 = acc ++ [p] := by unfold put; rw [hn]; rfl
      rw [e, ih (acc ++ [p]) (by simpa using h)]
      simp
  intro h
  exact go kvs [] (by simpa using h)
theorem erase_perm {α : Type} : ∀ {l : List α} {q : Nat} (h : q < l.length), (l[q] :: l.eraseIdx q).Perm l
  | a :: l, 0, _ => List.Perm.refl _
  | a :: l, q + 1, h => (List.Perm.swap a _ _).trans ((erase_perm (l := l) (q := q) (by simpa using h)).cons a)
theorem erase_map {α β : Type} (f : α → β) : ∀ (l : List α) (q : Nat), (l.map f).eraseIdx q = (l.eraseIdx q).map f
  | [], _ => rfl
  | a :: l, 0 => rfl
  | a :: l, q + 1 => by rw [List.map_cons, List.eraseIdx_cons_succ, List.eraseIdx_cons_succ, List.map_cons, erase_map f l q]
theorem zipL_len : ∀ xs ys : List D, (zipL xs ys).length = min xs.length ys.length
  | [], ys => by simp [zipL]
  | x :: xs, [] => by simp [zipL]
  | x :: xs, y :: ys => by rw [zipL, List.length_cons, zipL_len xs ys, List.length_cons, List.length_cons]; omega
theorem zip_fst {α β : Type} : ∀ {xs : List α} {ys : List β}, xs.length = ys.length → (xs.zip ys).map (·.1) = xs
  | [], [], _ => rfl
  | x :: xs, y :: ys, h => by rw [List.zip_cons_cons, List.map_cons, zip_fst (by simpa using h)]
/-! ### names in order -/
def Cd.names (c : Cd) : List Nat := c.chars.map (·.1)
def sn (ns : List Nat) : List Nat := sortBy (fun a b => decide (a ≤ b)) ns
theorem sn_perm (ns : List Nat) : (sn ns).Perm ns := sortBy_perm ns
theorem sn_len (ns : List Nat) : (sn ns).length = ns.length := (sn_perm ns).length_eq
theorem sn_mem {ns : List Nat} {c : Nat} : c ∈ sn ns ↔ c ∈ ns := (sn_perm ns).mem_iff
theorem ins_one (a : Nat) : ∀ l : List Nat, insBy (fun a b : List Nat => !ltS b a) [a] (l.map fun x => [x]) = (insBy (fun a b => decide (a ≤ b)) a l).map fun x => [x]
  | [] => rfl
  | b :: l => by
    have e : (!ltS [b] [a]) = decide (a ≤ b) := by
      unfold ltS
      rw [Bool.eq_iff_iff]
      simp [List.cons_lt_cons_iff]
    simp only [List.map_cons, insBy, e]
    by_cases h : a ≤ b
    · simp [h]
    · simp [h, ins_one a l]
theorem sort_one : ∀ ns : List Nat, sortT (ns.map fun x => [x]) = (sn ns).map fun x => [x]
  | [] => rfl
  | a :: ns => by
    show insBy _ [a] (sortT (ns.map fun x => [x])) = _
    rw [sort_one ns, ins_one]
    rfl
theorem keys_cd : ∀ cs : List (Nat × List Int), keyStrs (cs.map fun p => (DK.s [p.1], wd p.2)) = some ((cs.map (·.1)).map fun x => [x])
  | [] => rfl
  | p :: cs => by
    rw [List.map_cons, keyStrs, keys_cd cs]
    rfl
theorem tx_map (t : List Nat) : (t.map fun x => [x]).map D.str = t.map tx1 := by rw [List.map_map]; rfl
theorem join_one : ∀ t : List Nat, joinL [] (t.map fun x => [x]) = t
  | [] => rfl
  | [a] => rfl
  | a :: b :: t => by
    have := join_one (b :: t)
    simp only [List.map_cons, joinL] at this ⊢
    rw [this]
    rfl
theorem sum_one : ∀ t : List Nat, ((t.map fun x => [x]).map (·.length)).sum = t.length
  | [] => rfl
  | a :: t => by rw [List.map_cons, List.map_cons, List.sum_cons, sum_one t, List.length_cons, List.length_cons, List.length_nil]; omega
/-- a text of a code -/
def Tx (c : Cd) (t : List Nat) : Prop := ∀ x ∈ t, x ∈ c.names
theorem at_d {xs : List D} {k : Nat} {x : D} {P : D → Prop} (h : xs[k]? = some x) (q : P x) : wO (L2.atI xs (k : Int)) P := at_n h q
/-! ### rows -/
def Cd.get (c : Cd) (x : Nat) : List Int := ((c.chars.find? fun p => p.1 == x).map (·.2)).getD []
theorem look_cd : ∀ (cs : List (Nat × List Int)) (x : Nat), look (.s [x]) (cs.map fun p => (DK.s [p.1], wd p.2)) = (cs.find? fun p => p.1 == x).map fun p => wd p.2
  | [], x => rfl
  | p :: cs, x => by
    have ih := look_cd cs x
    unfold look at ih ⊢
    rw [List.map_cons, List.find?_cons, List.find?_cons]
    by_cases h : p.1 = x
    · subst h; simp
    · have h' : ¬ DK.s [p.1] = DK.s [x] := fun e => h (by cases e; rfl)
      simp only [h', decide_false, beq_eq_false_iff_ne.mpr h]
      exact ih
theorem Cd.find {c : Cd} {x : Nat} (h : x ∈ c.names) : ∃ p ∈ c.chars, (c.chars.find? fun p => p.1 == x) = some p := by
  cases e : c.chars.find? fun p => p.1 == x with
  | none =>
    rw [List.find?_eq_none] at e
    obtain ⟨p, hp, rfl⟩ := List.mem_map.mp h
    exact absurd (by simp) (e p hp)
  | some p => exact ⟨p, List.mem_of_find?_eq_some e, rfl⟩
theorem Cd.look {c : Cd} {x : Nat} (h : x ∈ c.names) : Fx.look (.s [x]) (c.chars.map fun p => (DK.s [p.1], wd p.2)) = some (wd (c.get x)) := by
  obtain ⟨p, _, e⟩ := c.find h
  rw [look_cd, Cd.get, e]
  rfl
theorem Cd.getOk {c : Cd} (hc : c.Ok) {x : Nat} (h : x ∈ c.names) : Wd (c.get x) := by
  obtain ⟨p, hp, e⟩ := c.find h
  rw [Cd.get, e]
  exact hc.ws p hp
def pre (c : Cd) (t : List Nat) : List Int := c.start ++ c.between ++ t.flatMap fun x => c.get x ++ c.between
def rowL (c : Cd) (t : List Nat) : List Int := pre c t ++ c.stop
theorem pre_snoc (c : Cd) (t : List Nat) (x : Nat) : pre c (t ++ [x]) = pre c t ++ c.get x ++ c.between := by simp [pre, List.append_assoc]
theorem pre_nil (c : Cd) : pre c [] = c.start ++ c.between := by simp [pre]
theorem take_snoc {α : Type} {t : List α} {i : Nat} {x : α} (h : t[i]? = some x) : t.take (i + 1) = t.take i ++ [x] := by
  obtain ⟨h1, rfl⟩ := List.getElem?_eq_some_iff.mp h
  exact (List.take_append_getElem h1).symm
theorem Tx.take {c : Cd} {t : List Nat} (h : Tx c t) (n : Nat) : Tx c (t.take n) := fun x hx => h x (List.mem_of_mem_take hx)
theorem pre_len {c : Cd} (hc : c.Ok) : ∀ {t : List Nat}, Tx c t → (pre c t).length ≤ 8 + 8 * t.length := by
  intro t tx
  have e : ∀ u : List Nat, Tx c u → (u.flatMap fun x => c.get x ++ c.between).length ≤ 8 * u.length := by
    intro u
    induction u with
    | nil => intro _; simp
    | cons a u ih =>
      intro tx
      have h1 := (c.getOk hc (tx a (by simp))).2.1
      have h2 := ih fun x hx => tx x (by simp [hx])
      have h3 := hc.b2
      simp only [List.flatMap_cons, List.length_append, List.length_cons]
      omega
  have h1 := hc.st.2.1
  have h3 := hc.b2
  have h2 := e t tx
  simp only [pre, List.length_append]
  omega
theorem row_len {c : Cd} (hc : c.Ok) {t : List Nat} (tx : Tx c t) : (rowL c t).length ≤ 14 + 8 * t.length := by
  have := pre_len hc tx
  have := hc.sp.2.1
  simp only [rowL, List.length_append]
  omega
theorem Wd.pos {ws : List Int} (h : Wd ws) : 1 ≤ ws.length := by
  have := h.1
  cases ws with
  | nil => exact absurd rfl this
  | cons a r => simp
theorem row_two {c : Cd} (hc : c.Ok) (t : List Nat) : 2 + t.length ≤ (rowL c t).length ∨ True := .inr trivial
theorem row_ge {c : Cd} (hc : c.Ok) {t : List Nat} (tx : Tx c t) : 2 + t.length ≤ (rowL c t).length := by
  have e : ∀ u : List Nat, Tx c u → u.length ≤ (u.flatMap fun x => c.get x ++ c.between).length := by
    intro u
    induction u with
    | nil => intro _; simp
    | cons a u ih =>
      intro tx
      have h1 := (c.getOk hc (tx a (by simp))).pos
      have h2 := ih fun x hx => tx x (by simp [hx])
      simp only [List.flatMap_cons, List.length_append, List.length_cons]
      omega
  have h1 := hc.st.pos
  have h2 := e t tx
  have h3 := hc.sp.pos
  simp only [rowL, pre, List.length_append]
  omega
theorem row_w {c : Cd} (hc : c.Ok) {t : List Nat} (tx : Tx c t) : ∀ w ∈ rowL c t, 1 ≤ w ∧ w ≤ 4 := by
  intro w hw
  simp only [rowL, pre, List.mem_append, List.mem_flatMap] at hw
  rcases hw with ((hw | hw) | ⟨x, hx, hw | hw⟩) | hw
  · exact hc.st.2.2 w hw
  · exact hc.bw w hw
  · exact (c.getOk hc (tx x hx)).2.2 w hw
  · exact hc.bw w hw
  · exact hc.sp.2.2 w hw
/-! ### scans -/
def Sc (fs : List Int) : Prop := ∀ s ∈ fs, 1 ≤ s ∧ s ≤ 1000000000000000000000000000000
abbrev someS : Ob := .lst [.int 1, .int 2, .int 3, .int 4, .int 6, .int 12]
/-- an item of a list of whole numbers -/
def InR (a b : Int) (d : D) : Prop := ∃ n, d = .int n ∧ a ≤ n ∧ n ≤ b
theorem inR {a b n : Int} (h1 : a ≤ n) (h2 : n ≤ b) : InR a b (.int n) := ⟨n, rfl, h1, h2⟩
theorem Sc.set {fs : List Int} (h : Sc fs) {s : Int} (k : Nat) (h1 : 1 ≤ s) (h2 : s ≤ 1000000000000000000000000000000) : Sc (fs.set k s) := by
  intro x hx
  rcases List.mem_or_eq_of_mem_set hx with hx | rfl
  · exact h x hx
  · exact ⟨h1, h2⟩
theorem dur_in {w base sp : Int} (w1 : 1 ≤ w) (w4 : w ≤ 4) (b1 : 12 ≤ base) (b2 : base ≤ 1200000000000000000000) (s1 : 1 ≤ sp) (s2 : sp ≤ 12) : 1 ≤ w * base / sp ∧ w * base / sp ≤ 4800000000000000000000 := by
  have h1 : 1 * base ≤ w * base := Int.mul_le_mul_of_nonneg_right w1 (by omega)
  have h2 : w * base ≤ 4 * base := Int.mul_le_mul_of_nonneg_right w4 (by omega)
  refine ⟨Int.le_ediv_of_mul_le (by omega) (by omega), ?_⟩
  have : w * base / sp ≤ w * base := Int.ediv_le_self _ (by omega)
  omega
end K03

set_option Elab.async false
set_option linter.all false
set_option maxRecDepth 100000
set_option maxHeartbeats 800000
namespace K03
open PySem Fx
local macro_rules
  | `(tactic| array_get_dec) => `(tactic| try simp only [↓wO_some, ↓wO_none, ↓wO_map, ↓wO_bind, ↓wO_ite, ↓wLook_0, ↓wLook_s, ↓wSet_0, ↓wSet_s, ↓wCv_d, ↓wCv_o, ↓wCv_io, ↓wCg_d, ↓wCg_ol, ↓wCg_iol, ↓wCg_od, ↓wCg_iod, ↓wG_d, ↓wG_nl, ↓wG_nd, ↓wG_own, ↓wCz_d, ↓wCz_ol, ↓wCz_od, ↓wZ_d, ↓wZ_nl, ↓wZ_nd, ↓wZ_own, ↓wGs_nil, ↓wGs_cons, ↓wZs_nil, ↓wZs_cons, ↓wCo_o, ↓wCo_io, ↓wCp_o, ↓wCp_io, ↓wCs_eq, ↓wAd_nm, ↓wAd_tup, ↓wAds_nil, ↓wAds_cons, ↓wA_d, ↓wA_n, ↓wA_own, ↓wA_tup, ↓wAs_nil, ↓wAs_cons, ↓wD_bl, ↓wD_non, ↓wD_int, ↓wD_lst, ↓wD_tup, ↓wD_str, ↓wB_bl, ↓wE_var, ↓wT_var, ↓wE_cst, ↓wT_cst, ↓wE_bin, ↓wT_bin, ↓wE_neg, ↓wE_not, ↓wT_not, ↓wE_cmp, ↓wT_cmp, ↓wE_chain, ↓wT_chain, ↓wE_and, ↓wE_or, ↓wT_and, ↓wT_or, ↓wE_ite, ↓wT_ite, ↓wE_tup, ↓wE_lst, ↓wT_tup, ↓wT_lst, ↓wE_blt, ↓wT_blt, ↓wE_isinst, ↓wT_isinst, ↓wE_mth, ↓wE_ix, ↓wT_ix, ↓wEo_none, ↓wN_int, ↓wEo_some, ↓wE_sl, ↓wE_rev, ↓wEs_nil, ↓wEs_cons, ↓wE_mut, ↓wPre_nil, ↓wPre_io, ↓wPre_d, ↓wArg_nil, ↓wArg_d, ↓wArg_io, ↓wBack_nil, ↓wBack_cons, ↓wE_call, ↓wT_call, ↓wC_0, ↓wC_1, ↓wCc_go, ↓wI_e, ↓wI_items, ↓wI_values, ↓wI_enum, ↓wI_zip, ↓wI_range, ↓wE_col, ↓wEc_none, ↓wEc_some, ↓wE_lc, ↓wK_next, ↓wK_ret, ↓wK_brk, ↓wK_cnt, ↓wKl_next, ↓wKl_cnt, ↓wKl_brk, ↓wKl_ret, ↓wS_asg, ↓wPar_t, ↓wPar_f, ↓wS_par, ↓wS_set, ↓wS_expr, ↓wS_ifs, ↓wS_ret, ↓wS_retN, ↓wS_brk, ↓wS_cnt, ↓wS_pas, ↓wS_never, ↓wCa_int, ↓wS_aug, ↓wS_fors, ↓wS_whl, ↓wCr_o, ↓wCr_d, ↓wOut_d, ↓wOut_n, ↓wOut_own, ↓wFl_next, ↓wFl_ret, ↓wIo_io, ↓d_add, ↓d_sub, ↓d_mul, ↓d_fdiv, ↓d_mod, ↓d_pow, ↓d_adds, ↓d_addl, ↓d_addt, ↓d_mull, ↓d_muls, ↓d_neg, ↓c_lt, ↓c_le, ↓c_gt, ↓c_ge, ↓c_eqi, ↓c_nei, ↓c_eqb, ↓c_neb, ↓c_eqs, ↓c_nes, ↓c_in3, ↓c_isN_non, ↓c_isN_int, ↓c_isN_tup, ↓c_isN_lst, ↓c_isN_str, ↓c_isN_bl, ↓c_isN_dic, ↓c_notN_non, ↓c_notN_int, ↓c_notN_tup, ↓c_notN_lst, ↓c_notN_str, ↓c_notN_bl, ↓c_notN_dic, ↓b_lens, ↓b_lenl, ↓b_lent, ↓b_lend, ↓b_abs, ↓b_max, ↓b_min, ↓b_inti, ↓b_intb, ↓b_listl, ↓b_listt, ↓b_tupl, ↓b_tupt, ↓b_repr, ↓b_all, ↓b_any, ↓b_sum, ↓asB_nil, ↓asB_cons, ↓asB_map, ↓asI_nil, ↓asI_cons, ↓asI_map, ↓m_append, ↓m_extend, ↓m_extendt, ↓i_lst, ↓i_tup, ↓i_str, ↓r_1, ↓r_2, ↓e_1, ↓z_l, ↓z_2, ↓s_l, ↓s_t, ↓s_s, ↓v_l, ↓v_s, ↓x_l, ↓x_t, ↓x_s, ↓x_d, ↓k_i, ↓k_s, ↓u_add, ↓u_sub, ↓toR_d, ↓toR_n, ↓wPut_s, ↓wPut_o, ↓wPut_io, ↓at_0, ↓at_1, ↓at_2, ↓at_3, ↓at_4, ↓at_5, ↓at_m1, ↓wLast_1, ↓wLast_s, ↓wLast_app, ↓setD_l, ↓setD_d, ↓ixN_0, ↓ixN_1, ↓ixN_2, ↓br_t, ↓br_f, ↓wL_nil, ↓wLc_nil, ↓wSs_nil, enumL, zipL, dfl2, List.drop_succ_cons, List.drop_zero, Fre_io, Fre_o, Fre_d, Fre_n, obAt_s, obAt_0o, obAt_0io, obAt_0d, obAt_0n, isL_s, isL_o, isL_io, isOb_s, isOb_0d, isOb_0n, ioIdx_nil, ioIdx_d, ioIdx_io, wipeC_nil, wipeC_cons, restC_nil, restC_cons, noOwn_nil, noOwn_d, noOwn_n, noOwn_o, lim_is, tyD, argCell, Option.isSome_some, List.set_cons_succ, List.set_cons_zero, List.getElem?_cons_succ, List.getElem?_cons_zero, Option.getD_some, List.any_cons, List.any_nil, List.nodup_nil, List.nodup_cons, List.not_mem_nil, List.mem_cons, List.length_cons, List.length_nil, List.length_map, Nat.zero_add, true_and, and_true, forall_const, reduceCtorEq, false_implies, true_implies, Bool.not_true, Bool.not_false, Bool.or_false, Bool.false_or, Bool.or_true, Bool.true_or, Bool.and_true, Bool.true_and, Bool.and_false, Bool.false_and, Bool.not_eq_true, Bool.not_eq_false, Bool.not_eq_true', Bool.not_eq_false', decide_eq_true_eq, decide_eq_false_iff_not, Bool.false_eq_true, Bool.true_eq_false, beq_iff_eq, beq_eq_false_iff_ne, ne_eq, not_false_eq_true, not_true_eq_false, List.cons_append, List.nil_append, List.map_cons, List.map_nil, Bool.decide_eq_true, Int.toNat_natCast, Int.natAbs_natCast, abs_lit, Int.cast_ofNat_Int, Nat.reduceAdd, Nat.reduceMul, Nat.reduceSub, Nat.reduceLeDiff, Nat.reduceLT, Nat.reduceGT, Nat.reduceEqDiff, Int.reduceAdd, Int.reduceMul, Int.reduceSub, Int.reduceNeg, Int.reduceLT, Int.reduceLE, Int.reduceGT, Int.reduceGE, Int.reduceEq, Int.reduceNe, Int.reducePow, Int.reduceToNat, Int.reduceBEq, Int.reduceBNe, List.all_cons, List.all_nil, List.any_cons, List.any_nil, id_eq, ↓wE_disp, ↓wKs_nil, ↓wKs_cons, ↓wk_lst, ↓wk_tup, ↓wk_str, ↓wk_dic, ↓wk_items, ↓wk_vals, ↓d_mult, ↓c_isB, ↓c_notB, ↓b_sortD, ↓b_dict, ↓b_str, ↓b_lists, ↓m_join, ↓c_inS, ↓c_inD, ↓c_ninD, ↓c_eqe, ↓c_nee, ↓c_lts, ↓b_minD, ↓b_listd, ↓wE_dc, ↓wDc_nil, ↓wKy_i, ↓wKy_s, ↓wE_idx, ↓wLk_d, ↓wE_lck, ↓wKc_o, ↓wKc_d, ↓wE_lrg1, ↓wE_lrg2, ↓wE_lvs, ↓wE_lit, ↓d_rg1, ↓d_rg2, ↓d_vals, ↓d_its])
local macro_rules
  | `(tactic| array_mem_dec) => `(tactic| (refine wStep ?_; simp only [↓wO_some, ↓wO_none, ↓wO_map, ↓wO_bind, ↓wO_ite, ↓wLook_0, ↓wLook_s, ↓wSet_0, ↓wSet_s, ↓wCv_d, ↓wCv_o, ↓wCv_io, ↓wCg_d, ↓wCg_ol, ↓wCg_iol, ↓wCg_od, ↓wCg_iod, ↓wG_d, ↓wG_nl, ↓wG_nd, ↓wG_own, ↓wCz_d, ↓wCz_ol, ↓wCz_od, ↓wZ_d, ↓wZ_nl, ↓wZ_nd, ↓wZ_own, ↓wGs_nil, ↓wGs_cons, ↓wZs_nil, ↓wZs_cons, ↓wCo_o, ↓wCo_io, ↓wCp_o, ↓wCp_io, ↓wCs_eq, ↓wAd_nm, ↓wAd_tup, ↓wAds_nil, ↓wAds_cons, ↓wA_d, ↓wA_n, ↓wA_own, ↓wA_tup, ↓wAs_nil, ↓wAs_cons, ↓wD_bl, ↓wD_non, ↓wD_int, ↓wD_lst, ↓wD_tup, ↓wD_str, ↓wB_bl, ↓wE_var, ↓wT_var, ↓wE_cst, ↓wT_cst, ↓wE_bin, ↓wT_bin, ↓wE_neg, ↓wE_not, ↓wT_not, ↓wE_cmp, ↓wT_cmp, ↓wE_chain, ↓wT_chain, ↓wE_and, ↓wE_or, ↓wT_and, ↓wT_or, ↓wE_ite, ↓wT_ite, ↓wE_tup, ↓wE_lst, ↓wT_tup, ↓wT_lst, ↓wE_blt, ↓wT_blt, ↓wE_isinst, ↓wT_isinst, ↓wE_mth, ↓wE_ix, ↓wT_ix, ↓wEo_none, ↓wN_int, ↓wEo_some, ↓wE_sl, ↓wE_rev, ↓wEs_nil, ↓wEs_cons, ↓wE_mut, ↓wPre_nil, ↓wPre_io, ↓wPre_d, ↓wArg_nil, ↓wArg_d, ↓wArg_io, ↓wBack_nil, ↓wBack_cons, ↓wE_call, ↓wT_call, ↓wC_0, ↓wC_1, ↓wCc_go, ↓wI_e, ↓wI_items, ↓wI_values, ↓wI_enum, ↓wI_zip, ↓wI_range, ↓wE_col, ↓wEc_none, ↓wEc_some, ↓wE_lc, ↓wK_next, ↓wK_ret, ↓wK_brk, ↓wK_cnt, ↓wKl_next, ↓wKl_cnt, ↓wKl_brk, ↓wKl_ret, ↓wS_asg, ↓wPar_t, ↓wPar_f, ↓wS_par, ↓wS_set, ↓wS_expr, ↓wS_ifs, ↓wS_ret, ↓wS_retN, ↓wS_brk, ↓wS_cnt, ↓wS_pas, ↓wS_never, ↓wCa_int, ↓wS_aug, ↓wS_fors, ↓wS_whl, ↓wCr_o, ↓wCr_d, ↓wOut_d, ↓wOut_n, ↓wOut_own, ↓wFl_next, ↓wFl_ret, ↓wIo_io, ↓d_add, ↓d_sub, ↓d_mul, ↓d_fdiv, ↓d_mod, ↓d_pow, ↓d_adds, ↓d_addl, ↓d_addt, ↓d_mull, ↓d_muls, ↓d_neg, ↓c_lt, ↓c_le, ↓c_gt, ↓c_ge, ↓c_eqi, ↓c_nei, ↓c_eqb, ↓c_neb, ↓c_eqs, ↓c_nes, ↓c_in3, ↓c_isN_non, ↓c_isN_int, ↓c_isN_tup, ↓c_isN_lst, ↓c_isN_str, ↓c_isN_bl, ↓c_isN_dic, ↓c_notN_non, ↓c_notN_int, ↓c_notN_tup, ↓c_notN_lst, ↓c_notN_str, ↓c_notN_bl, ↓c_notN_dic, ↓b_lens, ↓b_lenl, ↓b_lent, ↓b_lend, ↓b_abs, ↓b_max, ↓b_min, ↓b_inti, ↓b_intb, ↓b_listl, ↓b_listt, ↓b_tupl, ↓b_tupt, ↓b_repr, ↓b_all, ↓b_any, ↓b_sum, ↓asB_nil, ↓asB_cons, ↓asB_map, ↓asI_nil, ↓asI_cons, ↓asI_map, ↓m_append, ↓m_extend, ↓m_extendt, ↓i_lst, ↓i_tup, ↓i_str, ↓r_1, ↓r_2, ↓e_1, ↓z_l, ↓z_2, ↓s_l, ↓s_t, ↓s_s, ↓v_l, ↓v_s, ↓x_l, ↓x_t, ↓x_s, ↓x_d, ↓k_i, ↓k_s, ↓u_add, ↓u_sub, ↓toR_d, ↓toR_n, ↓wPut_s, ↓wPut_o, ↓wPut_io, ↓at_0, ↓at_1, ↓at_2, ↓at_3, ↓at_4, ↓at_5, ↓at_m1, ↓wLast_1, ↓wLast_s, ↓wLast_app, ↓setD_l, ↓setD_d, ↓ixN_0, ↓ixN_1, ↓ixN_2, ↓br_t, ↓br_f, ↓wL_nil, ↓wLc_nil, ↓wSs_nil, enumL, zipL, dfl2, List.drop_succ_cons, List.drop_zero, Fre_io, Fre_o, Fre_d, Fre_n, obAt_s, obAt_0o, obAt_0io, obAt_0d, obAt_0n, isL_s, isL_o, isL_io, isOb_s, isOb_0d, isOb_0n, ioIdx_nil, ioIdx_d, ioIdx_io, wipeC_nil, wipeC_cons, restC_nil, restC_cons, noOwn_nil, noOwn_d, noOwn_n, noOwn_o, lim_is, tyD, argCell, Option.isSome_some, List.set_cons_succ, List.set_cons_zero, List.getElem?_cons_succ, List.getElem?_cons_zero, Option.getD_some, List.any_cons, List.any_nil, List.nodup_nil, List.nodup_cons, List.not_mem_nil, List.mem_cons, List.length_cons, List.length_nil, List.length_map, Nat.zero_add, true_and, and_true, forall_const, reduceCtorEq, false_implies, true_implies, Bool.not_true, Bool.not_false, Bool.or_false, Bool.false_or, Bool.or_true, Bool.true_or, Bool.and_true, Bool.true_and, Bool.and_false, Bool.false_and, Bool.not_eq_true, Bool.not_eq_false, Bool.not_eq_true', Bool.not_eq_false', decide_eq_true_eq, decide_eq_false_iff_not, Bool.false_eq_true, Bool.true_eq_false, beq_iff_eq, beq_eq_false_iff_ne, ne_eq, not_false_eq_true, not_true_eq_false, List.cons_append, List.nil_append, List.map_cons, List.map_nil, Bool.decide_eq_true, Int.toNat_natCast, Int.natAbs_natCast, abs_lit, Int.cast_ofNat_Int, Nat.reduceAdd, Nat.reduceMul, Nat.reduceSub, Nat.reduceLeDiff, Nat.reduceLT, Nat.reduceGT, Nat.reduceEqDiff, Int.reduceAdd, Int.reduceMul, Int.reduceSub, Int.reduceNeg, Int.reduceLT, Int.reduceLE, Int.reduceGT, Int.reduceGE, Int.reduceEq, Int.reduceNe, Int.reducePow, Int.reduceToNat, Int.reduceBEq, Int.reduceBNe, List.all_cons, List.all_nil, List.any_cons, List.any_nil, id_eq, ↓wE_disp, ↓wKs_nil, ↓wKs_cons, ↓wk_lst, ↓wk_tup, ↓wk_str, ↓wk_dic, ↓wk_items, ↓wk_vals, ↓d_mult, ↓c_isB, ↓c_notB, ↓b_sortD, ↓b_dict, ↓b_str, ↓b_lists, ↓m_join, ↓c_inS, ↓c_inD, ↓c_ninD, ↓c_eqe, ↓c_nee, ↓c_lts, ↓b_minD, ↓b_listd, ↓wE_dc, ↓wDc_nil, ↓wKy_i, ↓wKy_s, ↓wE_idx, ↓wLk_d, ↓wE_lck, ↓wKc_o, ↓wKc_d, ↓wE_lrg1, ↓wE_lrg2, ↓wE_lvs, ↓wE_lit, ↓d_rg1, ↓d_rg2, ↓d_vals, ↓d_its]))
local macro_rules
  | `(tactic| apply_ext_theorem) => `(tactic| (rw [wLc_cons]; array_get_dec))
local macro_rules
  | `(tactic| nofun) => `(tactic| (rw [wL_cons]; array_get_dec))
/-! ### what is asked of codes, texts, scans -/
theorem w_is_name {x : Nat} {E : Exn → List Ob → Prop} {Q : RO → List Ob → Prop} (h : x ∈ nms) (k : Q (.d (.bl true)) []) : wF (F1 [.d (tx1 x)]) E Q := by
  refine run1 ?_
  array_mem_dec
  have e : List.contains nms x = true := by rw [List.contains_iff_mem]; exact h
  unfold nms at e
  rw [e]
  exact k
theorem w_is_widths {ws : List Int} {E : Exn → List Ob → Prop} {Q : RO → List Ob → Prop} (h : Wd ws) (k : Q (.d (.bl true)) []) : wF (F3 [.d (wd ws)]) E Q := by
  have h1 := h.pos
  have h2 := h.2.1
  refine run3 ?_
  array_mem_dec
  refine w_are_widths h.2.2 (by omega) (by omega) (by omega) ?_
  array_get_dec
  exact k
theorem keysD (cs : List (Nat × List Int)) : (cs.map fun p => (DK.s [p.1], wd p.2)).map (fun p => p.1.toD) = (cs.map (·.1)).map tx1 := by
  rw [List.map_map, List.map_map]
  rfl
theorem cut_nil {α : Type} (a b : Option Int) : cutG ([] : List α) a b = [] := by simp [cutG]
theorem w_fault_of_characters {c : Cd} {E : Exn → List Ob → Prop} {Q : RO → List Ob → Prop} (hc : c.Ok) (k : Q (.new (.lst [])) []) : wF (F4 [.d (.dic (c.chars.map fun p => (.s [p.1], wd p.2)))]) E Q := by
  have n1 := hc.n1
  have n10 := hc.n10
  have nl : c.names.length = c.chars.length := List.length_map _
  refine run4 ?_
  array_mem_dec
  refine ⟨fun _ => ⟨fun z => absurd (show (c.chars.length : Int) ≤ 10 by omega) z, fun _ => ?_⟩, fun z => absurd (show (1 : Int) ≤ c.chars.length by omega) z⟩
  array_mem_dec
  rw [keysD]
  refine wLc_map (f := tx1) (l := c.chars.map (·.1)) (fun i acc e => i ≤ c.chars.length ∧ acc = List.replicate i (.bl true) ∧ ∃ cl, Fre cl ∧ e = [.d (.dic (c.chars.map fun p => (.s [p.1], wd p.2))), cl]) ⟨by omega, rfl, .none, trivial, rfl⟩ ?_ ?_
  · rintro i x acc e hx ⟨hi, rfl, cl, fc, rfl⟩
    have hi' : i < c.chars.length := by have := (List.getElem?_eq_some_iff.mp hx).1; simpa using this
    have hm : x ∈ nms := by
      obtain ⟨p, hp, rfl⟩ := List.mem_map.mp (List.mem_of_getElem? hx)
      exact hc.nm p hp
    array_get_dec
    refine w_is_name hm ?_
    array_get_dec
    simp only [List.length_replicate]
    exact ⟨by omega, by omega, by simp [List.replicate_succ'], .d _, trivial, rfl⟩
  · rintro acc e ⟨_, rfl, cl, fc, rfl⟩
    have e1 : List.replicate (c.chars.map (·.1)).length (D.bl true) = (List.replicate c.chars.length true).map D.bl := by simp
    rw [e1]
    array_get_dec
    have e2 : (List.replicate c.chars.length true).all id = true := by simp
    rw [e2]
    array_get_dec
    array_mem_dec
    rw [keys_cd]
    array_get_dec
    refine ⟨by omega, ?_⟩
    rw [sort_one, tx_map]
    refine wLc_map (f := tx1) (l := sn (c.chars.map (·.1))) (fun i acc e => acc = [] ∧ ∃ cl, Fre cl ∧ e = [.d (.dic (c.chars.map fun p => (.s [p.1], wd p.2))), cl]) ⟨rfl, .none, trivial, rfl⟩ ?_ ?_
    · rintro i x acc e hx ⟨rfl, cl, fc, rfl⟩
      have hm : x ∈ c.names := sn_mem.mp (List.mem_of_getElem? hx)
      array_get_dec
      rw [c.look hm]
      array_get_dec
      refine w_is_widths (c.getOk hc hm) ?_
      array_get_dec
      exact ⟨.d _, trivial, rfl⟩
    · rintro acc e ⟨rfl, cl, fc, rfl⟩
      array_get_dec
      rw [cut_nil]
      exact k
theorem w_fault_of_code {c : Cd} {E : Exn → List Ob → Prop} {Q : RO → List Ob → Prop} (hc : c.Ok) (k : Q (.new (.lst [])) []) : wF (F5 [.d c.d]) E Q := by
  refine run5 ?_
  unfold Cd.d
  array_mem_dec
  array_mem_dec
  array_mem_dec
  refine w_fault_of_characters hc ?_
  array_get_dec
  array_mem_dec
  refine w_is_widths hc.st ?_
  array_get_dec
  array_mem_dec
  have hb : (c.between.length : Int) ≤ 2 := by have := hc.b2; omega
  refine w_are_widths hc.bw (by omega) hb (by omega) ?_
  array_get_dec
  array_mem_dec
  refine w_is_widths hc.sp ?_
  array_get_dec
  array_mem_dec
  exact k
theorem w_require_code {c : Cd} {E : Exn → List Ob → Prop} {Q : RO → List Ob → Prop} (hc : c.Ok) (k : Q (.d .non) []) : wF (F6 [.d c.d]) E Q := by
  refine run6 ?_
  array_mem_dec
  refine w_fault_of_code hc ?_
  array_get_dec
  array_mem_dec
  exact k
theorem enum_map {α : Type} (f : α → D) : ∀ (l : List α) (n : Nat), enumL n (l.map f) = (l.zipIdx n).map fun p => .tup [.int p.2, f p.1]
  | [], _ => rfl
  | a :: l, n => by rw [List.map_cons, enumL, enum_map f l (n + 1), List.zipIdx_cons, List.map_cons]
/-! ### strains -/
theorem zipL_map {α β : Type} (f : α → D) (g : β → D) : ∀ (l : List α) (m : List β), zipL (l.map f) (m.map g) = (l.zip m).map fun p => .tup [f p.1, g p.2]
  | [], m => by cases m <;> rfl
  | a :: l, [] => rfl
  | a :: l, b :: m => by rw [List.map_cons, List.map_cons, zipL, zipL_map f g l m]; rfl
def stepQ (p q : Int × Int) : Rat := max ((p.1 * q.2 : Int) / (q.1 * p.2 : Int)) ((q.1 * p.2 : Int) / (p.1 * q.2 : Int))
def steps (l : List (Int × Int)) : List Rat := (l.zip l.tail).map fun p => stepQ p.1 p.2
/-- the greatest step, at least 1 -/
def gs (l : List (Int × Int)) : Rat := (steps l).foldl max 1
def Pr (l : List (Int × Int)) : Prop := ∀ p ∈ l, (1 ≤ p.1 ∧ p.1 ≤ 4) ∧ (1 ≤ p.2 ∧ p.2 ≤ 1000000000000000000000000000000)
theorem prod_b {w s : Int} (h1 : 1 ≤ w) (h2 : w ≤ 4) (h3 : 1 ≤ s) (h4 : s ≤ 1000000000000000000000000000000) : 1 ≤ w * s ∧ bits (w * s) ≤ 110 ∧ bits w ≤ 3 ∧ bits s ≤ 101 := by
  have b1 : bits w ≤ 3 := bits_pos (by omega) (by omega)
  have b2 : bits s ≤ 101 := bits_pos (by omega) (by omega)
  have b3 := bits_mul b1 b2
  have := Int.mul_le_mul h1 h3 (by omega) (by omega)
  exact ⟨by omega, by omega, b1, b2⟩
theorem Pr.zip {ws fs : List Int} (hw : ∀ w ∈ ws, 1 ≤ w ∧ w ≤ 4) (hs : Sc fs) : Pr (ws.zip fs) := fun p hp => ⟨hw _ (List.of_mem_zip hp).1, hs _ (List.of_mem_zip hp).2⟩
theorem max_comm' (a b : Rat) : max a b = max b a := by rw [Rat.max_def, Rat.max_def]; split <;> split <;> grind
theorem step_fq {p q : Int × Int} (hp : (1 ≤ p.1 ∧ p.1 ≤ 4) ∧ (1 ≤ p.2 ∧ p.2 ≤ 1000000000000000000000000000000)) (hq : (1 ≤ q.1 ∧ q.1 ≤ 4) ∧ (1 ≤ q.2 ∧ q.2 ≤ 1000000000000000000000000000000)) :
    1 ≤ p.1 * q.2 ∧ 1 ≤ q.1 * p.2 ∧ bits (p.1 * q.2) ≤ 110 ∧ bits (q.1 * p.2) ≤ 110 := by
  have a1 := prod_b hp.1.1 hp.1.2 hq.2.1 hq.2.2
  have a2 := prod_b hq.1.1 hq.1.2 hp.2.1 hp.2.2
  exact ⟨a1.1, a2.1, a1.2.1, a2.2.1⟩
theorem ite_max (a b : Rat) : (if a < b then b else a) = max a b := by rw [Rat.max_def]; split <;> split <;> grind
theorem max_sz {n : Nat} {a b : Rat} (h : Sz n a) (k : Sz n b) : Sz n (max a b) := by rw [Rat.max_def]; split <;> assumption
theorem one_le_max {a : Rat} (b : Rat) (h : 1 ≤ a) : 1 ≤ max a b := by rw [Rat.max_def]; split <;> grind
theorem stepQ_sz {p q : Int × Int} (hp : (1 ≤ p.1 ∧ p.1 ≤ 4) ∧ (1 ≤ p.2 ∧ p.2 ≤ 1000000000000000000000000000000)) (hq : (1 ≤ q.1 ∧ q.1 ≤ 4) ∧ (1 ≤ q.2 ∧ q.2 ≤ 1000000000000000000000000000000)) : Sz 110 (stepQ p q) := by
  obtain ⟨a1, a2, a3, a4⟩ := step_fq hp hq
  exact max_sz (Sz.of (by omega) (by omega) a3 a4) (Sz.of (by omega) (by omega) a4 a3)
theorem fold_one : ∀ (l : List Rat) (a : Rat), 1 ≤ a → 1 ≤ l.foldl max a
  | [], a, h => h
  | b :: l, a, h => fold_one l _ (one_le_max b h)
theorem fold_sz {n : Nat} : ∀ (l : List Rat) (a : Rat), Sz n a → (∀ b ∈ l, Sz n b) → Sz n (l.foldl max a)
  | [], a, h, _ => h
  | b :: l, a, h, k => fold_sz l _ (max_sz h (k b (by simp))) fun x hx => k x (by simp [hx])
theorem zip_mem {l : List (Int × Int)} {p : (Int × Int) × (Int × Int)} (h : p ∈ l.zip l.tail) : p.1 ∈ l ∧ p.2 ∈ l := by
  have := List.of_mem_zip h
  exact ⟨this.1, List.mem_of_mem_tail this.2⟩
theorem one_sz : Sz 110 1 := ⟨by decide, by decide⟩
theorem steps_sz {l : List (Int × Int)} (h : Pr l) : ∀ b ∈ steps l, Sz 110 b := by
  intro b hb
  obtain ⟨p, hp, rfl⟩ := List.mem_map.mp hb
  have := zip_mem hp
  exact stepQ_sz (h _ this.1) (h _ this.2)
theorem gs_one (l : List (Int × Int)) : 1 ≤ gs l := fold_one _ _ (by grind)
theorem gs_sz {l : List (Int × Int)} (h : Pr l) : Sz 110 (gs l) := fold_sz _ _ one_sz (steps_sz h)
/-! ### the law's own strain -/
theorem zip_get {ws fs : List Int} {i : Nat} (h : i + 1 < ws.length) (hl : ws.length = fs.length) :
    ((ws.zip fs).zip (ws.zip fs).tail)[i]? = some ((ws[i], fs[i]), (ws[i + 1], fs[i + 1])) := by
  rw [List.getElem?_zip_eq_some]
  refine ⟨List.getElem?_zip_eq_some.mpr ⟨List.getElem?_eq_getElem _, List.getElem?_eq_getElem _⟩, ?_⟩
  rw [List.getElem?_tail]
  exact List.getElem?_zip_eq_some.mpr ⟨List.getElem?_eq_getElem _, List.getElem?_eq_getElem _⟩
theorem map_get {fs : List Int} {i : Nat} (h : i < fs.length) : (fs.map D.int)[i]? = some (.int fs[i]) := by rw [List.getElem?_map, List.getElem?_eq_getElem h]; rfl
end K03

set_option Elab.async false
set_option linter.all false
set_option maxRecDepth 100000
set_option maxHeartbeats 800000
namespace K03
open PySem Fx
local macro_rules
  | `(tactic| array_get_dec) => `(tactic| try simp only [↓wO_some, ↓wO_none, ↓wO_map, ↓wO_bind, ↓wO_ite, ↓wLook_0, ↓wLook_s, ↓wSet_0, ↓wSet_s, ↓wCv_d, ↓wCv_o, ↓wCv_io, ↓wCg_d, ↓wCg_ol, ↓wCg_iol, ↓wCg_od, ↓wCg_iod, ↓wG_d, ↓wG_nl, ↓wG_nd, ↓wG_own, ↓wCz_d, ↓wCz_ol, ↓wCz_od, ↓wZ_d, ↓wZ_nl, ↓wZ_nd, ↓wZ_own, ↓wGs_nil, ↓wGs_cons, ↓wZs_nil, ↓wZs_cons, ↓wCo_o, ↓wCo_io, ↓wCp_o, ↓wCp_io, ↓wCs_eq, ↓wAd_nm, ↓wAd_tup, ↓wAds_nil, ↓wAds_cons, ↓wA_d, ↓wA_n, ↓wA_own, ↓wA_tup, ↓wAs_nil, ↓wAs_cons, ↓wD_bl, ↓wD_non, ↓wD_int, ↓wD_lst, ↓wD_tup, ↓wD_str, ↓wB_bl, ↓wE_var, ↓wT_var, ↓wE_cst, ↓wT_cst, ↓wE_bin, ↓wT_bin, ↓wE_neg, ↓wE_not, ↓wT_not, ↓wE_cmp, ↓wT_cmp, ↓wE_chain, ↓wT_chain, ↓wE_and, ↓wE_or, ↓wT_and, ↓wT_or, ↓wE_ite, ↓wT_ite, ↓wE_tup, ↓wE_lst, ↓wT_tup, ↓wT_lst, ↓wE_blt, ↓wT_blt, ↓wE_isinst, ↓wT_isinst, ↓wE_mth, ↓wE_ix, ↓wT_ix, ↓wEo_none, ↓wN_int, ↓wEo_some, ↓wE_sl, ↓wE_rev, ↓wEs_nil, ↓wEs_cons, ↓wE_mut, ↓wPre_nil, ↓wPre_io, ↓wPre_d, ↓wArg_nil, ↓wArg_d, ↓wArg_io, ↓wBack_nil, ↓wBack_cons, ↓wE_call, ↓wT_call, ↓wC_0, ↓wC_1, ↓wCc_go, ↓wI_e, ↓wI_items, ↓wI_values, ↓wI_enum, ↓wI_zip, ↓wI_range, ↓wE_col, ↓wEc_none, ↓wEc_some, ↓wE_lc, ↓wK_next, ↓wK_ret, ↓wK_brk, ↓wK_cnt, ↓wKl_next, ↓wKl_cnt, ↓wKl_brk, ↓wKl_ret, ↓wS_asg, ↓wPar_t, ↓wPar_f, ↓wS_par, ↓wS_set, ↓wS_expr, ↓wS_ifs, ↓wS_ret, ↓wS_retN, ↓wS_brk, ↓wS_cnt, ↓wS_pas, ↓wS_never, ↓wCa_int, ↓wS_aug, ↓wS_fors, ↓wS_whl, ↓wCr_o, ↓wCr_d, ↓wOut_d, ↓wOut_n, ↓wOut_own, ↓wFl_next, ↓wFl_ret, ↓wIo_io, ↓d_add, ↓d_sub, ↓d_mul, ↓d_fdiv, ↓d_mod, ↓d_pow, ↓d_adds, ↓d_addl, ↓d_addt, ↓d_mull, ↓d_muls, ↓d_neg, ↓c_lt, ↓c_le, ↓c_gt, ↓c_ge, ↓c_eqi, ↓c_nei, ↓c_eqb, ↓c_neb, ↓c_eqs, ↓c_nes, ↓c_in3, ↓c_isN_non, ↓c_isN_int, ↓c_isN_tup, ↓c_isN_lst, ↓c_isN_str, ↓c_isN_bl, ↓c_isN_dic, ↓c_notN_non, ↓c_notN_int, ↓c_notN_tup, ↓c_notN_lst, ↓c_notN_str, ↓c_notN_bl, ↓c_notN_dic, ↓b_lens, ↓b_lenl, ↓b_lent, ↓b_lend, ↓b_abs, ↓b_max, ↓b_min, ↓b_inti, ↓b_intb, ↓b_listl, ↓b_listt, ↓b_tupl, ↓b_tupt, ↓b_repr, ↓b_all, ↓b_any, ↓b_sum, ↓asB_nil, ↓asB_cons, ↓asB_map, ↓asI_nil, ↓asI_cons, ↓asI_map, ↓m_append, ↓m_extend, ↓m_extendt, ↓i_lst, ↓i_tup, ↓i_str, ↓r_1, ↓r_2, ↓e_1, ↓z_l, ↓z_2, ↓s_l, ↓s_t, ↓s_s, ↓v_l, ↓v_s, ↓x_l, ↓x_t, ↓x_s, ↓x_d, ↓k_i, ↓k_s, ↓u_add, ↓u_sub, ↓toR_d, ↓toR_n, ↓wPut_s, ↓wPut_o, ↓wPut_io, ↓at_0, ↓at_1, ↓at_2, ↓at_3, ↓at_4, ↓at_5, ↓at_m1, ↓wLast_1, ↓wLast_s, ↓wLast_app, ↓setD_l, ↓setD_d, ↓ixN_0, ↓ixN_1, ↓ixN_2, ↓br_t, ↓br_f, ↓wL_nil, ↓wLc_nil, ↓wSs_nil, enumL, zipL, dfl2, List.drop_succ_cons, List.drop_zero, Fre_io, Fre_o, Fre_d, Fre_n, obAt_s, obAt_0o, obAt_0io, obAt_0d, obAt_0n, isL_s, isL_o, isL_io, isOb_s, isOb_0d, isOb_0n, ioIdx_nil, ioIdx_d, ioIdx_io, wipeC_nil, wipeC_cons, restC_nil, restC_cons, noOwn_nil, noOwn_d, noOwn_n, noOwn_o, lim_is, tyD, argCell, Option.isSome_some, List.set_cons_succ, List.set_cons_zero, List.getElem?_cons_succ, List.getElem?_cons_zero, Option.getD_some, List.any_cons, List.any_nil, List.nodup_nil, List.nodup_cons, List.not_mem_nil, List.mem_cons, List.length_cons, List.length_nil, List.length_map, Nat.zero_add, true_and, and_true, forall_const, reduceCtorEq, false_implies, true_implies, Bool.not_true, Bool.not_false, Bool.or_false, Bool.false_or, Bool.or_true, Bool.true_or, Bool.and_true, Bool.true_and, Bool.and_false, Bool.false_and, Bool.not_eq_true, Bool.not_eq_false, Bool.not_eq_true', Bool.not_eq_false', decide_eq_true_eq, decide_eq_false_iff_not, Bool.false_eq_true, Bool.true_eq_false, beq_iff_eq, beq_eq_false_iff_ne, ne_eq, not_false_eq_true, not_true_eq_false, List.cons_append, List.nil_append, List.map_cons, List.map_nil, Bool.decide_eq_true, Int.toNat_natCast, Int.natAbs_natCast, abs_lit, Int.cast_ofNat_Int, Nat.reduceAdd, Nat.reduceMul, Nat.reduceSub, Nat.reduceLeDiff, Nat.reduceLT, Nat.reduceGT, Nat.reduceEqDiff, Int.reduceAdd, Int.reduceMul, Int.reduceSub, Int.reduceNeg, Int.reduceLT, Int.reduceLE, Int.reduceGT, Int.reduceGE, Int.reduceEq, Int.reduceNe, Int.reducePow, Int.reduceToNat, Int.reduceBEq, Int.reduceBNe, List.all_cons, List.all_nil, List.any_cons, List.any_nil, id_eq, ↓wE_disp, ↓wKs_nil, ↓wKs_cons, ↓wk_lst, ↓wk_tup, ↓wk_str, ↓wk_dic, ↓wk_items, ↓wk_vals, ↓d_mult, ↓c_isB, ↓c_notB, ↓b_sortD, ↓b_dict, ↓b_str, ↓b_lists, ↓m_join, ↓c_inS, ↓c_inD, ↓c_ninD, ↓c_eqe, ↓c_nee, ↓c_lts, ↓b_minD, ↓b_listd, ↓wE_dc, ↓wDc_nil, ↓wKy_i, ↓wKy_s, ↓wE_idx, ↓wLk_d, ↓wE_lck, ↓wKc_o, ↓wKc_d, ↓wE_lrg1, ↓wE_lrg2, ↓wE_lvs, ↓wE_lit, ↓d_rg1, ↓d_rg2, ↓d_vals, ↓d_its])
local macro_rules
  | `(tactic| array_mem_dec) => `(tactic| (refine wStep ?_; simp only [↓wO_some, ↓wO_none, ↓wO_map, ↓wO_bind, ↓wO_ite, ↓wLook_0, ↓wLook_s, ↓wSet_0, ↓wSet_s, ↓wCv_d, ↓wCv_o, ↓wCv_io, ↓wCg_d, ↓wCg_ol, ↓wCg_iol, ↓wCg_od, ↓wCg_iod, ↓wG_d, ↓wG_nl, ↓wG_nd, ↓wG_own, ↓wCz_d, ↓wCz_ol, ↓wCz_od, ↓wZ_d, ↓wZ_nl, ↓wZ_nd, ↓wZ_own, ↓wGs_nil, ↓wGs_cons, ↓wZs_nil, ↓wZs_cons, ↓wCo_o, ↓wCo_io, ↓wCp_o, ↓wCp_io, ↓wCs_eq, ↓wAd_nm, ↓wAd_tup, ↓wAds_nil, ↓wAds_cons, ↓wA_d, ↓wA_n, ↓wA_own, ↓wA_tup, ↓wAs_nil, ↓wAs_cons, ↓wD_bl, ↓wD_non, ↓wD_int, ↓wD_lst, ↓wD_tup, ↓wD_str, ↓wB_bl, ↓wE_var, ↓wT_var, ↓wE_cst, ↓wT_cst, ↓wE_bin, ↓wT_bin, ↓wE_neg, ↓wE_not, ↓wT_not, ↓wE_cmp, ↓wT_cmp, ↓wE_chain, ↓wT_chain, ↓wE_and, ↓wE_or, ↓wT_and, ↓wT_or, ↓wE_ite, ↓wT_ite, ↓wE_tup, ↓wE_lst, ↓wT_tup, ↓wT_lst, ↓wE_blt, ↓wT_blt, ↓wE_isinst, ↓wT_isinst, ↓wE_mth, ↓wE_ix, ↓wT_ix, ↓wEo_none, ↓wN_int, ↓wEo_some, ↓wE_sl, ↓wE_rev, ↓wEs_nil, ↓wEs_cons, ↓wE_mut, ↓wPre_nil, ↓wPre_io, ↓wPre_d, ↓wArg_nil, ↓wArg_d, ↓wArg_io, ↓wBack_nil, ↓wBack_cons, ↓wE_call, ↓wT_call, ↓wC_0, ↓wC_1, ↓wCc_go, ↓wI_e, ↓wI_items, ↓wI_values, ↓wI_enum, ↓wI_zip, ↓wI_range, ↓wE_col, ↓wEc_none, ↓wEc_some, ↓wE_lc, ↓wK_next, ↓wK_ret, ↓wK_brk, ↓wK_cnt, ↓wKl_next, ↓wKl_cnt, ↓wKl_brk, ↓wKl_ret, ↓wS_asg, ↓wPar_t, ↓wPar_f, ↓wS_par, ↓wS_set, ↓wS_expr, ↓wS_ifs, ↓wS_ret, ↓wS_retN, ↓wS_brk, ↓wS_cnt, ↓wS_pas, ↓wS_never, ↓wCa_int, ↓wS_aug, ↓wS_fors, ↓wS_whl, ↓wCr_o, ↓wCr_d, ↓wOut_d, ↓wOut_n, ↓wOut_own, ↓wFl_next, ↓wFl_ret, ↓wIo_io, ↓d_add, ↓d_sub, ↓d_mul, ↓d_fdiv, ↓d_mod, ↓d_pow, ↓d_adds, ↓d_addl, ↓d_addt, ↓d_mull, ↓d_muls, ↓d_neg, ↓c_lt, ↓c_le, ↓c_gt, ↓c_ge, ↓c_eqi, ↓c_nei, ↓c_eqb, ↓c_neb, ↓c_eqs, ↓c_nes, ↓c_in3, ↓c_isN_non, ↓c_isN_int, ↓c_isN_tup, ↓c_isN_lst, ↓c_isN_str, ↓c_isN_bl, ↓c_isN_dic, ↓c_notN_non, ↓c_notN_int, ↓c_notN_tup, ↓c_notN_lst, ↓c_notN_str, ↓c_notN_bl, ↓c_notN_dic, ↓b_lens, ↓b_lenl, ↓b_lent, ↓b_lend, ↓b_abs, ↓b_max, ↓b_min, ↓b_inti, ↓b_intb, ↓b_listl, ↓b_listt, ↓b_tupl, ↓b_tupt, ↓b_repr, ↓b_all, ↓b_any, ↓b_sum, ↓asB_nil, ↓asB_cons, ↓asB_map, ↓asI_nil, ↓asI_cons, ↓asI_map, ↓m_append, ↓m_extend, ↓m_extendt, ↓i_lst, ↓i_tup, ↓i_str, ↓r_1, ↓r_2, ↓e_1, ↓z_l, ↓z_2, ↓s_l, ↓s_t, ↓s_s, ↓v_l, ↓v_s, ↓x_l, ↓x_t, ↓x_s, ↓x_d, ↓k_i, ↓k_s, ↓u_add, ↓u_sub, ↓toR_d, ↓toR_n, ↓wPut_s, ↓wPut_o, ↓wPut_io, ↓at_0, ↓at_1, ↓at_2, ↓at_3, ↓at_4, ↓at_5, ↓at_m1, ↓wLast_1, ↓wLast_s, ↓wLast_app, ↓setD_l, ↓setD_d, ↓ixN_0, ↓ixN_1, ↓ixN_2, ↓br_t, ↓br_f, ↓wL_nil, ↓wLc_nil, ↓wSs_nil, enumL, zipL, dfl2, List.drop_succ_cons, List.drop_zero, Fre_io, Fre_o, Fre_d, Fre_n, obAt_s, obAt_0o, obAt_0io, obAt_0d, obAt_0n, isL_s, isL_o, isL_io, isOb_s, isOb_0d, isOb_0n, ioIdx_nil, ioIdx_d, ioIdx_io, wipeC_nil, wipeC_cons, restC_nil, restC_cons, noOwn_nil, noOwn_d, noOwn_n, noOwn_o, lim_is, tyD, argCell, Option.isSome_some, List.set_cons_succ, List.set_cons_zero, List.getElem?_cons_succ, List.getElem?_cons_zero, Option.getD_some, List.any_cons, List.any_nil, List.nodup_nil, List.nodup_cons, List.not_mem_nil, List.mem_cons, List.length_cons, List.length_nil, List.length_map, Nat.zero_add, true_and, and_true, forall_const, reduceCtorEq, false_implies, true_implies, Bool.not_true, Bool.not_false, Bool.or_false, Bool.false_or, Bool.or_true, Bool.true_or, Bool.and_true, Bool.true_and, Bool.and_false, Bool.false_and, Bool.not_eq_true, Bool.not_eq_false, Bool.not_eq_true', Bool.not_eq_false', decide_eq_true_eq, decide_eq_false_iff_not, Bool.false_eq_true, Bool.true_eq_false, beq_iff_eq, beq_eq_false_iff_ne, ne_eq, not_false_eq_true, not_true_eq_false, List.cons_append, List.nil_append, List.map_cons, List.map_nil, Bool.decide_eq_true, Int.toNat_natCast, Int.natAbs_natCast, abs_lit, Int.cast_ofNat_Int, Nat.reduceAdd, Nat.reduceMul, Nat.reduceSub, Nat.reduceLeDiff, Nat.reduceLT, Nat.reduceGT, Nat.reduceEqDiff, Int.reduceAdd, Int.reduceMul, Int.reduceSub, Int.reduceNeg, Int.reduceLT, Int.reduceLE, Int.reduceGT, Int.reduceGE, Int.reduceEq, Int.reduceNe, Int.reducePow, Int.reduceToNat, Int.reduceBEq, Int.reduceBNe, List.all_cons, List.all_nil, List.any_cons, List.any_nil, id_eq, ↓wE_disp, ↓wKs_nil, ↓wKs_cons, ↓wk_lst, ↓wk_tup, ↓wk_str, ↓wk_dic, ↓wk_items, ↓wk_vals, ↓d_mult, ↓c_isB, ↓c_notB, ↓b_sortD, ↓b_dict, ↓b_str, ↓b_lists, ↓m_join, ↓c_inS, ↓c_inD, ↓c_ninD, ↓c_eqe, ↓c_nee, ↓c_lts, ↓b_minD, ↓b_listd, ↓wE_dc, ↓wDc_nil, ↓wKy_i, ↓wKy_s, ↓wE_idx, ↓wLk_d, ↓wE_lck, ↓wKc_o, ↓wKc_d, ↓wE_lrg1, ↓wE_lrg2, ↓wE_lvs, ↓wE_lit, ↓d_rg1, ↓d_rg2, ↓d_vals, ↓d_its]))
local macro_rules
  | `(tactic| apply_ext_theorem) => `(tactic| (rw [wLc_cons]; array_get_dec))
local macro_rules
  | `(tactic| nofun) => `(tactic| (rw [wL_cons]; array_get_dec))
/-! ### texts of data -/
theorem bits_S {n : Nat} {s : Int} (h0 : 1 ≤ s) (h : s < 2 ^ n) : bits s ≤ n := bits_pos (by omega) h
theorem okR_wd {ws : List Int} (h : ∀ w ∈ ws, 1 ≤ w ∧ w ≤ 4) : okR (wd ws) := okRs_map fun w hw => (show bits w ≤ 1900 from Nat.le_trans (bits_S (n := 3) (h w hw).1 (by have := (h w hw).2; omega)) (by decide))
theorem okR_sc {fs : List Int} (h : Sc fs) : okR (.lst (fs.map .int)) := okRs_map fun s hs => (show bits s ≤ 1900 from Nat.le_trans (bits_S (n := 101) (h s hs).1 (by have := (h s hs).2; omega)) (by decide))
theorem blk_ints (ws : List Int) : blks (ws.map .int) ≤ ws.length := by
  have := blks_map (f := D.int) (n := 0) (l := ws) fun x _ => Nat.le_refl _
  omega
theorem dpt_ints (ws : List Int) : dpts (ws.map .int) ≤ 0 := dpts_map (f := D.int) fun x _ => Nat.le_refl _
theorem nms_lt : ∀ x ∈ nms, x < 1114112 := by decide
theorem okR_ch : ∀ (cs : List (Nat × List Int)), (∀ p ∈ cs, p.1 ∈ nms ∧ Wd p.2) → okRk (cs.map fun p => (DK.s [p.1], wd p.2))
  | [], _ => trivial
  | p :: cs, h => ⟨fun x hx => by rw [List.mem_singleton.mp hx]; exact nms_lt _ (h p (by simp)).1, okR_wd (h p (by simp)).2.2.2, okR_ch cs fun q hq => h q (by simp [hq])⟩
theorem blk_ch : ∀ (cs : List (Nat × List Int)), (∀ p ∈ cs, Wd p.2) → blkk (cs.map fun p => (DK.s [p.1], wd p.2)) ≤ 9 * cs.length
  | [], _ => by simp [blkk]
  | p :: cs, h => by
    have h1 := blk_ints p.2
    have h2 := (h p (by simp)).2.1
    have h3 := blk_ch cs fun q hq => h q (by simp [hq])
    simp only [List.map_cons, blkk, blkK, blk, List.length_cons, List.length_nil]
    omega
theorem dpt_ch : ∀ (cs : List (Nat × List Int)), dptk (cs.map fun p => (DK.s [p.1], wd p.2)) ≤ 1
  | [] => by simp [dptk]
  | p :: cs => by
    have h1 := dpt_ints p.2
    have h3 := dpt_ch cs
    simp only [List.map_cons, dptk, dpt]
    omega
theorem okR_cd {c : Cd} (hc : c.Ok) : okR c.d := ⟨okR_wd hc.st.2.2, okR_ch _ fun p hp => ⟨hc.nm p hp, hc.ws p hp⟩, okR_wd hc.bw, okR_wd hc.sp.2.2, trivial⟩
theorem blk_cd {c : Cd} (hc : c.Ok) : blk c.d ≤ 120 := by
  have h1 := blk_ints c.start
  have h2 := blk_ints c.between
  have h3 := blk_ints c.stop
  have h4 := blk_ch c.chars fun p hp => hc.ws p hp
  have g1 := hc.st.2.1
  have g2 := hc.sp.2.1
  have g3 := hc.b2
  have g4 := hc.n10
  simp only [Cd.d, blk, blks]
  omega
theorem dpt_cd (c : Cd) : dpt c.d ≤ 3 := by
  have h1 := dpt_ints c.start
  have h2 := dpt_ints c.between
  have h3 := dpt_ints c.stop
  have h4 := dpt_ch c.chars
  simp only [Cd.d, dpt, dpts]
  omega
theorem Tx.lt {c : Cd} (hc : c.Ok) {t : List Nat} (h : Tx c t) : ∀ x ∈ t, x < 1114112 := by
  intro x hx
  obtain ⟨p, hp, e⟩ := List.mem_map.mp (h x hx)
  rw [← e]
  exact nms_lt _ (hc.nm p hp)
theorem kept_vc {c : Cd} {t : List Nat} {fs : List Int} (hc : c.Ok) (tx : Tx c t) (ht : t.length ≤ 400) (hs : Sc fs) (hl : fs.length ≤ 400) :
    (toPy (.lst [c.d, .str t, .lst (fs.map .int)])).showable = true ∧ (toPy (.lst [c.d, .str t, .lst (fs.map .int)])).shown.length ≤ 1000000 ∧ (toPy (.lst [c.d, .str t, .lst (fs.map .int)])).depth ≤ 40 := by
  refine repr_vc ⟨okR_cd hc, tx.lt hc, okR_sc hs, trivial⟩ ?_ ?_
  · have h1 := blk_cd hc
    have h2 := blk_ints fs
    simp only [blk, blks]
    omega
  · have h1 := dpt_cd c
    have h2 := dpt_ints fs
    simp only [dpt, dpts]
    omega
theorem two_vc {g : Rat} (h : Sz 1000 g) : (toPy (.lst [qd g, qd g])).showable = true ∧ (toPy (.lst [qd g, qd g])).shown.length ≤ 1000000 ∧ (toPy (.lst [qd g, qd g])).depth ≤ 40 := by
  have h1 : bits g.num ≤ 1900 := Nat.le_trans h.1 (by decide)
  have h2 : bits (g.den : Int) ≤ 1900 := Nat.le_trans h.2 (by decide)
  refine repr_vc ⟨⟨h1, h2, trivial⟩, ⟨h1, h2, trivial⟩, trivial⟩ ?_ ?_
  · simp [blk, blks]
  · simp [dpt, dpts]
/-! ### a code with its names otherwise put in -/
def Cd.turn (c : Cd) : Cd := ⟨c.start, (sn c.names).reverse.map fun x => (x, c.get x), c.between, c.stop⟩
theorem turn_names (c : Cd) : c.turn.names = (sn c.names).reverse := by
  show ((sn c.names).reverse.map fun x => (x, c.get x)).map (·.1) = _
  rw [List.map_map]
  exact List.map_id _
theorem turn_mem {c : Cd} {x : Nat} : x ∈ c.turn.names ↔ x ∈ c.names := by rw [turn_names, List.mem_reverse, sn_mem]
theorem turn_get {c : Cd} {x : Nat} (h : x ∈ c.names) : c.turn.get x = c.get x := by
  obtain ⟨p, hp, e⟩ := c.turn.find (turn_mem.mpr h)
  have e1 : c.turn.get x = p.2 := by rw [Cd.get, e]; rfl
  have e2 : p.1 = x := by have := List.find?_some e; simpa using this
  obtain ⟨y, _, e3⟩ := List.mem_map.mp hp
  rw [e1, ← e3, ← e2, ← e3]
theorem turn_ok {c : Cd} (hc : c.Ok) : c.turn.Ok where
  st := hc.st
  n1 := by have := hc.n1; simp only [Cd.turn, List.length_map, List.length_reverse, sn_len, Cd.names]; exact this
  n10 := by have := hc.n10; simp only [Cd.turn, List.length_map, List.length_reverse, sn_len, Cd.names]; exact this
  nm := fun p hp => by
    obtain ⟨y, hy, e⟩ := List.mem_map.mp hp
    obtain ⟨q, hq, e2⟩ := List.mem_map.mp (sn_mem.mp (List.mem_reverse.mp hy))
    rw [← e, ← e2]
    exact hc.nm q hq
  nd := by
    show c.turn.names.Nodup
    rw [turn_names]
    exact (List.reverse_perm _).nodup_iff.mpr ((sn_perm _).nodup_iff.mpr hc.nd)
  ws := fun p hp => by
    obtain ⟨y, hy, e⟩ := List.mem_map.mp hp
    rw [← e]
    exact c.getOk hc (sn_mem.mp (List.mem_reverse.mp hy))
  b2 := hc.b2
  bw := hc.bw
  sp := hc.sp
theorem turn_row {c : Cd} {t : List Nat} (tx : Tx c t) : rowL c.turn t = rowL c t := by
  have e : ∀ u : List Nat, Tx c u → (u.flatMap fun x => c.turn.get x ++ c.turn.between) = u.flatMap fun x => c.get x ++ c.between := by
    intro u
    induction u with
    | nil => intro _; rfl
    | cons a u ih =>
      intro tx
      rw [List.flatMap_cons, List.flatMap_cons, ih fun x hx => tx x (by simp [hx]), turn_get (tx a (by simp))]
      rfl
  show pre c.turn t ++ c.stop = pre c t ++ c.stop
  unfold pre
  rw [e t tx]
  rfl
theorem cut_m1 {α : Type} (xs : List α) : cutG xs none (some (-1)) = xs.dropLast := by
  unfold cutG
  have e : HT.sIx xs.length xs.length (some (-1)) = xs.length - 1 := by
    simp only [HT.sIx]
    rw [if_pos (by decide)]
    omega
  rw [HT.sIx_none, e, List.drop_zero, Nat.sub_zero, List.dropLast_eq_take]
theorem pairs_of : ∀ (l : List (Nat × List Int)), asPairs (l.map fun p => .tup [tx1 p.1, wd p.2]) = some (l.map fun p => (.s [p.1], wd p.2))
  | [] => rfl
  | p :: l => by
    rw [List.map_cons, asPairs]
    show (asPairs _).map _ = _
    rw [pairs_of l]
    rfl
theorem put_cd {c : Cd} (hc : c.Ok) : putAll (c.chars.map fun p => (DK.s [p.1], wd p.2)) = c.chars.map fun p => (DK.s [p.1], wd p.2) := by
  refine put_all ?_
  rw [List.map_map]
  have e : ((fun p : DK × D => p.1) ∘ fun p : Nat × List Int => (DK.s [p.1], wd p.2)) = (fun c : Nat => DK.s [c]) ∘ fun p => p.1 := rfl
  rw [e, ← List.map_map]
  exact List.Pairwise.map _ (fun a b h e => h (by cases e; rfl)) hc.nd
theorem cd_0 {c : Cd} {P : D → Prop} : wO (ixD c.d (.int 0)) P = P (wd c.start) := by unfold Cd.d; rw [x_t, at_0]
theorem cd_1 {c : Cd} {P : D → Prop} : wO (ixD c.d (.int 1)) P = P (.dic (c.chars.map fun p => (.s [p.1], wd p.2))) := by unfold Cd.d; rw [x_t, at_1]
theorem cd_2 {c : Cd} {P : D → Prop} : wO (ixD c.d (.int 2)) P = P (wd c.between) := by unfold Cd.d; rw [x_t, at_2]
theorem cd_3 {c : Cd} {P : D → Prop} : wO (ixD c.d (.int 3)) P = P (wd c.stop) := by unfold Cd.d; rw [x_t, at_3]
theorem minT_mem : ∀ (r : List (List Nat)) (x : List Nat), minT x r = x ∨ minT x r ∈ r
  | [], x => .inl rfl
  | y :: r, x => by
    rw [minT]
    rcases minT_mem r (if ltS y x then y else x) with h | h
    · split at h
      · exact .inr (by rw [if_pos (by assumption), h]; simp)
      · exact .inl (by rw [if_neg (by assumption), h])
    · exact .inr (List.mem_cons_of_mem _ h)
theorem min_cd {c : Cd} (hc : c.Ok) : ∃ m, m ∈ c.names ∧ ∀ P : List Nat → Prop, P [m] → wMinT (c.names.map fun x => [x]) P := by
  have h1 := hc.n1
  have e : ∃ a r, c.names = a :: r := by
    cases hn : c.names with
    | nil => have : c.names.length = c.chars.length := List.length_map _; rw [hn] at this; simp at this; omega
    | cons a r => exact ⟨a, r, rfl⟩
  obtain ⟨a, r, e⟩ := e
  rcases minT_mem (r.map fun x => [x]) [a] with h | h
  · refine ⟨a, by rw [e]; simp, fun P q => ?_⟩
    rw [e]
    show P (minT _ _)
    rw [h]
    exact q
  · obtain ⟨m, hm, e2⟩ := List.mem_map.mp h
    refine ⟨m, by rw [e]; simp [hm], fun P q => ?_⟩
    rw [e]
    show P (minT _ _)
    rw [← e2]
    exact q
theorem rep_flat (m : Nat) : ∀ n : Nat, (List.replicate n [m]).flatten = List.replicate n m
  | 0 => rfl
  | n + 1 => by rw [List.replicate_succ, List.flatten_cons, rep_flat m n]; rfl
theorem Tx.rep {c : Cd} {m n : Nat} (h : m ∈ c.names) : Tx c (List.replicate n m) := fun x hx => by rw [(List.mem_replicate.mp hx).2]; exact h
theorem Tx.app {c : Cd} {t u : List Nat} (h : Tx c t) (k : Tx c u) : Tx c (t ++ u) := fun x hx => (List.mem_append.mp hx).elim (h x) (k x)
def kc : Cd := ⟨[1, 1], [(97, [1, 2]), (98, [2, 1])], [], [1]⟩
theorem kc_ok : kc.Ok where
  st := ⟨by decide, by decide, by decide⟩
  n1 := by decide
  n10 := by decide
  nm := by decide
  nd := by decide
  ws := by
    intro p hp
    simp only [kc, List.mem_cons, List.not_mem_nil, or_false] at hp
    rcases hp with rfl | rfl <;> exact ⟨by decide, by decide, by decide⟩
  b2 := by decide
  bw := by decide
  sp := ⟨by decide, by decide, by decide⟩
theorem qd32 : qd (3 / 2) = pd 3 2 := by
  have h1 : (3 / 2 : Rat).num = 3 := by decide +kernel
  have h2 : (3 / 2 : Rat).den = 2 := by decide +kernel
  unfold qd
  rw [h1, h2]
  rfl
theorem kc_d : kc.d = .tup [.tup [.int 1, .int 1], .dic (putAll [(.s [97], .tup [.int 1, .int 2]), (.s [98], .tup [.int 2, .int 1])]), .tup [], .tup [.int 1]] := by
  rw [put_all (by decide)]
  rfl
end K03

set_option Elab.async false
set_option linter.all false
set_option maxRecDepth 100000
set_option maxHeartbeats 800000
namespace K03
open PySem Fx
local macro_rules
  | `(tactic| array_get_dec) => `(tactic| try simp only [↓wO_some, ↓wO_none, ↓wO_map, ↓wO_bind, ↓wO_ite, ↓wLook_0, ↓wLook_s, ↓wSet_0, ↓wSet_s, ↓wCv_d, ↓wCv_o, ↓wCv_io, ↓wCg_d, ↓wCg_ol, ↓wCg_iol, ↓wCg_od, ↓wCg_iod, ↓wG_d, ↓wG_nl, ↓wG_nd, ↓wG_own, ↓wCz_d, ↓wCz_ol, ↓wCz_od, ↓wZ_d, ↓wZ_nl, ↓wZ_nd, ↓wZ_own, ↓wGs_nil, ↓wGs_cons, ↓wZs_nil, ↓wZs_cons, ↓wCo_o, ↓wCo_io, ↓wCp_o, ↓wCp_io, ↓wCs_eq, ↓wAd_nm, ↓wAd_tup, ↓wAds_nil, ↓wAds_cons, ↓wA_d, ↓wA_n, ↓wA_own, ↓wA_tup, ↓wAs_nil, ↓wAs_cons, ↓wD_bl, ↓wD_non, ↓wD_int, ↓wD_lst, ↓wD_tup, ↓wD_str, ↓wB_bl, ↓wE_var, ↓wT_var, ↓wE_cst, ↓wT_cst, ↓wE_bin, ↓wT_bin, ↓wE_neg, ↓wE_not, ↓wT_not, ↓wE_cmp, ↓wT_cmp, ↓wE_chain, ↓wT_chain, ↓wE_and, ↓wE_or, ↓wT_and, ↓wT_or, ↓wE_ite, ↓wT_ite, ↓wE_tup, ↓wE_lst, ↓wT_tup, ↓wT_lst, ↓wE_blt, ↓wT_blt, ↓wE_isinst, ↓wT_isinst, ↓wE_mth, ↓wE_ix, ↓wT_ix, ↓wEo_none, ↓wN_int, ↓wEo_some, ↓wE_sl, ↓wE_rev, ↓wEs_nil, ↓wEs_cons, ↓wE_mut, ↓wPre_nil, ↓wPre_io, ↓wPre_d, ↓wArg_nil, ↓wArg_d, ↓wArg_io, ↓wBack_nil, ↓wBack_cons, ↓wE_call, ↓wT_call, ↓wC_0, ↓wC_1, ↓wCc_go, ↓wI_e, ↓wI_items, ↓wI_values, ↓wI_enum, ↓wI_zip, ↓wI_range, ↓wE_col, ↓wEc_none, ↓wEc_some, ↓wE_lc, ↓wK_next, ↓wK_ret, ↓wK_brk, ↓wK_cnt, ↓wKl_next, ↓wKl_cnt, ↓wKl_brk, ↓wKl_ret, ↓wS_asg, ↓wPar_t, ↓wPar_f, ↓wS_par, ↓wS_set, ↓wS_expr, ↓wS_ifs, ↓wS_ret, ↓wS_retN, ↓wS_brk, ↓wS_cnt, ↓wS_pas, ↓wS_never, ↓wCa_int, ↓wS_aug, ↓wS_fors, ↓wS_whl, ↓wCr_o, ↓wCr_d, ↓wOut_d, ↓wOut_n, ↓wOut_own, ↓wFl_next, ↓wFl_ret, ↓wIo_io, ↓d_add, ↓d_sub, ↓d_mul, ↓d_fdiv, ↓d_mod, ↓d_pow, ↓d_adds, ↓d_addl, ↓d_addt, ↓d_mull, ↓d_muls, ↓d_neg, ↓c_lt, ↓c_le, ↓c_gt, ↓c_ge, ↓c_eqi, ↓c_nei, ↓c_eqb, ↓c_neb, ↓c_eqs, ↓c_nes, ↓c_in3, ↓c_isN_non, ↓c_isN_int, ↓c_isN_tup, ↓c_isN_lst, ↓c_isN_str, ↓c_isN_bl, ↓c_isN_dic, ↓c_notN_non, ↓c_notN_int, ↓c_notN_tup, ↓c_notN_lst, ↓c_notN_str, ↓c_notN_bl, ↓c_notN_dic, ↓b_lens, ↓b_lenl, ↓b_lent, ↓b_lend, ↓b_abs, ↓b_max, ↓b_min, ↓b_inti, ↓b_intb, ↓b_listl, ↓b_listt, ↓b_tupl, ↓b_tupt, ↓b_repr, ↓b_all, ↓b_any, ↓b_sum, ↓asB_nil, ↓asB_cons, ↓asB_map, ↓asI_nil, ↓asI_cons, ↓asI_map, ↓m_append, ↓m_extend, ↓m_extendt, ↓i_lst, ↓i_tup, ↓i_str, ↓r_1, ↓r_2, ↓e_1, ↓z_l, ↓z_2, ↓s_l, ↓s_t, ↓s_s, ↓v_l, ↓v_s, ↓x_l, ↓x_t, ↓x_s, ↓x_d, ↓k_i, ↓k_s, ↓u_add, ↓u_sub, ↓toR_d, ↓toR_n, ↓wPut_s, ↓wPut_o, ↓wPut_io, ↓at_0, ↓at_1, ↓at_2, ↓at_3, ↓at_4, ↓at_5, ↓at_m1, ↓wLast_1, ↓wLast_s, ↓wLast_app, ↓setD_l, ↓setD_d, ↓ixN_0, ↓ixN_1, ↓ixN_2, ↓br_t, ↓br_f, ↓wL_nil, ↓wLc_nil, ↓wSs_nil, enumL, zipL, dfl2, List.drop_succ_cons, List.drop_zero, Fre_io, Fre_o, Fre_d, Fre_n, obAt_s, obAt_0o, obAt_0io, obAt_0d, obAt_0n, isL_s, isL_o, isL_io, isOb_s, isOb_0d, isOb_0n, ioIdx_nil, ioIdx_d, ioIdx_io, wipeC_nil, wipeC_cons, restC_nil, restC_cons, noOwn_nil, noOwn_d, noOwn_n, noOwn_o, lim_is, tyD, argCell, Option.isSome_some, List.set_cons_succ, List.set_cons_zero, List.getElem?_cons_succ, List.getElem?_cons_zero, Option.getD_some, List.any_cons, List.any_nil, List.nodup_nil, List.nodup_cons, List.not_mem_nil, List.mem_cons, List.length_cons, List.length_nil, List.length_map, Nat.zero_add, true_and, and_true, forall_const, reduceCtorEq, false_implies, true_implies, Bool.not_true, Bool.not_false, Bool.or_false, Bool.false_or, Bool.or_true, Bool.true_or, Bool.and_true, Bool.true_and, Bool.and_false, Bool.false_and, Bool.not_eq_true, Bool.not_eq_false, Bool.not_eq_true', Bool.not_eq_false', decide_eq_true_eq, decide_eq_false_iff_not, Bool.false_eq_true, Bool.true_eq_false, beq_iff_eq, beq_eq_false_iff_ne, ne_eq, not_false_eq_true, not_true_eq_false, List.cons_append, List.nil_append, List.map_cons, List.map_nil, Bool.decide_eq_true, Int.toNat_natCast, Int.natAbs_natCast, abs_lit, Int.cast_ofNat_Int, Nat.reduceAdd, Nat.reduceMul, Nat.reduceSub, Nat.reduceLeDiff, Nat.reduceLT, Nat.reduceGT, Nat.reduceEqDiff, Int.reduceAdd, Int.reduceMul, Int.reduceSub, Int.reduceNeg, Int.reduceLT, Int.reduceLE, Int.reduceGT, Int.reduceGE, Int.reduceEq, Int.reduceNe, Int.reducePow, Int.reduceToNat, Int.reduceBEq, Int.reduceBNe, List.all_cons, List.all_nil, List.any_cons, List.any_nil, id_eq, ↓wE_disp, ↓wKs_nil, ↓wKs_cons, ↓wk_lst, ↓wk_tup, ↓wk_str, ↓wk_dic, ↓wk_items, ↓wk_vals, ↓d_mult, ↓c_isB, ↓c_notB, ↓b_sortD, ↓b_dict, ↓b_str, ↓b_lists, ↓m_join, ↓c_inS, ↓c_inD, ↓c_ninD, ↓c_eqe, ↓c_nee, ↓c_lts, ↓b_minD, ↓b_listd, ↓wE_dc, ↓wDc_nil, ↓wKy_i, ↓wKy_s, ↓wE_idx, ↓wLk_d, ↓wE_lck, ↓wKc_o, ↓wKc_d, ↓wE_lrg1, ↓wE_lrg2, ↓wE_lvs, ↓wE_lit, ↓d_rg1, ↓d_rg2, ↓d_vals, ↓d_its])
local macro_rules
  | `(tactic| array_mem_dec) => `(tactic| (refine wStep ?_; simp only [↓wO_some, ↓wO_none, ↓wO_map, ↓wO_bind, ↓wO_ite, ↓wLook_0, ↓wLook_s, ↓wSet_0, ↓wSet_s, ↓wCv_d, ↓wCv_o, ↓wCv_io, ↓wCg_d, ↓wCg_ol, ↓wCg_iol, ↓wCg_od, ↓wCg_iod, ↓wG_d, ↓wG_nl, ↓wG_nd, ↓wG_own, ↓wCz_d, ↓wCz_ol, ↓wCz_od, ↓wZ_d, ↓wZ_nl, ↓wZ_nd, ↓wZ_own, ↓wGs_nil, ↓wGs_cons, ↓wZs_nil, ↓wZs_cons, ↓wCo_o, ↓wCo_io, ↓wCp_o, ↓wCp_io, ↓wCs_eq, ↓wAd_nm, ↓wAd_tup, ↓wAds_nil, ↓wAds_cons, ↓wA_d, ↓wA_n, ↓wA_own, ↓wA_tup, ↓wAs_nil, ↓wAs_cons, ↓wD_bl, ↓wD_non, ↓wD_int, ↓wD_lst, ↓wD_tup, ↓wD_str, ↓wB_bl, ↓wE_var, ↓wT_var, ↓wE_cst, ↓wT_cst, ↓wE_bin, ↓wT_bin, ↓wE_neg, ↓wE_not, ↓wT_not, ↓wE_cmp, ↓wT_cmp, ↓wE_chain, ↓wT_chain, ↓wE_and, ↓wE_or, ↓wT_and, ↓wT_or, ↓wE_ite, ↓wT_ite, ↓wE_tup, ↓wE_lst, ↓wT_tup, ↓wT_lst, ↓wE_blt, ↓wT_blt, ↓wE_isinst, ↓wT_isinst, ↓wE_mth, ↓wE_ix, ↓wT_ix, ↓wEo_none, ↓wN_int, ↓wEo_some, ↓wE_sl, ↓wE_rev, ↓wEs_nil, ↓wEs_cons, ↓wE_mut, ↓wPre_nil, ↓wPre_io, ↓wPre_d, ↓wArg_nil, ↓wArg_d, ↓wArg_io, ↓wBack_nil, ↓wBack_cons, ↓wE_call, ↓wT_call, ↓wC_0, ↓wC_1, ↓wCc_go, ↓wI_e, ↓wI_items, ↓wI_values, ↓wI_enum, ↓wI_zip, ↓wI_range, ↓wE_col, ↓wEc_none, ↓wEc_some, ↓wE_lc, ↓wK_next, ↓wK_ret, ↓wK_brk, ↓wK_cnt, ↓wKl_next, ↓wKl_cnt, ↓wKl_brk, ↓wKl_ret, ↓wS_asg, ↓wPar_t, ↓wPar_f, ↓wS_par, ↓wS_set, ↓wS_expr, ↓wS_ifs, ↓wS_ret, ↓wS_retN, ↓wS_brk, ↓wS_cnt, ↓wS_pas, ↓wS_never, ↓wCa_int, ↓wS_aug, ↓wS_fors, ↓wS_whl, ↓wCr_o, ↓wCr_d, ↓wOut_d, ↓wOut_n, ↓wOut_own, ↓wFl_next, ↓wFl_ret, ↓wIo_io, ↓d_add, ↓d_sub, ↓d_mul, ↓d_fdiv, ↓d_mod, ↓d_pow, ↓d_adds, ↓d_addl, ↓d_addt, ↓d_mull, ↓d_muls, ↓d_neg, ↓c_lt, ↓c_le, ↓c_gt, ↓c_ge, ↓c_eqi, ↓c_nei, ↓c_eqb, ↓c_neb, ↓c_eqs, ↓c_nes, ↓c_in3, ↓c_isN_non, ↓c_isN_int, ↓c_isN_tup, ↓c_isN_lst, ↓c_isN_str, ↓c_isN_bl, ↓c_isN_dic, ↓c_notN_non, ↓c_notN_int, ↓c_notN_tup, ↓c_notN_lst, ↓c_notN_str, ↓c_notN_bl, ↓c_notN_dic, ↓b_lens, ↓b_lenl, ↓b_lent, ↓b_lend, ↓b_abs, ↓b_max, ↓b_min, ↓b_inti, ↓b_intb, ↓b_listl, ↓b_listt, ↓b_tupl, ↓b_tupt, ↓b_repr, ↓b_all, ↓b_any, ↓b_sum, ↓asB_nil, ↓asB_cons, ↓asB_map, ↓asI_nil, ↓asI_cons, ↓asI_map, ↓m_append, ↓m_extend, ↓m_extendt, ↓i_lst, ↓i_tup, ↓i_str, ↓r_1, ↓r_2, ↓e_1, ↓z_l, ↓z_2, ↓s_l, ↓s_t, ↓s_s, ↓v_l, ↓v_s, ↓x_l, ↓x_t, ↓x_s, ↓x_d, ↓k_i, ↓k_s, ↓u_add, ↓u_sub, ↓toR_d, ↓toR_n, ↓wPut_s, ↓wPut_o, ↓wPut_io, ↓at_0, ↓at_1, ↓at_2, ↓at_3, ↓at_4, ↓at_5, ↓at_m1, ↓wLast_1, ↓wLast_s, ↓wLast_app, ↓setD_l, ↓setD_d, ↓ixN_0, ↓ixN_1, ↓ixN_2, ↓br_t, ↓br_f, ↓wL_nil, ↓wLc_nil, ↓wSs_nil, enumL, zipL, dfl2, List.drop_succ_cons, List.drop_zero, Fre_io, Fre_o, Fre_d, Fre_n, obAt_s, obAt_0o, obAt_0io, obAt_0d, obAt_0n, isL_s, isL_o, isL_io, isOb_s, isOb_0d, isOb_0n, ioIdx_nil, ioIdx_d, ioIdx_io, wipeC_nil, wipeC_cons, restC_nil, restC_cons, noOwn_nil, noOwn_d, noOwn_n, noOwn_o, lim_is, tyD, argCell, Option.isSome_some, List.set_cons_succ, List.set_cons_zero, List.getElem?_cons_succ, List.getElem?_cons_zero, Option.getD_some, List.any_cons, List.any_nil, List.nodup_nil, List.nodup_cons, List.not_mem_nil, List.mem_cons, List.length_cons, List.length_nil, List.length_map, Nat.zero_add, true_and, and_true, forall_const, reduceCtorEq, false_implies, true_implies, Bool.not_true, Bool.not_false, Bool.or_false, Bool.false_or, Bool.or_true, Bool.true_or, Bool.and_true, Bool.true_and, Bool.and_false, Bool.false_and, Bool.not_eq_true, Bool.not_eq_false, Bool.not_eq_true', Bool.not_eq_false', decide_eq_true_eq, decide_eq_false_iff_not, Bool.false_eq_true, Bool.true_eq_false, beq_iff_eq, beq_eq_false_iff_ne, ne_eq, not_false_eq_true, not_true_eq_false, List.cons_append, List.nil_append, List.map_cons, List.map_nil, Bool.decide_eq_true, Int.toNat_natCast, Int.natAbs_natCast, abs_lit, Int.cast_ofNat_Int, Nat.reduceAdd, Nat.reduceMul, Nat.reduceSub, Nat.reduceLeDiff, Nat.reduceLT, Nat.reduceGT, Nat.reduceEqDiff, Int.reduceAdd, Int.reduceMul, Int.reduceSub, Int.reduceNeg, Int.reduceLT, Int.reduceLE, Int.reduceGT, Int.reduceGE, Int.reduceEq, Int.reduceNe, Int.reducePow, Int.reduceToNat, Int.reduceBEq, Int.reduceBNe, List.all_cons, List.all_nil, List.any_cons, List.any_nil, id_eq, ↓wE_disp, ↓wKs_nil, ↓wKs_cons, ↓wk_lst, ↓wk_tup, ↓wk_str, ↓wk_dic, ↓wk_items, ↓wk_vals, ↓d_mult, ↓c_isB, ↓c_notB, ↓b_sortD, ↓b_dict, ↓b_str, ↓b_lists, ↓m_join, ↓c_inS, ↓c_inD, ↓c_ninD, ↓c_eqe, ↓c_nee, ↓c_lts, ↓b_minD, ↓b_listd, ↓wE_dc, ↓wDc_nil, ↓wKy_i, ↓wKy_s, ↓wE_idx, ↓wLk_d, ↓wE_lck, ↓wKc_o, ↓wKc_d, ↓wE_lrg1, ↓wE_lrg2, ↓wE_lvs, ↓wE_lit, ↓d_rg1, ↓d_rg2, ↓d_vals, ↓d_its]))
local macro_rules
  | `(tactic| apply_ext_theorem) => `(tactic| (rw [wLc_cons]; array_get_dec))
local macro_rules
  | `(tactic| nofun) => `(tactic| (rw [wL_cons]; array_get_dec))
/-! ### data alike -/
mutual
theorem eqD_refl : ∀ (d : D) (n : Nat), flatD n d = true → eqD d d = true
  | .non, _, _ => rfl
  | .bl b, _, _ => by cases b <;> rfl
  | .int i, _, _ => by rw [eqD]; exact beq_self_eq_true i
  | .str s, _, _ => by rw [eqD]; exact beq_self_eq_true s
  | .tup xs, 0, h => by rw [flatD] at h; cases h
  | .tup xs, n + 1, h => by rw [flatD] at h; rw [eqD]; exact eqDs_refl xs n h
  | .lst xs, 0, h => by rw [flatD] at h; cases h
  | .lst xs, n + 1, h => by rw [flatD] at h; rw [eqD]; exact eqDs_refl xs n h
  | .dic kvs, _, h => by rw [flatD] at h; cases h
theorem eqDs_refl : ∀ (ds : List D) (n : Nat), flatDs n ds = true → eqDs ds ds = true
  | [], _, _ => rfl
  | d :: ds, n, h => by
    rw [flatDs, Bool.and_eq_true] at h
    rw [eqDs, eqD_refl d n h.1, eqDs_refl ds n h.2]
    rfl
end
theorem c_eqr {x : D} {B : Bool → Prop} (h : flatD 40 x = true) (k : B true) : wO (cmpD .eq x x) B := by rw [c_eq h h, eqD_refl x 40 h]; exact k
theorem c_ner {x : D} {B : Bool → Prop} (h : flatD 40 x = true) (k : B false) : wO (cmpD .ne x x) B := by rw [c_ne h h, eqD_refl x 40 h]; exact k
theorem flats_map {α : Type} {f : α → D} {n : Nat} : ∀ {l : List α}, (∀ x ∈ l, flatD n (f x) = true) → flatDs n (l.map f) = true
  | [], _ => by rw [List.map_nil, flatDs]
  | x :: l, h => by rw [List.map_cons, flatDs, h x (by simp), flats_map fun y hy => h y (by simp [hy])]; rfl
theorem flat_lst {α : Type} {f : α → D} {n : Nat} {l : List α} (h : ∀ x ∈ l, flatD n (f x) = true) : flatD (n + 1) (.lst (l.map f)) = true := by rw [flatD]; exact flats_map h
theorem flat_pd (a b : Int) (n : Nat) : flatD (n + 1) (pd a b) = true := by
  rw [pd, flatD, flatDs, flatDs, flatDs]
  cases n <;> simp [flatD]
theorem flat_int (a : Int) (n : Nat) : flatD n (.int a) = true := by cases n <;> simp [flatD]
theorem c_nei0 {ns : List Int} {B : Bool → Prop} : wO (cmpD .ne (.lst (ns.map .int)) (.lst [])) B = B (!ns.isEmpty) := by
  rw [c_ne (flat_lst fun x _ => flat_int x 39) (by decide)]
  cases ns <;> simp [eqD, eqDs]
theorem fold_lt (q : Rat) : ∀ (l : List Rat) (a : Rat), q < l.foldl max a ↔ q < a ∨ ∃ s ∈ l, q < s
  | [], a => by simp
  | b :: l, a => by
    rw [List.foldl_cons, fold_lt q l, Rat.max_def]
    constructor
    · rintro (h | ⟨s, hs, h⟩)
      · split at h
        · exact .inr ⟨b, by simp, h⟩
        · exact .inl h
      · exact .inr ⟨s, by simp [hs], h⟩
    · rintro (h | ⟨s, hs, h⟩)
      · left; split
        · grind
        · exact h
      · rcases List.mem_cons.mp hs with rfl | hs
        · left; split
          · exact h
          · grind
        · exact .inr ⟨s, hs, h⟩
theorem stepQ_one {p q : Int × Int} (h1 : 1 ≤ p.1 * q.2) (h2 : 1 ≤ q.1 * p.2) : 1 ≤ stepQ p q := by
  unfold stepQ
  rw [Rat.max_def]
  have e : ∀ a b : Int, 1 ≤ a → 1 ≤ b → (b ≤ a → 1 ≤ (a : Rat) / (b : Rat)) := fun a b _ hb h => q_one_le (by omega) h
  have l : ∀ a b : Int, 1 ≤ a → 1 ≤ b → a < b → (a : Rat) / (b : Rat) ≤ (b : Rat) / (a : Rat) := fun a b ha hb h => by
    rw [← Rat.not_lt, q_lt (by omega) (by omega)]
    have := Int.mul_lt_mul_of_pos_right h (show (0 : Int) < b by omega)
    have := Int.mul_lt_mul_of_pos_left h (show (0 : Int) < a by omega)
    omega
  split
  · rename_i hle
    by_cases hb : p.1 * q.2 ≤ q.1 * p.2
    · exact e _ _ h2 h1 hb
    · have := e _ _ h1 h2 (by omega)
      grind
  · rename_i hle
    by_cases hb : q.1 * p.2 ≤ p.1 * q.2
    · exact e _ _ h1 h2 hb
    · exact absurd (l _ _ h1 h2 (by omega)) hle
theorem gs_two {p q : Int × Int} (h1 : 1 ≤ p.1 * q.2) (h2 : 1 ≤ q.1 * p.2) : gs [p, q] = stepQ p q := by
  show max 1 (stepQ p q) = _
  have := stepQ_one h1 h2
  rw [Rat.max_def, if_pos this]
theorem Sc.snoc {fs : List Int} (h : Sc fs) : Sc (fs ++ [1]) := fun s hs => (List.mem_append.mp hs).elim (h s) fun hs => (by rw [List.mem_singleton.mp hs]; exact ⟨by decide, by decide⟩)
theorem Sc.init {fs : List Int} (h : Sc fs) : Sc fs.dropLast := fun s hs => h s (List.dropLast_subset _ hs)
theorem Sc.drop {fs : List Int} (h : Sc fs) (n : Nat) : Sc (fs.drop n) := fun s hs => h s (List.mem_of_mem_drop hs)
theorem snoc_map (fs : List Int) : fs.map D.int ++ [.int 1] = (fs ++ [1]).map .int := by rw [List.map_append]; rfl
theorem init_map (fs : List Int) : cutG (fs.map D.int) none (some (-1)) = fs.dropLast.map .int := by rw [cut_m1, List.map_dropLast]
theorem tail_map (fs : List Int) : cutG (fs.map D.int) (some 1) none = (fs.drop 1).map .int := by rw [show (1 : Int) = ((1 : Nat) : Int) from rfl, cut_from, List.map_drop]
theorem c_eqi0 {ns : List Int} {B : Bool → Prop} : wO (cmpD .eq (.lst (ns.map .int)) (.lst [])) B = B ns.isEmpty := by
  rw [c_eq (flat_lst fun x _ => flat_int x 39) (by decide)]
  cases ns <;> simp [eqD, eqDs]
theorem qd_lit {q : Rat} {a b : Nat} (hb : 0 < b) (hg : Nat.gcd a b = 1) (e : q = ((a : Int) : Rat) / ((b : Int) : Rat)) : qd q = pd (a : Int) (b : Int) := by rw [e, pd_qd hb hg]
/-- nothing, or data -/
inductive Fd : Cell → Prop where
  | n : Fd .none
  | d (x : D) : Fd (.d x)
theorem Fd.fre {c : Cell} (h : Fd c) : Fre c := by cases h <;> array_get_dec
theorem Fd.ob {c : Cell} {cs : Cells} (h : Fd c) : isOb (c :: cs) 0 = false := by cases h <;> rfl
end K03

set_option Elab.async false
set_option linter.all false
set_option maxRecDepth 100000
set_option maxHeartbeats 800000
namespace K03
open PySem Fx
local macro_rules
  | `(tactic| array_get_dec) => `(tactic| try simp only [↓wO_some, ↓wO_none, ↓wO_map, ↓wO_bind, ↓wO_ite, ↓wLook_0, ↓wLook_s, ↓wSet_0, ↓wSet_s, ↓wCv_d, ↓wCv_o, ↓wCv_io, ↓wCg_d, ↓wCg_ol, ↓wCg_iol, ↓wCg_od, ↓wCg_iod, ↓wG_d, ↓wG_nl, ↓wG_nd, ↓wG_own, ↓wCz_d, ↓wCz_ol, ↓wCz_od, ↓wZ_d, ↓wZ_nl, ↓wZ_nd, ↓wZ_own, ↓wGs_nil, ↓wGs_cons, ↓wZs_nil, ↓wZs_cons, ↓wCo_o, ↓wCo_io, ↓wCp_o, ↓wCp_io, ↓wCs_eq, ↓wAd_nm, ↓wAd_tup, ↓wAds_nil, ↓wAds_cons, ↓wA_d, ↓wA_n, ↓wA_own, ↓wA_tup, ↓wAs_nil, ↓wAs_cons, ↓wD_bl, ↓wD_non, ↓wD_int, ↓wD_lst, ↓wD_tup, ↓wD_str, ↓wB_bl, ↓wE_var, ↓wT_var, ↓wE_cst, ↓wT_cst, ↓wE_bin, ↓wT_bin, ↓wE_neg, ↓wE_not, ↓wT_not, ↓wE_cmp, ↓wT_cmp, ↓wE_chain, ↓wT_chain, ↓wE_and, ↓wE_or, ↓wT_and, ↓wT_or, ↓wE_ite, ↓wT_ite, ↓wE_tup, ↓wE_lst, ↓wT_tup, ↓wT_lst, ↓wE_blt, ↓wT_blt, ↓wE_isinst, ↓wT_isinst, ↓wE_mth, ↓wE_ix, ↓wT_ix, ↓wEo_none, ↓wN_int, ↓wEo_some, ↓wE_sl, ↓wE_rev, ↓wEs_nil, ↓wEs_cons, ↓wE_mut, ↓wPre_nil, ↓wPre_io, ↓wPre_d, ↓wArg_nil, ↓wArg_d, ↓wArg_io, ↓wBack_nil, ↓wBack_cons, ↓wE_call, ↓wT_call, ↓wC_0, ↓wC_1, ↓wCc_go, ↓wI_e, ↓wI_items, ↓wI_values, ↓wI_enum, ↓wI_zip, ↓wI_range, ↓wE_col, ↓wEc_none, ↓wEc_some, ↓wE_lc, ↓wK_next, ↓wK_ret, ↓wK_brk, ↓wK_cnt, ↓wKl_next, ↓wKl_cnt, ↓wKl_brk, ↓wKl_ret, ↓wS_asg, ↓wPar_t, ↓wPar_f, ↓wS_par, ↓wS_set, ↓wS_expr, ↓wS_ifs, ↓wS_ret, ↓wS_retN, ↓wS_brk, ↓wS_cnt, ↓wS_pas, ↓wS_never, ↓wCa_int, ↓wS_aug, ↓wS_fors, ↓wS_whl, ↓wCr_o, ↓wCr_d, ↓wOut_d, ↓wOut_n, ↓wOut_own, ↓wFl_next, ↓wFl_ret, ↓wIo_io, ↓d_add, ↓d_sub, ↓d_mul, ↓d_fdiv, ↓d_mod, ↓d_pow, ↓d_adds, ↓d_addl, ↓d_addt, ↓d_mull, ↓d_muls, ↓d_neg, ↓c_lt, ↓c_le, ↓c_gt, ↓c_ge, ↓c_eqi, ↓c_nei, ↓c_eqb, ↓c_neb, ↓c_eqs, ↓c_nes, ↓c_in3, ↓c_isN_non, ↓c_isN_int, ↓c_isN_tup, ↓c_isN_lst, ↓c_isN_str, ↓c_isN_bl, ↓c_isN_dic, ↓c_notN_non, ↓c_notN_int, ↓c_notN_tup, ↓c_notN_lst, ↓c_notN_str, ↓c_notN_bl, ↓c_notN_dic, ↓b_lens, ↓b_lenl, ↓b_lent, ↓b_lend, ↓b_abs, ↓b_max, ↓b_min, ↓b_inti, ↓b_intb, ↓b_listl, ↓b_listt, ↓b_tupl, ↓b_tupt, ↓b_repr, ↓b_all, ↓b_any, ↓b_sum, ↓asB_nil, ↓asB_cons, ↓asB_map, ↓asI_nil, ↓asI_cons, ↓asI_map, ↓m_append, ↓m_extend, ↓m_extendt, ↓i_lst, ↓i_tup, ↓i_str, ↓r_1, ↓r_2, ↓e_1, ↓z_l, ↓z_2, ↓s_l, ↓s_t, ↓s_s, ↓v_l, ↓v_s, ↓x_l, ↓x_t, ↓x_s, ↓x_d, ↓k_i, ↓k_s, ↓u_add, ↓u_sub, ↓toR_d, ↓toR_n, ↓wPut_s, ↓wPut_o, ↓wPut_io, ↓at_0, ↓at_1, ↓at_2, ↓at_3, ↓at_4, ↓at_5, ↓at_m1, ↓wLast_1, ↓wLast_s, ↓wLast_app, ↓setD_l, ↓setD_d, ↓ixN_0, ↓ixN_1, ↓ixN_2, ↓br_t, ↓br_f, ↓wL_nil, ↓wLc_nil, ↓wSs_nil, enumL, zipL, dfl2, List.drop_succ_cons, List.drop_zero, Fre_io, Fre_o, Fre_d, Fre_n, obAt_s, obAt_0o, obAt_0io, obAt_0d, obAt_0n, isL_s, isL_o, isL_io, isOb_s, isOb_0d, isOb_0n, ioIdx_nil, ioIdx_d, ioIdx_io, wipeC_nil, wipeC_cons, restC_nil, restC_cons, noOwn_nil, noOwn_d, noOwn_n, noOwn_o, lim_is, tyD, argCell, Option.isSome_some, List.set_cons_succ, List.set_cons_zero, List.getElem?_cons_succ, List.getElem?_cons_zero, Option.getD_some, List.any_cons, List.any_nil, List.nodup_nil, List.nodup_cons, List.not_mem_nil, List.mem_cons, List.length_cons, List.length_nil, List.length_map, Nat.zero_add, true_and, and_true, forall_const, reduceCtorEq, false_implies, true_implies, Bool.not_true, Bool.not_false, Bool.or_false, Bool.false_or, Bool.or_true, Bool.true_or, Bool.and_true, Bool.true_and, Bool.and_false, Bool.false_and, Bool.not_eq_true, Bool.not_eq_false, Bool.not_eq_true', Bool.not_eq_false', decide_eq_true_eq, decide_eq_false_iff_not, Bool.false_eq_true, Bool.true_eq_false, beq_iff_eq, beq_eq_false_iff_ne, ne_eq, not_false_eq_true, not_true_eq_false, List.cons_append, List.nil_append, List.map_cons, List.map_nil, Bool.decide_eq_true, Int.toNat_natCast, Int.natAbs_natCast, abs_lit, Int.cast_ofNat_Int, Nat.reduceAdd, Nat.reduceMul, Nat.reduceSub, Nat.reduceLeDiff, Nat.reduceLT, Nat.reduceGT, Nat.reduceEqDiff, Int.reduceAdd, Int.reduceMul, Int.reduceSub, Int.reduceNeg, Int.reduceLT, Int.reduceLE, Int.reduceGT, Int.reduceGE, Int.reduceEq, Int.reduceNe, Int.reducePow, Int.reduceToNat, Int.reduceBEq, Int.reduceBNe, List.all_cons, List.all_nil, List.any_cons, List.any_nil, id_eq, ↓wE_disp, ↓wKs_nil, ↓wKs_cons, ↓wk_lst, ↓wk_tup, ↓wk_str, ↓wk_dic, ↓wk_items, ↓wk_vals, ↓d_mult, ↓c_isB, ↓c_notB, ↓b_sortD, ↓b_dict, ↓b_str, ↓b_lists, ↓m_join, ↓c_inS, ↓c_inD, ↓c_ninD, ↓c_eqe, ↓c_nee, ↓c_lts, ↓b_minD, ↓b_listd, ↓wE_dc, ↓wDc_nil, ↓wKy_i, ↓wKy_s, ↓wE_idx, ↓wLk_d, ↓wE_lck, ↓wKc_o, ↓wKc_d, ↓wE_lrg1, ↓wE_lrg2, ↓wE_lvs, ↓wE_lit, ↓d_rg1, ↓d_rg2, ↓d_vals, ↓d_its])
local macro_rules
  | `(tactic| array_mem_dec) => `(tactic| (refine wStep ?_; simp only [↓wO_some, ↓wO_none, ↓wO_map, ↓wO_bind, ↓wO_ite, ↓wLook_0, ↓wLook_s, ↓wSet_0, ↓wSet_s, ↓wCv_d, ↓wCv_o, ↓wCv_io, ↓wCg_d, ↓wCg_ol, ↓wCg_iol, ↓wCg_od, ↓wCg_iod, ↓wG_d, ↓wG_nl, ↓wG_nd, ↓wG_own, ↓wCz_d, ↓wCz_ol, ↓wCz_od, ↓wZ_d, ↓wZ_nl, ↓wZ_nd, ↓wZ_own, ↓wGs_nil, ↓wGs_cons, ↓wZs_nil, ↓wZs_cons, ↓wCo_o, ↓wCo_io, ↓wCp_o, ↓wCp_io, ↓wCs_eq, ↓wAd_nm, ↓wAd_tup, ↓wAds_nil, ↓wAds_cons, ↓wA_d, ↓wA_n, ↓wA_own, ↓wA_tup, ↓wAs_nil, ↓wAs_cons, ↓wD_bl, ↓wD_non, ↓wD_int, ↓wD_lst, ↓wD_tup, ↓wD_str, ↓wB_bl, ↓wE_var, ↓wT_var, ↓wE_cst, ↓wT_cst, ↓wE_bin, ↓wT_bin, ↓wE_neg, ↓wE_not, ↓wT_not, ↓wE_cmp, ↓wT_cmp, ↓wE_chain, ↓wT_chain, ↓wE_and, ↓wE_or, ↓wT_and, ↓wT_or, ↓wE_ite, ↓wT_ite, ↓wE_tup, ↓wE_lst, ↓wT_tup, ↓wT_lst, ↓wE_blt, ↓wT_blt, ↓wE_isinst, ↓wT_isinst, ↓wE_mth, ↓wE_ix, ↓wT_ix, ↓wEo_none, ↓wN_int, ↓wEo_some, ↓wE_sl, ↓wE_rev, ↓wEs_nil, ↓wEs_cons, ↓wE_mut, ↓wPre_nil, ↓wPre_io, ↓wPre_d, ↓wArg_nil, ↓wArg_d, ↓wArg_io, ↓wBack_nil, ↓wBack_cons, ↓wE_call, ↓wT_call, ↓wC_0, ↓wC_1, ↓wCc_go, ↓wI_e, ↓wI_items, ↓wI_values, ↓wI_enum, ↓wI_zip, ↓wI_range, ↓wE_col, ↓wEc_none, ↓wEc_some, ↓wE_lc, ↓wK_next, ↓wK_ret, ↓wK_brk, ↓wK_cnt, ↓wKl_next, ↓wKl_cnt, ↓wKl_brk, ↓wKl_ret, ↓wS_asg, ↓wPar_t, ↓wPar_f, ↓wS_par, ↓wS_set, ↓wS_expr, ↓wS_ifs, ↓wS_ret, ↓wS_retN, ↓wS_brk, ↓wS_cnt, ↓wS_pas, ↓wS_never, ↓wCa_int, ↓wS_aug, ↓wS_fors, ↓wS_whl, ↓wCr_o, ↓wCr_d, ↓wOut_d, ↓wOut_n, ↓wOut_own, ↓wFl_next, ↓wFl_ret, ↓wIo_io, ↓d_add, ↓d_sub, ↓d_mul, ↓d_fdiv, ↓d_mod, ↓d_pow, ↓d_adds, ↓d_addl, ↓d_addt, ↓d_mull, ↓d_muls, ↓d_neg, ↓c_lt, ↓c_le, ↓c_gt, ↓c_ge, ↓c_eqi, ↓c_nei, ↓c_eqb, ↓c_neb, ↓c_eqs, ↓c_nes, ↓c_in3, ↓c_isN_non, ↓c_isN_int, ↓c_isN_tup, ↓c_isN_lst, ↓c_isN_str, ↓c_isN_bl, ↓c_isN_dic, ↓c_notN_non, ↓c_notN_int, ↓c_notN_tup, ↓c_notN_lst, ↓c_notN_str, ↓c_notN_bl, ↓c_notN_dic, ↓b_lens, ↓b_lenl, ↓b_lent, ↓b_lend, ↓b_abs, ↓b_max, ↓b_min, ↓b_inti, ↓b_intb, ↓b_listl, ↓b_listt, ↓b_tupl, ↓b_tupt, ↓b_repr, ↓b_all, ↓b_any, ↓b_sum, ↓asB_nil, ↓asB_cons, ↓asB_map, ↓asI_nil, ↓asI_cons, ↓asI_map, ↓m_append, ↓m_extend, ↓m_extendt, ↓i_lst, ↓i_tup, ↓i_str, ↓r_1, ↓r_2, ↓e_1, ↓z_l, ↓z_2, ↓s_l, ↓s_t, ↓s_s, ↓v_l, ↓v_s, ↓x_l, ↓x_t, ↓x_s, ↓x_d, ↓k_i, ↓k_s, ↓u_add, ↓u_sub, ↓toR_d, ↓toR_n, ↓wPut_s, ↓wPut_o, ↓wPut_io, ↓at_0, ↓at_1, ↓at_2, ↓at_3, ↓at_4, ↓at_5, ↓at_m1, ↓wLast_1, ↓wLast_s, ↓wLast_app, ↓setD_l, ↓setD_d, ↓ixN_0, ↓ixN_1, ↓ixN_2, ↓br_t, ↓br_f, ↓wL_nil, ↓wLc_nil, ↓wSs_nil, enumL, zipL, dfl2, List.drop_succ_cons, List.drop_zero, Fre_io, Fre_o, Fre_d, Fre_n, obAt_s, obAt_0o, obAt_0io, obAt_0d, obAt_0n, isL_s, isL_o, isL_io, isOb_s, isOb_0d, isOb_0n, ioIdx_nil, ioIdx_d, ioIdx_io, wipeC_nil, wipeC_cons, restC_nil, restC_cons, noOwn_nil, noOwn_d, noOwn_n, noOwn_o, lim_is, tyD, argCell, Option.isSome_some, List.set_cons_succ, List.set_cons_zero, List.getElem?_cons_succ, List.getElem?_cons_zero, Option.getD_some, List.any_cons, List.any_nil, List.nodup_nil, List.nodup_cons, List.not_mem_nil, List.mem_cons, List.length_cons, List.length_nil, List.length_map, Nat.zero_add, true_and, and_true, forall_const, reduceCtorEq, false_implies, true_implies, Bool.not_true, Bool.not_false, Bool.or_false, Bool.false_or, Bool.or_true, Bool.true_or, Bool.and_true, Bool.true_and, Bool.and_false, Bool.false_and, Bool.not_eq_true, Bool.not_eq_false, Bool.not_eq_true', Bool.not_eq_false', decide_eq_true_eq, decide_eq_false_iff_not, Bool.false_eq_true, Bool.true_eq_false, beq_iff_eq, beq_eq_false_iff_ne, ne_eq, not_false_eq_true, not_true_eq_false, List.cons_append, List.nil_append, List.map_cons, List.map_nil, Bool.decide_eq_true, Int.toNat_natCast, Int.natAbs_natCast, abs_lit, Int.cast_ofNat_Int, Nat.reduceAdd, Nat.reduceMul, Nat.reduceSub, Nat.reduceLeDiff, Nat.reduceLT, Nat.reduceGT, Nat.reduceEqDiff, Int.reduceAdd, Int.reduceMul, Int.reduceSub, Int.reduceNeg, Int.reduceLT, Int.reduceLE, Int.reduceGT, Int.reduceGE, Int.reduceEq, Int.reduceNe, Int.reducePow, Int.reduceToNat, Int.reduceBEq, Int.reduceBNe, List.all_cons, List.all_nil, List.any_cons, List.any_nil, id_eq, ↓wE_disp, ↓wKs_nil, ↓wKs_cons, ↓wk_lst, ↓wk_tup, ↓wk_str, ↓wk_dic, ↓wk_items, ↓wk_vals, ↓d_mult, ↓c_isB, ↓c_notB, ↓b_sortD, ↓b_dict, ↓b_str, ↓b_lists, ↓m_join, ↓c_inS, ↓c_inD, ↓c_ninD, ↓c_eqe, ↓c_nee, ↓c_lts, ↓b_minD, ↓b_listd, ↓wE_dc, ↓wDc_nil, ↓wKy_i, ↓wKy_s, ↓wE_idx, ↓wLk_d, ↓wE_lck, ↓wKc_o, ↓wKc_d, ↓wE_lrg1, ↓wE_lrg2, ↓wE_lvs, ↓wE_lit, ↓d_rg1, ↓d_rg2, ↓d_vals, ↓d_its]))
local macro_rules
  | `(tactic| apply_ext_theorem) => `(tactic| (rw [wLc_cons]; array_get_dec))
local macro_rules
  | `(tactic| nofun) => `(tactic| (rw [wL_cons]; array_get_dec))
/-! ### the law's own fount of numbers -/
/-- a fount that gave at most K mixed numbers -/
def Fo (K : Nat) (b : Ob) : Prop := ∃ a m k : Int, b = .lst [.int a, .int m, .int k] ∧ 0 ≤ a ∧ 0 ≤ m ∧ m < 1000000000000000000000000000000000000000000 ∧ 0 ≤ k ∧ k ≤ K
theorem Fo.up {K K' : Nat} {b : Ob} (h : Fo K b) (l : K ≤ K') : Fo K' b := by
  obtain ⟨a, m, k, e, h1, h2, h3, h4, h5⟩ := h
  exact ⟨a, m, k, e, h1, h2, h3, h4, by omega⟩
theorem w__law_dip {K : Nat} {b : Ob} {z : Int} {E : Exn → List Ob → Prop} {Q : RO → List Ob → Prop} (h : Fo K b) (hK : K ≤ 900000) (hz : 1 ≤ z) (hz2 : bits z ≤ 8000)
    (kk : ∀ r b', 0 ≤ r → r < z → Fo (K + 1) b' → Q (.d (.int r)) [b']) : wF (F15 [.io b, .d (.int z)]) E Q := by
  obtain ⟨a, m, k, rfl, a0, m0, m1, k0, k1⟩ := h
  have z0 : 0 < z := by omega
  refine run15 ?_
  array_mem_dec
  refine ⟨fun ha => ?_, fun ha => ?_⟩
  · array_mem_dec
    refine ⟨z0, ?_⟩
    array_mem_dec
    refine ⟨⟨z0, by omega⟩, ?_⟩
    array_mem_dec
    exact kk _ _ (Int.emod_nonneg _ (by omega)) (Int.emod_lt_of_pos _ z0) ⟨_, _, _, rfl, Int.ediv_nonneg a0 (by omega), m0, m1, k0, by omega⟩
  · have e1 : bits (k + 1) ≤ 20 := bits_pos (by omega) (by omega)
    have e2 : bits m ≤ 140 := bits_pos m0 (by omega)
    have c1 : bits 49979687 ≤ 30 := by decide
    have c2 : bits 67867967 ≤ 30 := by decide
    have c3 : bits 1000000000000000000000000000000000000000063 ≤ 140 := by decide
    have c4 : bits 10 ≤ 5 := by decide
    have e3 := bits_add e2 (bits_mul c1 e1)
    array_mem_dec
    array_mem_dec
    refine ⟨by omega, by omega, by omega, ?_⟩
    have d1 : (0 : Int) < 1000000000000000000000000000000000000000063 := by decide
    have e4 := bits_add (Nat.le_trans (bits_mod (x := (m + 49979687 * (k + 1)) ^ 3) d1) c3) (bits_mul c2 e1)
    array_mem_dec
    refine ⟨by omega, ?_⟩
    generalize (m + 49979687 * (k + 1)) ^ 3 % 1000000000000000000000000000000000000000063 + 67867967 * (k + 1) = w at *
    refine ⟨by omega, by omega, ?_⟩
    generalize w ^ 3 % 10000000000000000000000000000000000000121 = v
    array_mem_dec
    exact ⟨by omega, by decide, z0, kk _ _ (Int.emod_nonneg _ (by omega)) (Int.emod_lt_of_pos _ z0) ⟨_, _, _, rfl, a0, m0, m1, by omega, by omega⟩⟩
theorem w__law_fount {ns : List Int} {at_ : Nat} {E : Exn → List Ob → Prop} {Q : RO → List Ob → Prop} (h : at_ ≤ 10) (kk : ∀ b, Fo 0 b → Q (.new b) []) : wF (F14 [.d (.lst (ns.map .int)), .d (.int (at_ : Int))]) E Q := by
  refine run14 ?_
  have fin : ∀ cell : Int, Q (.new (.lst [.int (if 0 < cell - 1000000000000000000 then cell - 1000000000000000000 else 0), .int (cell % 1000000000000000000000000000000000000061 * 64 + 31 * (at_ : Int) + 17), .int 0])) [] := by
    intro cell
    have h1 := Int.emod_nonneg cell (show (1000000000000000000000000000000000000061 : Int) ≠ 0 by decide)
    have h2 := Int.emod_lt_of_pos cell (show (0 : Int) < 1000000000000000000000000000000000000061 by decide)
    exact kk _ ⟨_, _, _, rfl, by split <;> omega, by omega, by omega, by decide, by decide⟩
  have bk : bits (at_ : Int) ≤ 20 := bits_pos (by omega) (by omega)
  have c4 : bits 10 ≤ 5 := by decide
  have c5 : bits 31 ≤ 5 := by decide
  have c6 : bits 64 ≤ 8 := by decide
  have bm : ∀ x : Int, bits (x % 1000000000000000000000000000000000000061) ≤ 140 := fun x => Nat.le_trans (bits_mod (x := x) (by decide)) (by decide)
  array_mem_dec
  have ab : bits 64 ≤ 8 ∧ bits 31 ≤ 5 := ⟨c6, c5⟩
  refine ⟨fun hlt => ?_, fun hlt => ?_⟩
  · have hg : (ns.map D.int)[at_]? = some (.int ns[at_]) := by rw [List.getElem?_map, List.getElem?_eq_getElem (by omega)]; rfl
    refine at_d hg ?_
    array_get_dec
    array_mem_dec
    have := bm (if ns[at_] < 0 then -ns[at_] else ns[at_])
    exact ⟨by omega, by omega, by omega, by omega, fin _⟩
  · array_mem_dec
    have f0 := fin 0
    have := bm 0
    exact ⟨by omega, by omega, by omega, by omega, by simpa using f0⟩
theorem w__law_widths {K : Nat} {b : Ob} {lo hi : Nat} {E : Exn → List Ob → Prop} {Q : RO → List Ob → Prop} (h : Fo K b) (hK : K ≤ 800000) (l2 : lo ≤ hi) (l3 : hi ≤ 6)
    (kk : ∀ (ws : List Int) b', lo ≤ ws.length → ws.length ≤ hi → (∀ w ∈ ws, 1 ≤ w ∧ w ≤ 4) → Fo (K + 8) b' → Q (.d (wd ws)) [b']) : wF (F16 [.io b, .d (.int (lo : Int)), .d (.int (hi : Int))]) E Q := by
  refine run16 ?_
  array_mem_dec
  refine w__law_dip h (by omega) (by decide) (by decide) fun r b1 r0 r1 h1 => ?_
  array_get_dec
  refine at_any r0 (by simpa using r1) fun top ht => ?_
  obtain ⟨m, hm, rfl⟩ : ∃ m : Int, (m = 2 ∨ m = 4) ∧ top = .int m := by
    simp only [List.mem_cons, List.not_mem_nil, or_false] at ht
    rcases ht with e | e | e
    · exact ⟨2, .inl rfl, e⟩
    · exact ⟨4, .inr rfl, e⟩
    · exact ⟨4, .inr rfl, e⟩
  array_get_dec
  array_mem_dec
  refine w__law_dip h1 (by omega) (by omega) (by
    have : bits ((hi : Int) - lo + 1) ≤ 3 := bits_pos (by omega) (by omega)
    omega) fun n b2 n0 n1 h2 => ?_
  array_get_dec
  refine ⟨by omega, ?_⟩
  unfold rangeL
  have cnt : (List.range ((lo : Int) + n).toNat).length = ((lo : Int) + n).toNat := List.length_range
  refine wLc_map (fun i acc e => ∃ (ws : List Int) (b' : Ob) (c : Cell), acc = ws.map .int ∧ ws.length = i ∧ (∀ w ∈ ws, 1 ≤ w ∧ w ≤ 4) ∧ Fo (K + 2 + i) b' ∧ Fre c ∧ e = [.io b', .d (.int lo), .d (.int hi), .d (.int m), c])
    ⟨[], b2, .none, rfl, rfl, by simp, h2, trivial, rfl⟩ ?_ ?_
  · rintro i x acc e hx ⟨ws, b', c, rfl, hl, hw, hp, fc, rfl⟩
    have hi : i < ((lo : Int) + n).toNat := by have := (List.getElem?_eq_some_iff.mp hx).1; omega
    array_get_dec
    refine w__law_dip hp (by omega) (by omega) (by rcases hm with rfl | rfl <;> decide) fun r b3 q0 q1 hp2 => ?_
    array_get_dec
    refine ⟨by omega, ws ++ [1 + r], b3, .d _, by simp, by simp [hl], fun w hw' => ?_, hp2.up (by omega), trivial, rfl⟩
    rcases List.mem_append.mp hw' with z | z
    · exact hw w z
    · rw [List.mem_singleton.mp z]; omega
  · rintro acc e ⟨ws, b', c, rfl, hl, hw, hp, fc, rfl⟩
    array_get_dec
    rw [cnt] at hl hp
    exact kk ws b' (by omega) (by omega) hw (hp.up (by omega))
end K03

set_option Elab.async false
set_option linter.all false
set_option maxRecDepth 100000
set_option maxHeartbeats 800000
namespace K03
open PySem Fx
local macro_rules
  | `(tactic| array_get_dec) => `(tactic| try simp only [↓wO_some, ↓wO_none, ↓wO_map, ↓wO_bind, ↓wO_ite, ↓wLook_0, ↓wLook_s, ↓wSet_0, ↓wSet_s, ↓wCv_d, ↓wCv_o, ↓wCv_io, ↓wCg_d, ↓wCg_ol, ↓wCg_iol, ↓wCg_od, ↓wCg_iod, ↓wG_d, ↓wG_nl, ↓wG_nd, ↓wG_own, ↓wCz_d, ↓wCz_ol, ↓wCz_od, ↓wZ_d, ↓wZ_nl, ↓wZ_nd, ↓wZ_own, ↓wGs_nil, ↓wGs_cons, ↓wZs_nil, ↓wZs_cons, ↓wCo_o, ↓wCo_io, ↓wCp_o, ↓wCp_io, ↓wCs_eq, ↓wAd_nm, ↓wAd_tup, ↓wAds_nil, ↓wAds_cons, ↓wA_d, ↓wA_n, ↓wA_own, ↓wA_tup, ↓wAs_nil, ↓wAs_cons, ↓wD_bl, ↓wD_non, ↓wD_int, ↓wD_lst, ↓wD_tup, ↓wD_str, ↓wB_bl, ↓wE_var, ↓wT_var, ↓wE_cst, ↓wT_cst, ↓wE_bin, ↓wT_bin, ↓wE_neg, ↓wE_not, ↓wT_not, ↓wE_cmp, ↓wT_cmp, ↓wE_chain, ↓wT_chain, ↓wE_and, ↓wE_or, ↓wT_and, ↓wT_or, ↓wE_ite, ↓wT_ite, ↓wE_tup, ↓wE_lst, ↓wT_tup, ↓wT_lst, ↓wE_blt, ↓wT_blt, ↓wE_isinst, ↓wT_isinst, ↓wE_mth, ↓wE_ix, ↓wT_ix, ↓wEo_none, ↓wN_int, ↓wEo_some, ↓wE_sl, ↓wE_rev, ↓wEs_nil, ↓wEs_cons, ↓wE_mut, ↓wPre_nil, ↓wPre_io, ↓wPre_d, ↓wArg_nil, ↓wArg_d, ↓wArg_io, ↓wBack_nil, ↓wBack_cons, ↓wE_call, ↓wT_call, ↓wC_0, ↓wC_1, ↓wCc_go, ↓wI_e, ↓wI_items, ↓wI_values, ↓wI_enum, ↓wI_zip, ↓wI_range, ↓wE_col, ↓wEc_none, ↓wEc_some, ↓wE_lc, ↓wK_next, ↓wK_ret, ↓wK_brk, ↓wK_cnt, ↓wKl_next, ↓wKl_cnt, ↓wKl_brk, ↓wKl_ret, ↓wS_asg, ↓wPar_t, ↓wPar_f, ↓wS_par, ↓wS_set, ↓wS_expr, ↓wS_ifs, ↓wS_ret, ↓wS_retN, ↓wS_brk, ↓wS_cnt, ↓wS_pas, ↓wS_never, ↓wCa_int, ↓wS_aug, ↓wS_fors, ↓wS_whl, ↓wCr_o, ↓wCr_d, ↓wOut_d, ↓wOut_n, ↓wOut_own, ↓wFl_next, ↓wFl_ret, ↓wIo_io, ↓d_add, ↓d_sub, ↓d_mul, ↓d_fdiv, ↓d_mod, ↓d_pow, ↓d_adds, ↓d_addl, ↓d_addt, ↓d_mull, ↓d_muls, ↓d_neg, ↓c_lt, ↓c_le, ↓c_gt, ↓c_ge, ↓c_eqi, ↓c_nei, ↓c_eqb, ↓c_neb, ↓c_eqs, ↓c_nes, ↓c_in3, ↓c_isN_non, ↓c_isN_int, ↓c_isN_tup, ↓c_isN_lst, ↓c_isN_str, ↓c_isN_bl, ↓c_isN_dic, ↓c_notN_non, ↓c_notN_int, ↓c_notN_tup, ↓c_notN_lst, ↓c_notN_str, ↓c_notN_bl, ↓c_notN_dic, ↓b_lens, ↓b_lenl, ↓b_lent, ↓b_lend, ↓b_abs, ↓b_max, ↓b_min, ↓b_inti, ↓b_intb, ↓b_listl, ↓b_listt, ↓b_tupl, ↓b_tupt, ↓b_repr, ↓b_all, ↓b_any, ↓b_sum, ↓asB_nil, ↓asB_cons, ↓asB_map, ↓asI_nil, ↓asI_cons, ↓asI_map, ↓m_append, ↓m_extend, ↓m_extendt, ↓i_lst, ↓i_tup, ↓i_str, ↓r_1, ↓r_2, ↓e_1, ↓z_l, ↓z_2, ↓s_l, ↓s_t, ↓s_s, ↓v_l, ↓v_s, ↓x_l, ↓x_t, ↓x_s, ↓x_d, ↓k_i, ↓k_s, ↓u_add, ↓u_sub, ↓toR_d, ↓toR_n, ↓wPut_s, ↓wPut_o, ↓wPut_io, ↓at_0, ↓at_1, ↓at_2, ↓at_3, ↓at_4, ↓at_5, ↓at_m1, ↓wLast_1, ↓wLast_s, ↓wLast_app, ↓setD_l, ↓setD_d, ↓ixN_0, ↓ixN_1, ↓ixN_2, ↓br_t, ↓br_f, ↓wL_nil, ↓wLc_nil, ↓wSs_nil, enumL, zipL, dfl2, List.drop_succ_cons, List.drop_zero, Fre_io, Fre_o, Fre_d, Fre_n, obAt_s, obAt_0o, obAt_0io, obAt_0d, obAt_0n, isL_s, isL_o, isL_io, isOb_s, isOb_0d, isOb_0n, ioIdx_nil, ioIdx_d, ioIdx_io, wipeC_nil, wipeC_cons, restC_nil, restC_cons, noOwn_nil, noOwn_d, noOwn_n, noOwn_o, lim_is, tyD, argCell, Option.isSome_some, List.set_cons_succ, List.set_cons_zero, List.getElem?_cons_succ, List.getElem?_cons_zero, Option.getD_some, List.any_cons, List.any_nil, List.nodup_nil, List.nodup_cons, List.not_mem_nil, List.mem_cons, List.length_cons, List.length_nil, List.length_map, Nat.zero_add, true_and, and_true, forall_const, reduceCtorEq, false_implies, true_implies, Bool.not_true, Bool.not_false, Bool.or_false, Bool.false_or, Bool.or_true, Bool.true_or, Bool.and_true, Bool.true_and, Bool.and_false, Bool.false_and, Bool.not_eq_true, Bool.not_eq_false, Bool.not_eq_true', Bool.not_eq_false', decide_eq_true_eq, decide_eq_false_iff_not, Bool.false_eq_true, Bool.true_eq_false, beq_iff_eq, beq_eq_false_iff_ne, ne_eq, not_false_eq_true, not_true_eq_false, List.cons_append, List.nil_append, List.map_cons, List.map_nil, Bool.decide_eq_true, Int.toNat_natCast, Int.natAbs_natCast, abs_lit, Int.cast_ofNat_Int, Nat.reduceAdd, Nat.reduceMul, Nat.reduceSub, Nat.reduceLeDiff, Nat.reduceLT, Nat.reduceGT, Nat.reduceEqDiff, Int.reduceAdd, Int.reduceMul, Int.reduceSub, Int.reduceNeg, Int.reduceLT, Int.reduceLE, Int.reduceGT, Int.reduceGE, Int.reduceEq, Int.reduceNe, Int.reducePow, Int.reduceToNat, Int.reduceBEq, Int.reduceBNe, List.all_cons, List.all_nil, List.any_cons, List.any_nil, id_eq, ↓wE_disp, ↓wKs_nil, ↓wKs_cons, ↓wk_lst, ↓wk_tup, ↓wk_str, ↓wk_dic, ↓wk_items, ↓wk_vals, ↓d_mult, ↓c_isB, ↓c_notB, ↓b_sortD, ↓b_dict, ↓b_str, ↓b_lists, ↓m_join, ↓c_inS, ↓c_inD, ↓c_ninD, ↓c_eqe, ↓c_nee, ↓c_lts, ↓b_minD, ↓b_listd, ↓wE_dc, ↓wDc_nil, ↓wKy_i, ↓wKy_s, ↓wE_idx, ↓wLk_d, ↓wE_lck, ↓wKc_o, ↓wKc_d, ↓wE_lrg1, ↓wE_lrg2, ↓wE_lvs, ↓wE_lit, ↓d_rg1, ↓d_rg2, ↓d_vals, ↓d_its])
local macro_rules
  | `(tactic| array_mem_dec) => `(tactic| (refine wStep ?_; simp only [↓wO_some, ↓wO_none, ↓wO_map, ↓wO_bind, ↓wO_ite, ↓wLook_0, ↓wLook_s, ↓wSet_0, ↓wSet_s, ↓wCv_d, ↓wCv_o, ↓wCv_io, ↓wCg_d, ↓wCg_ol, ↓wCg_iol, ↓wCg_od, ↓wCg_iod, ↓wG_d, ↓wG_nl, ↓wG_nd, ↓wG_own, ↓wCz_d, ↓wCz_ol, ↓wCz_od, ↓wZ_d, ↓wZ_nl, ↓wZ_nd, ↓wZ_own, ↓wGs_nil, ↓wGs_cons, ↓wZs_nil, ↓wZs_cons, ↓wCo_o, ↓wCo_io, ↓wCp_o, ↓wCp_io, ↓wCs_eq, ↓wAd_nm, ↓wAd_tup, ↓wAds_nil, ↓wAds_cons, ↓wA_d, ↓wA_n, ↓wA_own, ↓wA_tup, ↓wAs_nil, ↓wAs_cons, ↓wD_bl, ↓wD_non, ↓wD_int, ↓wD_lst, ↓wD_tup, ↓wD_str, ↓wB_bl, ↓wE_var, ↓wT_var, ↓wE_cst, ↓wT_cst, ↓wE_bin, ↓wT_bin, ↓wE_neg, ↓wE_not, ↓wT_not, ↓wE_cmp, ↓wT_cmp, ↓wE_chain, ↓wT_chain, ↓wE_and, ↓wE_or, ↓wT_and, ↓wT_or, ↓wE_ite, ↓wT_ite, ↓wE_tup, ↓wE_lst, ↓wT_tup, ↓wT_lst, ↓wE_blt, ↓wT_blt, ↓wE_isinst, ↓wT_isinst, ↓wE_mth, ↓wE_ix, ↓wT_ix, ↓wEo_none, ↓wN_int, ↓wEo_some, ↓wE_sl, ↓wE_rev, ↓wEs_nil, ↓wEs_cons, ↓wE_mut, ↓wPre_nil, ↓wPre_io, ↓wPre_d, ↓wArg_nil, ↓wArg_d, ↓wArg_io, ↓wBack_nil, ↓wBack_cons, ↓wE_call, ↓wT_call, ↓wC_0, ↓wC_1, ↓wCc_go, ↓wI_e, ↓wI_items, ↓wI_values, ↓wI_enum, ↓wI_zip, ↓wI_range, ↓wE_col, ↓wEc_none, ↓wEc_some, ↓wE_lc, ↓wK_next, ↓wK_ret, ↓wK_brk, ↓wK_cnt, ↓wKl_next, ↓wKl_cnt, ↓wKl_brk, ↓wKl_ret, ↓wS_asg, ↓wPar_t, ↓wPar_f, ↓wS_par, ↓wS_set, ↓wS_expr, ↓wS_ifs, ↓wS_ret, ↓wS_retN, ↓wS_brk, ↓wS_cnt, ↓wS_pas, ↓wS_never, ↓wCa_int, ↓wS_aug, ↓wS_fors, ↓wS_whl, ↓wCr_o, ↓wCr_d, ↓wOut_d, ↓wOut_n, ↓wOut_own, ↓wFl_next, ↓wFl_ret, ↓wIo_io, ↓d_add, ↓d_sub, ↓d_mul, ↓d_fdiv, ↓d_mod, ↓d_pow, ↓d_adds, ↓d_addl, ↓d_addt, ↓d_mull, ↓d_muls, ↓d_neg, ↓c_lt, ↓c_le, ↓c_gt, ↓c_ge, ↓c_eqi, ↓c_nei, ↓c_eqb, ↓c_neb, ↓c_eqs, ↓c_nes, ↓c_in3, ↓c_isN_non, ↓c_isN_int, ↓c_isN_tup, ↓c_isN_lst, ↓c_isN_str, ↓c_isN_bl, ↓c_isN_dic, ↓c_notN_non, ↓c_notN_int, ↓c_notN_tup, ↓c_notN_lst, ↓c_notN_str, ↓c_notN_bl, ↓c_notN_dic, ↓b_lens, ↓b_lenl, ↓b_lent, ↓b_lend, ↓b_abs, ↓b_max, ↓b_min, ↓b_inti, ↓b_intb, ↓b_listl, ↓b_listt, ↓b_tupl, ↓b_tupt, ↓b_repr, ↓b_all, ↓b_any, ↓b_sum, ↓asB_nil, ↓asB_cons, ↓asB_map, ↓asI_nil, ↓asI_cons, ↓asI_map, ↓m_append, ↓m_extend, ↓m_extendt, ↓i_lst, ↓i_tup, ↓i_str, ↓r_1, ↓r_2, ↓e_1, ↓z_l, ↓z_2, ↓s_l, ↓s_t, ↓s_s, ↓v_l, ↓v_s, ↓x_l, ↓x_t, ↓x_s, ↓x_d, ↓k_i, ↓k_s, ↓u_add, ↓u_sub, ↓toR_d, ↓toR_n, ↓wPut_s, ↓wPut_o, ↓wPut_io, ↓at_0, ↓at_1, ↓at_2, ↓at_3, ↓at_4, ↓at_5, ↓at_m1, ↓wLast_1, ↓wLast_s, ↓wLast_app, ↓setD_l, ↓setD_d, ↓ixN_0, ↓ixN_1, ↓ixN_2, ↓br_t, ↓br_f, ↓wL_nil, ↓wLc_nil, ↓wSs_nil, enumL, zipL, dfl2, List.drop_succ_cons, List.drop_zero, Fre_io, Fre_o, Fre_d, Fre_n, obAt_s, obAt_0o, obAt_0io, obAt_0d, obAt_0n, isL_s, isL_o, isL_io, isOb_s, isOb_0d, isOb_0n, ioIdx_nil, ioIdx_d, ioIdx_io, wipeC_nil, wipeC_cons, restC_nil, restC_cons, noOwn_nil, noOwn_d, noOwn_n, noOwn_o, lim_is, tyD, argCell, Option.isSome_some, List.set_cons_succ, List.set_cons_zero, List.getElem?_cons_succ, List.getElem?_cons_zero, Option.getD_some, List.any_cons, List.any_nil, List.nodup_nil, List.nodup_cons, List.not_mem_nil, List.mem_cons, List.length_cons, List.length_nil, List.length_map, Nat.zero_add, true_and, and_true, forall_const, reduceCtorEq, false_implies, true_implies, Bool.not_true, Bool.not_false, Bool.or_false, Bool.false_or, Bool.or_true, Bool.true_or, Bool.and_true, Bool.true_and, Bool.and_false, Bool.false_and, Bool.not_eq_true, Bool.not_eq_false, Bool.not_eq_true', Bool.not_eq_false', decide_eq_true_eq, decide_eq_false_iff_not, Bool.false_eq_true, Bool.true_eq_false, beq_iff_eq, beq_eq_false_iff_ne, ne_eq, not_false_eq_true, not_true_eq_false, List.cons_append, List.nil_append, List.map_cons, List.map_nil, Bool.decide_eq_true, Int.toNat_natCast, Int.natAbs_natCast, abs_lit, Int.cast_ofNat_Int, Nat.reduceAdd, Nat.reduceMul, Nat.reduceSub, Nat.reduceLeDiff, Nat.reduceLT, Nat.reduceGT, Nat.reduceEqDiff, Int.reduceAdd, Int.reduceMul, Int.reduceSub, Int.reduceNeg, Int.reduceLT, Int.reduceLE, Int.reduceGT, Int.reduceGE, Int.reduceEq, Int.reduceNe, Int.reducePow, Int.reduceToNat, Int.reduceBEq, Int.reduceBNe, List.all_cons, List.all_nil, List.any_cons, List.any_nil, id_eq, ↓wE_disp, ↓wKs_nil, ↓wKs_cons, ↓wk_lst, ↓wk_tup, ↓wk_str, ↓wk_dic, ↓wk_items, ↓wk_vals, ↓d_mult, ↓c_isB, ↓c_notB, ↓b_sortD, ↓b_dict, ↓b_str, ↓b_lists, ↓m_join, ↓c_inS, ↓c_inD, ↓c_ninD, ↓c_eqe, ↓c_nee, ↓c_lts, ↓b_minD, ↓b_listd, ↓wE_dc, ↓wDc_nil, ↓wKy_i, ↓wKy_s, ↓wE_idx, ↓wLk_d, ↓wE_lck, ↓wKc_o, ↓wKc_d, ↓wE_lrg1, ↓wE_lrg2, ↓wE_lvs, ↓wE_lit, ↓d_rg1, ↓d_rg2, ↓d_vals, ↓d_its]))
local macro_rules
  | `(tactic| apply_ext_theorem) => `(tactic| (rw [wLc_cons]; array_get_dec))
local macro_rules
  | `(tactic| nofun) => `(tactic| (rw [wL_cons]; array_get_dec))
/-! ### the law's own codes, from the fount -/
/-- the letters that are drawn -/
def nm34 : List Nat := [97, 98, 99, 100, 101, 102, 103, 104, 105, 106, 107, 108, 110, 111, 112, 113, 114, 115, 116, 117, 118, 119, 120, 121, 122] ++ [48, 49, 50, 51, 52, 54, 55, 56, 57]
theorem nm34_nd : nm34.Nodup := by decide
theorem nm34_sub : ∀ x ∈ nm34, x ∈ nms := by decide
theorem put_new {kvs : List (DK × D)} {k : DK} {v : D} (h : ∀ p ∈ kvs, p.1 ≠ k) : put kvs k v = kvs ++ [(k, v)] := by
  have : kvs.any (fun p => decide (p.1 = k)) = false := by
    rw [List.any_eq_false]
    intro p hp
    simpa using h p hp
  unfold put
  rw [if_neg (by rw [this]; exact Bool.false_ne_true)]
abbrev chD (cs : List (Nat × List Int)) : List (DK × D) := cs.map fun p => (DK.s [p.1], wd p.2)
theorem ch_vals (cs : List (Nat × List Int)) : (chD cs).map (fun p => p.2) = cs.map fun p => wd p.2 := by rw [List.map_map]; rfl
theorem cut_both {α : Type} (xs : List α) (i l : Nat) (h : i ≤ xs.length) : cutG xs (some (i : Int)) (some ((i : Int) + (l : Int))) = (xs.drop i).take l := by
  have e : (i : Int) + (l : Int) = ((i + l : Nat) : Int) := by omega
  rw [e]
  unfold cutG
  rw [HT.sIx_nat, HT.sIx_nat, Nat.min_eq_left h, List.take_eq_take_iff, List.length_drop]
  omega
theorem w__law_characters {K : Nat} {b : Ob} {n l : Nat} {E : Exn → List Ob → Prop} {Q : RO → List Ob → Prop} (h : Fo K b) (hn : n ≤ 10) (l1 : 1 ≤ l) (l6 : l ≤ 6) (hK : K ≤ 700000)
    (kk : ∀ cs b', cs.length = n → (∀ p ∈ cs, p.1 ∈ nms ∧ Wd p.2) → (cs.map (·.1)).Nodup → Fo (K + 300) b' → Q (.new (.dic (chD cs))) [b']) : wF (F17 [.io b, .d (.int (n : Int)), .d (.int (l : Int))]) E Q := by
  refine run17 ?_
  have bl : bits (l : Int) ≤ 8000 := Nat.le_trans (bits_pos (n := 3) (by omega) (by omega)) (by decide)
  array_mem_dec
  array_mem_dec
  refine w__law_dip h (by omega) (by decide) (by decide) fun way b1 w0 w1 h1 => ?_
  array_get_dec
  refine w__law_dip h1 (by omega) (by omega) bl fun sz b2 s0 s1 h2 => ?_
  array_get_dec
  obtain ⟨size, hsz, sz1, szl⟩ : ∃ q : Nat, 1 + sz = (q : Int) ∧ 1 ≤ q ∧ q ≤ l := ⟨(1 + sz).toNat, by omega, by omega, by omega⟩
  rw [hsz]
  array_mem_dec
  refine ⟨by omega, ?_⟩
  refine wL_range (fun i e => ∃ (cs : List (Nat × List Int)) (ls : List Nat) (b' : Ob) (c7 c8 c9 c10 c11 : Cell), cs.length = i ∧ (cs.map (·.1) ++ ls).Perm nm34 ∧ (∀ p ∈ cs, Wd p.2) ∧ Fo (K + 2 + 20 * i) b' ∧ Fre c7 ∧ Fre c8 ∧ Fre c9 ∧ Fre c10 ∧ Fre c11 ∧
      e = [.io b', .d (.int n), .d (.int l), .o (.lst (ls.map tx1)), .o (.dic (chD cs)), .d (.int way), .d (.int (size : Int)), c7, c8, c9, c10, c11]) ⟨[], nm34, b2, .none, .none, .none, .none, .none, rfl, by simp, by simp, h2.up (by omega), trivial, trivial, trivial, trivial, trivial, rfl⟩ ?_ ?_
  · rintro i e hi ⟨cs, ls, b', c7, c8, c9, c10, c11, hl, hpm, hw, hp, f7, f8, f9, f10, f11, rfl⟩
    have hi : i < n := by simpa using hi
    have l34 : cs.length + ls.length = 34 := by have := hpm.length_eq; rw [List.length_append, List.length_map] at this; exact this
    have z1 : (1 : Int) ≤ ((ls.length : Nat) : Int) := by omega
    have z2 : bits ((ls.length : Nat) : Int) ≤ 8000 := Nat.le_trans (bits_pos (n := 6) (by omega) (by omega)) (by decide)
    array_get_dec
    refine ⟨f7, ?_⟩
    array_mem_dec
    refine w__law_dip hp (by omega) z1 z2 fun r b3 r0 r1 h3 => ?_
    obtain ⟨q, rfl⟩ := Int.eq_ofNat_of_zero_le r0
    have hq : q < ls.length := by omega
    have hx : (ls.map tx1)[q]? = some (tx1 ls[q]) := by rw [List.getElem?_map, List.getElem?_eq_getElem hq]; rfl
    array_get_dec
    refine m_pop hx ?_
    array_get_dec
    refine ⟨f8, f9, ?_⟩
    have ek : (chD cs).map (fun p => p.2) = (cs.map (·.2)).map wd := by rw [ch_vals, List.map_map]; rfl
    rw [ek]
    have kw : ∀ ws ∈ cs.map (·.2), Wd ws := fun ws h => by
      obtain ⟨p, hp, rfl⟩ := List.mem_map.mp h
      exact hw p hp
    have kl : (cs.map (·.2)).length = cs.length := List.length_map _
    generalize cs.map (·.2) = ks at *
    have nin : ls[q] ∉ cs.map (·.1) := fun h => by
      have nd := hpm.nodup_iff.mpr nm34_nd
      exact (List.nodup_append.mp nd).2.2 _ h _ (List.getElem_mem hq) rfl
    have hpm2 : ((cs.map (·.1) ++ [ls[q]]) ++ ls.eraseIdx q).Perm nm34 := by
      rw [List.append_assoc]
      exact ((erase_perm hq).append_left _).trans hpm
    rw [erase_map]
    have ll : (ls.eraseIdx q).length ≤ 34 := by rw [List.length_eraseIdx]; split <;> omega
    generalize ls.eraseIdx q = ls2 at *
    generalize ls[q] = nm at *
    generalize hP : (fun (f : Fl) (env1 : Cells) => wK f env1 _ _) = P
    have fin : ∀ (ws : List Int) (b4 : Ob) (c9 c11 : Cell), Wd ws → Fo (K + 2 + 20 * (i + 1)) b4 → Fre c9 → Fre c11 → wSs G17 [s17_11]
        [.io b4, .d (.int n), .d (.int l), .o (.lst (ls2.map tx1)), .o (.dic (chD cs)), .d (.int way), .d (.int (size : Int)), .d (.int (0 + (i : Int) * 1)), .d (tx1 nm), c9, .d (wd ws), c11]
        (fun x env => wLook env 0 fun c => wIo c fun b0 => E x [b0]) fun fl env2 =>
          wKl fl env2
            (fun e =>
              ∃ (cs : List (Nat × List Int)) (ls : List Nat) (b' : Ob) (c7 c8 c9 c10 c11 : Cell), cs.length = i + 1 ∧ (cs.map (·.1) ++ ls).Perm nm34 ∧ (∀ p ∈ cs, Wd p.2) ∧ Fo (K + 2 + 20 * (i + 1)) b' ∧ Fre c7 ∧ Fre c8 ∧ Fre c9 ∧ Fre c10 ∧ Fre c11 ∧
      e = [.io b', .d (.int n), .d (.int l), .o (.lst (ls.map tx1)), .o (.dic (chD cs)), .d (.int way), .d (.int (size : Int)), c7, c8, c9, c10, c11]) P := by
      intro ws b4 c9 c11 hws h4 f9 f11
      array_mem_dec
      have len : (chD cs).length = cs.length := List.length_map _
      refine ⟨by omega, ?_⟩
      rw [put_new (fun p hp e => by
        obtain ⟨q, hq, rfl⟩ := List.mem_map.mp hp
        have e2 : q.1 = nm := by simpa using e
        exact nin (List.mem_map.mpr ⟨q, hq, e2⟩))]
      have e : chD cs ++ [(DK.s [nm], wd ws)] = chD (cs ++ [(nm, ws)]) := by unfold chD; rw [List.map_append]; rfl
      rw [e]
      refine ⟨cs ++ [(nm, ws)], ls2, b4, .d _, .d _, c9, .d _, c11, by simp [hl], by rw [List.map_append]; exact hpm2, fun p hp => ?_, h4, trivial, trivial, f9, trivial, f11, rfl⟩
      rcases List.mem_append.mp hp with h | h
      · exact hw p h
      · rw [List.mem_singleton.mp h]; exact hws
    generalize hR : (fun (fl : Fl) (env2 : Cells) => wKl fl env2 _ P) = R at *
    have ks34 : ks.length ≤ 34 := by omega
    have mid : ∀ (ws : List Int) (b4 : Ob), Wd ws → Fo (K + 2 + 20 * i + 10) b4 → wSs G17 [s17_5, s17_11]
        [.io b4, .d (.int n), .d (.int l), .o (.lst (ls2.map tx1)), .o (.dic (chD cs)), .d (.int way), .d (.int (size : Int)), .d (.int (0 + (i : Int) * 1)), .d (tx1 nm), .o (.lst (ks.map wd)), .d (wd ws), c11]
        (fun x env => wLook env 0 fun c => wIo c fun b0 => E x [b0]) R := by
      intro ws b4 hws h4
      have skip := fin ws b4 (.o (.lst (ks.map wd))) c11 hws (h4.up (by omega)) trivial f11
      array_mem_dec
      rw [c_ne_wds]
      refine ⟨fun hne => ⟨fun hlt => ?_, fun _ => skip⟩, fun _ => skip⟩
      have k0 : 0 < ks.length := by
        cases ks with
        | nil => cases hne
        | cons a r => simp
      have zk : bits (ks.length : Int) ≤ 8000 := Nat.le_trans (bits_pos (n := 6) (by omega) (by omega)) (by decide)
      array_mem_dec
      refine w__law_dip h4 (by omega) (by omega) zk fun r b5 r0 r1 h5 => ?_
      array_get_dec
      obtain ⟨r, rfl⟩ := Int.eq_ofNat_of_zero_le r0
      have hr : r < ks.length := by omega
      refine at_d (k := r) (x := wd ks[r]) (by rw [List.getElem?_map, List.getElem?_eq_getElem hr]; rfl) ?_
      have w1 := kw _ (List.getElem_mem hr)
      generalize ks[r] = u at *
      have u1 : 1 ≤ u.length := by have := w1.1; cases u with | nil => exact absurd rfl this | cons a r => simp
      have u6 := w1.2.1
      have zu : bits (u.length : Int) ≤ 8000 := Nat.le_trans (bits_pos (n := 3) (by omega) (by omega)) (by decide)
      array_get_dec
      array_mem_dec
      refine w__law_dip h5 (by omega) (by omega) zu fun at_ b6 a0 a1 h6 => ?_
      array_get_dec
      obtain ⟨at_, rfl⟩ := Int.eq_ofNat_of_zero_le a0
      refine ⟨f11, ?_⟩
      array_mem_dec
      refine ⟨fun _ => ?_, fun _ => ?_⟩
      · array_mem_dec
        refine w__law_dip h6 (by omega) (by decide) (by decide) fun z b7 z0 z1 h7 => ?_
        array_get_dec
        have e1 : cutG (u.map D.int) none (some (at_ : Int)) = (u.take at_).map D.int := by rw [cut_to, List.map_take]
        have e2 : cutG (u.map D.int) (some ((at_ : Int) + 1)) none = (u.drop (at_ + 1)).map D.int := by
          have : ((at_ : Int) + 1) = ((at_ + 1 : Nat) : Int) := rfl
          rw [this, cut_from, List.map_drop]
        rw [e1, e2]
        have e3 : (u.take at_).map D.int ++ [D.int (1 + z)] ++ (u.drop (at_ + 1)).map D.int = (u.take at_ ++ [1 + z] ++ u.drop (at_ + 1)).map D.int := by simp
        rw [e3]
        have ok : Wd (u.take at_ ++ [1 + z] ++ u.drop (at_ + 1)) := by
          refine wd_of (m := u.length) ?_ u1 u6 fun w hw' => ?_
          · simp; omega
          · simp only [List.append_assoc, List.mem_append, List.mem_singleton] at hw'
            rcases hw' with y | y | y
            · exact w1.2.2 w (List.mem_of_mem_take y)
            · rw [y]; omega
            · exact w1.2.2 w (List.mem_of_mem_drop y)
        refine ⟨by simp; omega, by simp; omega, ?_⟩
        exact fin _ b7 (.o (.lst (ks.map wd))) (.d _) ok (h7.up (by omega)) trivial trivial
      · array_mem_dec
        refine w__law_dip h6 (by omega) (by omega) zk fun r2 b7 z0 z1 h7 => ?_
        array_get_dec
        obtain ⟨r2, rfl⟩ := Int.eq_ofNat_of_zero_le z0
        have hr2 : r2 < ks.length := by omega
        refine at_d (k := r2) (x := wd ks[r2]) (by rw [List.getElem?_map, List.getElem?_eq_getElem hr2]; rfl) ?_
        have w2 := kw _ (List.getElem_mem hr2)
        generalize ks[r2] = v at *
        have v6 := w2.2.1
        array_get_dec
        rw [← List.map_append, cut_both _ _ _ (by simp; omega), ← List.map_drop, ← List.map_take]
        have ok : Wd (((u ++ v).drop at_).take l) := by
          refine wd_of (m := (((u ++ v).drop at_).take l).length) rfl ?_ ?_ fun w hw' => ?_
          · rw [List.length_take, List.length_drop, List.length_append]; omega
          · rw [List.length_take]; omega
          · rcases List.mem_append.mp (List.mem_of_mem_drop (List.mem_of_mem_take hw')) with y | y
            · exact w1.2.2 w y
            · exact w2.2.2 w y
        refine ⟨by omega, ?_⟩
        exact fin _ b7 (.o (.lst (ks.map wd))) (.d _) ok (h7.up (by omega)) trivial trivial
    array_mem_dec
    have one : ∀ (ws : List Int) (b' : Ob), 1 ≤ ws.length → ws.length ≤ 6 → (∀ w ∈ ws, 1 ≤ w ∧ w ≤ 4) → Fo (K + 2 + 20 * i + 10) b' → _ := fun ws b' a c d e => mid ws b' (wd_of rfl a c d) e
    refine ⟨fun w => ⟨fun _ => ?_, fun z => absurd w z⟩, fun w => ⟨fun z => absurd z w, fun _ => ?_⟩⟩
    · refine w__law_widths (lo := size) (hi := size) h3 (by omega) (Nat.le_refl _) (by omega) fun ws b4 a1 a2 a3 h4 => ?_
      array_get_dec
      refine ⟨f10, ?_⟩
      exact one ws b4 (by omega) (by omega) a3 (h4.up (by omega))
    · refine w__law_widths (lo := 1) (hi := l) h3 (by omega) (by omega) (by omega) fun ws b4 a1 a2 a3 h4 => ?_
      array_get_dec
      refine ⟨f10, ?_⟩
      exact one ws b4 (by omega) (by omega) a3 (h4.up (by omega))
  · rintro e ⟨cs, ls, b', c7, c8, c9, c10, c11, hl, hpm, hw, hp, f7, f8, f9, f10, f11, rfl⟩
    array_mem_dec
    refine kk cs b' (by simpa using hl) (fun p h => ⟨?_, hw p h⟩) ?_ (hp.up (by omega))
    · exact nm34_sub _ (hpm.mem_iff.mp (List.mem_append_left _ (List.mem_map.mpr ⟨p, h, rfl⟩)))
    · exact (hpm.nodup_iff.mpr nm34_nd).sublist (List.sublist_append_left _ ls)
theorem w__law_code {K : Nat} {b : Ob} {n l : Nat} {E : Exn → List Ob → Prop} {Q : RO → List Ob → Prop} (h : Fo K b) (n1 : 1 ≤ n) (hn : n ≤ 10) (l1 : 1 ≤ l) (l6 : l ≤ 6) (hK : K ≤ 600000)
    (kk : ∀ c b', Cd.Ok c → c.chars.length = n → (∀ p ∈ c.chars, p.2.length ≤ 6) → Fo (K + 400) b' → Q (.d c.d) [b']) : wF (F18 [.io b, .d (.int (n : Int)), .d (.int (l : Int))]) E Q := by
  refine run18 ?_
  array_mem_dec
  refine w__law_dip h (by omega) (by decide) (by decide) fun r b1 r0 r1 h1 => ?_
  array_get_dec
  refine at_any r0 (by simpa using r1) fun top ht => ?_
  obtain ⟨m, m1, m6, rfl⟩ : ∃ m : Nat, 1 ≤ m ∧ m ≤ 6 ∧ top = .int (m : Int) := by
    simp only [List.mem_cons, List.not_mem_nil, or_false] at ht
    rcases ht with e | e | e
    · exact ⟨3, by decide, by decide, e⟩
    · exact ⟨3, by decide, by decide, e⟩
    · exact ⟨6, by decide, by decide, e⟩
  array_get_dec
  array_mem_dec
  refine w__law_widths (lo := 1) (hi := m) h1 (by omega) m1 m6 fun st b2 a1 a2 a3 h2 => ?_
  array_get_dec
  refine w__law_characters h2 hn l1 l6 (by omega) fun cs b3 cl cw cn h3 => ?_
  array_get_dec
  refine w__law_widths (lo := 0) (hi := 2) h3 (by omega) (by decide) (by decide) fun bt b4 c1 c2 c3 h4 => ?_
  array_get_dec
  array_mem_dec
  refine w__law_widths (lo := 1) (hi := m) h4 (by omega) m1 m6 fun sp b5 d1 d2 d3 h5 => ?_
  array_get_dec
  refine kk ⟨st, cs, bt, sp⟩ b5 ⟨wd_of (m := st.length) rfl (by omega) (by omega) a3, by show 1 ≤ cs.length; omega, by show cs.length ≤ 10; omega, fun p hp => (cw p hp).1, cn, fun p hp => (cw p hp).2, c2, c3, wd_of (m := sp.length) rfl (by omega) (by omega) d3⟩ cl (fun p hp => (cw p hp).2.2.1) (h5.up (by omega))
end K03

set_option Elab.async false
set_option linter.all false
set_option maxRecDepth 100000
set_option maxHeartbeats 800000
namespace K03
open PySem Fx
local macro_rules
  | `(tactic| array_get_dec) => `(tactic| try simp only [↓wO_some, ↓wO_none, ↓wO_map, ↓wO_bind, ↓wO_ite, ↓wLook_0, ↓wLook_s, ↓wSet_0, ↓wSet_s, ↓wCv_d, ↓wCv_o, ↓wCv_io, ↓wCg_d, ↓wCg_ol, ↓wCg_iol, ↓wCg_od, ↓wCg_iod, ↓wG_d, ↓wG_nl, ↓wG_nd, ↓wG_own, ↓wCz_d, ↓wCz_ol, ↓wCz_od, ↓wZ_d, ↓wZ_nl, ↓wZ_nd, ↓wZ_own, ↓wGs_nil, ↓wGs_cons, ↓wZs_nil, ↓wZs_cons, ↓wCo_o, ↓wCo_io, ↓wCp_o, ↓wCp_io, ↓wCs_eq, ↓wAd_nm, ↓wAd_tup, ↓wAds_nil, ↓wAds_cons, ↓wA_d, ↓wA_n, ↓wA_own, ↓wA_tup, ↓wAs_nil, ↓wAs_cons, ↓wD_bl, ↓wD_non, ↓wD_int, ↓wD_lst, ↓wD_tup, ↓wD_str, ↓wB_bl, ↓wE_var, ↓wT_var, ↓wE_cst, ↓wT_cst, ↓wE_bin, ↓wT_bin, ↓wE_neg, ↓wE_not, ↓wT_not, ↓wE_cmp, ↓wT_cmp, ↓wE_chain, ↓wT_chain, ↓wE_and, ↓wE_or, ↓wT_and, ↓wT_or, ↓wE_ite, ↓wT_ite, ↓wE_tup, ↓wE_lst, ↓wT_tup, ↓wT_lst, ↓wE_blt, ↓wT_blt, ↓wE_isinst, ↓wT_isinst, ↓wE_mth, ↓wE_ix, ↓wT_ix, ↓wEo_none, ↓wN_int, ↓wEo_some, ↓wE_sl, ↓wE_rev, ↓wEs_nil, ↓wEs_cons, ↓wE_mut, ↓wPre_nil, ↓wPre_io, ↓wPre_d, ↓wArg_nil, ↓wArg_d, ↓wArg_io, ↓wBack_nil, ↓wBack_cons, ↓wE_call, ↓wT_call, ↓wC_0, ↓wC_1, ↓wCc_go, ↓wI_e, ↓wI_items, ↓wI_values, ↓wI_enum, ↓wI_zip, ↓wI_range, ↓wE_col, ↓wEc_none, ↓wEc_some, ↓wE_lc, ↓wK_next, ↓wK_ret, ↓wK_brk, ↓wK_cnt, ↓wKl_next, ↓wKl_cnt, ↓wKl_brk, ↓wKl_ret, ↓wS_asg, ↓wPar_t, ↓wPar_f, ↓wS_par, ↓wS_set, ↓wS_expr, ↓wS_ifs, ↓wS_ret, ↓wS_retN, ↓wS_brk, ↓wS_cnt, ↓wS_pas, ↓wS_never, ↓wCa_int, ↓wS_aug, ↓wS_fors, ↓wS_whl, ↓wCr_o, ↓wCr_d, ↓wOut_d, ↓wOut_n, ↓wOut_own, ↓wFl_next, ↓wFl_ret, ↓wIo_io, ↓d_add, ↓d_sub, ↓d_mul, ↓d_fdiv, ↓d_mod, ↓d_pow, ↓d_adds, ↓d_addl, ↓d_addt, ↓d_mull, ↓d_muls, ↓d_neg, ↓c_lt, ↓c_le, ↓c_gt, ↓c_ge, ↓c_eqi, ↓c_nei, ↓c_eqb, ↓c_neb, ↓c_eqs, ↓c_nes, ↓c_in3, ↓c_isN_non, ↓c_isN_int, ↓c_isN_tup, ↓c_isN_lst, ↓c_isN_str, ↓c_isN_bl, ↓c_isN_dic, ↓c_notN_non, ↓c_notN_int, ↓c_notN_tup, ↓c_notN_lst, ↓c_notN_str, ↓c_notN_bl, ↓c_notN_dic, ↓b_lens, ↓b_lenl, ↓b_lent, ↓b_lend, ↓b_abs, ↓b_max, ↓b_min, ↓b_inti, ↓b_intb, ↓b_listl, ↓b_listt, ↓b_tupl, ↓b_tupt, ↓b_repr, ↓b_all, ↓b_any, ↓b_sum, ↓asB_nil, ↓asB_cons, ↓asB_map, ↓asI_nil, ↓asI_cons, ↓asI_map, ↓m_append, ↓m_extend, ↓m_extendt, ↓i_lst, ↓i_tup, ↓i_str, ↓r_1, ↓r_2, ↓e_1, ↓z_l, ↓z_2, ↓s_l, ↓s_t, ↓s_s, ↓v_l, ↓v_s, ↓x_l, ↓x_t, ↓x_s, ↓x_d, ↓k_i, ↓k_s, ↓u_add, ↓u_sub, ↓toR_d, ↓toR_n, ↓wPut_s, ↓wPut_o, ↓wPut_io, ↓at_0, ↓at_1, ↓at_2, ↓at_3, ↓at_4, ↓at_5, ↓at_m1, ↓wLast_1, ↓wLast_s, ↓wLast_app, ↓setD_l, ↓setD_d, ↓ixN_0, ↓ixN_1, ↓ixN_2, ↓br_t, ↓br_f, ↓wL_nil, ↓wLc_nil, ↓wSs_nil, enumL, zipL, dfl2, List.drop_succ_cons, List.drop_zero, Fre_io, Fre_o, Fre_d, Fre_n, obAt_s, obAt_0o, obAt_0io, obAt_0d, obAt_0n, isL_s, isL_o, isL_io, isOb_s, isOb_0d, isOb_0n, ioIdx_nil, ioIdx_d, ioIdx_io, wipeC_nil, wipeC_cons, restC_nil, restC_cons, noOwn_nil, noOwn_d, noOwn_n, noOwn_o, lim_is, tyD, argCell, Option.isSome_some, List.set_cons_succ, List.set_cons_zero, List.getElem?_cons_succ, List.getElem?_cons_zero, Option.getD_some, List.any_cons, List.any_nil, List.nodup_nil, List.nodup_cons, List.not_mem_nil, List.mem_cons, List.length_cons, List.length_nil, List.length_map, Nat.zero_add, true_and, and_true, forall_const, reduceCtorEq, false_implies, true_implies, Bool.not_true, Bool.not_false, Bool.or_false, Bool.false_or, Bool.or_true, Bool.true_or, Bool.and_true, Bool.true_and, Bool.and_false, Bool.false_and, Bool.not_eq_true, Bool.not_eq_false, Bool.not_eq_true', Bool.not_eq_false', decide_eq_true_eq, decide_eq_false_iff_not, Bool.false_eq_true, Bool.true_eq_false, beq_iff_eq, beq_eq_false_iff_ne, ne_eq, not_false_eq_true, not_true_eq_false, List.cons_append, List.nil_append, List.map_cons, List.map_nil, Bool.decide_eq_true, Int.toNat_natCast, Int.natAbs_natCast, abs_lit, Int.cast_ofNat_Int, Nat.reduceAdd, Nat.reduceMul, Nat.reduceSub, Nat.reduceLeDiff, Nat.reduceLT, Nat.reduceGT, Nat.reduceEqDiff, Int.reduceAdd, Int.reduceMul, Int.reduceSub, Int.reduceNeg, Int.reduceLT, Int.reduceLE, Int.reduceGT, Int.reduceGE, Int.reduceEq, Int.reduceNe, Int.reducePow, Int.reduceToNat, Int.reduceBEq, Int.reduceBNe, List.all_cons, List.all_nil, List.any_cons, List.any_nil, id_eq, ↓wE_disp, ↓wKs_nil, ↓wKs_cons, ↓wk_lst, ↓wk_tup, ↓wk_str, ↓wk_dic, ↓wk_items, ↓wk_vals, ↓d_mult, ↓c_isB, ↓c_notB, ↓b_sortD, ↓b_dict, ↓b_str, ↓b_lists, ↓m_join, ↓c_inS, ↓c_inD, ↓c_ninD, ↓c_eqe, ↓c_nee, ↓c_lts, ↓b_minD, ↓b_listd, ↓wE_dc, ↓wDc_nil, ↓wKy_i, ↓wKy_s, ↓wE_idx, ↓wLk_d, ↓wE_lck, ↓wKc_o, ↓wKc_d, ↓wE_lrg1, ↓wE_lrg2, ↓wE_lvs, ↓wE_lit, ↓d_rg1, ↓d_rg2, ↓d_vals, ↓d_its])
local macro_rules
  | `(tactic| array_mem_dec) => `(tactic| (refine wStep ?_; simp only [↓wO_some, ↓wO_none, ↓wO_map, ↓wO_bind, ↓wO_ite, ↓wLook_0, ↓wLook_s, ↓wSet_0, ↓wSet_s, ↓wCv_d, ↓wCv_o, ↓wCv_io, ↓wCg_d, ↓wCg_ol, ↓wCg_iol, ↓wCg_od, ↓wCg_iod, ↓wG_d, ↓wG_nl, ↓wG_nd, ↓wG_own, ↓wCz_d, ↓wCz_ol, ↓wCz_od, ↓wZ_d, ↓wZ_nl, ↓wZ_nd, ↓wZ_own, ↓wGs_nil, ↓wGs_cons, ↓wZs_nil, ↓wZs_cons, ↓wCo_o, ↓wCo_io, ↓wCp_o, ↓wCp_io, ↓wCs_eq, ↓wAd_nm, ↓wAd_tup, ↓wAds_nil, ↓wAds_cons, ↓wA_d, ↓wA_n, ↓wA_own, ↓wA_tup, ↓wAs_nil, ↓wAs_cons, ↓wD_bl, ↓wD_non, ↓wD_int, ↓wD_lst, ↓wD_tup, ↓wD_str, ↓wB_bl, ↓wE_var, ↓wT_var, ↓wE_cst, ↓wT_cst, ↓wE_bin, ↓wT_bin, ↓wE_neg, ↓wE_not, ↓wT_not, ↓wE_cmp, ↓wT_cmp, ↓wE_chain, ↓wT_chain, ↓wE_and, ↓wE_or, ↓wT_and, ↓wT_or, ↓wE_ite, ↓wT_ite, ↓wE_tup, ↓wE_lst, ↓wT_tup, ↓wT_lst, ↓wE_blt, ↓wT_blt, ↓wE_isinst, ↓wT_isinst, ↓wE_mth, ↓wE_ix, ↓wT_ix, ↓wEo_none, ↓wN_int, ↓wEo_some, ↓wE_sl, ↓wE_rev, ↓wEs_nil, ↓wEs_cons, ↓wE_mut, ↓wPre_nil, ↓wPre_io, ↓wPre_d, ↓wArg_nil, ↓wArg_d, ↓wArg_io, ↓wBack_nil, ↓wBack_cons, ↓wE_call, ↓wT_call, ↓wC_0, ↓wC_1, ↓wCc_go, ↓wI_e, ↓wI_items, ↓wI_values, ↓wI_enum, ↓wI_zip, ↓wI_range, ↓wE_col, ↓wEc_none, ↓wEc_some, ↓wE_lc, ↓wK_next, ↓wK_ret, ↓wK_brk, ↓wK_cnt, ↓wKl_next, ↓wKl_cnt, ↓wKl_brk, ↓wKl_ret, ↓wS_asg, ↓wPar_t, ↓wPar_f, ↓wS_par, ↓wS_set, ↓wS_expr, ↓wS_ifs, ↓wS_ret, ↓wS_retN, ↓wS_brk, ↓wS_cnt, ↓wS_pas, ↓wS_never, ↓wCa_int, ↓wS_aug, ↓wS_fors, ↓wS_whl, ↓wCr_o, ↓wCr_d, ↓wOut_d, ↓wOut_n, ↓wOut_own, ↓wFl_next, ↓wFl_ret, ↓wIo_io, ↓d_add, ↓d_sub, ↓d_mul, ↓d_fdiv, ↓d_mod, ↓d_pow, ↓d_adds, ↓d_addl, ↓d_addt, ↓d_mull, ↓d_muls, ↓d_neg, ↓c_lt, ↓c_le, ↓c_gt, ↓c_ge, ↓c_eqi, ↓c_nei, ↓c_eqb, ↓c_neb, ↓c_eqs, ↓c_nes, ↓c_in3, ↓c_isN_non, ↓c_isN_int, ↓c_isN_tup, ↓c_isN_lst, ↓c_isN_str, ↓c_isN_bl, ↓c_isN_dic, ↓c_notN_non, ↓c_notN_int, ↓c_notN_tup, ↓c_notN_lst, ↓c_notN_str, ↓c_notN_bl, ↓c_notN_dic, ↓b_lens, ↓b_lenl, ↓b_lent, ↓b_lend, ↓b_abs, ↓b_max, ↓b_min, ↓b_inti, ↓b_intb, ↓b_listl, ↓b_listt, ↓b_tupl, ↓b_tupt, ↓b_repr, ↓b_all, ↓b_any, ↓b_sum, ↓asB_nil, ↓asB_cons, ↓asB_map, ↓asI_nil, ↓asI_cons, ↓asI_map, ↓m_append, ↓m_extend, ↓m_extendt, ↓i_lst, ↓i_tup, ↓i_str, ↓r_1, ↓r_2, ↓e_1, ↓z_l, ↓z_2, ↓s_l, ↓s_t, ↓s_s, ↓v_l, ↓v_s, ↓x_l, ↓x_t, ↓x_s, ↓x_d, ↓k_i, ↓k_s, ↓u_add, ↓u_sub, ↓toR_d, ↓toR_n, ↓wPut_s, ↓wPut_o, ↓wPut_io, ↓at_0, ↓at_1, ↓at_2, ↓at_3, ↓at_4, ↓at_5, ↓at_m1, ↓wLast_1, ↓wLast_s, ↓wLast_app, ↓setD_l, ↓setD_d, ↓ixN_0, ↓ixN_1, ↓ixN_2, ↓br_t, ↓br_f, ↓wL_nil, ↓wLc_nil, ↓wSs_nil, enumL, zipL, dfl2, List.drop_succ_cons, List.drop_zero, Fre_io, Fre_o, Fre_d, Fre_n, obAt_s, obAt_0o, obAt_0io, obAt_0d, obAt_0n, isL_s, isL_o, isL_io, isOb_s, isOb_0d, isOb_0n, ioIdx_nil, ioIdx_d, ioIdx_io, wipeC_nil, wipeC_cons, restC_nil, restC_cons, noOwn_nil, noOwn_d, noOwn_n, noOwn_o, lim_is, tyD, argCell, Option.isSome_some, List.set_cons_succ, List.set_cons_zero, List.getElem?_cons_succ, List.getElem?_cons_zero, Option.getD_some, List.any_cons, List.any_nil, List.nodup_nil, List.nodup_cons, List.not_mem_nil, List.mem_cons, List.length_cons, List.length_nil, List.length_map, Nat.zero_add, true_and, and_true, forall_const, reduceCtorEq, false_implies, true_implies, Bool.not_true, Bool.not_false, Bool.or_false, Bool.false_or, Bool.or_true, Bool.true_or, Bool.and_true, Bool.true_and, Bool.and_false, Bool.false_and, Bool.not_eq_true, Bool.not_eq_false, Bool.not_eq_true', Bool.not_eq_false', decide_eq_true_eq, decide_eq_false_iff_not, Bool.false_eq_true, Bool.true_eq_false, beq_iff_eq, beq_eq_false_iff_ne, ne_eq, not_false_eq_true, not_true_eq_false, List.cons_append, List.nil_append, List.map_cons, List.map_nil, Bool.decide_eq_true, Int.toNat_natCast, Int.natAbs_natCast, abs_lit, Int.cast_ofNat_Int, Nat.reduceAdd, Nat.reduceMul, Nat.reduceSub, Nat.reduceLeDiff, Nat.reduceLT, Nat.reduceGT, Nat.reduceEqDiff, Int.reduceAdd, Int.reduceMul, Int.reduceSub, Int.reduceNeg, Int.reduceLT, Int.reduceLE, Int.reduceGT, Int.reduceGE, Int.reduceEq, Int.reduceNe, Int.reducePow, Int.reduceToNat, Int.reduceBEq, Int.reduceBNe, List.all_cons, List.all_nil, List.any_cons, List.any_nil, id_eq, ↓wE_disp, ↓wKs_nil, ↓wKs_cons, ↓wk_lst, ↓wk_tup, ↓wk_str, ↓wk_dic, ↓wk_items, ↓wk_vals, ↓d_mult, ↓c_isB, ↓c_notB, ↓b_sortD, ↓b_dict, ↓b_str, ↓b_lists, ↓m_join, ↓c_inS, ↓c_inD, ↓c_ninD, ↓c_eqe, ↓c_nee, ↓c_lts, ↓b_minD, ↓b_listd, ↓wE_dc, ↓wDc_nil, ↓wKy_i, ↓wKy_s, ↓wE_idx, ↓wLk_d, ↓wE_lck, ↓wKc_o, ↓wKc_d, ↓wE_lrg1, ↓wE_lrg2, ↓wE_lvs, ↓wE_lit, ↓d_rg1, ↓d_rg2, ↓d_vals, ↓d_its]))
local macro_rules
  | `(tactic| apply_ext_theorem) => `(tactic| (rw [wLc_cons]; array_get_dec))
local macro_rules
  | `(tactic| nofun) => `(tactic| (rw [wL_cons]; array_get_dec))
/-! ### texts with so many elements -/
/-- the elements of a name's word -/
def wl (c : Cd) (x : Nat) : Nat := (c.get x).length + c.between.length
def wrd (c : Cd) (x : Nat) : List Int := c.get x ++ c.between
theorem wrd_len (c : Cd) (x : Nat) : (wrd c x).length = wl c x := List.length_append
theorem wl_pos {c : Cd} (hc : c.Ok) {x : Nat} (h : x ∈ c.names) : 1 ≤ wl c x ∧ wl c x ≤ 8 := by
  have h1 := c.getOk hc h
  have h2 := h1.2.1
  have h3 := hc.b2
  have : 1 ≤ (c.get x).length := by
    have := h1.1
    cases e : c.get x with
    | nil => exact absurd e this
    | cons a r => simp
  unfold wl
  omega
/-- with fuel -/
def txF (c : Cd) : Nat → Nat → List (List Nat)
  | _, 0 => [[]]
  | 0, _ + 1 => []
  | f + 1, m + 1 => (sn c.names).flatMap fun x => if wl c x ≤ m + 1 then (txF c f (m + 1 - wl c x)).map (x :: ·) else []
def txs (c : Cd) (m : Nat) : List (List Nat) := txF c m m
theorem flatMap_on {α β : Type} {f g : α → List β} : ∀ {l : List α}, (∀ x ∈ l, f x = g x) → l.flatMap f = l.flatMap g
  | [], _ => rfl
  | a :: l, h => by rw [List.flatMap_cons, List.flatMap_cons, h a (by simp), flatMap_on fun x hx => h x (by simp [hx])]
theorem txF_up {c : Cd} (hc : c.Ok) : ∀ (m f : Nat), m ≤ f → txF c f m = txs c m := by
  intro m
  induction m using Nat.strongRecOn with
  | ind m ih =>
    intro f hf
    unfold txs
    cases m with
    | zero => cases f <;> simp [txF]
    | succ m =>
      cases f with
      | zero => omega
      | succ f =>
        simp only [txF]
        refine flatMap_on fun x hx => ?_
        have hp := wl_pos hc (sn_mem.mp hx)
        split
        · rw [ih (m + 1 - wl c x) (by omega) f (by omega), ih (m + 1 - wl c x) (by omega) m (by omega)]
        · rfl
/-- the texts that begin with a name -/
def tx_by (c : Cd) (m x : Nat) : List (List Nat) := if wl c x ≤ m then (txs c (m - wl c x)).map (x :: ·) else []
theorem txs_zero (c : Cd) : txs c 0 = [[]] := by simp [txs, txF]
theorem txs_succ {c : Cd} (hc : c.Ok) {m : Nat} (hm : 0 < m) : txs c m = (sn c.names).flatMap (tx_by c m) := by
  obtain ⟨m, rfl⟩ : ∃ k, m = k + 1 := ⟨m - 1, by omega⟩
  conv => lhs; unfold txs
  simp only [txF]
  refine flatMap_on fun x hx => ?_
  have hp := wl_pos hc (sn_mem.mp hx)
  unfold tx_by
  split
  · rw [txF_up hc _ m (by omega)]
  · rfl
def cnt (c : Cd) (m : Nat) : Nat := (txs c m).length
theorem cnt_zero (c : Cd) : cnt c 0 = 1 := by unfold cnt; rw [txs_zero]; rfl
/-- how many texts go on with a name -/
def more (c : Cd) (m x : Nat) : Nat := if wl c x ≤ m then cnt c (m - wl c x) else 0
theorem tx_by_len (c : Cd) (m x : Nat) : (tx_by c m x).length = more c m x := by
  unfold tx_by more cnt
  split <;> simp
theorem cnt_succ {c : Cd} (hc : c.Ok) {m : Nat} (hm : 0 < m) : cnt c m = ((sn c.names).map (more c m)).sum := by
  unfold cnt
  rw [txs_succ hc hm, List.length_flatMap]
  congr 1
  exact List.map_congr_left fun x _ => tx_by_len c m x
theorem filter_sum {α : Type} (p : α → Bool) (g : α → Nat) : ∀ l : List α, ((l.filter p).map g).sum = (l.map fun x => if p x then g x else 0).sum
  | [] => rfl
  | a :: l => by
    rw [List.filter_cons, List.map_cons, List.sum_cons]
    split
    · rw [List.map_cons, List.sum_cons, filter_sum p g l]
    · rw [filter_sum p g l, Nat.zero_add]
theorem int_sum {α : Type} (g : α → Nat) : ∀ l : List α, (l.map fun x => (g x : Int)).sum = (((l.map g).sum : Nat) : Int)
  | [] => rfl
  | a :: l => by rw [List.map_cons, List.map_cons, List.sum_cons, List.sum_cons, int_sum g l]; omega
/-- the dict of the words -/
abbrev WD (c : Cd) : List (DK × D) := (sn c.names).map fun x => (DK.s [x], wd (wrd c x))
theorem sn_nd {c : Cd} (hc : c.Ok) : (sn c.names).Nodup := (sn_perm c.names).nodup_iff.mpr hc.nd
theorem sn_l {c : Cd} (hc : c.Ok) : (sn c.names).length ≤ 10 := by
  rw [sn_len]
  show (c.chars.map (·.1)).length ≤ 10
  rw [List.length_map]
  exact hc.n10
theorem w_words_of {c : Cd} {E : Exn → List Ob → Prop} {Q : RO → List Ob → Prop} (hc : c.Ok) (k : Q (.new (.dic (WD c))) []) : wF (F8 [.d c.d]) E Q := by
  have s10 := sn_l hc
  have b2 := hc.b2
  refine run8 ?_
  array_mem_dec
  rw [cd_1, b_sortD, keys_cd, wO_some]
  have e0 : c.chars.map (·.1) = c.names := rfl
  rw [e0]
  refine ⟨by rw [List.length_map]; rw [sn_len] at s10; exact Nat.lt_of_le_of_lt s10 (by decide), ?_⟩
  rw [sort_one, tx_map]
  array_get_dec
  refine wDc_inv (fun i acc e => ∃ c1 : Cell, acc = ((sn c.names).take i).map (fun x => (DK.s [x], wd (wrd c x))) ∧ Fre c1 ∧ isOb [c1] 0 = false ∧ e = [.d c.d, c1])
    ⟨.none, rfl, trivial, rfl, rfl⟩ ?_ ?_
  · rintro i x acc e hx ⟨c1, rfl, f1, g1, rfl⟩
    rw [List.getElem?_map] at hx
    cases hy : (sn c.names)[i]? with
    | none => rw [hy] at hx; cases hx
    | some y =>
      rw [hy] at hx
      cases hx
      have hyn : y ∈ c.names := sn_mem.mp (List.mem_of_getElem? hy)
      have lt : i < (sn c.names).length := (List.getElem?_eq_some_iff.mp hy).1
      have h6 := (c.getOk hc hyn).2.1
      have new : ∀ p ∈ ((sn c.names).take i).map (fun x => (DK.s [x], wd (wrd c x))), p.1 ≠ DK.s [y] := by
        intro p hp e
        obtain ⟨q, hq, rfl⟩ := List.mem_map.mp hp
        obtain ⟨j, hj⟩ := List.mem_iff_getElem?.mp hq
        rw [List.getElem?_take] at hj
        split at hj
        · rename_i ji
          have e2 : q = y := by simpa using e
          subst e2
          have := (List.getElem?_inj (by omega) (sn_nd hc)).mp (hj.trans hy.symm)
          omega
        · cases hj
      array_get_dec
      rw [cd_1]
      array_get_dec
      rw [c.look hyn, wO_some, cd_2]
      array_get_dec
      have e1 : (c.get y).map D.int ++ c.between.map D.int = (wrd c y).map D.int := by rw [wrd, List.map_append]
      rw [e1]
      refine ⟨by omega, by rw [List.length_take]; omega, .d _, ?_, trivial, rfl, rfl⟩
      rw [put_new new, take_snoc hy, List.map_append]
      rfl
  · rintro acc e ⟨c1, rfl, f1, g1, rfl⟩
    rw [List.length_map, List.take_length]
    exact k
def base (c : Cd) : Nat := c.start.length + c.between.length + c.stop.length
theorem w_size_without {c : Cd} {E : Exn → List Ob → Prop} {Q : RO → List Ob → Prop} (k : Q (.d (.int (base c : Int))) []) : wF (F9 [.d c.d]) E Q := by
  refine run9 ?_
  array_mem_dec
  rw [cd_0]
  array_get_dec
  rw [cd_2]
  array_get_dec
  rw [cd_3]
  array_get_dec
  exact k
theorem w_require_many {m : Nat} {E : Exn → List Ob → Prop} {Q : RO → List Ob → Prop} (h : m ≤ 400) (k : Q (.d .non) []) : wF (F11 [.d (.int (m : Int))]) E Q := by
  refine run11 ?_
  array_mem_dec
  refine run0 ?_
  array_mem_dec
  array_mem_dec
  exact ⟨fun _ => ⟨fun z => absurd (by omega : (m : Int) ≤ 400) z, fun _ => k⟩, fun z => absurd (Int.natCast_nonneg m) z⟩
theorem w_require_index {i m : Nat} {E : Exn → List Ob → Prop} {Q : RO → List Ob → Prop} (h : i < m) (k : Q (.d .non) []) : wF (F7 [.d (.int (i : Int)), .d (.int (m : Int))]) E Q := by
  refine run7 ?_
  array_mem_dec
  refine run0 ?_
  array_mem_dec
  array_mem_dec
  exact ⟨fun _ => ⟨fun z => absurd z (by omega), fun _ => k⟩, fun z => absurd (Int.natCast_nonneg i) z⟩
/-- the numbers of texts with 0 .. n - 1 elements -/
abbrev WL (c : Cd) (n : Nat) : List D := (List.range n).map fun m => .int (cnt c m : Int)
theorem WL_at {c : Cd} {n m : Nat} (h : m < n) : (WL c n)[m]? = some (.int (cnt c m : Int)) := by
  rw [List.getElem?_map, List.getElem?_range h]
  rfl
theorem w_ways_up_to {c : Cd} {n : Nat} {E : Exn → List Ob → Prop} {Q : RO → List Ob → Prop} (hc : c.Ok) (hn : n ≤ 400) (k : Q (.new (.lst (WL c (n + 1)))) []) : wF (F10 [.d (.dic (WD c)), .d (.int (n : Int))]) E Q := by
  have s10 := sn_l hc
  refine run10 ?_
  array_mem_dec
  array_mem_dec
  refine ⟨by omega, ?_⟩
  refine wL_range (fun i e => ∃ c3 : Cell, Fre c3 ∧ e = [.d (.dic (WD c)), .d (.int n), .o (.lst (WL c (i + 1))), c3, .none]) ⟨.none, trivial, ?_⟩ ?_ ?_
  · have : WL c 1 = [.int 1] := by
      unfold WL
      rw [show List.range 1 = [0] from rfl, List.map_cons, cnt_zero]
      rfl
    rw [this]
  · rintro i e hi ⟨c3, f3, rfl⟩
    array_get_dec
    refine ⟨f3, ?_⟩
    have hi : i < n := by simpa using hi
    rw [show (1 : Int) + (i : Int) * 1 = ((i + 1 : Nat) : Int) by omega]
    array_mem_dec
    have ev : (WD c).map (fun p => p.2) = (sn c.names).map fun x => wd (wrd c x) := by rw [List.map_map]; rfl
    rw [ev]
    refine wLc_map (f := fun x => wd (wrd c x)) (l := sn c.names) (fun j acc e => acc = ((((sn c.names).take j).filter fun x => decide (wl c x ≤ i + 1)).map fun x => (cnt c (i + 1 - wl c x) : Int)).map D.int ∧ ∃ c4 : Cell, Fre c4 ∧ isOb [c4] 0 = false ∧
      e = [.d (.dic (WD c)), .d (.int n), .o (.lst (WL c (i + 1))), .d (.int ((i + 1 : Nat) : Int)), c4]) ⟨rfl, .none, trivial, rfl, rfl⟩ ?_ ?_
    · rintro j x acc e hx ⟨rfl, c4, f4, g4, rfl⟩
      have hxn := sn_mem.mp (List.mem_of_getElem? hx)
      have hp := wl_pos hc hxn
      have lt : j < (sn c.names).length := (List.getElem?_eq_some_iff.mp hx).1
      array_get_dec
      rw [take_snoc hx, List.filter_append, wrd_len]
      refine ⟨fun hle => ?_, fun hle => ?_⟩
      · have at_ : ((i + 1 : Nat) : Int) - (wl c x : Int) = ((i + 1 - wl c x : Nat) : Int) := by omega
        have yes : decide (wl c x ≤ i + 1) = true := decide_eq_true (by omega)
        rw [at_]
        refine at_d (WL_at (by omega)) ⟨?_, ?_, .d _, trivial, rfl, rfl⟩
        · have h1 := List.length_filter_le (fun x => decide (wl c x ≤ i + 1)) ((sn c.names).take j)
          rw [List.length_take] at h1
          omega
        · rw [List.filter_cons, yes]
          simp
      · have no : decide (wl c x ≤ i + 1) = false := decide_eq_false (by omega)
        rw [List.filter_cons, no]
        exact ⟨by simp, .d _, trivial, rfl, rfl⟩
    · rintro acc e ⟨rfl, c4, f4, g4, rfl⟩
      rw [List.take_length]
      array_get_dec
      refine ⟨by rw [List.length_range]; omega, .d (.int ((i + 1 : Nat) : Int)), trivial, ?_⟩
      have sm : (((sn c.names).filter fun x => decide (wl c x ≤ i + 1)).map fun x => (cnt c (i + 1 - wl c x) : Int)).sum = (cnt c (i + 1) : Int) := by
        have e1 := int_sum (fun x => cnt c (i + 1 - wl c x)) ((sn c.names).filter fun x => decide (wl c x ≤ i + 1))
        rw [e1, filter_sum, cnt_succ hc (by omega)]
        congr 2
        refine List.map_congr_left fun x _ => ?_
        unfold more
        by_cases h : wl c x ≤ i + 1 <;> simp [h]
      rw [sm]
      have e2 : WL c (i + 1) ++ [D.int (cnt c (i + 1) : Int)] = WL c (i + 1 + 1) := by
        unfold WL
        rw [List.range_succ (n := i + 1), List.map_append]
        rfl
      rw [e2]
  · rintro e ⟨c3, f3, rfl⟩
    array_get_dec
    array_mem_dec
    have e1 : ((n : Int) + 1 - 1).toNat + 1 = n + 1 := by omega
    rw [e1]
    exact k
/-- how many texts have a row of so many elements -/
def ct (c : Cd) (m : Nat) : Nat := if base c ≤ m then cnt c (m - base c) else 0
theorem w_count_texts {c : Cd} {m : Nat} {E : Exn → List Ob → Prop} {Q : RO → List Ob → Prop} (hc : c.Ok) (h : m ≤ 400) (k : Q (.d (.int (ct c m : Int))) []) : wF (F12 [.d c.d, .d (.int (m : Int))]) E Q := by
  refine run12 ?_
  array_mem_dec
  refine w_require_code hc ?_
  array_get_dec
  array_mem_dec
  refine w_require_many h ?_
  array_get_dec
  array_mem_dec
  refine w_size_without ?_
  array_get_dec
  array_mem_dec
  refine ⟨fun hle => ?_, fun hlt => ?_⟩
  · refine w_words_of hc ?_
    array_get_dec
    have e : (m : Int) - (base c : Int) = ((m - base c : Nat) : Int) := by omega
    rw [e]
    refine w_ways_up_to hc (by omega) ?_
    array_get_dec
    refine at_d (WL_at (Nat.lt_succ_self _)) ?_
    array_get_dec
    unfold ct at k
    rw [if_pos (by omega)] at k
    exact k
  · unfold ct at k
    rw [if_neg (by omega)] at k
    exact k
end K03

set_option Elab.async false
set_option linter.all false
set_option maxRecDepth 100000
set_option maxHeartbeats 800000
namespace K03
open PySem Fx
local macro_rules
  | `(tactic| array_get_dec) => `(tactic| try simp only [↓wO_some, ↓wO_none, ↓wO_map, ↓wO_bind, ↓wO_ite, ↓wLook_0, ↓wLook_s, ↓wSet_0, ↓wSet_s, ↓wCv_d, ↓wCv_o, ↓wCv_io, ↓wCg_d, ↓wCg_ol, ↓wCg_iol, ↓wCg_od, ↓wCg_iod, ↓wG_d, ↓wG_nl, ↓wG_nd, ↓wG_own, ↓wCz_d, ↓wCz_ol, ↓wCz_od, ↓wZ_d, ↓wZ_nl, ↓wZ_nd, ↓wZ_own, ↓wGs_nil, ↓wGs_cons, ↓wZs_nil, ↓wZs_cons, ↓wCo_o, ↓wCo_io, ↓wCp_o, ↓wCp_io, ↓wCs_eq, ↓wAd_nm, ↓wAd_tup, ↓wAds_nil, ↓wAds_cons, ↓wA_d, ↓wA_n, ↓wA_own, ↓wA_tup, ↓wAs_nil, ↓wAs_cons, ↓wD_bl, ↓wD_non, ↓wD_int, ↓wD_lst, ↓wD_tup, ↓wD_str, ↓wB_bl, ↓wE_var, ↓wT_var, ↓wE_cst, ↓wT_cst, ↓wE_bin, ↓wT_bin, ↓wE_neg, ↓wE_not, ↓wT_not, ↓wE_cmp, ↓wT_cmp, ↓wE_chain, ↓wT_chain, ↓wE_and, ↓wE_or, ↓wT_and, ↓wT_or, ↓wE_ite, ↓wT_ite, ↓wE_tup, ↓wE_lst, ↓wT_tup, ↓wT_lst, ↓wE_blt, ↓wT_blt, ↓wE_isinst, ↓wT_isinst, ↓wE_mth, ↓wE_ix, ↓wT_ix, ↓wEo_none, ↓wN_int, ↓wEo_some, ↓wE_sl, ↓wE_rev, ↓wEs_nil, ↓wEs_cons, ↓wE_mut, ↓wPre_nil, ↓wPre_io, ↓wPre_d, ↓wArg_nil, ↓wArg_d, ↓wArg_io, ↓wBack_nil, ↓wBack_cons, ↓wE_call, ↓wT_call, ↓wC_0, ↓wC_1, ↓wCc_go, ↓wI_e, ↓wI_items, ↓wI_values, ↓wI_enum, ↓wI_zip, ↓wI_range, ↓wE_col, ↓wEc_none, ↓wEc_some, ↓wE_lc, ↓wK_next, ↓wK_ret, ↓wK_brk, ↓wK_cnt, ↓wKl_next, ↓wKl_cnt, ↓wKl_brk, ↓wKl_ret, ↓wS_asg, ↓wPar_t, ↓wPar_f, ↓wS_par, ↓wS_set, ↓wS_expr, ↓wS_ifs, ↓wS_ret, ↓wS_retN, ↓wS_brk, ↓wS_cnt, ↓wS_pas, ↓wS_never, ↓wCa_int, ↓wS_aug, ↓wS_fors, ↓wS_whl, ↓wCr_o, ↓wCr_d, ↓wOut_d, ↓wOut_n, ↓wOut_own, ↓wFl_next, ↓wFl_ret, ↓wIo_io, ↓d_add, ↓d_sub, ↓d_mul, ↓d_fdiv, ↓d_mod, ↓d_pow, ↓d_adds, ↓d_addl, ↓d_addt, ↓d_mull, ↓d_muls, ↓d_neg, ↓c_lt, ↓c_le, ↓c_gt, ↓c_ge, ↓c_eqi, ↓c_nei, ↓c_eqb, ↓c_neb, ↓c_eqs, ↓c_nes, ↓c_in3, ↓c_isN_non, ↓c_isN_int, ↓c_isN_tup, ↓c_isN_lst, ↓c_isN_str, ↓c_isN_bl, ↓c_isN_dic, ↓c_notN_non, ↓c_notN_int, ↓c_notN_tup, ↓c_notN_lst, ↓c_notN_str, ↓c_notN_bl, ↓c_notN_dic, ↓b_lens, ↓b_lenl, ↓b_lent, ↓b_lend, ↓b_abs, ↓b_max, ↓b_min, ↓b_inti, ↓b_intb, ↓b_listl, ↓b_listt, ↓b_tupl, ↓b_tupt, ↓b_repr, ↓b_all, ↓b_any, ↓b_sum, ↓asB_nil, ↓asB_cons, ↓asB_map, ↓asI_nil, ↓asI_cons, ↓asI_map, ↓m_append, ↓m_extend, ↓m_extendt, ↓i_lst, ↓i_tup, ↓i_str, ↓r_1, ↓r_2, ↓e_1, ↓z_l, ↓z_2, ↓s_l, ↓s_t, ↓s_s, ↓v_l, ↓v_s, ↓x_l, ↓x_t, ↓x_s, ↓x_d, ↓k_i, ↓k_s, ↓u_add, ↓u_sub, ↓toR_d, ↓toR_n, ↓wPut_s, ↓wPut_o, ↓wPut_io, ↓at_0, ↓at_1, ↓at_2, ↓at_3, ↓at_4, ↓at_5, ↓at_m1, ↓wLast_1, ↓wLast_s, ↓wLast_app, ↓setD_l, ↓setD_d, ↓ixN_0, ↓ixN_1, ↓ixN_2, ↓br_t, ↓br_f, ↓wL_nil, ↓wLc_nil, ↓wSs_nil, enumL, zipL, dfl2, List.drop_succ_cons, List.drop_zero, Fre_io, Fre_o, Fre_d, Fre_n, obAt_s, obAt_0o, obAt_0io, obAt_0d, obAt_0n, isL_s, isL_o, isL_io, isOb_s, isOb_0d, isOb_0n, ioIdx_nil, ioIdx_d, ioIdx_io, wipeC_nil, wipeC_cons, restC_nil, restC_cons, noOwn_nil, noOwn_d, noOwn_n, noOwn_o, lim_is, tyD, argCell, Option.isSome_some, List.set_cons_succ, List.set_cons_zero, List.getElem?_cons_succ, List.getElem?_cons_zero, Option.getD_some, List.any_cons, List.any_nil, List.nodup_nil, List.nodup_cons, List.not_mem_nil, List.mem_cons, List.length_cons, List.length_nil, List.length_map, Nat.zero_add, true_and, and_true, forall_const, reduceCtorEq, false_implies, true_implies, Bool.not_true, Bool.not_false, Bool.or_false, Bool.false_or, Bool.or_true, Bool.true_or, Bool.and_true, Bool.true_and, Bool.and_false, Bool.false_and, Bool.not_eq_true, Bool.not_eq_false, Bool.not_eq_true', Bool.not_eq_false', decide_eq_true_eq, decide_eq_false_iff_not, Bool.false_eq_true, Bool.true_eq_false, beq_iff_eq, beq_eq_false_iff_ne, ne_eq, not_false_eq_true, not_true_eq_false, List.cons_append, List.nil_append, List.map_cons, List.map_nil, Bool.decide_eq_true, Int.toNat_natCast, Int.natAbs_natCast, abs_lit, Int.cast_ofNat_Int, Nat.reduceAdd, Nat.reduceMul, Nat.reduceSub, Nat.reduceLeDiff, Nat.reduceLT, Nat.reduceGT, Nat.reduceEqDiff, Int.reduceAdd, Int.reduceMul, Int.reduceSub, Int.reduceNeg, Int.reduceLT, Int.reduceLE, Int.reduceGT, Int.reduceGE, Int.reduceEq, Int.reduceNe, Int.reducePow, Int.reduceToNat, Int.reduceBEq, Int.reduceBNe, List.all_cons, List.all_nil, List.any_cons, List.any_nil, id_eq, ↓wE_disp, ↓wKs_nil, ↓wKs_cons, ↓wk_lst, ↓wk_tup, ↓wk_str, ↓wk_dic, ↓wk_items, ↓wk_vals, ↓d_mult, ↓c_isB, ↓c_notB, ↓b_sortD, ↓b_dict, ↓b_str, ↓b_lists, ↓m_join, ↓c_inS, ↓c_inD, ↓c_ninD, ↓c_eqe, ↓c_nee, ↓c_lts, ↓b_minD, ↓b_listd, ↓wE_dc, ↓wDc_nil, ↓wKy_i, ↓wKy_s, ↓wE_idx, ↓wLk_d, ↓wE_lck, ↓wKc_o, ↓wKc_d, ↓wE_lrg1, ↓wE_lrg2, ↓wE_lvs, ↓wE_lit, ↓d_rg1, ↓d_rg2, ↓d_vals, ↓d_its])
local macro_rules
  | `(tactic| array_mem_dec) => `(tactic| (refine wStep ?_; simp only [↓wO_some, ↓wO_none, ↓wO_map, ↓wO_bind, ↓wO_ite, ↓wLook_0, ↓wLook_s, ↓wSet_0, ↓wSet_s, ↓wCv_d, ↓wCv_o, ↓wCv_io, ↓wCg_d, ↓wCg_ol, ↓wCg_iol, ↓wCg_od, ↓wCg_iod, ↓wG_d, ↓wG_nl, ↓wG_nd, ↓wG_own, ↓wCz_d, ↓wCz_ol, ↓wCz_od, ↓wZ_d, ↓wZ_nl, ↓wZ_nd, ↓wZ_own, ↓wGs_nil, ↓wGs_cons, ↓wZs_nil, ↓wZs_cons, ↓wCo_o, ↓wCo_io, ↓wCp_o, ↓wCp_io, ↓wCs_eq, ↓wAd_nm, ↓wAd_tup, ↓wAds_nil, ↓wAds_cons, ↓wA_d, ↓wA_n, ↓wA_own, ↓wA_tup, ↓wAs_nil, ↓wAs_cons, ↓wD_bl, ↓wD_non, ↓wD_int, ↓wD_lst, ↓wD_tup, ↓wD_str, ↓wB_bl, ↓wE_var, ↓wT_var, ↓wE_cst, ↓wT_cst, ↓wE_bin, ↓wT_bin, ↓wE_neg, ↓wE_not, ↓wT_not, ↓wE_cmp, ↓wT_cmp, ↓wE_chain, ↓wT_chain, ↓wE_and, ↓wE_or, ↓wT_and, ↓wT_or, ↓wE_ite, ↓wT_ite, ↓wE_tup, ↓wE_lst, ↓wT_tup, ↓wT_lst, ↓wE_blt, ↓wT_blt, ↓wE_isinst, ↓wT_isinst, ↓wE_mth, ↓wE_ix, ↓wT_ix, ↓wEo_none, ↓wN_int, ↓wEo_some, ↓wE_sl, ↓wE_rev, ↓wEs_nil, ↓wEs_cons, ↓wE_mut, ↓wPre_nil, ↓wPre_io, ↓wPre_d, ↓wArg_nil, ↓wArg_d, ↓wArg_io, ↓wBack_nil, ↓wBack_cons, ↓wE_call, ↓wT_call, ↓wC_0, ↓wC_1, ↓wCc_go, ↓wI_e, ↓wI_items, ↓wI_values, ↓wI_enum, ↓wI_zip, ↓wI_range, ↓wE_col, ↓wEc_none, ↓wEc_some, ↓wE_lc, ↓wK_next, ↓wK_ret, ↓wK_brk, ↓wK_cnt, ↓wKl_next, ↓wKl_cnt, ↓wKl_brk, ↓wKl_ret, ↓wS_asg, ↓wPar_t, ↓wPar_f, ↓wS_par, ↓wS_set, ↓wS_expr, ↓wS_ifs, ↓wS_ret, ↓wS_retN, ↓wS_brk, ↓wS_cnt, ↓wS_pas, ↓wS_never, ↓wCa_int, ↓wS_aug, ↓wS_fors, ↓wS_whl, ↓wCr_o, ↓wCr_d, ↓wOut_d, ↓wOut_n, ↓wOut_own, ↓wFl_next, ↓wFl_ret, ↓wIo_io, ↓d_add, ↓d_sub, ↓d_mul, ↓d_fdiv, ↓d_mod, ↓d_pow, ↓d_adds, ↓d_addl, ↓d_addt, ↓d_mull, ↓d_muls, ↓d_neg, ↓c_lt, ↓c_le, ↓c_gt, ↓c_ge, ↓c_eqi, ↓c_nei, ↓c_eqb, ↓c_neb, ↓c_eqs, ↓c_nes, ↓c_in3, ↓c_isN_non, ↓c_isN_int, ↓c_isN_tup, ↓c_isN_lst, ↓c_isN_str, ↓c_isN_bl, ↓c_isN_dic, ↓c_notN_non, ↓c_notN_int, ↓c_notN_tup, ↓c_notN_lst, ↓c_notN_str, ↓c_notN_bl, ↓c_notN_dic, ↓b_lens, ↓b_lenl, ↓b_lent, ↓b_lend, ↓b_abs, ↓b_max, ↓b_min, ↓b_inti, ↓b_intb, ↓b_listl, ↓b_listt, ↓b_tupl, ↓b_tupt, ↓b_repr, ↓b_all, ↓b_any, ↓b_sum, ↓asB_nil, ↓asB_cons, ↓asB_map, ↓asI_nil, ↓asI_cons, ↓asI_map, ↓m_append, ↓m_extend, ↓m_extendt, ↓i_lst, ↓i_tup, ↓i_str, ↓r_1, ↓r_2, ↓e_1, ↓z_l, ↓z_2, ↓s_l, ↓s_t, ↓s_s, ↓v_l, ↓v_s, ↓x_l, ↓x_t, ↓x_s, ↓x_d, ↓k_i, ↓k_s, ↓u_add, ↓u_sub, ↓toR_d, ↓toR_n, ↓wPut_s, ↓wPut_o, ↓wPut_io, ↓at_0, ↓at_1, ↓at_2, ↓at_3, ↓at_4, ↓at_5, ↓at_m1, ↓wLast_1, ↓wLast_s, ↓wLast_app, ↓setD_l, ↓setD_d, ↓ixN_0, ↓ixN_1, ↓ixN_2, ↓br_t, ↓br_f, ↓wL_nil, ↓wLc_nil, ↓wSs_nil, enumL, zipL, dfl2, List.drop_succ_cons, List.drop_zero, Fre_io, Fre_o, Fre_d, Fre_n, obAt_s, obAt_0o, obAt_0io, obAt_0d, obAt_0n, isL_s, isL_o, isL_io, isOb_s, isOb_0d, isOb_0n, ioIdx_nil, ioIdx_d, ioIdx_io, wipeC_nil, wipeC_cons, restC_nil, restC_cons, noOwn_nil, noOwn_d, noOwn_n, noOwn_o, lim_is, tyD, argCell, Option.isSome_some, List.set_cons_succ, List.set_cons_zero, List.getElem?_cons_succ, List.getElem?_cons_zero, Option.getD_some, List.any_cons, List.any_nil, List.nodup_nil, List.nodup_cons, List.not_mem_nil, List.mem_cons, List.length_cons, List.length_nil, List.length_map, Nat.zero_add, true_and, and_true, forall_const, reduceCtorEq, false_implies, true_implies, Bool.not_true, Bool.not_false, Bool.or_false, Bool.false_or, Bool.or_true, Bool.true_or, Bool.and_true, Bool.true_and, Bool.and_false, Bool.false_and, Bool.not_eq_true, Bool.not_eq_false, Bool.not_eq_true', Bool.not_eq_false', decide_eq_true_eq, decide_eq_false_iff_not, Bool.false_eq_true, Bool.true_eq_false, beq_iff_eq, beq_eq_false_iff_ne, ne_eq, not_false_eq_true, not_true_eq_false, List.cons_append, List.nil_append, List.map_cons, List.map_nil, Bool.decide_eq_true, Int.toNat_natCast, Int.natAbs_natCast, abs_lit, Int.cast_ofNat_Int, Nat.reduceAdd, Nat.reduceMul, Nat.reduceSub, Nat.reduceLeDiff, Nat.reduceLT, Nat.reduceGT, Nat.reduceEqDiff, Int.reduceAdd, Int.reduceMul, Int.reduceSub, Int.reduceNeg, Int.reduceLT, Int.reduceLE, Int.reduceGT, Int.reduceGE, Int.reduceEq, Int.reduceNe, Int.reducePow, Int.reduceToNat, Int.reduceBEq, Int.reduceBNe, List.all_cons, List.all_nil, List.any_cons, List.any_nil, id_eq, ↓wE_disp, ↓wKs_nil, ↓wKs_cons, ↓wk_lst, ↓wk_tup, ↓wk_str, ↓wk_dic, ↓wk_items, ↓wk_vals, ↓d_mult, ↓c_isB, ↓c_notB, ↓b_sortD, ↓b_dict, ↓b_str, ↓b_lists, ↓m_join, ↓c_inS, ↓c_inD, ↓c_ninD, ↓c_eqe, ↓c_nee, ↓c_lts, ↓b_minD, ↓b_listd, ↓wE_dc, ↓wDc_nil, ↓wKy_i, ↓wKy_s, ↓wE_idx, ↓wLk_d, ↓wE_lck, ↓wKc_o, ↓wKc_d, ↓wE_lrg1, ↓wE_lrg2, ↓wE_lvs, ↓wE_lit, ↓d_rg1, ↓d_rg2, ↓d_vals, ↓d_its]))
local macro_rules
  | `(tactic| apply_ext_theorem) => `(tactic| (rw [wLc_cons]; array_get_dec))
local macro_rules
  | `(tactic| nofun) => `(tactic| (rw [wL_cons]; array_get_dec))
/-! ### the text with an index -/
/-- the elements of a text's words -/
def sz (c : Cd) (t : List Nat) : Nat := (t.map (wl c)).sum
theorem sz_cons (c : Cd) (x : Nat) (t : List Nat) : sz c (x :: t) = wl c x + sz c t := by unfold sz; rw [List.map_cons, List.sum_cons]
theorem sz_snoc (c : Cd) (x : Nat) (t : List Nat) : sz c (t ++ [x]) = sz c t + wl c x := by unfold sz; rw [List.map_append, List.sum_append]; simp
theorem mem_txs {c : Cd} (hc : c.Ok) : ∀ (t : List Nat) (m : Nat), t ∈ txs c m ↔ (Tx c t ∧ sz c t = m)
  | [], m => by
    cases m with
    | zero => rw [txs_zero]; simp [Tx, sz]
    | succ m =>
      rw [txs_succ hc (by omega)]
      refine ⟨fun h => ?_, fun h => by have := h.2; simp [sz] at this⟩
      obtain ⟨x, hx, h⟩ := List.mem_flatMap.mp h
      unfold tx_by at h
      split at h
      · obtain ⟨u, _, e⟩ := List.mem_map.mp h; cases e
      · cases h
  | x :: t, m => by
    have ih := mem_txs hc t
    rw [sz_cons]
    cases m with
    | zero =>
      rw [txs_zero]
      refine ⟨fun h => by simp at h, fun h => ?_⟩
      have hx : x ∈ c.names := h.1 x (by simp)
      have := wl_pos hc hx
      omega
    | succ m =>
      rw [txs_succ hc (by omega), List.mem_flatMap]
      constructor
      · rintro ⟨y, hy, h⟩
        unfold tx_by at h
        split at h
        · rename_i hle
          obtain ⟨u, hu, e⟩ := List.mem_map.mp h
          cases e
          obtain ⟨h1, h2⟩ := (ih _).mp hu
          refine ⟨fun z hz => ?_, by omega⟩
          rcases List.mem_cons.mp hz with rfl | hz
          · exact sn_mem.mp hy
          · exact h1 z hz
        · cases h
      · rintro ⟨h1, h2⟩
        refine ⟨x, sn_mem.mpr (h1 x (by simp)), ?_⟩
        unfold tx_by
        rw [if_pos (by omega)]
        exact List.mem_map.mpr ⟨t, (ih _).mpr ⟨fun z hz => h1 z (by simp [hz]), by omega⟩, rfl⟩
theorem len_sz {c : Cd} (hc : c.Ok) : ∀ {t : List Nat}, Tx c t → t.length ≤ sz c t
  | [], _ => by simp [sz]
  | x :: t, h => by
    have h1 := wl_pos hc (h x (by simp))
    have h2 := len_sz hc (t := t) fun z hz => h z (by simp [hz])
    rw [sz_cons, List.length_cons]
    omega
theorem nth_cons {α β : Type} {g : α → List β} {x : α} {r : List α} {i : Nat} {u : β} (h : ((x :: r).flatMap g)[i]? = some u) :
    (i < (g x).length ∧ (g x)[i]? = some u) ∨ ((g x).length ≤ i ∧ (r.flatMap g)[i - (g x).length]? = some u) := by
  rw [List.flatMap_cons, List.getElem?_append] at h
  split at h
  · exact .inl ⟨by assumption, h⟩
  · exact .inr ⟨by omega, h⟩
theorem items_WD (c : Cd) : (WD c).map (fun p => D.tup [p.1.toD, p.2]) = (sn c.names).map fun x => .tup [tx1 x, wd (wrd c x)] := by rw [List.map_map]; rfl
theorem w_nth_text {c : Cd} {m i : Nat} {u : List Nat} {E : Exn → List Ob → Prop} {Q : RO → List Ob → Prop} (hc : c.Ok) (hm : base c ≤ m) (h : m ≤ 400) (hu : (txs c (m - base c))[i]? = some u) (k : Q (.d (.str u)) []) :
    wF (F13 [.d c.d, .d (.int (m : Int)), .d (.int (i : Int))]) E Q := by
  have s10 := sn_l hc
  have um := (mem_txs hc u _).mp (List.mem_of_getElem? hu)
  have ul := len_sz hc um.1
  have il : i < cnt c (m - base c) := (List.getElem?_eq_some_iff.mp hu).1
  refine run13 ?_
  array_mem_dec
  refine w_require_code hc ?_
  array_get_dec
  array_mem_dec
  refine w_require_many h ?_
  array_get_dec
  array_mem_dec
  refine w_words_of hc ?_
  array_get_dec
  refine w_size_without ?_
  array_get_dec
  array_mem_dec
  have e : (m : Int) - (base c : Int) = ((m - base c : Nat) : Int) := by omega
  rw [e]
  generalize hM : m - base c = M at *
  refine ⟨fun _ => ?_, fun z => absurd (Int.natCast_nonneg M) z⟩
  refine w_ways_up_to hc (by omega) ?_
  array_get_dec
  array_mem_dec
  have lastW : L2.atI (WL c (M + 1)) (-1) = some (.int (cnt c M : Int)) := by
    unfold WL
    rw [List.range_succ, List.map_append]
    exact L2.atI_last _ _
  refine wO_of lastW ?_
  array_get_dec
  refine w_require_index il ?_
  array_get_dec
  array_mem_dec
  refine wW_by (fun n e => ∃ (t u' : List Nat) (i' : Nat) (c7 c8 c9 : Cell), n ≤ M ∧ (txs c n)[i']? = some u' ∧ t ++ u' = u ∧ Fre c7 ∧ Fre c8 ∧ Fre c9 ∧
    e = [.d c.d, .d (.int m), .d (.int i'), .d (.dic (WD c)), .d (.int n), .d (.str t), .o (.lst (WL c (M + 1))), c7, c8, c9]) M ⟨[], u, i, .none, .none, .none, Nat.le_refl _, hu, rfl, trivial, trivial, trivial, rfl⟩
    (by have h2 : (401 : Nat) < fuel := by decide +kernel
        omega) ?_
  rintro n e ⟨t, u', i', c7, c8, c9, hn, hu', tu, f7, f8, f9, rfl⟩
  array_get_dec
  refine ⟨fun hpos => ?_, fun h0 => ?_⟩
  · have n0 : 0 < n := by omega
    array_mem_dec
    rw [items_WD]
    rw [txs_succ hc n0] at hu'
    refine wL_map (f := fun x => .tup [tx1 x, wd (wrd c x)]) (l := sn c.names) (fun j e => ∃ (i' : Nat) (c7 c8 c9 : Cell), (((sn c.names).drop j).flatMap (tx_by c n))[i']? = some u' ∧ Fre c7 ∧ Fre c8 ∧ Fre c9 ∧
      e = [.d c.d, .d (.int m), .d (.int i'), .d (.dic (WD c)), .d (.int n), .d (.str t), .o (.lst (WL c (M + 1))), c7, c8, c9]) ⟨i', c7, c8, c9, hu', f7, f8, f9, rfl⟩ ?_ ?_
    · rintro j x e hx ⟨i', c7, c8, c9, hu', f7, f8, f9, rfl⟩
      obtain ⟨jl, ex⟩ := List.getElem?_eq_some_iff.mp hx
      have hxn := sn_mem.mp (List.mem_of_getElem? hx)
      have hp := wl_pos hc hxn
      have ed : (sn c.names).drop j = x :: (sn c.names).drop (j + 1) := by rw [List.drop_eq_getElem_cons jl, ex]
      rw [ed] at hu'
      array_get_dec
      refine ⟨f7, f8, ?_⟩
      have tl := congrArg List.length tu
      rw [List.length_append] at tl
      generalize hR : (fun (fl : Fl) (env2 : Cells) => wKl fl env2 _ _) = R
      have go : wSs G13 [s13_8, s13_11] [.d c.d, .d (.int m), .d (.int i'), .d (.dic (WD c)), .d (.int n), .d (.str t), .o (.lst (WL c (M + 1))), .d (tx1 x), .d (wd (wrd c x)), .d (.int (more c n x : Int))] (fun x env => E x []) R := by
        have tb := tx_by_len c n x
        array_mem_dec
        rcases nth_cons hu' with ⟨h1, h2⟩ | ⟨h1, h2⟩
        · refine ⟨fun _ => ?_, fun z => absurd z (by omega)⟩
          unfold tx_by at h2
          split at h2
          · rename_i hle
            rw [List.getElem?_map] at h2
            cases e3 : (txs c (n - wl c x))[i']? with
            | none => rw [e3] at h2; cases h2
            | some v =>
              rw [e3] at h2
              cases h2
              array_mem_dec
              refine ⟨by omega, ?_⟩
              array_mem_dec
              rw [← hR]
              array_get_dec
              have e4 : (n : Int) - ((wrd c x).length : Int) = ((n - wl c x : Nat) : Int) := by rw [wrd_len]; omega
              rw [e4]
              exact ⟨n - wl c x, by omega, t ++ [x], v, i', .d _, .d _, .d _, by omega, e3, by rw [← tu]; simp, trivial, trivial, trivial, rfl⟩
          · cases h2
        · refine ⟨fun z => absurd z (by omega), fun _ => ?_⟩
          array_mem_dec
          rw [← hR]
          array_get_dec
          have e4 : (i' : Int) - (more c n x : Int) = ((i' - (tx_by c n x).length : Nat) : Int) := by omega
          rw [e4]
          exact ⟨i' - (tx_by c n x).length, .d _, .d _, .d _, h2, trivial, trivial, trivial, rfl⟩
      array_mem_dec
      rw [wrd_len]
      refine ⟨fun hle => ?_, fun hle => ⟨f9, ?_⟩⟩
      · have at_ : (n : Int) - (wl c x : Int) = ((n - wl c x : Nat) : Int) := by omega
        rw [at_]
        refine at_d (WL_at (by omega)) ⟨f9, ?_⟩
        unfold more at go
        rw [if_pos (by omega)] at go
        exact go
      · unfold more at go
        rw [if_neg (by omega)] at go
        exact go
    · rintro e ⟨i', c7, c8, c9, hu', f7, f8, f9, rfl⟩
      rw [List.drop_length] at hu'
      cases hu'
  · obtain rfl : n = 0 := by omega
    rw [txs_zero] at hu'
    cases i' with
    | succ i' => simp at hu'
    | zero =>
      simp at hu'
      subst hu'
      rw [List.append_nil] at tu
      subst tu
      array_get_dec
      array_mem_dec
      exact k
end K03

set_option Elab.async false
set_option linter.all false
set_option maxRecDepth 100000
set_option maxHeartbeats 800000
namespace K03
open PySem Fx
local macro_rules
  | `(tactic| array_get_dec) => `(tactic| try simp only [↓wO_some, ↓wO_none, ↓wO_map, ↓wO_bind, ↓wO_ite, ↓wLook_0, ↓wLook_s, ↓wSet_0, ↓wSet_s, ↓wCv_d, ↓wCv_o, ↓wCv_io, ↓wCg_d, ↓wCg_ol, ↓wCg_iol, ↓wCg_od, ↓wCg_iod, ↓wG_d, ↓wG_nl, ↓wG_nd, ↓wG_own, ↓wCz_d, ↓wCz_ol, ↓wCz_od, ↓wZ_d, ↓wZ_nl, ↓wZ_nd, ↓wZ_own, ↓wGs_nil, ↓wGs_cons, ↓wZs_nil, ↓wZs_cons, ↓wCo_o, ↓wCo_io, ↓wCp_o, ↓wCp_io, ↓wCs_eq, ↓wAd_nm, ↓wAd_tup, ↓wAds_nil, ↓wAds_cons, ↓wA_d, ↓wA_n, ↓wA_own, ↓wA_tup, ↓wAs_nil, ↓wAs_cons, ↓wD_bl, ↓wD_non, ↓wD_int, ↓wD_lst, ↓wD_tup, ↓wD_str, ↓wB_bl, ↓wE_var, ↓wT_var, ↓wE_cst, ↓wT_cst, ↓wE_bin, ↓wT_bin, ↓wE_neg, ↓wE_not, ↓wT_not, ↓wE_cmp, ↓wT_cmp, ↓wE_chain, ↓wT_chain, ↓wE_and, ↓wE_or, ↓wT_and, ↓wT_or, ↓wE_ite, ↓wT_ite, ↓wE_tup, ↓wE_lst, ↓wT_tup, ↓wT_lst, ↓wE_blt, ↓wT_blt, ↓wE_isinst, ↓wT_isinst, ↓wE_mth, ↓wE_ix, ↓wT_ix, ↓wEo_none, ↓wN_int, ↓wEo_some, ↓wE_sl, ↓wE_rev, ↓wEs_nil, ↓wEs_cons, ↓wE_mut, ↓wPre_nil, ↓wPre_io, ↓wPre_d, ↓wArg_nil, ↓wArg_d, ↓wArg_io, ↓wBack_nil, ↓wBack_cons, ↓wE_call, ↓wT_call, ↓wC_0, ↓wC_1, ↓wCc_go, ↓wI_e, ↓wI_items, ↓wI_values, ↓wI_enum, ↓wI_zip, ↓wI_range, ↓wE_col, ↓wEc_none, ↓wEc_some, ↓wE_lc, ↓wK_next, ↓wK_ret, ↓wK_brk, ↓wK_cnt, ↓wKl_next, ↓wKl_cnt, ↓wKl_brk, ↓wKl_ret, ↓wS_asg, ↓wPar_t, ↓wPar_f, ↓wS_par, ↓wS_set, ↓wS_expr, ↓wS_ifs, ↓wS_ret, ↓wS_retN, ↓wS_brk, ↓wS_cnt, ↓wS_pas, ↓wS_never, ↓wCa_int, ↓wS_aug, ↓wS_fors, ↓wS_whl, ↓wCr_o, ↓wCr_d, ↓wOut_d, ↓wOut_n, ↓wOut_own, ↓wFl_next, ↓wFl_ret, ↓wIo_io, ↓d_add, ↓d_sub, ↓d_mul, ↓d_fdiv, ↓d_mod, ↓d_pow, ↓d_adds, ↓d_addl, ↓d_addt, ↓d_mull, ↓d_muls, ↓d_neg, ↓c_lt, ↓c_le, ↓c_gt, ↓c_ge, ↓c_eqi, ↓c_nei, ↓c_eqb, ↓c_neb, ↓c_eqs, ↓c_nes, ↓c_in3, ↓c_isN_non, ↓c_isN_int, ↓c_isN_tup, ↓c_isN_lst, ↓c_isN_str, ↓c_isN_bl, ↓c_isN_dic, ↓c_notN_non, ↓c_notN_int, ↓c_notN_tup, ↓c_notN_lst, ↓c_notN_str, ↓c_notN_bl, ↓c_notN_dic, ↓b_lens, ↓b_lenl, ↓b_lent, ↓b_lend, ↓b_abs, ↓b_max, ↓b_min, ↓b_inti, ↓b_intb, ↓b_listl, ↓b_listt, ↓b_tupl, ↓b_tupt, ↓b_repr, ↓b_all, ↓b_any, ↓b_sum, ↓asB_nil, ↓asB_cons, ↓asB_map, ↓asI_nil, ↓asI_cons, ↓asI_map, ↓m_append, ↓m_extend, ↓m_extendt, ↓i_lst, ↓i_tup, ↓i_str, ↓r_1, ↓r_2, ↓e_1, ↓z_l, ↓z_2, ↓s_l, ↓s_t, ↓s_s, ↓v_l, ↓v_s, ↓x_l, ↓x_t, ↓x_s, ↓x_d, ↓k_i, ↓k_s, ↓u_add, ↓u_sub, ↓toR_d, ↓toR_n, ↓wPut_s, ↓wPut_o, ↓wPut_io, ↓at_0, ↓at_1, ↓at_2, ↓at_3, ↓at_4, ↓at_5, ↓at_m1, ↓wLast_1, ↓wLast_s, ↓wLast_app, ↓setD_l, ↓setD_d, ↓ixN_0, ↓ixN_1, ↓ixN_2, ↓br_t, ↓br_f, ↓wL_nil, ↓wLc_nil, ↓wSs_nil, enumL, zipL, dfl2, List.drop_succ_cons, List.drop_zero, Fre_io, Fre_o, Fre_d, Fre_n, obAt_s, obAt_0o, obAt_0io, obAt_0d, obAt_0n, isL_s, isL_o, isL_io, isOb_s, isOb_0d, isOb_0n, ioIdx_nil, ioIdx_d, ioIdx_io, wipeC_nil, wipeC_cons, restC_nil, restC_cons, noOwn_nil, noOwn_d, noOwn_n, noOwn_o, lim_is, tyD, argCell, Option.isSome_some, List.set_cons_succ, List.set_cons_zero, List.getElem?_cons_succ, List.getElem?_cons_zero, Option.getD_some, List.any_cons, List.any_nil, List.nodup_nil, List.nodup_cons, List.not_mem_nil, List.mem_cons, List.length_cons, List.length_nil, List.length_map, Nat.zero_add, true_and, and_true, forall_const, reduceCtorEq, false_implies, true_implies, Bool.not_true, Bool.not_false, Bool.or_false, Bool.false_or, Bool.or_true, Bool.true_or, Bool.and_true, Bool.true_and, Bool.and_false, Bool.false_and, Bool.not_eq_true, Bool.not_eq_false, Bool.not_eq_true', Bool.not_eq_false', decide_eq_true_eq, decide_eq_false_iff_not, Bool.false_eq_true, Bool.true_eq_false, beq_iff_eq, beq_eq_false_iff_ne, ne_eq, not_false_eq_true, not_true_eq_false, List.cons_append, List.nil_append, List.map_cons, List.map_nil, Bool.decide_eq_true, Int.toNat_natCast, Int.natAbs_natCast, abs_lit, Int.cast_ofNat_Int, Nat.reduceAdd, Nat.reduceMul, Nat.reduceSub, Nat.reduceLeDiff, Nat.reduceLT, Nat.reduceGT, Nat.reduceEqDiff, Int.reduceAdd, Int.reduceMul, Int.reduceSub, Int.reduceNeg, Int.reduceLT, Int.reduceLE, Int.reduceGT, Int.reduceGE, Int.reduceEq, Int.reduceNe, Int.reducePow, Int.reduceToNat, Int.reduceBEq, Int.reduceBNe, List.all_cons, List.all_nil, List.any_cons, List.any_nil, id_eq, ↓wE_disp, ↓wKs_nil, ↓wKs_cons, ↓wk_lst, ↓wk_tup, ↓wk_str, ↓wk_dic, ↓wk_items, ↓wk_vals, ↓d_mult, ↓c_isB, ↓c_notB, ↓b_sortD, ↓b_dict, ↓b_str, ↓b_lists, ↓m_join, ↓c_inS, ↓c_inD, ↓c_ninD, ↓c_eqe, ↓c_nee, ↓c_lts, ↓b_minD, ↓b_listd, ↓wE_dc, ↓wDc_nil, ↓wKy_i, ↓wKy_s, ↓wE_idx, ↓wLk_d, ↓wE_lck, ↓wKc_o, ↓wKc_d, ↓wE_lrg1, ↓wE_lrg2, ↓wE_lvs, ↓wE_lit, ↓d_rg1, ↓d_rg2, ↓d_vals, ↓d_its])
local macro_rules
  | `(tactic| array_mem_dec) => `(tactic| (refine wStep ?_; simp only [↓wO_some, ↓wO_none, ↓wO_map, ↓wO_bind, ↓wO_ite, ↓wLook_0, ↓wLook_s, ↓wSet_0, ↓wSet_s, ↓wCv_d, ↓wCv_o, ↓wCv_io, ↓wCg_d, ↓wCg_ol, ↓wCg_iol, ↓wCg_od, ↓wCg_iod, ↓wG_d, ↓wG_nl, ↓wG_nd, ↓wG_own, ↓wCz_d, ↓wCz_ol, ↓wCz_od, ↓wZ_d, ↓wZ_nl, ↓wZ_nd, ↓wZ_own, ↓wGs_nil, ↓wGs_cons, ↓wZs_nil, ↓wZs_cons, ↓wCo_o, ↓wCo_io, ↓wCp_o, ↓wCp_io, ↓wCs_eq, ↓wAd_nm, ↓wAd_tup, ↓wAds_nil, ↓wAds_cons, ↓wA_d, ↓wA_n, ↓wA_own, ↓wA_tup, ↓wAs_nil, ↓wAs_cons, ↓wD_bl, ↓wD_non, ↓wD_int, ↓wD_lst, ↓wD_tup, ↓wD_str, ↓wB_bl, ↓wE_var, ↓wT_var, ↓wE_cst, ↓wT_cst, ↓wE_bin, ↓wT_bin, ↓wE_neg, ↓wE_not, ↓wT_not, ↓wE_cmp, ↓wT_cmp, ↓wE_chain, ↓wT_chain, ↓wE_and, ↓wE_or, ↓wT_and, ↓wT_or, ↓wE_ite, ↓wT_ite, ↓wE_tup, ↓wE_lst, ↓wT_tup, ↓wT_lst, ↓wE_blt, ↓wT_blt, ↓wE_isinst, ↓wT_isinst, ↓wE_mth, ↓wE_ix, ↓wT_ix, ↓wEo_none, ↓wN_int, ↓wEo_some, ↓wE_sl, ↓wE_rev, ↓wEs_nil, ↓wEs_cons, ↓wE_mut, ↓wPre_nil, ↓wPre_io, ↓wPre_d, ↓wArg_nil, ↓wArg_d, ↓wArg_io, ↓wBack_nil, ↓wBack_cons, ↓wE_call, ↓wT_call, ↓wC_0, ↓wC_1, ↓wCc_go, ↓wI_e, ↓wI_items, ↓wI_values, ↓wI_enum, ↓wI_zip, ↓wI_range, ↓wE_col, ↓wEc_none, ↓wEc_some, ↓wE_lc, ↓wK_next, ↓wK_ret, ↓wK_brk, ↓wK_cnt, ↓wKl_next, ↓wKl_cnt, ↓wKl_brk, ↓wKl_ret, ↓wS_asg, ↓wPar_t, ↓wPar_f, ↓wS_par, ↓wS_set, ↓wS_expr, ↓wS_ifs, ↓wS_ret, ↓wS_retN, ↓wS_brk, ↓wS_cnt, ↓wS_pas, ↓wS_never, ↓wCa_int, ↓wS_aug, ↓wS_fors, ↓wS_whl, ↓wCr_o, ↓wCr_d, ↓wOut_d, ↓wOut_n, ↓wOut_own, ↓wFl_next, ↓wFl_ret, ↓wIo_io, ↓d_add, ↓d_sub, ↓d_mul, ↓d_fdiv, ↓d_mod, ↓d_pow, ↓d_adds, ↓d_addl, ↓d_addt, ↓d_mull, ↓d_muls, ↓d_neg, ↓c_lt, ↓c_le, ↓c_gt, ↓c_ge, ↓c_eqi, ↓c_nei, ↓c_eqb, ↓c_neb, ↓c_eqs, ↓c_nes, ↓c_in3, ↓c_isN_non, ↓c_isN_int, ↓c_isN_tup, ↓c_isN_lst, ↓c_isN_str, ↓c_isN_bl, ↓c_isN_dic, ↓c_notN_non, ↓c_notN_int, ↓c_notN_tup, ↓c_notN_lst, ↓c_notN_str, ↓c_notN_bl, ↓c_notN_dic, ↓b_lens, ↓b_lenl, ↓b_lent, ↓b_lend, ↓b_abs, ↓b_max, ↓b_min, ↓b_inti, ↓b_intb, ↓b_listl, ↓b_listt, ↓b_tupl, ↓b_tupt, ↓b_repr, ↓b_all, ↓b_any, ↓b_sum, ↓asB_nil, ↓asB_cons, ↓asB_map, ↓asI_nil, ↓asI_cons, ↓asI_map, ↓m_append, ↓m_extend, ↓m_extendt, ↓i_lst, ↓i_tup, ↓i_str, ↓r_1, ↓r_2, ↓e_1, ↓z_l, ↓z_2, ↓s_l, ↓s_t, ↓s_s, ↓v_l, ↓v_s, ↓x_l, ↓x_t, ↓x_s, ↓x_d, ↓k_i, ↓k_s, ↓u_add, ↓u_sub, ↓toR_d, ↓toR_n, ↓wPut_s, ↓wPut_o, ↓wPut_io, ↓at_0, ↓at_1, ↓at_2, ↓at_3, ↓at_4, ↓at_5, ↓at_m1, ↓wLast_1, ↓wLast_s, ↓wLast_app, ↓setD_l, ↓setD_d, ↓ixN_0, ↓ixN_1, ↓ixN_2, ↓br_t, ↓br_f, ↓wL_nil, ↓wLc_nil, ↓wSs_nil, enumL, zipL, dfl2, List.drop_succ_cons, List.drop_zero, Fre_io, Fre_o, Fre_d, Fre_n, obAt_s, obAt_0o, obAt_0io, obAt_0d, obAt_0n, isL_s, isL_o, isL_io, isOb_s, isOb_0d, isOb_0n, ioIdx_nil, ioIdx_d, ioIdx_io, wipeC_nil, wipeC_cons, restC_nil, restC_cons, noOwn_nil, noOwn_d, noOwn_n, noOwn_o, lim_is, tyD, argCell, Option.isSome_some, List.set_cons_succ, List.set_cons_zero, List.getElem?_cons_succ, List.getElem?_cons_zero, Option.getD_some, List.any_cons, List.any_nil, List.nodup_nil, List.nodup_cons, List.not_mem_nil, List.mem_cons, List.length_cons, List.length_nil, List.length_map, Nat.zero_add, true_and, and_true, forall_const, reduceCtorEq, false_implies, true_implies, Bool.not_true, Bool.not_false, Bool.or_false, Bool.false_or, Bool.or_true, Bool.true_or, Bool.and_true, Bool.true_and, Bool.and_false, Bool.false_and, Bool.not_eq_true, Bool.not_eq_false, Bool.not_eq_true', Bool.not_eq_false', decide_eq_true_eq, decide_eq_false_iff_not, Bool.false_eq_true, Bool.true_eq_false, beq_iff_eq, beq_eq_false_iff_ne, ne_eq, not_false_eq_true, not_true_eq_false, List.cons_append, List.nil_append, List.map_cons, List.map_nil, Bool.decide_eq_true, Int.toNat_natCast, Int.natAbs_natCast, abs_lit, Int.cast_ofNat_Int, Nat.reduceAdd, Nat.reduceMul, Nat.reduceSub, Nat.reduceLeDiff, Nat.reduceLT, Nat.reduceGT, Nat.reduceEqDiff, Int.reduceAdd, Int.reduceMul, Int.reduceSub, Int.reduceNeg, Int.reduceLT, Int.reduceLE, Int.reduceGT, Int.reduceGE, Int.reduceEq, Int.reduceNe, Int.reducePow, Int.reduceToNat, Int.reduceBEq, Int.reduceBNe, List.all_cons, List.all_nil, List.any_cons, List.any_nil, id_eq, ↓wE_disp, ↓wKs_nil, ↓wKs_cons, ↓wk_lst, ↓wk_tup, ↓wk_str, ↓wk_dic, ↓wk_items, ↓wk_vals, ↓d_mult, ↓c_isB, ↓c_notB, ↓b_sortD, ↓b_dict, ↓b_str, ↓b_lists, ↓m_join, ↓c_inS, ↓c_inD, ↓c_ninD, ↓c_eqe, ↓c_nee, ↓c_lts, ↓b_minD, ↓b_listd, ↓wE_dc, ↓wDc_nil, ↓wKy_i, ↓wKy_s, ↓wE_idx, ↓wLk_d, ↓wE_lck, ↓wKc_o, ↓wKc_d, ↓wE_lrg1, ↓wE_lrg2, ↓wE_lvs, ↓wE_lit, ↓d_rg1, ↓d_rg2, ↓d_vals, ↓d_its]))
local macro_rules
  | `(tactic| apply_ext_theorem) => `(tactic| (rw [wLc_cons]; array_get_dec))
local macro_rules
  | `(tactic| nofun) => `(tactic| (rw [wL_cons]; array_get_dec))
/-! ### all texts with so many elements, by the law -/
theorem sn_lt {c : Cd} (hc : c.Ok) : (sn c.names).Pairwise (· < ·) := by
  have h1 : (sn c.names).Pairwise (· ≤ ·) := sortBy_le (lt := fun a b => decide (a ≤ b)) (le := (· ≤ ·)) (fun a b e => of_decide_eq_true e) (fun a b e => by have := of_decide_eq_false e; omega) (fun a b c => Nat.le_trans) _
  have h2 : (sn c.names).Pairwise (· ≠ ·) := sn_nd hc
  exact (h1.and h2).imp fun ⟨a, b⟩ => by omega
theorem txs_lt {c : Cd} (hc : c.Ok) : ∀ m, (txs c m).Pairwise (· < ·) := by
  intro m
  induction m using Nat.strongRecOn with
  | ind m ih =>
    cases m with
    | zero => rw [txs_zero]; simp
    | succ m =>
      rw [txs_succ hc (by omega), List.pairwise_flatMap]
      refine ⟨fun x hx => ?_, (sn_lt hc).imp fun {x y} h u hu v hv => ?_⟩
      · have hp := wl_pos hc (sn_mem.mp hx)
        unfold tx_by
        split
        · rw [List.pairwise_map]
          exact (ih _ (by omega)).imp fun h => List.cons_lt_cons_iff.mpr (.inr ⟨rfl, h⟩)
        · exact .nil
      · unfold tx_by at hu hv
        split at hu
        · split at hv
          · obtain ⟨a, _, rfl⟩ := List.mem_map.mp hu
            obtain ⟨b, _, rfl⟩ := List.mem_map.mp hv
            exact List.cons_lt_cons_iff.mpr (.inl h)
          · cases hv
        · cases hu
theorem lt_nd {l : List (List Nat)} (h : l.Pairwise (· < ·)) : l.Nodup := h.imp fun {a b} h e => by subst e; exact List.lt_irrefl _ h
theorem lt_le {l : List (List Nat)} (h : l.Pairwise (· < ·)) : l.Pairwise (· ≤ ·) := h.imp fun h => List.le_of_lt h
/-- all texts with so many elements -/
def TX (c : Cd) (many : Nat) : List (List Nat) := if base c ≤ many then txs c (many - base c) else []
theorem mem_TX {c : Cd} (hc : c.Ok) {t : List Nat} {many : Nat} : t ∈ TX c many ↔ (Tx c t ∧ base c + sz c t = many) := by
  unfold TX
  split
  · rw [mem_txs hc]
    constructor
    · rintro ⟨a, b⟩; exact ⟨a, by omega⟩
    · rintro ⟨a, b⟩; exact ⟨a, by omega⟩
  · refine ⟨fun h => (by cases h), fun ⟨_, h⟩ => by omega⟩
theorem TX_lt {c : Cd} (hc : c.Ok) (many : Nat) : (TX c many).Pairwise (· < ·) := by
  unfold TX
  split
  · exact txs_lt hc _
  · exact .nil
theorem sort_TX {c : Cd} (hc : c.Ok) {many : Nat} {l : List (List Nat)} (nd : l.Nodup) (h : ∀ t, t ∈ l ↔ t ∈ TX c many) : sortT l = TX c many := by
  have hp : l.Perm (TX c many) := (List.perm_ext_iff_of_nodup nd (lt_nd (TX_lt hc many))).mpr h
  exact List.Perm.eq_of_pairwise (le := (· ≤ ·)) (fun a b _ _ h1 h2 => List.le_antisymm h1 h2) (sortT_le l) (lt_le (TX_lt hc many)) ((sortBy_perm l).trans hp)
/-! level by level -/
def on1 (c : Cd) (many : Nat) (t : List Nat) : List (List Nat) := ((sn c.names).map fun x => t ++ [x]).filter fun u => decide (base c + sz c u ≤ many)
def lev (c : Cd) (many : Nat) : Nat → List (List Nat)
  | 0 => [[]]
  | k + 1 => (lev c many k).flatMap (on1 c many)
def hit (c : Cd) (many : Nat) (l : List (List Nat)) : List (List Nat) := l.filter fun t => decide (base c + sz c t = many)
def fnd (c : Cd) (many : Nat) : Nat → List (List Nat)
  | 0 => []
  | k + 1 => fnd c many k ++ hit c many (lev c many k)
theorem mem_on1 {c : Cd} {many : Nat} {t u : List Nat} : u ∈ on1 c many t ↔ ∃ x ∈ c.names, u = t ++ [x] ∧ base c + sz c u ≤ many := by
  unfold on1
  rw [List.mem_filter, List.mem_map]
  constructor
  · rintro ⟨⟨x, hx, rfl⟩, h⟩
    exact ⟨x, sn_mem.mp hx, rfl, of_decide_eq_true h⟩
  · rintro ⟨x, hx, rfl, h⟩
    exact ⟨⟨x, sn_mem.mpr hx, rfl⟩, decide_eq_true h⟩
theorem mem_lev {c : Cd} {many : Nat} : ∀ (k : Nat) (t : List Nat), t ∈ lev c many k ↔ (t.length = k ∧ Tx c t ∧ (k = 0 ∨ base c + sz c t ≤ many))
  | 0, t => by
    refine ⟨fun h => ?_, fun ⟨h, _, _⟩ => ?_⟩
    · rw [List.mem_singleton.mp h]; exact ⟨rfl, fun _ h => (by cases h), .inl rfl⟩
    · rw [List.length_eq_zero_iff.mp h]; simp [lev]
  | k + 1, u => by
    rw [lev, List.mem_flatMap]
    constructor
    · rintro ⟨t, ht, hu⟩
      obtain ⟨x, hx, rfl, hs⟩ := mem_on1.mp hu
      obtain ⟨h1, h2, h3⟩ := (mem_lev k t).mp ht
      exact ⟨by simp [h1], h2.app fun y hy => by rw [List.mem_singleton.mp hy]; exact hx, .inr hs⟩
    · rintro ⟨h1, h2, h3⟩
      rcases List.eq_nil_or_concat u with rfl | ⟨t, x, rfl⟩
      · cases h1
      · rw [List.concat_eq_append] at h1 h2 h3 ⊢
        have hx : x ∈ c.names := h2 x (by simp)
        have hs : base c + sz c (t ++ [x]) ≤ many := by rcases h3 with h | h <;> omega
        have hs2 := hs
        rw [sz_snoc] at hs2
        refine ⟨t, (mem_lev k t).mpr ⟨by simpa using h1, fun y hy => h2 y (by simp [hy]), .inr (by omega)⟩, mem_on1.mpr ⟨x, hx, rfl, hs⟩⟩
theorem lev_nd {c : Cd} (hc : c.Ok) (many : Nat) : ∀ k, (lev c many k).Nodup
  | 0 => by simp [lev]
  | k + 1 => by
    rw [lev]
    refine List.pairwise_flatMap.mpr ⟨fun t _ => ?_, (lev_nd hc many k).imp fun {a b} ne u hu v hv e => ?_⟩
    · unfold on1
      refine List.Pairwise.filter _ (List.pairwise_map.mpr ((sn_nd hc).imp fun {a b} ne e => ne ?_))
      have := List.append_cancel_left e
      simpa using this
    · obtain ⟨x, _, rfl, _⟩ := mem_on1.mp hu
      obtain ⟨y, _, e2, _⟩ := mem_on1.mp hv
      rw [← e] at e2
      exact ne (List.append_inj' e2 rfl).1
theorem mem_fnd {c : Cd} {many : Nat} : ∀ (k : Nat) (t : List Nat), t ∈ fnd c many k ↔ (t.length < k ∧ Tx c t ∧ base c + sz c t = many)
  | 0, t => by simp [fnd]
  | k + 1, t => by
    rw [fnd, List.mem_append, mem_fnd k t]
    unfold hit
    rw [List.mem_filter, mem_lev]
    simp only [decide_eq_true_eq]
    constructor
    · rintro (⟨a, b, d⟩ | ⟨⟨a, b, _⟩, d⟩)
      · exact ⟨by omega, b, d⟩
      · exact ⟨by omega, b, d⟩
    · rintro ⟨a, b, d⟩
      by_cases h : t.length < k
      · exact .inl ⟨h, b, d⟩
      · exact .inr ⟨⟨by omega, b, .inr (by omega)⟩, d⟩
theorem fnd_nd {c : Cd} (hc : c.Ok) (many : Nat) : ∀ k, (fnd c many k).Nodup
  | 0 => by simp [fnd]
  | k + 1 => by
    rw [fnd]
    refine List.nodup_append.mpr ⟨fnd_nd hc many k, List.Pairwise.filter _ (lev_nd hc many k), fun a ha b hb e => ?_⟩
    have h1 := ((mem_fnd k a).mp ha).1
    have h2 := ((mem_lev k b).mp (List.mem_filter.mp hb).1).1
    subst e
    omega
theorem sz_take {c : Cd} (t : List Nat) (k : Nat) : sz c (t.take k) ≤ sz c t := by
  unfold sz
  have : t.take k ++ t.drop k = t := List.take_append_drop k t
  have h := congrArg (fun l : List Nat => (l.map (wl c)).sum) this
  simp only [List.map_append, List.sum_append] at h
  omega
theorem fnd_all {c : Cd} (hc : c.Ok) {many k : Nat} (h : lev c many k = []) : sortT (fnd c many k) = TX c many := by
  refine sort_TX hc (fnd_nd hc many k) fun t => ?_
  rw [mem_fnd, mem_TX hc]
  refine ⟨fun h => h.2, fun ⟨h1, h2⟩ => ⟨?_, h1, h2⟩⟩
  apply Classical.byContradiction
  intro hk
  have : t.take k ∈ lev c many k := (mem_lev k _).mpr ⟨by rw [List.length_take]; omega, fun x hx => h1 x (List.mem_of_mem_take hx), .inr (by have := sz_take (c := c) t k; omega)⟩
  rw [h] at this
  cases this
theorem rows_flat {c : Cd} (hc : c.Ok) {l : List (List Nat)} (h : ∀ t ∈ l, Tx c t) : flatD 40 (.lst (l.map fun t => D.tup [.str t, .int ((base c + sz c t : Nat) : Int)])) = true := by
  refine flat_lst fun t ht => ?_
  have e : okS t = true := by
    unfold okS
    rw [List.all_eq_true]
    intro x hx
    simpa using (h t ht).lt hc x hx
  rw [flatD, flatDs, flatDs, flatDs]
  simp only [flatD, e]
  rfl
theorem c_neR {c : Cd} (hc : c.Ok) {l : List (List Nat)} (h : ∀ t ∈ l, Tx c t) {B : Bool → Prop} : wO (cmpD .ne (.lst (l.map fun t => D.tup [.str t, .int ((base c + sz c t : Nat) : Int)])) (.lst [])) B = B (!l.isEmpty) := by
  rw [c_ne (rows_flat hc h) (by decide)]
  cases l <;> simp [eqD, eqDs]
theorem c_eqR {c : Cd} (hc : c.Ok) {l : List (List Nat)} (h : ∀ t ∈ l, Tx c t) {B : Bool → Prop} : wO (cmpD .eq (.lst (l.map fun t => D.tup [.str t, .int ((base c + sz c t : Nat) : Int)])) (.lst [])) B = B l.isEmpty := by
  rw [c_eq (rows_flat hc h) (by decide)]
  cases l <;> simp [eqD, eqDs]
theorem as_strs : ∀ ss : List (List Nat), asStrs (ss.map .str) = some ss
  | [] => rfl
  | s :: ss => by
    rw [List.map_cons, asStrs, as_strs ss]
    rfl
theorem b_sortT {ss : List (List Nat)} {B : RO → Prop} (h : ss.length ≤ lim) : wO (bltD .sorted [.lst (ss.map .str)]) B = B (.new (.lst ((sortT ss).map .str))) := by
  have e : sortL (ss.map .str) = some ((sortT ss).map .str) := by
    unfold sortL
    cases ss with
    | nil => rfl
    | cons s ss =>
      have no : asInts ((s :: ss).map D.str) = none := rfl
      rw [no, as_strs]
      simp only [Option.bind]
      rw [if_pos h]
  show wO ((sortL (ss.map .str)).map fun ys => .new (.lst ys)) B = _
  rw [wO_map, e, wO_some]
/-- a row of the law's list -/
abbrev rwD (c : Cd) (t : List Nat) : D := .tup [.str t, .int ((base c + sz c t : Nat) : Int)]
theorem on_len {c : Cd} (hc : c.Ok) (m : Nat) (t : List Nat) : (on1 c m t).length ≤ 10 := by
  have s10 := sn_l hc
  unfold on1
  refine Nat.le_trans (List.length_filter_le _ _) ?_
  rw [List.length_map]
  exact s10
theorem onL_len {c : Cd} (hc : c.Ok) (m : Nat) : ∀ l : List (List Nat), (l.flatMap (on1 c m)).length ≤ 10 * l.length
  | [] => by simp
  | t :: l => by
    have h1 := on_len hc m t
    have h2 := onL_len hc m l
    rw [List.flatMap_cons, List.length_append, List.length_cons]
    omega
/-- the last statements of a turn -/
theorem texts_turn {c : Cd} {m : Nat} {t : List Nat} {lo : List (List Nat)} {c3 c4 c8 : Cell} {E : Exn → Cells → Prop} {P : Fl → Cells → Prop} (hc : c.Ok) (ht : t.length ≤ 1000) (hlo : lo.length ≤ 100000) (f8 : Fre c8)
    (k : ∀ c8', Fre c8' → P .next [.d c.d, .d (.int m), .d (.int (base c : Int)), c3, c4, .o (.lst ((lo ++ on1 c m t).map (rwD c))), .d (.str t), .d (.int ((base c + sz c t : Nat) : Int)), c8', .none, .none]) :
    wSs G20 [s20_7, s20_8] [.d c.d, .d (.int m), .d (.int (base c : Int)), c3, c4, .o (.lst (lo.map (rwD c))), .d (.str t), .d (.int ((base c + sz c t : Nat) : Int)), c8, .none, .none] E P := by
  have s10 := sn_l hc
  array_mem_dec
  rw [cd_1, b_sortD, keys_cd, wO_some]
  have e0 : c.chars.map (·.1) = c.names := rfl
  rw [e0]
  refine ⟨by rw [List.length_map]; rw [sn_len] at s10; exact Nat.lt_of_le_of_lt s10 (by decide), ?_⟩
  rw [sort_one, tx_map]
  array_get_dec
  refine wLc_map (f := tx1) (l := sn c.names) (fun j acc e => acc = (((sn c.names).take j).map fun x => t ++ [x]).map (rwD c) ∧ ∃ c9 : Cell, Fre c9 ∧ isOb [c9, .none] 0 = false ∧
    e = [.d c.d, .d (.int m), .d (.int (base c : Int)), c3, c4, .o (.lst (lo.map (rwD c))), .d (.str t), .d (.int ((base c + sz c t : Nat) : Int)), c8, c9, .none]) ⟨rfl, .none, trivial, rfl, rfl⟩ ?_ ?_
  · rintro j x acc e hx ⟨rfl, c9, f9, g9, rfl⟩
    have hxn := sn_mem.mp (List.mem_of_getElem? hx)
    have lt : j < (sn c.names).length := (List.getElem?_eq_some_iff.mp hx).1
    array_get_dec
    rw [cd_1]
    array_get_dec
    rw [c.look hxn, wO_some]
    array_get_dec
    rw [cd_2]
    array_get_dec
    refine ⟨by omega, by rw [List.length_take]; omega, ?_, .d _, trivial, rfl, rfl⟩
    rw [take_snoc hx, List.map_append, List.map_append]
    have e1 : ((base c + sz c t : Nat) : Int) + ((c.get x).length : Int) + (c.between.length : Int) = ((base c + sz c (t ++ [x]) : Nat) : Int) := by
      rw [sz_snoc]
      unfold wl
      omega
    rw [e1]
    rfl
  · rintro acc e ⟨rfl, c9, f9, g9, rfl⟩
    rw [List.take_length]
    array_get_dec
    refine ⟨f8, ?_⟩
    array_mem_dec
    refine ⟨rfl, ?_⟩
    refine wLc_map (f := rwD c) (l := (sn c.names).map fun x => t ++ [x]) (fun j acc e => acc = ((((sn c.names).map fun x => t ++ [x]).take j).filter fun u => decide (base c + sz c u ≤ m)).map (rwD c) ∧ ∃ c10 : Cell, Fre c10 ∧ isOb [c10] 0 = false ∧
      e = [.d c.d, .d (.int m), .d (.int (base c : Int)), c3, c4, .o (.lst (lo.map (rwD c))), .d (.str t), .d (.int ((base c + sz c t : Nat) : Int)), .none, .none, c10]) ⟨rfl, .none, trivial, rfl, rfl⟩ ?_ ?_
    · rintro j u acc e hx ⟨rfl, c10, f10, g10, rfl⟩
      have lt : j < ((sn c.names).map fun x => t ++ [x]).length := (List.getElem?_eq_some_iff.mp hx).1
      rw [List.length_map] at lt
      have h1 := List.length_filter_le (fun u => decide (base c + sz c u ≤ m)) (((sn c.names).map fun x => t ++ [x]).take j)
      rw [List.length_take, List.length_map] at h1
      array_get_dec
      rw [take_snoc hx, List.filter_append]
      refine ⟨fun hle => ?_, fun hle => ?_⟩
      · rw [List.filter_cons, decide_eq_true (show base c + sz c u ≤ m by omega)]
        refine ⟨by omega, by simp, .d _, trivial, rfl, rfl⟩
      · rw [List.filter_cons, decide_eq_false (show ¬ base c + sz c u ≤ m by omega)]
        exact ⟨by simp, .d _, trivial, rfl, rfl⟩
    · rintro acc e ⟨rfl, c10, f10, g10, rfl⟩
      rw [List.take_length]
      have hon : (((sn c.names).map fun x => t ++ [x]).filter fun u => decide (base c + sz c u ≤ m)) = on1 c m t := rfl
      rw [hon]
      have ol := on_len hc m t
      array_get_dec
      refine ⟨by omega, ?_⟩
      rw [← List.map_append]
      exact k _ trivial
theorem texts_for {c : Cd} {m k : Nat} {c6 c7 c8 : Cell} {E : Exn → Cells → Prop} {P : Fl → Cells → Prop} (hc : c.Ok) (hm : m ≤ 500) (km : k ≤ m) (fl : (fnd c m k).length ≤ 600 * k) (ll : (lev c m k).length ≤ 6000) (f6 : Fre c6) (f7 : Fre c7) (f8 : Fre c8)
    (kk : ∀ c6' c7' c8', Fre c6' → Fre c7' → Fre c8' → P .next [.d c.d, .d (.int m), .d (.int (base c : Int)), .o (.lst ((fnd c m (k + 1)).map .str)), .d (.lst ((lev c m k).map (rwD c))), .o (.lst ((lev c m (k + 1)).map (rwD c))), c6', c7', c8', .none, .none]) :
    wL G20 (.tup [.nm 6, .nm 7]) b20_1 ((lev c m k).map (rwD c)) [.d c.d, .d (.int m), .d (.int (base c : Int)), .o (.lst ((fnd c m k).map .str)), .d (.lst ((lev c m k).map (rwD c))), .o (.lst []), c6, c7, c8, .none, .none] E P := by
  refine wL_map (f := rwD c) (l := lev c m k) (fun j e => ∃ (c6 c7 c8 : Cell), Fre c6 ∧ Fre c7 ∧ Fre c8 ∧
    e = [.d c.d, .d (.int m), .d (.int (base c : Int)), .o (.lst ((fnd c m k ++ hit c m ((lev c m k).take j)).map .str)), .d (.lst ((lev c m k).map (rwD c))), .o (.lst ((((lev c m k).take j).flatMap (on1 c m)).map (rwD c))), c6, c7, c8, .none, .none])
    ⟨c6, c7, c8, f6, f7, f8, by simp [hit]⟩ ?_ ?_
  · rintro j t e hx ⟨c6, c7, c8, f6, f7, f8, rfl⟩
    have htl := ((mem_lev k t).mp (List.mem_of_getElem? hx)).1
    have jl : j < (lev c m k).length := (List.getElem?_eq_some_iff.mp hx).1
    have hl1 := onL_len hc m ((lev c m k).take j)
    rw [List.length_take] at hl1
    have hl2 : (hit c m ((lev c m k).take j)).length ≤ 6000 := by
      unfold hit
      refine Nat.le_trans (List.length_filter_le _ _) ?_
      rw [List.length_take]
      omega
    array_get_dec
    refine ⟨f6, f7, ?_⟩
    array_mem_dec
    have on : ((lev c m k).take (j + 1)).flatMap (on1 c m) = ((lev c m k).take j).flatMap (on1 c m) ++ on1 c m t := by rw [take_snoc hx, List.flatMap_append]; simp
    refine ⟨fun heq => ?_, fun hne => ?_⟩
    · array_mem_dec
      refine ⟨by rw [List.length_append]; omega, ?_⟩
      refine texts_turn hc (by omega) (by omega) f8 fun c8' g8 => ?_
      array_get_dec
      have e2 : hit c m ((lev c m k).take (j + 1)) = hit c m ((lev c m k).take j) ++ [t] := by
        unfold hit
        rw [take_snoc hx, List.filter_append, List.filter_cons, decide_eq_true (show base c + sz c t = m by omega)]
        rfl
      refine ⟨.d (.str t), .d (.int ((base c + sz c t : Nat) : Int)), c8', trivial, trivial, g8, ?_⟩
      rw [on, e2, ← List.append_assoc, List.map_append (l₁ := fnd c m k ++ _)]
      rfl
    · refine texts_turn hc (by omega) (by omega) f8 fun c8' g8 => ?_
      array_get_dec
      have e2 : hit c m ((lev c m k).take (j + 1)) = hit c m ((lev c m k).take j) := by
        unfold hit
        rw [take_snoc hx, List.filter_append, List.filter_cons, decide_eq_false (show ¬ base c + sz c t = m by omega)]
        simp
      refine ⟨.d (.str t), .d (.int ((base c + sz c t : Nat) : Int)), c8', trivial, trivial, g8, ?_⟩
      rw [on, e2]
  · rintro e ⟨c6, c7, c8, f6, f7, f8, rfl⟩
    rw [List.take_length]
    exact kk c6 c7 c8 f6 f7 f8
theorem w__law_texts {c : Cd} {m : Nat} {E : Exn → List Ob → Prop} {Q : RO → List Ob → Prop} (hc : c.Ok) (hm : m ≤ 500) (k1 : (TX c m).length ≤ 400000 → Q (.new (.lst ((TX c m).map .str))) []) (k2 : Q (.d .non) []) : wF (F20 [.d c.d, .d (.int (m : Int))]) E Q := by
  have s10 := sn_l hc
  refine run20 ?_
  array_mem_dec
  rw [cd_0]
  array_get_dec
  rw [cd_2]
  array_get_dec
  rw [cd_3]
  array_get_dec
  have eb : (c.start.length : Int) + (c.between.length : Int) + (c.stop.length : Int) = ((base c : Nat) : Int) := rfl
  rw [eb]
  array_mem_dec
  array_mem_dec
  refine wW_by (fun n e => ∃ (k : Nat) (c5 c6 c7 c8 : Cell), n + k = m + 2 ∧ (fnd c m k).length ≤ 600 * k ∧ (lev c m k).length ≤ 6000 ∧ Fre c5 ∧ Fre c6 ∧ Fre c7 ∧ Fre c8 ∧ ∃ c4, (c4 = .o (.lst ((lev c m k).map (rwD c))) ∨ c4 = .d (.lst ((lev c m k).map (rwD c)))) ∧
    e = [.d c.d, .d (.int m), .d (.int (base c : Int)), .o (.lst ((fnd c m k).map .str)), c4, c5, c6, c7, c8, .none, .none]) (m + 2) ⟨0, .none, .none, .none, .none, rfl, by simp [fnd], by simp [lev], trivial, trivial, trivial, trivial, _, .inl rfl, rfl⟩
    (by have h2 : (1000 : Nat) < fuel := by decide +kernel
        omega) ?_
  rintro n e ⟨k, c5, c6, c7, c8, hn, fl, ll, f5, f6, f7, f8, c4, h4, rfl⟩
  have tx : ∀ t ∈ lev c m k, Tx c t := fun t h => ((mem_lev k t).mp h).2.1
  have fin : wSs G20 [s20_10] [.d c.d, .d (.int m), .d (.int (base c : Int)), .o (.lst ((fnd c m k).map .str)), c4, c5, c6, c7, c8, .none, .none] (fun x env => E x []) (fun f env => wFl f env fun ro => Q ro []) := by
    rcases h4 with rfl | rfl
    · array_mem_dec
      rw [c_eqR hc tx]
      refine ⟨fun he => ?_, fun _ => k2⟩
      have le : lev c m k = [] := by simpa using he
      have lt : (TX c m).length ≤ 400000 := by
        rw [← fnd_all hc le, show (sortT (fnd c m k)).length = (fnd c m k).length from (sortBy_perm _).length_eq]
        omega
      rw [b_sortT (by rw [lim_is]; omega), fnd_all hc le]
      array_get_dec
      exact k1 lt
    · array_mem_dec
      rw [c_eqR hc tx]
      refine ⟨fun he => ?_, fun _ => k2⟩
      have le : lev c m k = [] := by simpa using he
      have lt : (TX c m).length ≤ 400000 := by
        rw [← fnd_all hc le, show (sortT (fnd c m k)).length = (fnd c m k).length from (sortBy_perm _).length_eq]
        omega
      rw [b_sortT (by rw [lim_is]; omega), fnd_all hc le]
      array_get_dec
      exact k1 lt
  have km : (!(lev c m k).isEmpty) = true → k ≤ m := fun hne => by
    cases hl : lev c m k with
    | nil => rw [hl] at hne; cases hne
    | cons t r =>
      obtain ⟨h1, h2, h3⟩ := (mem_lev k t).mp (by rw [hl]; simp)
      have := len_sz hc h2
      rcases h3 with h3 | h3 <;> omega
  have hl1 := onL_len hc m (lev c m k)
  have hl2 : (hit c m (lev c m k)).length ≤ (lev c m k).length := List.length_filter_le _ _
  have e1 : (fnd c m (k + 1)).length = (fnd c m k).length + (hit c m (lev c m k)).length := by rw [fnd, List.length_append]
  rcases h4 with rfl | rfl
  · array_get_dec
    rw [c_neR hc tx]
    refine ⟨fun hne => ⟨fun hlt => ?_, fun _ => fin⟩, fun _ => fin⟩
    have hk := km hne
    array_mem_dec
    refine ⟨f5, ?_⟩
    array_mem_dec
    refine texts_for hc hm hk fl ll f6 f7 f8 fun c6' c7' c8' g6 g7 g8 => ?_
    array_get_dec
    array_mem_dec
    refine ⟨n - 1, by omega, k + 1, .d _, c6', c7', c8', by omega, by omega, ?_, trivial, g6, g7, g8, _, .inr rfl, rfl⟩
    rw [lev]
    omega
  · array_get_dec
    rw [c_neR hc tx]
    refine ⟨fun hne => ⟨fun hlt => ?_, fun _ => fin⟩, fun _ => fin⟩
    have hk := km hne
    array_mem_dec
    refine ⟨f5, ?_⟩
    array_mem_dec
    refine texts_for hc hm hk fl ll f6 f7 f8 fun c6' c7' c8' g6 g7 g8 => ?_
    array_get_dec
    array_mem_dec
    refine ⟨n - 1, by omega, k + 1, .d _, c6', c7', c8', by omega, by omega, ?_, trivial, g6, g7, g8, _, .inr rfl, rfl⟩
    rw [lev]
    omega
end K03

set_option Elab.async false
set_option linter.all false
set_option maxRecDepth 100000
set_option maxHeartbeats 800000
namespace K03
open PySem Fx
local macro_rules
  | `(tactic| array_get_dec) => `(tactic| try simp only [↓wO_some, ↓wO_none, ↓wO_map, ↓wO_bind, ↓wO_ite, ↓wLook_0, ↓wLook_s, ↓wSet_0, ↓wSet_s, ↓wCv_d, ↓wCv_o, ↓wCv_io, ↓wCg_d, ↓wCg_ol, ↓wCg_iol, ↓wCg_od, ↓wCg_iod, ↓wG_d, ↓wG_nl, ↓wG_nd, ↓wG_own, ↓wCz_d, ↓wCz_ol, ↓wCz_od, ↓wZ_d, ↓wZ_nl, ↓wZ_nd, ↓wZ_own, ↓wGs_nil, ↓wGs_cons, ↓wZs_nil, ↓wZs_cons, ↓wCo_o, ↓wCo_io, ↓wCp_o, ↓wCp_io, ↓wCs_eq, ↓wAd_nm, ↓wAd_tup, ↓wAds_nil, ↓wAds_cons, ↓wA_d, ↓wA_n, ↓wA_own, ↓wA_tup, ↓wAs_nil, ↓wAs_cons, ↓wD_bl, ↓wD_non, ↓wD_int, ↓wD_lst, ↓wD_tup, ↓wD_str, ↓wB_bl, ↓wE_var, ↓wT_var, ↓wE_cst, ↓wT_cst, ↓wE_bin, ↓wT_bin, ↓wE_neg, ↓wE_not, ↓wT_not, ↓wE_cmp, ↓wT_cmp, ↓wE_chain, ↓wT_chain, ↓wE_and, ↓wE_or, ↓wT_and, ↓wT_or, ↓wE_ite, ↓wT_ite, ↓wE_tup, ↓wE_lst, ↓wT_tup, ↓wT_lst, ↓wE_blt, ↓wT_blt, ↓wE_isinst, ↓wT_isinst, ↓wE_mth, ↓wE_ix, ↓wT_ix, ↓wEo_none, ↓wN_int, ↓wEo_some, ↓wE_sl, ↓wE_rev, ↓wEs_nil, ↓wEs_cons, ↓wE_mut, ↓wPre_nil, ↓wPre_io, ↓wPre_d, ↓wArg_nil, ↓wArg_d, ↓wArg_io, ↓wBack_nil, ↓wBack_cons, ↓wE_call, ↓wT_call, ↓wC_0, ↓wC_1, ↓wCc_go, ↓wI_e, ↓wI_items, ↓wI_values, ↓wI_enum, ↓wI_zip, ↓wI_range, ↓wE_col, ↓wEc_none, ↓wEc_some, ↓wE_lc, ↓wK_next, ↓wK_ret, ↓wK_brk, ↓wK_cnt, ↓wKl_next, ↓wKl_cnt, ↓wKl_brk, ↓wKl_ret, ↓wS_asg, ↓wPar_t, ↓wPar_f, ↓wS_par, ↓wS_set, ↓wS_expr, ↓wS_ifs, ↓wS_ret, ↓wS_retN, ↓wS_brk, ↓wS_cnt, ↓wS_pas, ↓wS_never, ↓wCa_int, ↓wS_aug, ↓wS_fors, ↓wS_whl, ↓wCr_o, ↓wCr_d, ↓wOut_d, ↓wOut_n, ↓wOut_own, ↓wFl_next, ↓wFl_ret, ↓wIo_io, ↓d_add, ↓d_sub, ↓d_mul, ↓d_fdiv, ↓d_mod, ↓d_pow, ↓d_adds, ↓d_addl, ↓d_addt, ↓d_mull, ↓d_muls, ↓d_neg, ↓c_lt, ↓c_le, ↓c_gt, ↓c_ge, ↓c_eqi, ↓c_nei, ↓c_eqb, ↓c_neb, ↓c_eqs, ↓c_nes, ↓c_in3, ↓c_isN_non, ↓c_isN_int, ↓c_isN_tup, ↓c_isN_lst, ↓c_isN_str, ↓c_isN_bl, ↓c_isN_dic, ↓c_notN_non, ↓c_notN_int, ↓c_notN_tup, ↓c_notN_lst, ↓c_notN_str, ↓c_notN_bl, ↓c_notN_dic, ↓b_lens, ↓b_lenl, ↓b_lent, ↓b_lend, ↓b_abs, ↓b_max, ↓b_min, ↓b_inti, ↓b_intb, ↓b_listl, ↓b_listt, ↓b_tupl, ↓b_tupt, ↓b_repr, ↓b_all, ↓b_any, ↓b_sum, ↓asB_nil, ↓asB_cons, ↓asB_map, ↓asI_nil, ↓asI_cons, ↓asI_map, ↓m_append, ↓m_extend, ↓m_extendt, ↓i_lst, ↓i_tup, ↓i_str, ↓r_1, ↓r_2, ↓e_1, ↓z_l, ↓z_2, ↓s_l, ↓s_t, ↓s_s, ↓v_l, ↓v_s, ↓x_l, ↓x_t, ↓x_s, ↓x_d, ↓k_i, ↓k_s, ↓u_add, ↓u_sub, ↓toR_d, ↓toR_n, ↓wPut_s, ↓wPut_o, ↓wPut_io, ↓at_0, ↓at_1, ↓at_2, ↓at_3, ↓at_4, ↓at_5, ↓at_m1, ↓wLast_1, ↓wLast_s, ↓wLast_app, ↓setD_l, ↓setD_d, ↓ixN_0, ↓ixN_1, ↓ixN_2, ↓br_t, ↓br_f, ↓wL_nil, ↓wLc_nil, ↓wSs_nil, enumL, zipL, dfl2, List.drop_succ_cons, List.drop_zero, Fre_io, Fre_o, Fre_d, Fre_n, obAt_s, obAt_0o, obAt_0io, obAt_0d, obAt_0n, isL_s, isL_o, isL_io, isOb_s, isOb_0d, isOb_0n, ioIdx_nil, ioIdx_d, ioIdx_io, wipeC_nil, wipeC_cons, restC_nil, restC_cons, noOwn_nil, noOwn_d, noOwn_n, noOwn_o, lim_is, tyD, argCell, Option.isSome_some, List.set_cons_succ, List.set_cons_zero, List.getElem?_cons_succ, List.getElem?_cons_zero, Option.getD_some, List.any_cons, List.any_nil, List.nodup_nil, List.nodup_cons, List.not_mem_nil, List.mem_cons, List.length_cons, List.length_nil, List.length_map, Nat.zero_add, true_and, and_true, forall_const, reduceCtorEq, false_implies, true_implies, Bool.not_true, Bool.not_false, Bool.or_false, Bool.false_or, Bool.or_true, Bool.true_or, Bool.and_true, Bool.true_and, Bool.and_false, Bool.false_and, Bool.not_eq_true, Bool.not_eq_false, Bool.not_eq_true', Bool.not_eq_false', decide_eq_true_eq, decide_eq_false_iff_not, Bool.false_eq_true, Bool.true_eq_false, beq_iff_eq, beq_eq_false_iff_ne, ne_eq, not_false_eq_true, not_true_eq_false, List.cons_append, List.nil_append, List.map_cons, List.map_nil, Bool.decide_eq_true, Int.toNat_natCast, Int.natAbs_natCast, abs_lit, Int.cast_ofNat_Int, Nat.reduceAdd, Nat.reduceMul, Nat.reduceSub, Nat.reduceLeDiff, Nat.reduceLT, Nat.reduceGT, Nat.reduceEqDiff, Int.reduceAdd, Int.reduceMul, Int.reduceSub, Int.reduceNeg, Int.reduceLT, Int.reduceLE, Int.reduceGT, Int.reduceGE, Int.reduceEq, Int.reduceNe, Int.reducePow, Int.reduceToNat, Int.reduceBEq, Int.reduceBNe, List.all_cons, List.all_nil, List.any_cons, List.any_nil, id_eq, ↓wE_disp, ↓wKs_nil, ↓wKs_cons, ↓wk_lst, ↓wk_tup, ↓wk_str, ↓wk_dic, ↓wk_items, ↓wk_vals, ↓d_mult, ↓c_isB, ↓c_notB, ↓b_sortD, ↓b_dict, ↓b_str, ↓b_lists, ↓m_join, ↓c_inS, ↓c_inD, ↓c_ninD, ↓c_eqe, ↓c_nee, ↓c_lts, ↓b_minD, ↓b_listd, ↓wE_dc, ↓wDc_nil, ↓wKy_i, ↓wKy_s, ↓wE_idx, ↓wLk_d, ↓wE_lck, ↓wKc_o, ↓wKc_d, ↓wE_lrg1, ↓wE_lrg2, ↓wE_lvs, ↓wE_lit, ↓d_rg1, ↓d_rg2, ↓d_vals, ↓d_its])
local macro_rules
  | `(tactic| array_mem_dec) => `(tactic| (refine wStep ?_; simp only [↓wO_some, ↓wO_none, ↓wO_map, ↓wO_bind, ↓wO_ite, ↓wLook_0, ↓wLook_s, ↓wSet_0, ↓wSet_s, ↓wCv_d, ↓wCv_o, ↓wCv_io, ↓wCg_d, ↓wCg_ol, ↓wCg_iol, ↓wCg_od, ↓wCg_iod, ↓wG_d, ↓wG_nl, ↓wG_nd, ↓wG_own, ↓wCz_d, ↓wCz_ol, ↓wCz_od, ↓wZ_d, ↓wZ_nl, ↓wZ_nd, ↓wZ_own, ↓wGs_nil, ↓wGs_cons, ↓wZs_nil, ↓wZs_cons, ↓wCo_o, ↓wCo_io, ↓wCp_o, ↓wCp_io, ↓wCs_eq, ↓wAd_nm, ↓wAd_tup, ↓wAds_nil, ↓wAds_cons, ↓wA_d, ↓wA_n, ↓wA_own, ↓wA_tup, ↓wAs_nil, ↓wAs_cons, ↓wD_bl, ↓wD_non, ↓wD_int, ↓wD_lst, ↓wD_tup, ↓wD_str, ↓wB_bl, ↓wE_var, ↓wT_var, ↓wE_cst, ↓wT_cst, ↓wE_bin, ↓wT_bin, ↓wE_neg, ↓wE_not, ↓wT_not, ↓wE_cmp, ↓wT_cmp, ↓wE_chain, ↓wT_chain, ↓wE_and, ↓wE_or, ↓wT_and, ↓wT_or, ↓wE_ite, ↓wT_ite, ↓wE_tup, ↓wE_lst, ↓wT_tup, ↓wT_lst, ↓wE_blt, ↓wT_blt, ↓wE_isinst, ↓wT_isinst, ↓wE_mth, ↓wE_ix, ↓wT_ix, ↓wEo_none, ↓wN_int, ↓wEo_some, ↓wE_sl, ↓wE_rev, ↓wEs_nil, ↓wEs_cons, ↓wE_mut, ↓wPre_nil, ↓wPre_io, ↓wPre_d, ↓wArg_nil, ↓wArg_d, ↓wArg_io, ↓wBack_nil, ↓wBack_cons, ↓wE_call, ↓wT_call, ↓wC_0, ↓wC_1, ↓wCc_go, ↓wI_e, ↓wI_items, ↓wI_values, ↓wI_enum, ↓wI_zip, ↓wI_range, ↓wE_col, ↓wEc_none, ↓wEc_some, ↓wE_lc, ↓wK_next, ↓wK_ret, ↓wK_brk, ↓wK_cnt, ↓wKl_next, ↓wKl_cnt, ↓wKl_brk, ↓wKl_ret, ↓wS_asg, ↓wPar_t, ↓wPar_f, ↓wS_par, ↓wS_set, ↓wS_expr, ↓wS_ifs, ↓wS_ret, ↓wS_retN, ↓wS_brk, ↓wS_cnt, ↓wS_pas, ↓wS_never, ↓wCa_int, ↓wS_aug, ↓wS_fors, ↓wS_whl, ↓wCr_o, ↓wCr_d, ↓wOut_d, ↓wOut_n, ↓wOut_own, ↓wFl_next, ↓wFl_ret, ↓wIo_io, ↓d_add, ↓d_sub, ↓d_mul, ↓d_fdiv, ↓d_mod, ↓d_pow, ↓d_adds, ↓d_addl, ↓d_addt, ↓d_mull, ↓d_muls, ↓d_neg, ↓c_lt, ↓c_le, ↓c_gt, ↓c_ge, ↓c_eqi, ↓c_nei, ↓c_eqb, ↓c_neb, ↓c_eqs, ↓c_nes, ↓c_in3, ↓c_isN_non, ↓c_isN_int, ↓c_isN_tup, ↓c_isN_lst, ↓c_isN_str, ↓c_isN_bl, ↓c_isN_dic, ↓c_notN_non, ↓c_notN_int, ↓c_notN_tup, ↓c_notN_lst, ↓c_notN_str, ↓c_notN_bl, ↓c_notN_dic, ↓b_lens, ↓b_lenl, ↓b_lent, ↓b_lend, ↓b_abs, ↓b_max, ↓b_min, ↓b_inti, ↓b_intb, ↓b_listl, ↓b_listt, ↓b_tupl, ↓b_tupt, ↓b_repr, ↓b_all, ↓b_any, ↓b_sum, ↓asB_nil, ↓asB_cons, ↓asB_map, ↓asI_nil, ↓asI_cons, ↓asI_map, ↓m_append, ↓m_extend, ↓m_extendt, ↓i_lst, ↓i_tup, ↓i_str, ↓r_1, ↓r_2, ↓e_1, ↓z_l, ↓z_2, ↓s_l, ↓s_t, ↓s_s, ↓v_l, ↓v_s, ↓x_l, ↓x_t, ↓x_s, ↓x_d, ↓k_i, ↓k_s, ↓u_add, ↓u_sub, ↓toR_d, ↓toR_n, ↓wPut_s, ↓wPut_o, ↓wPut_io, ↓at_0, ↓at_1, ↓at_2, ↓at_3, ↓at_4, ↓at_5, ↓at_m1, ↓wLast_1, ↓wLast_s, ↓wLast_app, ↓setD_l, ↓setD_d, ↓ixN_0, ↓ixN_1, ↓ixN_2, ↓br_t, ↓br_f, ↓wL_nil, ↓wLc_nil, ↓wSs_nil, enumL, zipL, dfl2, List.drop_succ_cons, List.drop_zero, Fre_io, Fre_o, Fre_d, Fre_n, obAt_s, obAt_0o, obAt_0io, obAt_0d, obAt_0n, isL_s, isL_o, isL_io, isOb_s, isOb_0d, isOb_0n, ioIdx_nil, ioIdx_d, ioIdx_io, wipeC_nil, wipeC_cons, restC_nil, restC_cons, noOwn_nil, noOwn_d, noOwn_n, noOwn_o, lim_is, tyD, argCell, Option.isSome_some, List.set_cons_succ, List.set_cons_zero, List.getElem?_cons_succ, List.getElem?_cons_zero, Option.getD_some, List.any_cons, List.any_nil, List.nodup_nil, List.nodup_cons, List.not_mem_nil, List.mem_cons, List.length_cons, List.length_nil, List.length_map, Nat.zero_add, true_and, and_true, forall_const, reduceCtorEq, false_implies, true_implies, Bool.not_true, Bool.not_false, Bool.or_false, Bool.false_or, Bool.or_true, Bool.true_or, Bool.and_true, Bool.true_and, Bool.and_false, Bool.false_and, Bool.not_eq_true, Bool.not_eq_false, Bool.not_eq_true', Bool.not_eq_false', decide_eq_true_eq, decide_eq_false_iff_not, Bool.false_eq_true, Bool.true_eq_false, beq_iff_eq, beq_eq_false_iff_ne, ne_eq, not_false_eq_true, not_true_eq_false, List.cons_append, List.nil_append, List.map_cons, List.map_nil, Bool.decide_eq_true, Int.toNat_natCast, Int.natAbs_natCast, abs_lit, Int.cast_ofNat_Int, Nat.reduceAdd, Nat.reduceMul, Nat.reduceSub, Nat.reduceLeDiff, Nat.reduceLT, Nat.reduceGT, Nat.reduceEqDiff, Int.reduceAdd, Int.reduceMul, Int.reduceSub, Int.reduceNeg, Int.reduceLT, Int.reduceLE, Int.reduceGT, Int.reduceGE, Int.reduceEq, Int.reduceNe, Int.reducePow, Int.reduceToNat, Int.reduceBEq, Int.reduceBNe, List.all_cons, List.all_nil, List.any_cons, List.any_nil, id_eq, ↓wE_disp, ↓wKs_nil, ↓wKs_cons, ↓wk_lst, ↓wk_tup, ↓wk_str, ↓wk_dic, ↓wk_items, ↓wk_vals, ↓d_mult, ↓c_isB, ↓c_notB, ↓b_sortD, ↓b_dict, ↓b_str, ↓b_lists, ↓m_join, ↓c_inS, ↓c_inD, ↓c_ninD, ↓c_eqe, ↓c_nee, ↓c_lts, ↓b_minD, ↓b_listd, ↓wE_dc, ↓wDc_nil, ↓wKy_i, ↓wKy_s, ↓wE_idx, ↓wLk_d, ↓wE_lck, ↓wKc_o, ↓wKc_d, ↓wE_lrg1, ↓wE_lrg2, ↓wE_lvs, ↓wE_lit, ↓d_rg1, ↓d_rg2, ↓d_vals, ↓d_its]))
local macro_rules
  | `(tactic| apply_ext_theorem) => `(tactic| (rw [wLc_cons]; array_get_dec))
local macro_rules
  | `(tactic| nofun) => `(tactic| (rw [wL_cons]; array_get_dec))
theorem ct_TX (c : Cd) (m : Nat) : ct c m = (TX c m).length := by
  unfold ct TX
  split
  · rfl
  · rfl
theorem code_vc {c : Cd} (hc : c.Ok) : (toPy c.d).showable = true ∧ (toPy c.d).shown.length ≤ 1000000 ∧ (toPy c.d).depth ≤ 40 := by
  refine repr_vc (okR_cd hc) ?_ ?_
  · have := blk_cd hc; omega
  · have := dpt_cd c; omega
theorem two_int_vc {n : Nat} (h : n ≤ 1000000) : (toPy (.lst [.int (n : Int), .int (n : Int)])).showable = true ∧ (toPy (.lst [.int (n : Int), .int (n : Int)])).shown.length ≤ 1000000 ∧ (toPy (.lst [.int (n : Int), .int (n : Int)])).depth ≤ 40 := by
  have hb : bits (n : Int) ≤ 1900 := Nat.le_trans (bits_pos (n := 20) (by omega) (by omega)) (by decide)
  refine repr_vc ⟨hb, hb, trivial⟩ ?_ ?_
  · simp [blk, blks]
  · simp [dpt, dpts]
/-- whole numbers below n -/
def Sp (n : Nat) (xs : List D) : Prop := ∃ ss : List Nat, xs = ss.map (fun (s : Nat) => D.int (s : Int)) ∧ ∀ s ∈ ss, s < n
theorem Sp.of {n : Nat} : ∀ {xs : List D}, (∀ x ∈ xs, ∃ s : Nat, x = .int (s : Int) ∧ s < n) → Sp n xs
  | [], _ => ⟨[], rfl, fun _ h => (by cases h)⟩
  | x :: xs, h => by
    obtain ⟨s, rfl, hs⟩ := h x (by simp)
    obtain ⟨ss, rfl, hss⟩ := Sp.of (xs := xs) fun y hy => h y (by simp [hy])
    exact ⟨s :: ss, rfl, fun y hy => (List.mem_cons.mp hy).elim (fun e => by rw [e]; exact hs) (hss y)⟩
theorem Sp.mem {n : Nat} {xs : List D} (h : Sp n xs) : ∀ x ∈ xs, ∃ s : Nat, x = .int (s : Int) ∧ s < n := by
  obtain ⟨ss, rfl, hs⟩ := h
  intro x hx
  obtain ⟨s, h1, rfl⟩ := List.mem_map.mp hx
  exact ⟨s, rfl, hs s h1⟩
theorem Sp.range (n : Nat) : Sp n (rangeL 0 n 1) := ⟨List.range n, by
  unfold rangeL
  refine List.map_congr_left fun i _ => ?_
  rw [show (0 : Int) + (i : Int) * 1 = (i : Int) by omega], fun s h => List.mem_range.mp h⟩
theorem cut_sub {α : Type} {xs : List α} {lo hi : Option Int} : ∀ x ∈ cutG xs lo hi, x ∈ xs := fun x h => List.mem_of_mem_drop (List.mem_of_mem_take h)
theorem cut_len {α : Type} {xs : List α} {lo hi : Option Int} : (cutG xs lo hi).length ≤ xs.length := by
  unfold cutG
  rw [List.length_take, List.length_drop]
  omega
theorem Sp.cut {n : Nat} {xs : List D} (h : Sp n xs) (lo hi : Option Int) : Sp n (cutG xs lo hi) := .of fun x hx => h.mem x (cut_sub x hx)
theorem Sp.app {n : Nat} {xs ys : List D} (h : Sp n xs) (k : Sp n ys) : Sp n (xs ++ ys) := .of fun x hx => (List.mem_append.mp hx).elim (h.mem x) (k.mem x)
theorem TX_flat {c : Cd} (hc : c.Ok) {us : List (List Nat)} (h : ∀ u ∈ us, Tx c u) : flatD 40 (.lst (us.map .str)) = true := by
  refine flat_lst fun u hu => ?_
  have : okS u = true := by
    unfold okS
    rw [List.all_eq_true]
    intro x hx
    simpa using (h u hu).lt hc x hx
  rw [flatD]
  exact this
/-- the chosen texts -/
def pick (l : List (List Nat)) (ss : List Nat) : List (List Nat) := ss.map fun s => l.getD s []
theorem pick_snoc (l : List (List Nat)) (ss : List Nat) (s : Nat) : pick l (ss ++ [s]) = pick l ss ++ [l.getD s []] := by unfold pick; rw [List.map_append]; rfl
theorem get_TX {l : List (List Nat)} {s : Nat} (h : s < l.length) : l[s]? = some (l.getD s []) := by rw [List.getD_eq_getElem?_getD, List.getElem?_eq_getElem h]; rfl
/-! the written codes -/
def kd : Cd := ⟨[1, 1], [(97, [1, 2]), (98, [2, 1]), (99, [1, 1, 1])], [], [1]⟩
def ke : Cd := ⟨[1], [(98, [1]), (48, [1]), (97, [2])], [], [1]⟩
theorem kd_ok : kd.Ok where
  st := ⟨by decide, by decide, by decide⟩
  n1 := by decide
  n10 := by decide
  nm := by decide
  nd := by decide
  ws := by
    intro p hp
    simp only [kd, List.mem_cons, List.not_mem_nil, or_false] at hp
    rcases hp with rfl | rfl | rfl <;> exact ⟨by decide, by decide, by decide⟩
  b2 := by decide
  bw := by decide
  sp := ⟨by decide, by decide, by decide⟩
theorem ke_ok : ke.Ok where
  st := ⟨by decide, by decide, by decide⟩
  n1 := by decide
  n10 := by decide
  nm := by decide
  nd := by decide
  ws := by
    intro p hp
    simp only [ke, List.mem_cons, List.not_mem_nil, or_false] at hp
    rcases hp with rfl | rfl | rfl <;> exact ⟨by decide, by decide, by decide⟩
  b2 := by decide
  bw := by decide
  sp := ⟨by decide, by decide, by decide⟩
theorem kd_d : kd.d = .tup [.tup [.int 1, .int 1], .dic (putAll [(.s [97], .tup [.int 1, .int 2]), (.s [98], .tup [.int 2, .int 1]), (.s [99], .tup [.int 1, .int 1, .int 1])]), .tup [], .tup [.int 1]] := by
  rw [put_all (by decide)]
  rfl
theorem ke_d : ke.d = .tup [.tup [.int 1], .dic (putAll [(.s [98], .tup [.int 1]), (.s [48], .tup [.int 1]), (.s [97], .tup [.int 2])]), .tup [], .tup [.int 1]] := by
  rw [put_all (by decide)]
  rfl
theorem kd_ct : (List.range 11).map (ct kd) = [0, 0, 0, 1, 0, 2, 1, 4, 4, 9, 12] := by decide +kernel
theorem kd_tx : txs kd 5 = [[97, 99], [98, 99], [99, 97], [99, 98]] := by decide +kernel
theorem ke_tx : txs ke 1 = [[48], [97], [98]] := by decide +kernel
theorem rg_mem {lo : Int} {n : Nat} {x : D} (h : x ∈ rangeL lo n 1) : ∃ i : Nat, i < n ∧ x = .int (lo + (i : Int)) := by
  unfold rangeL at h
  obtain ⟨i, hi, rfl⟩ := List.mem_map.mp h
  exact ⟨i, List.mem_range.mp hi, by rw [Int.mul_one]⟩
theorem base_le {c : Cd} (hc : c.Ok) : 1 ≤ base c ∧ base c ≤ 14 := by
  have h1 := hc.st
  have h2 := hc.st.2.1
  have h3 := hc.b2
  have h4 := hc.sp.2.1
  have : 1 ≤ c.start.length := by
    have := h1.1
    cases e : c.start with
    | nil => exact absurd e this
    | cons a r => simp
  unfold base
  omega
theorem many_sp {n : Nat} (h1 : 1 ≤ n) (h2 : n ≤ 14) : Sp 100 (D.int 0 :: D.int 1 :: rangeL ((n : Int) - 1) ((n : Int) + 9 - ((n : Int) - 1)).toNat 1) := by
  refine .of fun x hx => ?_
  rcases List.mem_cons.mp hx with rfl | hx
  · exact ⟨0, rfl, by decide⟩
  · rcases List.mem_cons.mp hx with rfl | hx
    · exact ⟨1, rfl, by decide⟩
    · obtain ⟨i, hi, rfl⟩ := rg_mem hx
      have e : (n : Int) - 1 + (i : Int) = ((n - 1 + i : Nat) : Int) := by omega
      exact ⟨n - 1 + i, congrArg D.int e, by omega⟩
/-- a turn of the walk over the numbers of elements -/
theorem many_turn {K m : Nat} {c : Cd} {b : Ob} {x0 x1 x3 x5 x6 : D} {c8 c9 c10 : Cell} {E : Exn → Cells → Prop} {P : Fl → Cells → Prop} (hc : c.Ok) (hm : m ≤ 400) (h : Fo K b) (hK : K ≤ 500000) (f8 : Fre c8) (f9 : Fre c9) (f10 : Fre c10)
    (k : ∀ fl, (fl = .next ∨ fl = .cnt) → ∀ b' c8' c9' c10', Fo (K + 5) b' → Fre c8' → Fre c9' → Fre c10' → P fl [.d x0, .d x1, .o b', .d x3, .d c.d, .d x5, .d x6, .d (.int (m : Int)), c8', c9', c10', .none, .none, .none]) :
    wSs G21 b21_2 [.d x0, .d x1, .o b, .d x3, .d c.d, .d x5, .d x6, .d (.int (m : Int)), c8, c9, c10, .none, .none, .none] E P := by
  array_mem_dec
  refine w__law_texts hc (by omega) (fun tl => ?_) ?_
  · array_get_dec
    refine ⟨f8, ?_⟩
    array_mem_dec
    array_mem_dec
    refine w_count_texts hc hm ?_
    array_get_dec
    refine w_count_texts hc hm ?_
    array_get_dec
    rw [ct_TX]
    refine ⟨f9, ?_⟩
    array_mem_dec
    have vc := two_int_vc (show (TX c m).length ≤ 1000000 by omega)
    refine ⟨vc, vc, ?_⟩
    array_mem_dec
    have tx : ∀ u ∈ TX c m, Tx c u := fun u hu => ((mem_TX hc).mp hu).1
    have gt : ∀ s, s < (TX c m).length → base c ≤ m ∧ (txs c (m - base c))[s]? = some ((TX c m).getD s []) := by
      intro s hs
      have hb : base c ≤ m := by
        unfold TX at hs
        split at hs
        · assumption
        · simp at hs
      refine ⟨hb, ?_⟩
      have := get_TX hs
      unfold TX at this ⊢
      rw [if_pos hb] at this ⊢
      exact this
    generalize TX c m = L at *
    have fin : ∀ (b' : Ob) (c9 : Cell) (xs : List D), Fre c9 → Sp L.length xs → xs.length ≤ 900000 → Fo (K + 5) b' → wSs G21 [s21_16] [.d x0, .d x1, .o b', .d x3, .d c.d, .d x5, .d x6, .d (.int (m : Int)), .o (.lst (L.map .str)), c9, .o (.lst xs), .none, .none, .none] E P := by
      rintro b' c9 _ f9 ⟨ss, rfl, hs⟩ hl hb
      rw [List.length_map] at hl
      have inv : ∀ i : Nat, (pick L (ss.take i)).length ≤ ss.length := fun i => by unfold pick; rw [List.length_map, List.length_take]; omega
      array_mem_dec
      refine wLc_map (f := fun (s : Nat) => D.int (s : Int)) (l := ss) (fun i acc e => acc = (pick L (ss.take i)).map .str ∧ ∃ c12 : Cell, Fre c12 ∧ isOb [c12, .none] 0 = false ∧
        e = [.d x0, .d x1, .o b', .d x3, .d c.d, .d x5, .d x6, .d (.int (m : Int)), .o (.lst (L.map .str)), c9, .d (.lst (ss.map fun (s : Nat) => D.int (s : Int))), .none, c12, .none]) ⟨rfl, .none, trivial, rfl, rfl⟩ ?_ ?_
      · rintro i s acc e hx ⟨rfl, c12, f12, g12, rfl⟩
        have lt := hs s (List.mem_of_getElem? hx)
        have il := (List.getElem?_eq_some_iff.mp hx).1
        have := inv i
        obtain ⟨hb1, hb2⟩ := gt s lt
        array_get_dec
        refine w_nth_text hc hb1 hm hb2 ?_
        array_get_dec
        refine ⟨by omega, ?_⟩
        rw [take_snoc hx, pick_snoc, List.map_append]
        exact ⟨rfl, .d _, trivial, rfl, rfl⟩
      · rintro acc e ⟨rfl, c12, f12, g12, rfl⟩
        rw [List.take_length]
        array_get_dec
        refine wLc_map (f := fun (s : Nat) => D.int (s : Int)) (l := ss) (fun i acc e => acc = (pick L (ss.take i)).map .str ∧ ∃ c12 : Cell, Fre c12 ∧ isOb [c12, .none] 0 = false ∧
          e = [.d x0, .d x1, .o b', .d x3, .d c.d, .d x5, .d x6, .d (.int (m : Int)), .o (.lst (L.map .str)), c9, .d (.lst (ss.map fun (s : Nat) => D.int (s : Int))), .none, c12, .none]) ⟨rfl, .none, trivial, rfl, rfl⟩ ?_ ?_
        · rintro i s acc e hx ⟨rfl, c12, f12, g12, rfl⟩
          have lt := hs s (List.mem_of_getElem? hx)
          have il := (List.getElem?_eq_some_iff.mp hx).1
          have := inv i
          array_get_dec
          refine at_d (k := s) (x := .str (L.getD s [])) (by rw [List.getElem?_map, get_TX lt]; rfl) ⟨by omega, ?_⟩
          rw [take_snoc hx, pick_snoc, List.map_append]
          exact ⟨rfl, .d _, trivial, rfl, rfl⟩
        · rintro acc e ⟨rfl, c12, f12, g12, rfl⟩
          rw [List.take_length]
          array_get_dec
          refine c_ner (TX_flat hc fun u hu => ?_) ?_
          · obtain ⟨s, h1, rfl⟩ := List.mem_map.mp hu
            have := get_TX (hs s h1)
            exact tx _ (List.mem_of_getElem? this)
          · array_get_dec
            exact k .next (.inl rfl) b' _ c9 _ hb trivial f9 trivial
    refine ⟨by omega, f10, ?_⟩
    have sp := Sp.range L.length
    have sl : (rangeL 0 L.length 1).length = L.length := by unfold rangeL; rw [List.length_map, List.length_range]
    generalize rangeL 0 L.length 1 = xs at *
    array_mem_dec
    refine ⟨fun hgt => ?_, fun _ => fin b _ xs trivial sp (by omega) (h.up (by omega))⟩
    have zl : bits (L.length : Int) ≤ 8000 := Nat.le_trans (bits_pos (n := 20) (by omega) (by omega)) (by decide)
    have ca := cut_len (xs := xs) (lo := none) (hi := some 5)
    have cb : (cutG xs none (some 5)).length ≤ 5 := by rw [show (5 : Int) = ((5 : Nat) : Int) from rfl, cut_to, List.length_take]; omega
    have cc := cut_len (xs := xs) (lo := some (-5)) (hi := none)
    have sab := (sp.cut none (some 5)).app (sp.cut (some (-5)) none)
    array_mem_dec
    refine ⟨by omega, ?_⟩
    have lab : (cutG xs none (some 5) ++ cutG xs (some (-5)) none).length ≤ 400005 := by rw [List.length_append]; omega
    generalize cutG xs none (some 5) ++ cutG xs (some (-5)) none = ab at *
    have r5 : rangeL 0 5 1 = (List.range 5).map fun (i : Nat) => D.int (0 + (i : Int) * 1) := rfl
    rw [r5]
    refine wLc_map (f := fun (i : Nat) => D.int (0 + (i : Int) * 1)) (l := List.range 5) (fun i acc e => Sp L.length acc ∧ acc.length = i ∧ ∃ b' c11, Fo (K + i) b' ∧ Fre c11 ∧ isOb [c11, .none, .none] 0 = false ∧
      e = [.d x0, .d x1, .o b', .d x3, .d c.d, .d x5, .d x6, .d (.int (m : Int)), .o (.lst (L.map .str)), .o (.lst [.int (L.length : Int), .int (L.length : Int)]), .o (.lst xs), c11, .none, .none]) ⟨.of fun x h => (by cases h), rfl, b, .none, h, trivial, rfl, rfl⟩ ?_ ?_
    · rintro i s acc e hx ⟨sa, al, b', c11, hb, f11, g11, rfl⟩
      have il : i < 5 := by have := (List.getElem?_eq_some_iff.mp hx).1; simpa using this
      array_get_dec
      refine w__law_dip hb (by omega) (by omega) zl fun r b2 r0 r1 h2 => ?_
      array_get_dec
      refine ⟨by omega, sa.app (.of fun x hx => ?_), by rw [List.length_append, al]; rfl, b2, .d _, h2.up (by omega), trivial, rfl, rfl⟩
      rw [List.mem_singleton.mp hx]
      exact ⟨r.toNat, congrArg D.int (by omega), by omega⟩
    · rintro acc e ⟨sa, al, b', c11, hb, f11, g11, rfl⟩
      rw [List.length_range] at al hb
      array_get_dec
      refine ⟨by omega, ?_⟩
      exact fin b' _ _ trivial (sab.app sa) (by rw [List.length_append]; omega) hb
  · array_get_dec
    refine ⟨f8, ?_⟩
    array_mem_dec
    array_mem_dec
    exact k .cnt (.inr rfl) b (.d .non) c9 c10 (h.up (by omega)) trivial f9 f10
theorem w_law {ns : List Int} {E : Exn → List Ob → Prop} {Q : RO → List Ob → Prop} (hl : ns.length ≤ 63) (kk : Q (.d (.bl true)) []) : wF (F21 [.d (.lst (ns.map .int))]) E Q := by
  refine run21 ?_
  array_mem_dec
  have hm : ∃ n : Nat, n ≤ 3 ∧ (if (if (ns.length : Int) < 3 then (ns.length : Int) else 3) > 1 then (if (ns.length : Int) < 3 then (ns.length : Int) else 3) else 1) = (n : Int) := by
    by_cases h1 : (ns.length : Int) < 3
    · rw [if_pos h1]
      by_cases h2 : (ns.length : Int) > 1
      · exact ⟨ns.length, by omega, by rw [if_pos h2]⟩
      · exact ⟨1, by omega, by rw [if_neg h2]; rfl⟩
    · rw [if_neg h1]
      exact ⟨3, by omega, rfl⟩
  obtain ⟨n, hn4, hn⟩ := hm
  rw [hn]
  array_get_dec
  refine ⟨by omega, ?_⟩
  refine wL_range (fun i e => ∃ c1 c2 c3 c4 c5 c6 c7 c8 c9 c10, Fre c1 ∧ Fre c2 ∧ Fre c3 ∧ Fre c4 ∧ Fre c5 ∧ Fre c6 ∧ Fd c7 ∧ Fre c8 ∧ Fre c9 ∧ Fre c10 ∧ e = [.d (.lst (ns.map .int)), c1, c2, c3, c4, c5, c6, c7, c8, c9, c10, .none, .none, .none]) ⟨.none, .none, .none, .none, .none, .none, .none, .none, .none, .none, trivial, trivial, trivial, trivial, trivial, trivial, .n, trivial, trivial, trivial, rfl⟩ ?_ ?_
  · rintro i e hi ⟨c1, c2, c3, c4, c5, c6, c7, c8, c9, c10, f1, f2, f3, f4, f5, f6, f7, f8, f9, f10, rfl⟩
    rw [show (0 : Int) + (i : Int) * 1 = ((i : Nat) : Int) by omega]
    generalize hP : (fun (fl : Fl) (env2 : Cells) => wKl fl env2 _ _) = P
    array_get_dec
    refine ⟨f1, ?_⟩
    array_mem_dec
    refine w__law_fount (by omega) fun b hb => ?_
    array_get_dec
    refine ⟨f2, ?_⟩
    array_mem_dec
    refine wL_range (fun k e => ∃ b' c3 c4 c5 c6 c7 c8 c9 c10, Fo (2000 * k) b' ∧ Fre c3 ∧ Fre c4 ∧ Fre c5 ∧ Fre c6 ∧ Fd c7 ∧ Fre c8 ∧ Fre c9 ∧ Fre c10 ∧ e = [Cell.d (D.lst (List.map D.int ns)), Cell.d (D.int ↑i), Cell.o b', c3, c4, c5, c6, c7, c8, c9, c10, .none, .none, .none]) ⟨b, c3, c4, c5, c6, c7, c8, c9, c10, hb, f3, f4, f5, f6, f7, f8, f9, f10, rfl⟩ ?_ ?_
    · rintro k e hk ⟨b', c3, c4, c5, c6, c7, c8, c9, c10, hp, f3, f4, f5, f6, f7, f8, f9, f10, rfl⟩
      have hk : k < 4 := hk
      generalize hR : (fun (fl : Fl) (env2 : Cells) => wKl fl env2 _ _) = R
      array_get_dec
      refine ⟨f3, ?_⟩
      array_mem_dec
      refine w__law_dip hp (by omega) (by decide) (by decide) fun r1 b1 y1 z1 h1 => ?_
      array_get_dec
      obtain ⟨q, hq⟩ : ∃ q : Nat, 1 + r1 = (q : Int) := ⟨(1 + r1).toNat, by omega⟩
      rw [hq]
      refine w__law_code h1 (n := q) (l := 3) (by omega) (by omega) (by decide) (by decide) (by omega) fun c b2 hc cl _ h2 => ?_
      array_get_dec
      refine ⟨f4, ?_⟩
      array_mem_dec
      refine ⟨code_vc hc, f5, ?_⟩
      generalize hS : (toPy c.d).shown.cps.toList = S
      array_mem_dec
      rw [cd_0]
      array_get_dec
      rw [cd_2]
      array_get_dec
      rw [cd_3]
      array_get_dec
      have eb : (c.start.length : Int) + (c.between.length : Int) + (c.stop.length : Int) = ((base c : Nat) : Int) := rfl
      rw [eb]
      refine ⟨f6, ?_⟩
      array_mem_dec
      have hbs := base_le hc
      have sp := many_sp hbs.1 hbs.2
      have rl : (rangeL ((base c : Int) - 1) ((base c : Int) + 9 - ((base c : Int) - 1)).toNat 1).length = 10 := by unfold rangeL; rw [List.length_map, List.length_range]; omega
      refine ⟨⟨by omega, by omega⟩, by omega, ?_⟩
      have sl : (D.int 0 :: D.int 1 :: rangeL ((base c : Int) - 1) ((base c : Int) + 9 - ((base c : Int) - 1)).toNat 1).length = 12 := by rw [List.length_cons, List.length_cons, rl]
      obtain ⟨ms, em, hms⟩ := sp
      rw [em, List.length_map] at sl
      rw [em]
      refine wL_map (f := fun (m : Nat) => D.int (m : Int)) (l := ms) (fun j e => ∃ b' c7 c8 c9 c10, Fo (2000 * k + 500 + 5 * j) b' ∧ Fd c7 ∧ Fre c8 ∧ Fre c9 ∧ Fre c10 ∧ e = [Cell.d (D.lst (List.map D.int ns)), Cell.d (D.int ↑i), Cell.o b', .d (.int (0 + (k : Int) * 1)), .d c.d, .d (.str S), .d (.int (base c : Int)), c7, c8, c9, c10, .none, .none, .none]) ⟨b2, c7, c8, c9, c10, h2.up (by omega), f7, f8, f9, f10, rfl⟩ ?_ ?_
      · rintro j m e hx ⟨b', c7, c8, c9, c10, hb, f7, f8, f9, f10, rfl⟩
        have jl := (List.getElem?_eq_some_iff.mp hx).1
        have ml := hms m (List.mem_of_getElem? hx)
        array_get_dec
        refine ⟨f7.fre, ?_⟩
        refine many_turn hc (by omega) hb (by omega) f8 f9 f10 fun fl hfl b'' c8' c9' c10' h' g8 g9 g10 => ?_
        rcases hfl with rfl | rfl
        · array_get_dec
          exact ⟨b'', .d _, c8', c9', c10', h'.up (by omega), .d _, g8, g9, g10, rfl⟩
        · array_get_dec
          exact ⟨b'', .d _, c8', c9', c10', h'.up (by omega), .d _, g8, g9, g10, rfl⟩
      · rintro e ⟨b', c7, c8, c9, c10, hb, f7, f8, f9, f10, rfl⟩
        array_get_dec
        array_mem_dec
        refine ⟨code_vc hc, fun z => absurd hS z, fun _ => ?_⟩
        rw [← hR]
        array_get_dec
        exact ⟨b', .d _, .d _, .d _, .d _, c7, c8, c9, c10, hb.up (by omega), trivial, trivial, trivial, trivial, f7, f8, f9, f10, rfl⟩
    · rintro e ⟨b', c3, c4, c5, c6, c7, c8, c9, c10, hp, f3, f4, f5, f6, f7, f8, f9, f10, rfl⟩
      array_get_dec
      rw [← hP]
      array_get_dec
      exact ⟨.d _, .o _, _, _, _, _, _, _, _, _, trivial, trivial, f3, f4, f5, f6, f7, f8, f9, f10, rfl⟩
  · rintro e ⟨c1, c2, c3, c4, c5, c6, c7, c8, c9, c10, f1, f2, f3, f4, f5, f6, f7, f8, f9, f10, rfl⟩
    array_get_dec
    array_mem_dec
    rw [← kd_d]
    refine ⟨f4, ?_⟩
    array_mem_dec
    have r11 : rangeL 0 11 1 = (List.range 11).map fun (i : Nat) => D.int ((i : Nat) : Int) := rfl
    have r4 : rangeL 0 4 1 = (List.range 4).map fun (i : Nat) => D.int ((i : Nat) : Int) := rfl
    have r3 : rangeL 0 3 1 = (List.range 3).map fun (i : Nat) => D.int ((i : Nat) : Int) := rfl
    rw [r11, r4]
    refine ⟨f7.ob, ?_⟩
    refine wLc_map (f := fun (i : Nat) => D.int ((i : Nat) : Int)) (l := List.range 11) (fun i acc e => acc = (((List.range 11).take i).map (ct kd)).map (fun (s : Nat) => D.int (s : Int)) ∧ ∃ c7' : Cell, Fd c7' ∧
      e = [.d (.lst (ns.map .int)), c1, c2, c3, .d kd.d, c5, c6, c7', c8, c9, c10, .none, .none, .none]) ⟨rfl, c7, f7, rfl⟩ ?_ ?_
    · rintro i m acc e hx ⟨rfl, d7, g7, rfl⟩
      have ml : m < 11 := List.mem_range.mp (List.mem_of_getElem? hx)
      have il : i < 11 := by have := (List.getElem?_eq_some_iff.mp hx).1; simpa using this
      array_get_dec
      refine w_count_texts kd_ok (by omega) ?_
      array_get_dec
      refine ⟨by rw [List.length_take]; omega, ?_⟩
      rw [take_snoc hx, List.map_append, List.map_append]
      exact ⟨rfl, .d _, .d _, rfl⟩
    rintro acc e ⟨rfl, d7, g7, rfl⟩
    rw [List.take_length, kd_ct]
    array_get_dec
    refine wLc_map (f := fun (i : Nat) => D.int ((i : Nat) : Int)) (l := List.range 4) (fun i acc e => acc = (pick [[97, 99], [98, 99], [99, 97], [99, 98]] ((List.range 4).take i)).map .str ∧ ∃ c13 : Cell, Fd c13 ∧
      e = [.d (.lst (ns.map .int)), c1, c2, c3, .d kd.d, c5, c6, c7, c8, c9, c10, .none, .none, c13]) ⟨rfl, .none, .n, rfl⟩ ?_ ?_
    · rintro i s acc e hx ⟨rfl, d13, g13, rfl⟩
      have sl : s < 4 := List.mem_range.mp (List.mem_of_getElem? hx)
      have il : i < 4 := by have := (List.getElem?_eq_some_iff.mp hx).1; simpa using this
      array_get_dec
      refine w_nth_text (m := 8) (u := [[97, 99], [98, 99], [99, 97], [99, 98]].getD s []) kd_ok (by decide) (by decide) (by rw [show 8 - base kd = 5 by decide, kd_tx]; exact get_TX sl) ?_
      array_get_dec
      refine ⟨by unfold pick; rw [List.length_map, List.length_take]; omega, ?_⟩
      rw [take_snoc hx, pick_snoc, List.map_append]
      exact ⟨rfl, .d _, .d _, rfl⟩
    rintro acc e ⟨rfl, d13, g13, rfl⟩
    rw [List.take_length]
    array_get_dec
    refine ⟨by decide, f9, ?_⟩
    array_mem_dec
    have pk : (pick [[97, 99], [98, 99], [99, 97], [99, 98]] (List.range 4)).map D.str = [D.str [97, 99], .str [98, 99], .str [99, 97], .str [99, 98]] := rfl
    rw [pk]
    refine c_ner (by decide) ?_
    array_get_dec
    array_mem_dec
    rw [← ke_d]
    array_get_dec
    array_mem_dec
    rw [r3]
    refine wLc_map (f := fun (i : Nat) => D.int ((i : Nat) : Int)) (l := List.range 3) (fun i acc e => acc = (pick [[48], [97], [98]] ((List.range 3).take i)).map .str ∧ ∃ c13 : Cell, Fd c13 ∧
      e = [.d (.lst (ns.map .int)), c1, c2, c3, .d ke.d, c5, c6, c7, c8, .o (.lst [D.int 0, D.int 0, D.int 0, D.int 1, D.int 0, D.int 2, D.int 1, D.int 4, D.int 4, D.int 9, D.int 12, D.str [97, 99], D.str [98, 99], D.str [99, 97], D.str [99, 98]]), c10, .none, .none, c13]) ⟨rfl, .none, .n, rfl⟩ ?_ ?_
    · rintro i s acc e hx ⟨rfl, d13, g13, rfl⟩
      have sl : s < 3 := List.mem_range.mp (List.mem_of_getElem? hx)
      have il : i < 3 := by have := (List.getElem?_eq_some_iff.mp hx).1; simpa using this
      array_get_dec
      refine w_nth_text (m := 3) (u := [[48], [97], [98]].getD s []) ke_ok (by decide) (by decide) (by rw [show 3 - base ke = 1 by decide, ke_tx]; exact get_TX sl) ?_
      array_get_dec
      refine ⟨by unfold pick; rw [List.length_map, List.length_take]; omega, ?_⟩
      rw [take_snoc hx, pick_snoc, List.map_append]
      exact ⟨rfl, .d _, .d _, rfl⟩
    rintro acc e ⟨rfl, d13, g13, rfl⟩
    rw [List.take_length]
    array_get_dec
    have pk2 : (pick [[48], [97], [98]] (List.range 3)).map D.str = [D.str [48], .str [97], .str [98]] := rfl
    rw [pk2]
    refine c_eqr (by decide) ?_
    array_get_dec
    exact kk
end K03

set_option Elab.async false
set_option linter.all false
set_option maxRecDepth 100000
set_option maxHeartbeats 800000
namespace K03
open PySem Fx
local macro_rules
  | `(tactic| array_get_dec) => `(tactic| try simp only [↓wO_some, ↓wO_none, ↓wO_map, ↓wO_bind, ↓wO_ite, ↓wLook_0, ↓wLook_s, ↓wSet_0, ↓wSet_s, ↓wCv_d, ↓wCv_o, ↓wCv_io, ↓wCg_d, ↓wCg_ol, ↓wCg_iol, ↓wCg_od, ↓wCg_iod, ↓wG_d, ↓wG_nl, ↓wG_nd, ↓wG_own, ↓wCz_d, ↓wCz_ol, ↓wCz_od, ↓wZ_d, ↓wZ_nl, ↓wZ_nd, ↓wZ_own, ↓wGs_nil, ↓wGs_cons, ↓wZs_nil, ↓wZs_cons, ↓wCo_o, ↓wCo_io, ↓wCp_o, ↓wCp_io, ↓wCs_eq, ↓wAd_nm, ↓wAd_tup, ↓wAds_nil, ↓wAds_cons, ↓wA_d, ↓wA_n, ↓wA_own, ↓wA_tup, ↓wAs_nil, ↓wAs_cons, ↓wD_bl, ↓wD_non, ↓wD_int, ↓wD_lst, ↓wD_tup, ↓wD_str, ↓wB_bl, ↓wE_var, ↓wT_var, ↓wE_cst, ↓wT_cst, ↓wE_bin, ↓wT_bin, ↓wE_neg, ↓wE_not, ↓wT_not, ↓wE_cmp, ↓wT_cmp, ↓wE_chain, ↓wT_chain, ↓wE_and, ↓wE_or, ↓wT_and, ↓wT_or, ↓wE_ite, ↓wT_ite, ↓wE_tup, ↓wE_lst, ↓wT_tup, ↓wT_lst, ↓wE_blt, ↓wT_blt, ↓wE_isinst, ↓wT_isinst, ↓wE_mth, ↓wE_ix, ↓wT_ix, ↓wEo_none, ↓wN_int, ↓wEo_some, ↓wE_sl, ↓wE_rev, ↓wEs_nil, ↓wEs_cons, ↓wE_mut, ↓wPre_nil, ↓wPre_io, ↓wPre_d, ↓wArg_nil, ↓wArg_d, ↓wArg_io, ↓wBack_nil, ↓wBack_cons, ↓wE_call, ↓wT_call, ↓wC_0, ↓wC_1, ↓wCc_go, ↓wI_e, ↓wI_items, ↓wI_values, ↓wI_enum, ↓wI_zip, ↓wI_range, ↓wE_col, ↓wEc_none, ↓wEc_some, ↓wE_lc, ↓wK_next, ↓wK_ret, ↓wK_brk, ↓wK_cnt, ↓wKl_next, ↓wKl_cnt, ↓wKl_brk, ↓wKl_ret, ↓wS_asg, ↓wPar_t, ↓wPar_f, ↓wS_par, ↓wS_set, ↓wS_expr, ↓wS_ifs, ↓wS_ret, ↓wS_retN, ↓wS_brk, ↓wS_cnt, ↓wS_pas, ↓wS_never, ↓wCa_int, ↓wS_aug, ↓wS_fors, ↓wS_whl, ↓wCr_o, ↓wCr_d, ↓wOut_d, ↓wOut_n, ↓wOut_own, ↓wFl_next, ↓wFl_ret, ↓wIo_io, ↓d_add, ↓d_sub, ↓d_mul, ↓d_fdiv, ↓d_mod, ↓d_pow, ↓d_adds, ↓d_addl, ↓d_addt, ↓d_mull, ↓d_muls, ↓d_neg, ↓c_lt, ↓c_le, ↓c_gt, ↓c_ge, ↓c_eqi, ↓c_nei, ↓c_eqb, ↓c_neb, ↓c_eqs, ↓c_nes, ↓c_in3, ↓c_isN_non, ↓c_isN_int, ↓c_isN_tup, ↓c_isN_lst, ↓c_isN_str, ↓c_isN_bl, ↓c_isN_dic, ↓c_notN_non, ↓c_notN_int, ↓c_notN_tup, ↓c_notN_lst, ↓c_notN_str, ↓c_notN_bl, ↓c_notN_dic, ↓b_lens, ↓b_lenl, ↓b_lent, ↓b_lend, ↓b_abs, ↓b_max, ↓b_min, ↓b_inti, ↓b_intb, ↓b_listl, ↓b_listt, ↓b_tupl, ↓b_tupt, ↓b_repr, ↓b_all, ↓b_any, ↓b_sum, ↓asB_nil, ↓asB_cons, ↓asB_map, ↓asI_nil, ↓asI_cons, ↓asI_map, ↓m_append, ↓m_extend, ↓m_extendt, ↓i_lst, ↓i_tup, ↓i_str, ↓r_1, ↓r_2, ↓e_1, ↓z_l, ↓z_2, ↓s_l, ↓s_t, ↓s_s, ↓v_l, ↓v_s, ↓x_l, ↓x_t, ↓x_s, ↓x_d, ↓k_i, ↓k_s, ↓u_add, ↓u_sub, ↓toR_d, ↓toR_n, ↓wPut_s, ↓wPut_o, ↓wPut_io, ↓at_0, ↓at_1, ↓at_2, ↓at_3, ↓at_4, ↓at_5, ↓at_m1, ↓wLast_1, ↓wLast_s, ↓wLast_app, ↓setD_l, ↓setD_d, ↓ixN_0, ↓ixN_1, ↓ixN_2, ↓br_t, ↓br_f, ↓wL_nil, ↓wLc_nil, ↓wSs_nil, enumL, zipL, dfl2, List.drop_succ_cons, List.drop_zero, Fre_io, Fre_o, Fre_d, Fre_n, obAt_s, obAt_0o, obAt_0io, obAt_0d, obAt_0n, isL_s, isL_o, isL_io, isOb_s, isOb_0d, isOb_0n, ioIdx_nil, ioIdx_d, ioIdx_io, wipeC_nil, wipeC_cons, restC_nil, restC_cons, noOwn_nil, noOwn_d, noOwn_n, noOwn_o, lim_is, tyD, argCell, Option.isSome_some, List.set_cons_succ, List.set_cons_zero, List.getElem?_cons_succ, List.getElem?_cons_zero, Option.getD_some, List.any_cons, List.any_nil, List.nodup_nil, List.nodup_cons, List.not_mem_nil, List.mem_cons, List.length_cons, List.length_nil, List.length_map, Nat.zero_add, true_and, and_true, forall_const, reduceCtorEq, false_implies, true_implies, Bool.not_true, Bool.not_false, Bool.or_false, Bool.false_or, Bool.or_true, Bool.true_or, Bool.and_true, Bool.true_and, Bool.and_false, Bool.false_and, Bool.not_eq_true, Bool.not_eq_false, Bool.not_eq_true', Bool.not_eq_false', decide_eq_true_eq, decide_eq_false_iff_not, Bool.false_eq_true, Bool.true_eq_false, beq_iff_eq, beq_eq_false_iff_ne, ne_eq, not_false_eq_true, not_true_eq_false, List.cons_append, List.nil_append, List.map_cons, List.map_nil, Bool.decide_eq_true, Int.toNat_natCast, Int.natAbs_natCast, abs_lit, Int.cast_ofNat_Int, Nat.reduceAdd, Nat.reduceMul, Nat.reduceSub, Nat.reduceLeDiff, Nat.reduceLT, Nat.reduceGT, Nat.reduceEqDiff, Int.reduceAdd, Int.reduceMul, Int.reduceSub, Int.reduceNeg, Int.reduceLT, Int.reduceLE, Int.reduceGT, Int.reduceGE, Int.reduceEq, Int.reduceNe, Int.reducePow, Int.reduceToNat, Int.reduceBEq, Int.reduceBNe, List.all_cons, List.all_nil, List.any_cons, List.any_nil, id_eq])
local macro_rules
  | `(tactic| array_mem_dec) => `(tactic| (refine wStep ?_; simp only [↓wO_some, ↓wO_none, ↓wO_map, ↓wO_bind, ↓wO_ite, ↓wLook_0, ↓wLook_s, ↓wSet_0, ↓wSet_s, ↓wCv_d, ↓wCv_o, ↓wCv_io, ↓wCg_d, ↓wCg_ol, ↓wCg_iol, ↓wCg_od, ↓wCg_iod, ↓wG_d, ↓wG_nl, ↓wG_nd, ↓wG_own, ↓wCz_d, ↓wCz_ol, ↓wCz_od, ↓wZ_d, ↓wZ_nl, ↓wZ_nd, ↓wZ_own, ↓wGs_nil, ↓wGs_cons, ↓wZs_nil, ↓wZs_cons, ↓wCo_o, ↓wCo_io, ↓wCp_o, ↓wCp_io, ↓wCs_eq, ↓wAd_nm, ↓wAd_tup, ↓wAds_nil, ↓wAds_cons, ↓wA_d, ↓wA_n, ↓wA_own, ↓wA_tup, ↓wAs_nil, ↓wAs_cons, ↓wD_bl, ↓wD_non, ↓wD_int, ↓wD_lst, ↓wD_tup, ↓wD_str, ↓wB_bl, ↓wE_var, ↓wT_var, ↓wE_cst, ↓wT_cst, ↓wE_bin, ↓wT_bin, ↓wE_neg, ↓wE_not, ↓wT_not, ↓wE_cmp, ↓wT_cmp, ↓wE_chain, ↓wT_chain, ↓wE_and, ↓wE_or, ↓wT_and, ↓wT_or, ↓wE_ite, ↓wT_ite, ↓wE_tup, ↓wE_lst, ↓wT_tup, ↓wT_lst, ↓wE_blt, ↓wT_blt, ↓wE_isinst, ↓wT_isinst, ↓wE_mth, ↓wE_ix, ↓wT_ix, ↓wEo_none, ↓wN_int, ↓wEo_some, ↓wE_sl, ↓wE_rev, ↓wEs_nil, ↓wEs_cons, ↓wE_mut, ↓wPre_nil, ↓wPre_io, ↓wPre_d, ↓wArg_nil, ↓wArg_d, ↓wArg_io, ↓wBack_nil, ↓wBack_cons, ↓wE_call, ↓wT_call, ↓wC_0, ↓wC_1, ↓wCc_go, ↓wI_e, ↓wI_items, ↓wI_values, ↓wI_enum, ↓wI_zip, ↓wI_range, ↓wE_col, ↓wEc_none, ↓wEc_some, ↓wE_lc, ↓wK_next, ↓wK_ret, ↓wK_brk, ↓wK_cnt, ↓wKl_next, ↓wKl_cnt, ↓wKl_brk, ↓wKl_ret, ↓wS_asg, ↓wPar_t, ↓wPar_f, ↓wS_par, ↓wS_set, ↓wS_expr, ↓wS_ifs, ↓wS_ret, ↓wS_retN, ↓wS_brk, ↓wS_cnt, ↓wS_pas, ↓wS_never, ↓wCa_int, ↓wS_aug, ↓wS_fors, ↓wS_whl, ↓wCr_o, ↓wCr_d, ↓wOut_d, ↓wOut_n, ↓wOut_own, ↓wFl_next, ↓wFl_ret, ↓wIo_io, ↓d_add, ↓d_sub, ↓d_mul, ↓d_fdiv, ↓d_mod, ↓d_pow, ↓d_adds, ↓d_addl, ↓d_addt, ↓d_mull, ↓d_muls, ↓d_neg, ↓c_lt, ↓c_le, ↓c_gt, ↓c_ge, ↓c_eqi, ↓c_nei, ↓c_eqb, ↓c_neb, ↓c_eqs, ↓c_nes, ↓c_in3, ↓c_isN_non, ↓c_isN_int, ↓c_isN_tup, ↓c_isN_lst, ↓c_isN_str, ↓c_isN_bl, ↓c_isN_dic, ↓c_notN_non, ↓c_notN_int, ↓c_notN_tup, ↓c_notN_lst, ↓c_notN_str, ↓c_notN_bl, ↓c_notN_dic, ↓b_lens, ↓b_lenl, ↓b_lent, ↓b_lend, ↓b_abs, ↓b_max, ↓b_min, ↓b_inti, ↓b_intb, ↓b_listl, ↓b_listt, ↓b_tupl, ↓b_tupt, ↓b_repr, ↓b_all, ↓b_any, ↓b_sum, ↓asB_nil, ↓asB_cons, ↓asB_map, ↓asI_nil, ↓asI_cons, ↓asI_map, ↓m_append, ↓m_extend, ↓m_extendt, ↓i_lst, ↓i_tup, ↓i_str, ↓r_1, ↓r_2, ↓e_1, ↓z_l, ↓z_2, ↓s_l, ↓s_t, ↓s_s, ↓v_l, ↓v_s, ↓x_l, ↓x_t, ↓x_s, ↓x_d, ↓k_i, ↓k_s, ↓u_add, ↓u_sub, ↓toR_d, ↓toR_n, ↓wPut_s, ↓wPut_o, ↓wPut_io, ↓at_0, ↓at_1, ↓at_2, ↓at_3, ↓at_4, ↓at_5, ↓at_m1, ↓wLast_1, ↓wLast_s, ↓wLast_app, ↓setD_l, ↓setD_d, ↓ixN_0, ↓ixN_1, ↓ixN_2, ↓br_t, ↓br_f, ↓wL_nil, ↓wLc_nil, ↓wSs_nil, enumL, zipL, dfl2, List.drop_succ_cons, List.drop_zero, Fre_io, Fre_o, Fre_d, Fre_n, obAt_s, obAt_0o, obAt_0io, obAt_0d, obAt_0n, isL_s, isL_o, isL_io, isOb_s, isOb_0d, isOb_0n, ioIdx_nil, ioIdx_d, ioIdx_io, wipeC_nil, wipeC_cons, restC_nil, restC_cons, noOwn_nil, noOwn_d, noOwn_n, noOwn_o, lim_is, tyD, argCell, Option.isSome_some, List.set_cons_succ, List.set_cons_zero, List.getElem?_cons_succ, List.getElem?_cons_zero, Option.getD_some, List.any_cons, List.any_nil, List.nodup_nil, List.nodup_cons, List.not_mem_nil, List.mem_cons, List.length_cons, List.length_nil, List.length_map, Nat.zero_add, true_and, and_true, forall_const, reduceCtorEq, false_implies, true_implies, Bool.not_true, Bool.not_false, Bool.or_false, Bool.false_or, Bool.or_true, Bool.true_or, Bool.and_true, Bool.true_and, Bool.and_false, Bool.false_and, Bool.not_eq_true, Bool.not_eq_false, Bool.not_eq_true', Bool.not_eq_false', decide_eq_true_eq, decide_eq_false_iff_not, Bool.false_eq_true, Bool.true_eq_false, beq_iff_eq, beq_eq_false_iff_ne, ne_eq, not_false_eq_true, not_true_eq_false, List.cons_append, List.nil_append, List.map_cons, List.map_nil, Bool.decide_eq_true, Int.toNat_natCast, Int.natAbs_natCast, abs_lit, Int.cast_ofNat_Int, Nat.reduceAdd, Nat.reduceMul, Nat.reduceSub, Nat.reduceLeDiff, Nat.reduceLT, Nat.reduceGT, Nat.reduceEqDiff, Int.reduceAdd, Int.reduceMul, Int.reduceSub, Int.reduceNeg, Int.reduceLT, Int.reduceLE, Int.reduceGT, Int.reduceGE, Int.reduceEq, Int.reduceNe, Int.reducePow, Int.reduceToNat, Int.reduceBEq, Int.reduceBNe, List.all_cons, List.all_nil, List.any_cons, List.any_nil, id_eq]))
local macro_rules
  | `(tactic| apply_ext_theorem) => `(tactic| (rw [wLc_cons]; array_get_dec))
local macro_rules
  | `(tactic| nofun) => `(tactic| (rw [wL_cons]; array_get_dec))
theorem ans (ns : List Int) (hl : ns.length ≤ 63) : runF G21 N21.length c21 [.d (.lst (ns.map .int))] = .ok (.d (.bl true)) [] := by
  obtain ⟨r, ios, h1, h2, h3⟩ := wF_ex (w_law (Q := fun r ios => r = .d (.bl true) ∧ ios = []) hl ⟨rfl, rfl⟩)
  subst h2
  subst h3
  exact h1
end K03
set_option maxRecDepth 100000 in
set_option maxHeartbeats 0 in
theorem PySem.Challenge.cw_scanbars_k03_texts_with_so_many_elements_holds : PySem.Challenge.rw_scanbars_k03_texts_with_so_many_elements.Holds := by
  exact K03.holds K03.ans

