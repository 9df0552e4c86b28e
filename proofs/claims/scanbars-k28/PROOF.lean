import PyProof.Rows.All
import Wide.All
import OpenK.AllK
import Wide.FinOn
import HandS.ForMost
import HandS.Defaults
import HandS.TupMul
import HandS.Wide
import HandS.WideBits
import HandS.TupAny
import HandS.IsInst
import HandS.Style
import HandS.Deep
import HandS.TupLe
import HandS.More
import PyProof.ListStr
import HandS.Small
import HandS.Iter
import HandS.Zip
import KE.GoesMore
import KE.GoesEnum
import HandS.ListItems
import KE.KDictZip
import KE.KDictItemsList
import HandS.Dict
import HandS.Text
import HandS.SortInts
import HandS.Comp
import HandS.Codes
import HandS.TupSets
import KE.KRevSl
import PyProof.Rows.StrRev
import PyProof.SliceStr2
import HandS.Exc
import KE.KStateDown
import HandS.Head0
import HandS.Head1
import HandS.Head2
import HandS.HeadEnd
import HandS.HeadHook1
import HandS.HeadHook2
import PySem.Challenge.RW_scanbars_k28_contrasts_of_rows
set_option Elab.async false
set_option linter.all false
set_option maxRecDepth 100000
/-! Fx1: data D, how data lies in the abstract heap (Rp, View), cells of a frame (Rel), what a step keeps (Step). -/
namespace Fx
open L2 PyProof.Rows PySem PySem.Spec

/-- a key of a dict -/
inductive DK where
  | i (n : Int) | s (l : List Nat)
  deriving DecidableEq
/-- data -/
inductive D where
  | non | bl (b : Bool) | int (i : Int) | str (s : List Nat) | tup (xs : List D) | lst (xs : List D) | dic (kvs : List (DK × D))

def mkS (l : List Nat) : Str := ⟨l.toArray⟩
def DK.toKey : DK → Key
  | .i n => .inl n
  | .s l => .inr (mkS l)
def DK.toD : DK → D
  | .i n => .int n
  | .s l => .str l

/-- which objects may be read -/
abbrev RdA := Addr → HO → Prop
def SqTA (K : PySem.W.Frag) (A : RdA) (a : Addr) (xs : List V) : Prop :=
  A a (.tup xs) ∨
    (∃ (o : Obj) (its : Array Value) (n : Nat), K.lookup a = some o ∧ o.cls = .type "tuple" ∧ o.data = .seq its n ∧ its.size ≤ sizeLine ∧ Vals xs its.toList)

/-- a list that stood before the law ran -/
def KLst (K : PySem.W.Frag) (a : Addr) (xs : List V) : Prop := ∃ (its : Array Value) (n : Nat), K.lookup a = some { cls := .type "list", data := .seq its n } ∧ its.size ≤ sizeLine ∧ Vals xs its.toList
def LsA (K : PySem.W.Frag) (A : RdA) (a : Addr) (xs : List V) : Prop := A a (.lst xs) ∨ KLst K a xs
def LsH (K : PySem.W.Frag) (H : Hp) (a : Addr) (xs : List V) : Prop := Rd H a (.lst xs) ∨ KLst K a xs
theorem LsH.seq {K : PySem.W.Frag} {H : Hp} {a : Addr} {xs : List V} (h : LsH K H a xs) : SqL K H a xs := by
  rcases h with h | ⟨its, n, h1, h2, h3⟩
  · exact .inl h
  · exact .inr ⟨_, its, n, h1, rfl, rfl, rfl, h2, h3⟩
theorem LsA.mono {K : PySem.W.Frag} {A A' : RdA} (h : ∀ a u, A a u → A' a u) {a : Addr} {xs : List V} (q : LsA K A a xs) : LsA K A' a xs := q.imp (h _ _) id
theorem LsA.heap {K : PySem.W.Frag} {A : RdA} {H : Hp} (h : ∀ a u, A a u → Rd H a u) {a : Addr} {xs : List V} (q : LsA K A a xs) : LsH K H a xs := q.imp (h _ _) id

mutual
/-- v is the data d, through objects that A lets read -/
def Rp (K : PySem.W.Frag) (A : RdA) : D → V → Prop
  | .non, v => v = .non
  | .bl b, v => v = .bl b
  | .int i, v => v = .int i
  | .str s, v => v = .str (mkS s)
  | .tup ds, v => ∃ a xs, v = .ref a ∧ SqTA K A a xs ∧ RpL K A ds xs
  | .lst ds, v => ∃ a xs, v = .ref a ∧ LsA K A a xs ∧ RpL K A ds xs
  | .dic kvs, v => ∃ a ys, v = .ref a ∧ A a (.dK ys) ∧ RpD K A kvs ys
def RpL (K : PySem.W.Frag) (A : RdA) : List D → List V → Prop
  | [], xs => xs = []
  | d :: ds, xs => ∃ x r, xs = x :: r ∧ Rp K A d x ∧ RpL K A ds r
def RpD (K : PySem.W.Frag) (A : RdA) : List (DK × D) → List (Key × V) → Prop
  | [], ys => ys = []
  | (k, d) :: kvs, ys => ∃ x r, ys = (k.toKey, x) :: r ∧ Rp K A d x ∧ RpD K A kvs r
end

section
variable {K : PySem.W.Frag} {A A' : RdA}
theorem SqTA.mono (h : ∀ a u, A a u → A' a u) {a : Addr} {xs : List V} (q : SqTA K A a xs) : SqTA K A' a xs := q.imp (h _ _) id
mutual
theorem Rp.mono (h : ∀ a u, A a u → A' a u) : ∀ (d : D) (v : V), Rp K A d v → Rp K A' d v
  | .non, _, q => by simpa [Rp] using q
  | .bl b, _, q => by simpa [Rp] using q
  | .int i, _, q => by simpa [Rp] using q
  | .str s, _, q => by simpa [Rp] using q
  | .tup ds, v, q => by
    simp only [Rp] at q ⊢
    obtain ⟨a, xs, e, hs, hr⟩ := q
    exact ⟨a, xs, e, hs.mono h, RpL.mono h ds xs hr⟩
  | .lst ds, v, q => by
    simp only [Rp] at q ⊢
    obtain ⟨a, xs, e, hs, hr⟩ := q
    exact ⟨a, xs, e, hs.mono h, RpL.mono h ds xs hr⟩
  | .dic kvs, v, q => by
    simp only [Rp] at q ⊢
    obtain ⟨a, ys, e, hs, hr⟩ := q
    exact ⟨a, ys, e, h _ _ hs, RpD.mono h kvs ys hr⟩
theorem RpL.mono (h : ∀ a u, A a u → A' a u) : ∀ (ds : List D) (xs : List V), RpL K A ds xs → RpL K A' ds xs
  | [], _, q => by simpa [RpL] using q
  | d :: ds, xs, q => by
    simp only [RpL] at q ⊢
    obtain ⟨x, r, e, hd, hr⟩ := q
    exact ⟨x, r, e, Rp.mono h d x hd, RpL.mono h ds r hr⟩
theorem RpD.mono (h : ∀ a u, A a u → A' a u) : ∀ (kvs : List (DK × D)) (ys : List (Key × V)), RpD K A kvs ys → RpD K A' kvs ys
  | [], _, q => by simpa [RpD] using q
  | (k, d) :: kvs, ys, q => by
    simp only [RpD] at q ⊢
    obtain ⟨x, r, e, hd, hr⟩ := q
    exact ⟨x, r, e, Rp.mono h d x hd, RpD.mono h kvs r hr⟩
end
theorem RpL.nil : RpL K A [] [] := by simp [RpL]
theorem RpL.cons {d : D} {ds : List D} {x : V} {xs : List V} (h : Rp K A d x) (t : RpL K A ds xs) : RpL K A (d :: ds) (x :: xs) := by
  simp only [RpL]; exact ⟨x, xs, rfl, h, t⟩
theorem RpL.length : ∀ {ds : List D} {xs : List V}, RpL K A ds xs → xs.length = ds.length
  | [], _, h => by simp only [RpL] at h; subst h; rfl
  | d :: ds, _, h => by
    simp only [RpL] at h
    obtain ⟨x, r, rfl, _, t⟩ := h
    simp [RpL.length t]
theorem RpL.get : ∀ {ds : List D} {xs : List V} {i : Nat} {d : D}, RpL K A ds xs → ds[i]? = some d → ∃ x, xs[i]? = some x ∧ Rp K A d x
  | [], _, i, d, _, e => by simp at e
  | d0 :: ds, _, i, d, h, e => by
    simp only [RpL] at h
    obtain ⟨x, r, rfl, hd, t⟩ := h
    cases i with
    | zero => simp at e; subst e; exact ⟨x, by simp, hd⟩
    | succ i =>
      obtain ⟨y, e1, e2⟩ := RpL.get (i := i) t (by simpa using e)
      exact ⟨y, by simpa using e1, e2⟩
theorem RpL.getV {ds : List D} {xs : List V} {i : Nat} {x : V} (h : RpL K A ds xs) (e : xs[i]? = some x) : ∃ d, ds[i]? = some d ∧ Rp K A d x := by
  have hl := h.length
  have hi : i < ds.length := by rw [← hl]; exact (List.getElem?_eq_some_iff.mp e).1
  obtain ⟨y, e1, r⟩ := h.get (List.getElem?_eq_getElem hi)
  rw [e] at e1; cases e1
  exact ⟨_, List.getElem?_eq_getElem hi, r⟩
theorem RpL.append : ∀ {ds es : List D} {xs ys : List V}, RpL K A ds xs → RpL K A es ys → RpL K A (ds ++ es) (xs ++ ys)
  | [], _, _, _, h, k => by simp only [RpL] at h; subst h; exact k
  | d :: ds, es, _, ys, h, k => by
    simp only [RpL] at h
    obtain ⟨x, r, rfl, hd, t⟩ := h
    exact RpL.cons hd (RpL.append t k)
theorem RpL.take (n : Nat) : ∀ {ds : List D} {xs : List V}, RpL K A ds xs → RpL K A (ds.take n) (xs.take n) := by
  induction n with
  | zero => intro ds xs _; simp [RpL]
  | succ n ih =>
    intro ds xs h
    cases ds with
    | nil => simp only [RpL] at h; subst h; simp [RpL]
    | cons d ds =>
      simp only [RpL] at h
      obtain ⟨x, r, rfl, hd, t⟩ := h
      exact RpL.cons hd (ih t)
theorem RpL.drop (n : Nat) : ∀ {ds : List D} {xs : List V}, RpL K A ds xs → RpL K A (ds.drop n) (xs.drop n) := by
  induction n with
  | zero => intro ds xs h; simpa using h
  | succ n ih =>
    intro ds xs h
    cases ds with
    | nil => simp only [RpL] at h; subst h; simp [RpL]
    | cons d ds =>
      simp only [RpL] at h
      obtain ⟨x, r, rfl, hd, t⟩ := h
      exact ih t
theorem RpL.reverse : ∀ {ds : List D} {xs : List V}, RpL K A ds xs → RpL K A ds.reverse xs.reverse
  | [], _, h => by simp only [RpL] at h; subst h; simp [RpL]
  | d :: ds, _, h => by
    simp only [RpL] at h
    obtain ⟨x, r, rfl, hd, t⟩ := h
    simp only [List.reverse_cons]
    exact RpL.append (RpL.reverse t) (RpL.cons hd RpL.nil)
theorem RpL.set {d : D} {x : V} (hd : Rp K A d x) (n : Nat) : ∀ {ds : List D} {xs : List V}, RpL K A ds xs → RpL K A (ds.set n d) (xs.set n x) := by
  induction n with
  | zero =>
    intro ds xs h
    cases ds with
    | nil => simp only [RpL] at h; subst h; simp [RpL]
    | cons e ds =>
      simp only [RpL] at h
      obtain ⟨y, r, rfl, _, t⟩ := h
      exact RpL.cons hd t
  | succ n ih =>
    intro ds xs h
    cases ds with
    | nil => simp only [RpL] at h; subst h; simp [RpL]
    | cons e ds =>
      simp only [RpL] at h
      obtain ⟨y, r, rfl, he, t⟩ := h
      exact RpL.cons he (ih t)
theorem RpL.eraseIdx (n : Nat) : ∀ {ds : List D} {xs : List V}, RpL K A ds xs → RpL K A (ds.eraseIdx n) (xs.eraseIdx n) := by
  induction n with
  | zero =>
    intro ds xs h
    cases ds with
    | nil => simp only [RpL] at h; subst h; simp [RpL]
    | cons e ds =>
      simp only [RpL] at h
      obtain ⟨y, r, rfl, _, t⟩ := h
      simpa using t
  | succ n ih =>
    intro ds xs h
    cases ds with
    | nil => simp only [RpL] at h; subst h; simp [RpL]
    | cons e ds =>
      simp only [RpL] at h
      obtain ⟨y, r, rfl, he, t⟩ := h
      simpa using RpL.cons he (ih t)
theorem RpD.length : ∀ {kvs : List (DK × D)} {ys : List (Key × V)}, RpD K A kvs ys → ys.length = kvs.length
  | [], _, h => by simp only [RpD] at h; subst h; rfl
  | (k, d) :: kvs, _, h => by
    simp only [RpD] at h
    obtain ⟨x, r, rfl, _, t⟩ := h
    simp [RpD.length t]
end

/-- what is in the heap -/
abbrev All (H : Hp) : RdA := fun a u => Rd H a u
/-- a value looked at: the outer object as the heap has it, what is within through A -/
def View (K : PySem.W.Frag) (A : RdA) (H : Hp) : D → V → Prop
  | .non, v => v = .non
  | .bl b, v => v = .bl b
  | .int i, v => v = .int i
  | .str s, v => v = .str (mkS s)
  | .tup ds, v => ∃ a xs, v = .ref a ∧ SqT K H a xs ∧ RpL K A ds xs
  | .lst ds, v => ∃ a xs, v = .ref a ∧ LsH K H a xs ∧ RpL K A ds xs
  | .dic kvs, v => ∃ a ys, v = .ref a ∧ Rd H a (.dK ys) ∧ RpD K A kvs ys
def ViewL (K : PySem.W.Frag) (A : RdA) (H : Hp) : List D → List V → Prop
  | [], xs => xs = []
  | d :: ds, xs => ∃ x r, xs = x :: r ∧ View K A H d x ∧ ViewL K A H ds r
section
variable {K : PySem.W.Frag} {A A' : RdA} {H H' : Hp}
theorem SqTA.seq (h : ∀ a u, A a u → Rd H a u) {a : Addr} {xs : List V} (q : SqTA K A a xs) : SqT K H a xs := q.imp (h _ _) id
theorem Rp.view (h : ∀ a u, A a u → Rd H a u) {d : D} {v : V} (q : Rp K A d v) : View K A H d v := by
  cases d <;> simp only [Rp, View] at q ⊢ <;> try exact q
  · obtain ⟨a, xs, e, hs, hr⟩ := q; exact ⟨a, xs, e, hs.seq h, hr⟩
  · obtain ⟨a, xs, e, hs, hr⟩ := q; exact ⟨a, xs, e, hs.heap h, hr⟩
  · obtain ⟨a, ys, e, hs, hr⟩ := q; exact ⟨a, ys, e, h _ _ hs, hr⟩
theorem ViewL.length : ∀ {ds : List D} {xs : List V}, ViewL K A H ds xs → xs.length = ds.length
  | [], _, h => by simp only [ViewL] at h; subst h; rfl
  | d :: ds, _, h => by
    simp only [ViewL] at h
    obtain ⟨x, r, rfl, _, t⟩ := h
    simp [ViewL.length t]
/-- all of it, through the heap -/
theorem View.all (h : ∀ a u, A a u → Rd H a u) {d : D} {v : V} (q : View K A H d v) : Rp K (All H) d v := by
  cases d <;> simp only [Rp, View] at q ⊢ <;> try exact q
  · obtain ⟨a, xs, e, hs, hr⟩ := q; exact ⟨a, xs, e, hs, RpL.mono h _ _ hr⟩
  · obtain ⟨a, xs, e, hs, hr⟩ := q; exact ⟨a, xs, e, hs, RpL.mono h _ _ hr⟩
  · obtain ⟨a, ys, e, hs, hr⟩ := q; exact ⟨a, ys, e, hs, RpD.mono h _ _ hr⟩
end

/-! ### cells -/
/-- an object that one slot owns -/
inductive Ob where
  | lst (ds : List D) | dic (kvs : List (DK × D))
def Ob.toD : Ob → D
  | .lst ds => .lst ds
  | .dic kvs => .dic kvs
/-- nothing known; data; an object that the slot owns; one that the caller lent (it stays in its slot) -/
inductive Cell where
  | none | d (x : D) | o (b : Ob) | io (b : Ob)
def Cell.ob : Cell → Option Ob
  | .o b => some b
  | .io b => some b
  | _ => Option.none
abbrev Cells := List Cell
def obAt (env : Cells) (i : Nat) : Option Ob := env[i]?.bind Cell.ob
def putOb (env : Cells) (i : Nat) (b : Ob) : Cells := match env[i]? with
  | some (.io _) => env.set i (.io b)
  | _ => env.set i (.o b)
/-- the value of an expression: data; the object that slot i owns; a new object that nothing else holds -/
inductive R where
  | d (x : D) | own (i : Nat) | new (b : Ob)
def R.get (env : Cells) : R → Option D
  | .d x => some x
  | .own i => match env[i]? with
    | some (.o b) => some b.toD
    | some (.io b) => some b.toD
    | some (.d x) => some x
    | _ => Option.none
  | .new b => some b.toD

def ObR (K : PySem.W.Frag) (A : RdA) (H : Hp) : Ob → Addr → Prop
  | .lst ds, p => ∃ xs, H p = some (.lst xs) ∧ RpL K A ds xs
  | .dic kvs, p => ∃ ys, H p = some (.dK ys) ∧ RpD K A kvs ys
/-- the addresses of what the slots own -/
def Ow (env : Cells) (σ : L2.St) (a : Addr) : Prop := ∃ (i : Nat) (b : Ob), obAt env i = some b ∧ σ[i]? = some (some (.ref a))
/-- what may be read as data: all but what the slots own -/
def Av (O : Addr → Prop) (env : Cells) (σ : L2.St) (H : Hp) : RdA := fun a u => ¬ Ow env σ a ∧ ¬ O a ∧ Rd H a u
/-- O: new objects that nothing holds yet -/
abbrev un (O P : Addr → Prop) : Addr → Prop := fun a => O a ∨ P a
def CellR (K : PySem.W.Frag) (A : RdA) (H : Hp) : Cell → Option (Option V) → Prop
  | .none, _ => True
  | .d x, w => ∃ v, w = some (some v) ∧ Rp K A x v
  | .o b, w => ∃ p, w = some (some (.ref p)) ∧ ObR K A H b p
  | .io b, w => ∃ p, w = some (some (.ref p)) ∧ ObR K A H b p
structure Rel (K : PySem.W.Frag) (O : Addr → Prop) (env : Cells) (σ : L2.St) (H : Hp) : Prop where
  len : env.length = σ.length
  at_ : ∀ (i : Nat) (c : Cell), env[i]? = some c → CellR K (Av O env σ H) H c σ[i]?
  inj : ∀ (i j : Nat) (b b' : Ob) (p : Addr), obAt env i = some b → obAt env j = some b' → σ[i]? = some (some (.ref p)) → σ[j]? = some (some (.ref p)) → i = j
  hid : ∀ a, O a → (∃ o, H a = some o ∧ Mut (some o)) ∧ ¬ Ow env σ a

/-- what stays: what nobody owned; what was not owned is not owned later; what stood stands -/
structure Step (env : Cells) (σ : L2.St) (H : Hp) (env' : Cells) (σ' : L2.St) (H' : Hp) : Prop where
  kp : ∀ a o, H a = some o → ¬ Ow env σ a → H' a = some o
  ow : ∀ a, H a ≠ none → ¬ Ow env σ a → ¬ Ow env' σ' a
  th : ∀ a, H a ≠ none → H' a ≠ none
  io : ∀ (i : Nat) (b : Ob), env[i]? = some (.io b) → σ'[i]? = σ[i]? ∧ ∃ b', env'[i]? = some (.io b')

section
variable {K : PySem.W.Frag} {O : Addr → Prop} {env env1 env2 : Cells} {σ σ1 σ2 : L2.St} {H H1 H2 : Hp}
theorem Step.refl : Step env σ H env σ H := ⟨fun _ _ e _ => e, fun _ _ h => h, fun _ h => h, fun _ _ h => ⟨rfl, _, h⟩⟩
theorem Step.trans (a : Step env σ H env1 σ1 H1) (b : Step env1 σ1 H1 env2 σ2 H2) : Step env σ H env2 σ2 H2 where
  kp := fun x o e n => b.kp x o (a.kp x o e n) (a.ow x (by rw [e]; simp) n)
  ow := fun x e n => b.ow x (a.th x e) (a.ow x e n)
  th := fun x e => b.th x (a.th x e)
  io := fun i x e => by
    obtain ⟨e1, y, e2⟩ := a.io i x e
    obtain ⟨e3, z, e4⟩ := b.io i y e2
    exact ⟨e3.trans e1, z, e4⟩
/-- what may be read may be read later -/
theorem Step.avN {N : Addr → Prop} (s : Step env σ H env1 σ1 H1) (hN : ∀ a, N a → H a = none) (a : Addr) (u : HO) (h : Av O env σ H a u) : Av (un O N) env1 σ1 H1 a u := by
  obtain ⟨n, m, r⟩ := h
  rcases r with r | ⟨od, r⟩
  · exact ⟨s.ow a (by rw [r]; simp) n, fun z => Or.elim z m fun z => (by rw [hN a z] at r; cases r), .inl (s.kp a _ r n)⟩
  · exact ⟨s.ow a (by rw [r]; simp) n, fun z => Or.elim z m fun z => (by rw [hN a z] at r; cases r), .inr ⟨od, s.kp a _ r n⟩⟩
theorem Step.av (s : Step env σ H env1 σ1 H1) (a : Addr) (u : HO) (h : Av O env σ H a u) : Av O env1 σ1 H1 a u := by
  obtain ⟨n, m, r⟩ := h
  rcases r with r | ⟨od, r⟩
  · exact ⟨s.ow a (by rw [r]; simp) n, m, .inl (s.kp a _ r n)⟩
  · exact ⟨s.ow a (by rw [r]; simp) n, m, .inr ⟨od, s.kp a _ r n⟩⟩
theorem av_anti {O' : Addr → Prop} (h : ∀ a, O' a → O a) (a : Addr) (u : HO) (k : Av O env σ H a u) : Av O' env σ H a u := ⟨k.1, fun z => k.2.1 (h a z), k.2.2⟩
theorem Step.rp (s : Step env σ H env1 σ1 H1) {d : D} {v : V} (h : Rp K (Av O env σ H) d v) : Rp K (Av O env1 σ1 H1) d v := Rp.mono s.av d v h
theorem Step.rpL (s : Step env σ H env1 σ1 H1) {d : List D} {v : List V} (h : RpL K (Av O env σ H) d v) : RpL K (Av O env1 σ1 H1) d v := RpL.mono s.av d v h
theorem Step.rpD (s : Step env σ H env1 σ1 H1) {d : List (DK × D)} {v : List (Key × V)} (h : RpD K (Av O env σ H) d v) : RpD K (Av O env1 σ1 H1) d v := RpD.mono s.av d v h
theorem av_rd {a : Addr} {u : HO} (h : Av O env σ H a u) : Rd H a u := h.2.2
theorem obAt_some {env : Cells} {i : Nat} {b : Ob} (h : obAt env i = some b) : env[i]? = some (.o b) ∨ env[i]? = some (.io b) := by
  unfold obAt at h
  cases e : env[i]? with
  | none => (rw [e] at h; cases h)
  | some c =>
    rw [e] at h
    cases c with
    | none => cases h
    | d x => cases h
    | o b' => cases h; exact .inl rfl
    | io b' => cases h; exact .inr rfl
theorem obAt_o {env : Cells} {i : Nat} {b : Ob} (h : env[i]? = some (.o b)) : obAt env i = some b := by unfold obAt; rw [h]; rfl
theorem obAt_io {env : Cells} {i : Nat} {b : Ob} (h : env[i]? = some (.io b)) : obAt env i = some b := by unfold obAt; rw [h]; rfl
/-- an owned object: where, and how it lies -/
theorem Rel.ob (r : Rel K O env σ H) {i : Nat} {b : Ob} (h : obAt env i = some b) : ∃ p, σ[i]? = some (some (.ref p)) ∧ ObR K (Av O env σ H) H b p := by
  rcases obAt_some h with e | e
  · exact r.at_ i _ e
  · exact r.at_ i _ e
theorem Rel.own_there (r : Rel K O env σ H) {a : Addr} (h : Ow env σ a) : H a ≠ none := by
  obtain ⟨i, b, e, e2⟩ := h
  obtain ⟨p, e3, q⟩ := r.ob e
  rw [e2] at e3; cases e3
  cases b with
  | lst ds => obtain ⟨xs, q, _⟩ := q; rw [q]; simp
  | dic kvs => obtain ⟨xs, q, _⟩ := q; rw [q]; simp
theorem Rel.fresh_not (r : Rel K O env σ H) {a : Addr} (h : H a = none) : ¬ Ow env σ a := fun o => r.own_there o h
/-- the heap grows -/
theorem Step.grow (g : Same H H1) : Step env σ H env σ H1 where
  kp := fun a o e _ => g a o e
  ow := fun _ _ h => h
  th := fun a h e => by
    cases q : H a with
    | none => exact h q
    | some o => rw [g a o q] at e; cases e
  io := fun _ _ h => ⟨rfl, _, h⟩
theorem ObR.mono {A A' : RdA} (h : ∀ a u, A a u → A' a u) {b : Ob} {p : Addr} (e : H1 p = H p) (q : ObR K A H b p) : ObR K A' H1 b p := by
  cases b with
  | lst ds => obtain ⟨xs, q, r⟩ := q; exact ⟨xs, e.trans q, RpL.mono h _ _ r⟩
  | dic kvs => obtain ⟨xs, q, r⟩ := q; exact ⟨xs, e.trans q, RpD.mono h _ _ r⟩
theorem ObR.some {A : RdA} {b : Ob} {p : Addr} (q : ObR K A H b p) : ∃ o, H p = some o ∧ Mut (some o) := by
  cases b with
  | lst ds => obtain ⟨xs, q, r⟩ := q; exact ⟨_, q, trivial⟩
  | dic kvs => obtain ⟨xs, q, r⟩ := q; exact ⟨_, q, trivial⟩
theorem Rel.grow (r : Rel K O env σ H) (g : Same H H1) : Rel K O env σ H1 where
  len := r.len
  at_ := fun i c e => by
    have st : Step env σ H env σ H1 := Step.grow g
    have q := r.at_ i c e
    cases c with
    | none => trivial
    | d x => obtain ⟨v, e1, h⟩ := q; exact ⟨v, e1, st.rp h⟩
    | o b =>
      obtain ⟨p, e1, h⟩ := q
      obtain ⟨o, ho, _⟩ := h.some
      exact ⟨p, e1, h.mono st.av ((g p o ho).trans ho.symm)⟩
    | io b =>
      obtain ⟨p, e1, h⟩ := q
      obtain ⟨o, ho, _⟩ := h.some
      exact ⟨p, e1, h.mono st.av ((g p o ho).trans ho.symm)⟩
  inj := r.inj
  hid := fun a h => by
    obtain ⟨⟨o, ho, m⟩, n⟩ := r.hid a h
    exact ⟨⟨o, g a o ho, m⟩, n⟩
/-- fewer are hidden -/
theorem Rel.less {O' : Addr → Prop} (r : Rel K O env σ H) (h : ∀ a, O' a → O a) : Rel K O' env σ H where
  len := r.len
  at_ := fun i c e => by
    have q := r.at_ i c e
    cases c with
    | none => trivial
    | d x => obtain ⟨v, e1, q⟩ := q; exact ⟨v, e1, Rp.mono (av_anti h) _ _ q⟩
    | o b => obtain ⟨p, e1, q⟩ := q; exact ⟨p, e1, q.mono (av_anti h) rfl⟩
    | io b => obtain ⟨p, e1, q⟩ := q; exact ⟨p, e1, q.mono (av_anti h) rfl⟩
  inj := r.inj
  hid := fun a z => r.hid a (h a z)
/-- the heap grows, what is new is hidden -/
theorem Rel.growN {N : Addr → Prop} (r : Rel K O env σ H) (g : Same H H1) (hN : ∀ a, N a → H a = none ∧ ∃ o, H1 a = some o ∧ Mut (some o)) : Rel K (un O N) env σ H1 where
  len := r.len
  at_ := fun i c e => by
    have st : Step env σ H env σ H1 := Step.grow g
    have av := st.avN (O := O) fun a z => (hN a z).1
    have q := r.at_ i c e
    cases c with
    | none => trivial
    | d x => obtain ⟨v, e1, h⟩ := q; exact ⟨v, e1, Rp.mono av _ _ h⟩
    | o b =>
      obtain ⟨p, e1, h⟩ := q
      obtain ⟨o, ho, _⟩ := h.some
      exact ⟨p, e1, h.mono av ((g p o ho).trans ho.symm)⟩
    | io b =>
      obtain ⟨p, e1, h⟩ := q
      obtain ⟨o, ho, _⟩ := h.some
      exact ⟨p, e1, h.mono av ((g p o ho).trans ho.symm)⟩
  inj := r.inj
  hid := fun a h => by
    rcases h with h | h
    · obtain ⟨⟨o, ho, m⟩, n⟩ := r.hid a h
      exact ⟨⟨o, g a o ho, m⟩, n⟩
    · exact ⟨(hN a h).2, r.fresh_not (hN a h).1⟩
theorem same_new {H : Hp} {p : Addr} {o : HO} (h : H p = none) : Same H (upd H p o) := fun b x e => by
  rw [upd_ne (ne_of_none e h)]
  exact e
end

/-- a set of objects to read: within the heap; no tuple is left out -/
structure GoodA (A : RdA) (H : Hp) : Prop where
  rd : ∀ a u, A a u → Rd H a u
  tp : ∀ a xs, Rd H a (.tup xs) → A a (.tup xs)
theorem GoodA.tup {K : PySem.W.Frag} {A : RdA} {H : Hp} (g : GoodA A H) {a : Addr} {xs : List V} (h : SqT K H a xs) : SqTA K A a xs := h.imp (g.tp _ _) id
theorem not_mut {H : Hp} {a : Addr} {xs : List V} (h : Rd H a (.tup xs)) {o : HO} (e : H a = some o) (m : Mut (some o)) : False := by
  rcases h with h | ⟨od, h⟩
  · rw [h] at e; cases e; exact m
  · rw [h] at e; cases e; exact m
theorem av_good {K : PySem.W.Frag} {O : Addr → Prop} {env : Cells} {σ : L2.St} {H : Hp} (rel : Rel K O env σ H) : GoodA (Av O env σ H) H where
  rd := fun _ _ h => h.2.2
  tp := fun a xs h => ⟨fun o => by
    obtain ⟨i, b, e, e2⟩ := o
    obtain ⟨p, e3, q⟩ := rel.ob e
    rw [e2] at e3; cases e3
    obtain ⟨o, ho, m⟩ := q.some
    exact not_mut h ho m, fun z => by
      obtain ⟨⟨o, ho, m⟩, _⟩ := rel.hid a z
      exact not_mut h ho m, h⟩
/-- what an operation hands back: data (old or new), or a new object -/
inductive RO where
  | d (x : D) | new (b : Ob)
/-- through A, and what is new -/
def Gr (A : RdA) (H H' : Hp) : RdA := fun a u => A a u ∨ (H a = none ∧ Rd H' a u)
def ROR (K : PySem.W.Frag) (A : RdA) (H H' : Hp) : RO → V → Prop
  | .d x, v => Rp K (Gr A H H') x v
  | .new b, v => ∃ p, v = .ref p ∧ H p = none ∧ (∃ o, H' p = some o ∧ Mut (some o)) ∧ ObR K A H' b p
def RO.toR : RO → R
  | .d x => .d x
  | .new b => .new b
/-- how the value of an expression lies, behind it; H: the heap ahead of it -/
def RR (K : PySem.W.Frag) (O : Addr → Prop) (env : Cells) (σ : L2.St) (H H' : Hp) : R → V → Prop
  | .d x, v => Rp K (Av O env σ H') x v
  | .own i, v => σ[i]? = some (some v)
  | .new b, v => ∃ p, v = .ref p ∧ H p = none ∧ ObR K (Av O env σ H') H' b p
/-- the new object that a value is -/
def nw : R → V → Addr → Prop
  | .new _, v, a => v = .ref a
  | _, _, _ => False
def nws : List R → List V → Addr → Prop
  | r :: rs, v :: vs, a => nw r v a ∨ nws rs vs a
  | _, _, _ => False
end Fx

set_option Elab.async false
set_option linter.all false
set_option maxRecDepth 100000
/-! Fx0: promises of defs for states in which no repr is under way (guards empty): for repr(..) of containers. -/
namespace Fx
open L2 PyProof.Rows PySem PySem.Spec

structure FnG (P : Program) (w : World) (K : PySem.W.Frag) (mg : Str → Option Value) (base : Heap) (CX : CXT) (k : Nat)
    (f : Addr) (fd : FuncData) (ps : List Str) (sp : Sp) : Prop where
  len : ∀ args H Q E, sp args H Q E → args.length = ps.length
  run : ∀ (A : Around) (fs : List Env) (s : Shared) (H : Hp) (ar : Args) (us : List Value) (vs : List V) (Q : VK) (E : XK),
    Room k A → A.guards = some [] → Env0 P w K mg base A fs s H → BindsTo s fd ar (ps.zip us) → Vals vs us → sp vs H Q E →
    codeAny (model P w) A (.call (.ref f) ar) (CR CX fs P w H s Q E) s

section
variable {P : Program} {w : World} {K : PySem.W.Frag} {mg : Str → Option Value} {base : Heap} {CX : CXT} {k : Nat}
  {f : Addr} {fd : FuncData} {ps : List Str} {sp : Sp}

theorem FnG.up {j : Nat} (F : FnG P w K mg base CX j f fd ps sp) (h : j ≤ k) : FnG P w K mg base CX k f fd ps sp where
  len := F.len
  run := fun A fs s H ar us vs Q E hr => F.run A fs s H ar us vs Q E (hr.mono h)

/-- a def by its body, in a state without guards -/
theorem fnG_of {nm ql : Str} {params : Arguments} {body : List Stmt} {scope : Scope} {dvs : List V} {kws : List (Str × V)} {N : List Str} (F : FunD K nm ql params body scope dvs kws f fd) (S : FnScope N ps scope)
    (len : ∀ args H Q E, sp args H Q E → args.length = ps.length)
    (hbody : ∀ (cd : Value) (A : Around) (fs : List Env) (s : Shared) (H : Hp) (vs : List V) (Q : VK) (E : XK),
      Room k (A.deeper (envOfC ql scope s.heap.objs.size f cd)) → A.guards = some [] → sp vs H Q E →
      ∃ t, PSs (cxOf CX P w K mg base N ql scope f cd A fs s H E) body t ∧
        t { nx := fun _ H' => Q .non H', rt := Q } (start N vs) H) :
    FnG P w K mg base CX (k + 1) f fd ps sp := by
  obtain ⟨oc, od, dV, kV, doc, pm, an, cd, ct, osl, rfl, lk, hcd, _⟩ := F.ex
  constructor
  · exact len
  intro A fs s H ar us vs Q E room hg e0 hb rv hsp
  have lenv := len vs H Q E hsp
  have hin : K.In s.heap := Frag_in e0
  have nolim : s.heap.NoLimit := e0.mod.nolimit.keeps fun b o e => (e0.bs b o e).1
  refine codeAny_call_function room.depth (hin _ _ lk) rfl S.co S.gen rfl (PySem.W.codeRec_of hin hcd) (hb _ _ _ _ ?_)
  refine wpAny_newFunctionEnv_cells S.kind ?_ ?_
  · rintro ⟨n, v⟩ hy
    have hn := (List.of_mem_zip hy).1
    cases S.par n hn with
    | inl q => exact Or.inl q
    | inr q => exact Or.inr ⟨q, PySem.W.cellsFrom_some _ _ _ (Or.inl q)⟩
  · intro env he s1 x
    subst he
    refine ⟨nolim.keeps x.toInCall.keep, codeAny_func ?_⟩
    obtain ⟨t, ht, hq⟩ := hbody cd A fs s H vs Q E (room.deeper _) hg hsp
    have I := inv_start (E := E) (CX := CX) S room.hd e0 lenv rv x
    refine wpAny_mono (ht.run [] s1 (start N vs) H _ I hq) ?_ (fun _ _ h => h)
    intro fl s' hs
    cases fl with
    | ret u =>
      obtain ⟨v, σ2, H2, J, rv2, q⟩ := hs
      exact ⟨v, H2, J.os, J.bare, J.base, J.hok, rv2, q⟩
    | next =>
      obtain ⟨σ2, H2, J, q⟩ := hs
      exact ⟨.non, H2, J.os, J.bare, J.base, J.hok, rfl, q⟩
    | brk => obtain ⟨_, _, _, q⟩ := hs; exact q.elim
    | cont => obtain ⟨_, _, _, q⟩ := hs; exact q.elim
where
  Frag_in {A : Around} {fs : List Env} {s : Shared} {H : Hp} (e0 : Env0 P w K mg base A fs s H) : K.In s.heap :=
    e0.mod.kin.keeps fun b o e => (e0.bs b o e).1
end

section
variable {X : Cx} {CX : CXT} {k : Nat} {f : Addr} {fd : FuncData} {ps : List Str} {sp : Sp} {dvs : List V} {ds : List Value} {E : XK} {x : Str}
  {p pos : Pos} {e : Expr} {es : List Expr} {t : TA}

/-- the callee runs, by values -/
theorem callG (F : FnG X.prog X.w X.K X.mg X.base CX k f fd ps sp) (hr : Room k X.A) (hg : X.A.guards = some []) (hb : Binds X.K fd ps ds) (hd : Vals dvs ds)
    (hx : Passes CX X E) {pns : List (Addr × Obj)} {σ : L2.St} {H : Hp} {s : Shared} {Q : VK} {us : List Value} {vs : List V}
    (I : Inv X pns σ H s) (r : Vals vs us) (h : sp (vs ++ dvs) H Q E) :
    wpAny (model X.prog X.w) X.A (call (.ref f) us) (EP X pns σ Q) X.xe s := by
  have r2 := r.append hd
  have hl : (us ++ ds).length = ps.length := r2.length.symm.trans (F.len _ _ _ _ h)
  have go := F.run X.A X.stack s H ⟨us, []⟩ (us ++ ds) (vs ++ dvs) Q E hr hg I.env0 (hb s us I.kIn hl) r2 h
  refine wpAny_call (codeAny_mono go ?_)
  intro res s' hq
  cases res with
  | error er => exact hx pns σ H s er s' I hq
  | ok fl =>
    cases fl with
    | ret u => exact I.after hq
    | next => exact hq.elim
    | brk => exact hq.elim
    | cont => exact hq.elim
/-- f(e, ..) -/
theorem pe_callG (F : FnG X.prog X.w X.K X.mg X.base CX k f fd ps sp) (hr : Room k X.A) (hg : X.A.guards = some []) (hgl : Gl X x)
    (hm : X.mg x = some (.ref f)) (hk : PySem.W.keepIn X.K (.ref f) = true) (hb : Binds X.K fd ps ds) (hd : Vals dvs ds) (hx : Passes CX X E)
    (ha : PA X (e :: es) t) (hdb : (x == ("__debug__" : Str)) = false)
    (he : starEach (e :: es) X.env = (false, eval e X.env) :: starEach es X.env)
    (hpl : (backTo pos (starEach es X.env)).any (·.1) = false) : PE X (.Call (.Name x p) (e :: es) [] pos) (tCall sp dvs E t) := by
  constructor
  intro pns s σ H Q I h
  refine wpAny_Call_Name_kw (ld_glob I hgl hm ?_ hdb)
  refine PySem.W.callWith_K (h₀ := X.base) I.ok.mod.kin hk ?_ he hpl
  refine thn (ha.run pos pns s σ H _ I h) ?_
  rintro us s1 ⟨vs, H1, I1, r, q⟩
  exact ⟨I1.kIn, callG F hr hg hb hd hx I1 r q⟩
end

/-- the modules' dict is there -/
def SysOk (base : Heap) : Prop := ∃ o es ep, base.get? sysModules = some o ∧ o.data = .dict es ep
/-- the law's call: from the promise of its def to the row's walk -/
theorem lawG {P : Program} {w : World} {K : PySem.W.Frag} {mg mb : Str → Option Value} {CX : CXT} {k : Nat} {fa a : Addr} {fd : FuncData} {x : Str} {sp : Sp}
    {s₁ : Shared} {vs : List Value} {ns : List Int} (KX : K.In s₁.heap) (hns : s₁.heap.Ns mainGlobals mg) (hb : s₁.heap.Ns builtinsNs mb)
    (hbb : ∀ x : Str, x ≠ "__name__" → mb x = bootBuiltins x) (hlim : s₁.heap.NoLimit) (hg : s₁.gens = #[])
    (ha : s₁.heap.get? a = some { cls := .type "list", data := .seq vs.toArray })
    (hi : IntsAre vs ns) (hl : ns.length ≤ sizeLine) (hr : Room k callerA) (hsys : ∃ mods, s₁.heap.Ns sysModules mods)
    (F : ∀ base : Heap, K.In base → base.Ns mainGlobals mg → SysOk base → FnG P w K mg base CX k fa fd [x] sp)
    (hbind : ∀ (s : Shared) (u : Value), BindsTo s fd ⟨[u], []⟩ [(x, u)])
    (hsp : ∀ H : Hp, Only H → LsH K H a (ns.map V.int) → sp [.ref a] H (fun v _ => v = .bl true) fun _ _ _ => False)
    (hCX : ∀ H exc st, CX [] H s₁ (fun _ _ _ => False) exc st → False) :
    codeAny (model P w) callerA (.call (.ref fa) ⟨[.ref a], []⟩)
      (fun r s' => r = .ok (.ret (.bool true)) ∧ OldK s₁.heap s'.heap ∧ s'.os = s₁.os ∧ AllBare s'.gens) s₁ := by
  have rv := vals_ints hi
  have lenV := hi.length
  have core : ∀ H : Hp, Only H → LsH K H a (ns.map V.int) → HOk P w H s₁.heap → (∀ b, H b ≠ none → b = a) → (H a ≠ none → K.lookup a = none) →
      codeAny (model P w) callerA (.call (.ref fa) ⟨[.ref a], []⟩)
        (fun r s' => r = .ok (.ret (.bool true)) ∧ OldK s₁.heap s'.heap ∧ s'.os = s₁.os ∧ AllBare s'.gens) s₁ := by
    intro H only hS hok only_a noK
    have free_of : ∀ b, b ≠ a → H b = none := fun b hb => by
      cases q : H b with
      | none => rfl
      | some u => exact absurd (only_a b (by rw [q]; simp)) hb
    have dict_free : ∀ {b : Addr} {o : Obj} {es : Array DictEntry} {ep : Nat}, s₁.heap.get? b = some o → o.data = .dict es ep → H b = none := by
      intro b o es ep e d
      by_cases hb : b = a
      · subst hb
        rw [ha] at e
        cases e
        exact nomatch (show Data.seq vs.toArray _ = Data.dict es ep from d)
      · exact free_of b hb
    have nsB : ∀ {b : Addr} {m : Str → Option Value}, s₁.heap.Ns b m → (hidT s₁.heap H).Ns b m := by
      rintro b m ⟨o, es, ep, e, d, r⟩
      exact ⟨o, es, ep, hidT_get e (dict_free e d), d, r⟩
    have inB : K.In (hidT s₁.heap H) := by
      intro b o e
      refine hidT_get (KX b o e) ?_
      cases q : H b with
      | none => rfl
      | some u =>
        have hb : b = a := only_a b (by rw [q]; simp)
        subst hb
        rw [noK (by rw [q]; simp)] at e
        cases e
    have hM : Mod K mg (hidT s₁.heap H) := ⟨inB, nsB hns, ⟨mb, nsB hb, hbb⟩, let ⟨mc, q1, q2⟩ := hlim; ⟨mc, nsB q1, q2⟩⟩
    have e0 : Env0 P w K mg (hidT s₁.heap H) callerA [] s₁ H :=
      ⟨rfl, hM, fun b o e => of_hidT e, Nat.le_of_eq (hidT_size _ _), trivial, (fun b z => (List.not_mem_nil (show b ∈ ([] : List Addr) from z)).elim), hok, .of_eq hg⟩
    have sysB : SysOk (hidT s₁.heap H) := by
      obtain ⟨mm, q⟩ := hsys
      obtain ⟨o, es, ep, e, d, _⟩ := nsB q
      exact ⟨o, es, ep, e, d⟩
    refine codeAny_mono ((F _ inB (nsB hns) sysB).run callerA [] s₁ H ⟨[.ref a], []⟩ [.ref a] [.ref a] _ _ hr rfl e0 (hbind s₁ (.ref a)) (.cons rfl .nil) (hsp H only hS)) ?_
    intro r s' h
    cases r with
    | error exc => exact absurd h (hCX H exc s')
    | ok fl =>
      cases fl with
      | next => exact h.elim
      | brk => exact h.elim
      | cont => exact h.elim
      | ret u =>
        obtain ⟨v, H', os, bare, un, hok', isTrue, q⟩ := h
        obtain rfl : v = .bl true := q
        cases (isTrue : u = Value.bool true)
        refine ⟨rfl, OldK.of_keep ?_, os, bare⟩
        intro b o e
        cases q : H b with
        | none => exact un.keep b o e q (fun z => List.not_mem_nil (show b ∈ ([] : List Addr) from z)) (by simp)
        | some u =>
          rcases only b with z | ⟨ob, xs, z⟩
          · rw [q] at z; cases z
          · obtain ⟨e1, _⟩ := hok b _ z
            obtain ⟨e2, _⟩ := hok' b _ (un.frzs b ob _ z)
            rw [e] at e1
            cases e1
            exact e2
  by_cases hk : ∃ o, K.lookup a = some o
  · obtain ⟨o, hk⟩ := hk
    have e := KX a o hk
    rw [ha] at e
    cases e
    refine core (fun _ => none) (fun _ => .inl rfl) (.inr ⟨vs.toArray, _, hk, ?_, by simpa using rv⟩) ?_ (fun b z => absurd rfl z) (fun z => absurd rfl z)
    · rw [List.size_toArray, lenV]; exact hl
    · intro b u z
      exact nomatch (show (none : Option HO) = some u from z)
  · have hk : K.lookup a = none := by
      cases q : K.lookup a with
      | none => rfl
      | some o => exact absurd ⟨o, q⟩ hk
    let H0 : Hp := fun b => if b = a then some (.frz { cls := .type "list", data := .seq vs.toArray } (.lst (ns.map V.int))) else none
    have at_a : H0 a = some (.frz { cls := .type "list", data := .seq vs.toArray } (.lst (ns.map V.int))) := if_pos rfl
    have off_a : ∀ b, b ≠ a → H0 b = none := fun b hb => if_neg hb
    refine core H0 ?_ (.inl (.inr ⟨_, at_a⟩)) ?_ ?_ (fun _ => hk)
    · intro b
      by_cases hb : b = a
      · subst hb; exact .inr ⟨_, _, at_a⟩
      · exact .inl (off_a b hb)
    · intro b u z
      by_cases hb : b = a
      · subst hb
        rw [at_a] at z
        cases z
        have short : (ns.map V.int).length ≤ sizeLine := by rw [List.length_map]; exact hl
        exact ⟨ha, short, vs, _, rv, ha⟩
      · rw [off_a b hb] at z; cases z
    · intro b z
      by_cases hb : b = a
      · exact hb
      · exact absurd (off_a b hb) z

theorem _root_.PySem.Heap.NoSeer.mods2 {h : Heap} (x : h.NoSeer) : ∃ mm, h.Ns sysModules mm := let ⟨mm, q, _⟩ := x.mods; ⟨mm, q⟩
theorem walkG {l : PySem.W.OpenLaw} {n k : Nat} {q : Program} {loose : List Str} {XP : (Str → Option Value) → Heap → Prop} {YP : World → Heap → Prop}
    {d : DefRec} {CX : World → CXT} {x : Str}
    (hn : l.most = some n) (hn2 : n ≤ sizeLine) (hdf : d.params.defaults = []) (hr : Room k callerA) (hno : importsNone q = true)
    (F : ∀ (w : World) (gl : Str → Option Value) (at_f : Addr) (hp : Heap), YP w hp → hp.Ns mainGlobals gl → gl d.name = some (.ref at_f) →
      ∃ (K : PySem.W.Frag) (fd : FuncData) (sp : Sp), K.In hp ∧ (∀ (st : Shared) (u : Value), BindsTo st fd ⟨[u], []⟩ [(x, u)]) ∧
        (∀ (H : Hp) (a : Addr) (ns : List Int), ns.length ≤ n → Only H → LsH K H a (ns.map V.int) → sp [.ref a] H (fun v _ => v = .bl true) fun _ _ _ => False) ∧
        ∀ base : Heap, K.In base → base.Ns mainGlobals gl → SysOk base → FnG l.prog w K gl base (CX w) k at_f fd [x] sp)
    (hCX : ∀ (w : World) (H : Hp) (st : Shared) (exc : Value) (st' : Shared), CX w [] H st (fun _ _ _ => False) exc st' → False) : PySem.W.WalkO q loose XP YP l.row.toRowW d [] (fun f vs => PySem.call f vs) := by
  refine Att.attach_call hn hdf ?_
  intro w s₀ s₁ mg mb fa o pm cd doc a vs ns G Y ho hd hcd hmg hobj hints hlen hg
  rcases F w mg fa _ Y G.T.g hmg with ⟨K, fd, sp, KX, hb, hsp, hF⟩
  exact lawG KX G.T.g G.T.b G.T.builtins G.T.nolimit hg hobj hints (Nat.le_trans hlen hn2) hr (G.T.seer hno).mods2 hF hb (hsp · a ns hlen) (hCX w · s₁)
end Fx

set_option Elab.async false
set_option linter.all false
set_option maxRecDepth 100000
/-! Fx2: the core language and its evaluator on data. -/
namespace Fx
open L2 PyProof.Rows PySem PySem.Spec

inductive Bop where | add | sub | mul | fdiv | mod | pow
  deriving DecidableEq
inductive Cop where | eq | ne | lt | le | gt | ge | isN | notN | isin | notin
  deriving DecidableEq
inductive Ty where | int | bool | str | tuple | list | dict
  deriving DecidableEq
/-- built-in functions by values -/
inductive Blt where | len | abs | max | min | sum | all | any | int | list | tuple | dict | repr | sorted | str
  deriving DecidableEq
/-- methods that change nothing -/
inductive Mth where | join | split | replace | get | index
  deriving DecidableEq
/-- methods that change their object (a list or a dict that a slot owns) -/
inductive Mut1 where | append | extend | pop | insert | remove | clear | update
  deriving DecidableEq

mutual
inductive CE where
  | var (i : Nat)
  | cst (x : D)
  | bin (op : Bop) (a b : CE)
  | neg (a : CE)
  | not (a : CE)
  | cmp (op : Cop) (a b : CE)
  | chain (op op' : Cop) (a b c : CE)
  | and (a b : CE)
  | or (a b : CE)
  | ite (c a b : CE)
  | tup (es : List CE)
  | lst (es : List CE)
  | disp (ks : List (DK × CE))
  | call (f : Nat) (es : List CE)
  | blt (b : Blt) (es : List CE)
  | isinst (a : CE) (t : Ty)
  | mth (m : Mth) (o : CE) (es : List CE)
  | mut (m : Mut1) (i : Nat) (es : List CE)
  | ix (a i : CE)
  | sl (a : CE) (lo hi : Option CE)
  | rev (a : CE)
  | col (es : List CE)
  | lc (el : CE) (t : Tg) (it : It) (c : Option CE) (own : List Nat)
  | lc2 (el : CE) (t : Tg) (it : It) (t2 : Tg) (it2 : It) (own own2 : List Nat)
  | dc (k v : CE) (t : Tg) (it : It) (c : Option CE) (own : List Nat)
inductive It where
  | e (a : CE)
  | range (es : List CE)
  | enum (es : List CE)
  | zip (es : List CE)
  | items (a : CE)
  | values (a : CE)
inductive Tg where
  | nm (i : Nat)
  | tup (ts : List Tg)
end

inductive CS where
  | asg (t : Tg) (e : CE)
  | par (ts : List Tg) (es : List CE)
  | aug (i : Nat) (op : Bop) (e : CE)
  | set (i : Nat) (j e : CE)
  | augix (i : Nat) (j : CE) (op : Bop) (e : CE)
  | expr (e : CE)
  | ifs (c : CE) (a b : List CS)
  | fors (t : Tg) (it : It) (body : List CS)
  | whl (c : CE) (body : List CS)
  | ret (e : CE)
  | retN
  | brk
  | cnt
  | pas
  | never

/-! ### operations on data -/
def lim : Nat := 1000000
def bits (i : Int) : Nat := i.natAbs.log2
mutual
def eqD : D → D → Bool
  | .non, .non => true
  | .bl a, .bl b => a == b
  | .bl a, .int b => b2i a == b
  | .int a, .bl b => a == b2i b
  | .int a, .int b => a == b
  | .str a, .str b => a == b
  | .tup a, .tup b => eqDs a b
  | .lst a, .lst b => eqDs a b
  | _, _ => false
def eqDs : List D → List D → Bool
  | [], [] => true
  | a :: as, b :: bs => eqD a b && eqDs as bs
  | _, _ => false
end
/-- signs there are -/
def okS (s : List Nat) : Bool := s.all fun c => decide (c < 0x110000)
mutual
/-- no dict within; nesting -/
def flatD : Nat → D → Bool
  | _, .dic _ => false
  | 0, .tup _ => false
  | 0, .lst _ => false
  | n + 1, .tup a => flatDs n a
  | n + 1, .lst a => flatDs n a
  | _, .str s => okS s
  | _, _ => true
def flatDs : Nat → List D → Bool
  | _, [] => true
  | n, a :: as => flatD n a && flatDs n as
end
def keyOf : D → Option DK
  | .int i => some (.i i)
  | .str s => some (.s s)
  | _ => none
def look (k : DK) (kvs : List (DK × D)) : Option D := (kvs.find? fun p => decide (p.1 = k)).map (·.2)
def put (kvs : List (DK × D)) (k : DK) (v : D) : List (DK × D) :=
  if kvs.any (fun p => decide (p.1 = k)) then kvs.map (fun p => if p.1 = k then (p.1, v) else p) else kvs ++ [(k, v)]
def asInts : List D → Option (List Int)
  | [] => some []
  | .int i :: r => (asInts r).map (i :: ·)
  | _ => none
def asBls : List D → Option (List Bool)
  | [] => some []
  | .bl i :: r => (asBls r).map (i :: ·)
  | _ => none
def asStrs : List D → Option (List (List Nat))
  | [] => some []
  | .str i :: r => (asStrs r).map (i :: ·)
  | _ => none
def binD : Bop → D → D → Option RO
  | .add, .int a, .int b => some (.d (.int (a + b)))
  | .add, .str a, .str b => if a.length + b.length ≤ lim then some (.d (.str (a ++ b))) else none
  | .add, .lst a, .lst b => if a.length + b.length ≤ lim then some (.new (.lst (a ++ b))) else none
  | .add, .tup a, .tup b => if a.length + b.length ≤ lim then some (.d (.tup (a ++ b))) else none
  | .sub, .int a, .int b => some (.d (.int (a - b)))
  | .mul, .int a, .int b => if bits a + bits b ≤ lim then some (.d (.int (a * b))) else none
  | .mul, .lst a, .int k => if a.length * k.toNat ≤ lim ∧ k.natAbs ≤ lim then some (.new (.lst (List.replicate k.toNat a).flatten)) else none
  | .mul, .str a, .int k => if a.length * k.toNat ≤ lim ∧ k.natAbs ≤ lim then some (.d (.str (List.replicate k.toNat a).flatten)) else none
  | .mul, .tup a, .int k => if a.length * k.toNat ≤ lim ∧ k.natAbs ≤ lim then some (.d (.tup (List.replicate k.toNat a).flatten)) else none
  | .fdiv, .int a, .int b => if 0 < b ∧ bits b < 9000 then some (.d (.int (a / b))) else none
  | .mod, .int a, .int b => if 0 < b then some (.d (.int (a % b))) else none
  | .pow, .int a, .int b => if 0 ≤ b ∧ (bits a + 1) * b.toNat ≤ lim then some (.d (.int (a ^ b.toNat))) else none
  | _, _, _ => none
/-- order of lists of signs -/
def ltS (a b : List Nat) : Bool := decide (a < b)
def inD : D → D → Option Bool
  | x, .lst ys => if flatD 40 x ∧ flatD 40 (.lst ys) then some (ys.any fun y => eqD y x) else none
  | x, .tup ys => if flatD 40 x ∧ flatD 40 (.tup ys) then some (ys.any fun y => eqD y x) else none
  | x, .dic kvs => (keyOf x).map fun k => (look k kvs).isSome
  | .str [c], .str b => some (b.contains c)
  | _, _ => none
def isNonD : D → Bool
  | .non => true
  | _ => false
def cmpD : Cop → D → D → Option Bool
  | .eq, .str a, .str b => some (a == b)
  | .ne, .str a, .str b => some (!(a == b))
  | .eq, x, y => if flatD 40 x ∧ flatD 40 y then some (eqD x y) else none
  | .ne, x, y => if flatD 40 x ∧ flatD 40 y then some (!eqD x y) else none
  | .lt, .int a, .int b => some (decide (a < b))
  | .le, .int a, .int b => some (decide (a ≤ b))
  | .gt, .int a, .int b => some (decide (b < a))
  | .ge, .int a, .int b => some (decide (b ≤ a))
  | .lt, .str a, .str b => some (ltS a b)
  | .isN, x, .non => some (isNonD x)
  | .notN, x, .non => some (!isNonD x)
  | .isN, .bl a, .bl b => some (decide (a = b))
  | .notN, .bl a, .bl b => some (!decide (a = b))
  | .isin, x, y => inD x y
  | .notin, x, y => (inD x y).map (! ·)
  | _, _, _ => none
def truD : D → Option Bool
  | .non => some false
  | .bl b => some b
  | .int i => some (i != 0)
  | .str s => if s.length ≤ lim then some (!s.isEmpty) else none
  | .tup s => some (!s.isEmpty)
  | .lst s => some (!s.isEmpty)
  | .dic _ => none
def ixD : D → D → Option D
  | .lst xs, .int i => atI xs i
  | .tup xs, .int i => atI xs i
  | .str s, .int i => if s.length ≤ lim then (atI s i).map fun c => .str [c] else none
  | .dic kvs, k => (keyOf k).bind (look · kvs)
  | _, _ => none
def ixRO (x y : D) : Option RO := (ixD x y).map RO.d
def cutG {α : Type} (xs : List α) (lo hi : Option Int) : List α :=
  (xs.drop (HT.sIx xs.length 0 lo)).take (HT.sIx xs.length xs.length hi - HT.sIx xs.length 0 lo)
def slD (x : D) (lo hi : Option Int) : Option RO :=
  match x with
  | .lst xs => some (.new (.lst (cutG xs lo hi)))
  | .tup xs => some (.d (.tup (cutG xs lo hi)))
  | .str s => if s.length ≤ lim then some (.d (.str (cutG s lo hi))) else none
  | _ => none
def revD : D → Option RO
  | .lst xs => some (.new (.lst xs.reverse))
  | .str s => if s.length ≤ lim then some (.d (.str s.reverse)) else none
  | _ => none
def negD : D → Option RO
  | .int i => some (.d (.int (-i)))
  | _ => none
def tyD : Ty → D → Bool
  | .int, .int _ => true
  | .int, .bl _ => true
  | .bool, .bl _ => true
  | .str, .str _ => true
  | .tuple, .tup _ => true
  | .list, .lst _ => true
  | .dict, .dic _ => true
  | _, _ => false
/-- a text of data -/
def natS (n : Nat) : List Nat := (Nat.repr n).toList.map Char.toNat
def intS (i : Int) : List Nat := (toString i).toList.map Char.toNat
mutual
def toPy : D → PyData
  | .non => .none
  | .bl b => .bool b
  | .int i => .int i
  | .str s => .str (mkS s)
  | .tup xs => .tuple (toPys xs)
  | .lst xs => .list (toPys xs)
  | .dic kvs => .dict (toPyk kvs)
def toPys : List D → List PyData
  | [] => []
  | x :: xs => toPy x :: toPys xs
def toPyk : List (DK × D) → List (PyData × PyData)
  | [] => []
  | (k, v) :: r => ((match k with | .i n => PyData.int n | .s l => PyData.str (mkS l)), toPy v) :: toPyk r
end
/-- stable insertion -/
def insBy {α : Type} (lt : α → α → Bool) (x : α) : List α → List α
  | [] => [x]
  | y :: r => if lt x y then x :: y :: r else y :: insBy lt x r
def sortBy {α : Type} (lt : α → α → Bool) : List α → List α
  | [] => []
  | x :: r => insBy lt x (sortBy lt r)
def sortL (xs : List D) : Option (List D) :=
  match asInts xs with
  | some ns => some ((sortBy (fun a b => decide (a ≤ b)) ns).map .int)
  | none => (asStrs xs).bind fun ss => if ss.length < 64 then some ((sortBy (fun a b => !ltS b a) ss).map .str) else none
/-- the pairs that dict() takes -/
def asPairs : List D → Option (List (DK × D))
  | [] => some []
  | .tup [k, v] :: r => (keyOf k).bind fun k => (asPairs r).map ((k, v) :: ·)
  | _ => none
def putAll (kvs : List (DK × D)) : List (DK × D) := kvs.foldl (fun acc p => put acc p.1 p.2) []
/-- the keys' texts -/
def keyStrs : List (DK × D) → Option (List (List Nat))
  | [] => some []
  | (.s l, _) :: r => (keyStrs r).map (l :: ·)
  | _ => none
def itemsOf : D → Option (List D)
  | .lst xs => some xs
  | .tup xs => some xs
  | .str s => some (s.map fun c => .str [c])
  | _ => none
/-- what a for walks -/
def walkOf : D → Option (List D)
  | .dic kvs => some (kvs.map fun p => p.1.toD)
  | x => itemsOf x
def maxL : Int → List Int → Int
  | m, [] => m
  | m, x :: r => maxL (if m < x then x else m) r
def minL : Int → List Int → Int
  | m, [] => m
  | m, x :: r => minL (if x < m then x else m) r
def minT : List Nat → List (List Nat) → List Nat
  | m, [] => m
  | m, x :: r => minT (if ltS x m then x else m) r
def bltD : Blt → List D → Option RO
  | .len, [.str s] => if s.length ≤ lim then some (.d (.int s.length)) else none
  | .len, [.lst s] => some (.d (.int s.length))
  | .len, [.tup s] => some (.d (.int s.length))
  | .len, [.dic s] => some (.d (.int s.length))
  | .abs, [.int i] => some (.d (.int (if i < 0 then -i else i)))
  | .max, [.int a, .int b] => some (.d (.int (if b > a then b else a)))
  | .min, [.int a, .int b] => some (.d (.int (if b < a then b else a)))
  | .max, [.lst xs] => (asInts xs).bind fun | [] => none | x :: r => some (.d (.int (maxL x r)))
  | .min, [.lst xs] => (asInts xs).bind fun | [] => none | x :: r => some (.d (.int (minL x r)))
  | .min, [.dic kvs] => (keyStrs kvs).bind fun | [] => none | x :: r => some (.d (.str (minT x r)))
  | .sum, [.lst xs] => (asInts xs).map fun ns => .d (.int ns.sum)
  | .all, [.lst xs] => (asBls xs).map fun bs => .d (.bl (bs.all id))
  | .any, [.lst xs] => (asBls xs).map fun bs => .d (.bl (bs.any id))
  | .int, [.int i] => some (.d (.int i))
  | .int, [.bl b] => some (.d (.int (b2i b)))
  | .list, [.lst xs] => some (.new (.lst xs))
  | .list, [.tup xs] => some (.new (.lst xs))
  | .list, [.dic kvs] => some (.new (.lst (kvs.map fun p => p.1.toD)))
  | .list, [.str s] => if s.length ≤ lim then some (.new (.lst (s.map fun c => .str [c]))) else none
  | .tuple, [.lst xs] => some (.d (.tup xs))
  | .tuple, [.tup xs] => some (.d (.tup xs))
  | .repr, [x] => if (toPy x).showable = true ∧ (toPy x).shown.length ≤ lim ∧ (toPy x).depth ≤ 40 then some (.d (.str (toPy x).shown.cps.toList)) else none
  | .sorted, [.lst xs] => (sortL xs).map fun ys => .new (.lst ys)
  | .sorted, [.dic kvs] => (keyStrs kvs).bind fun ks => if ks.length < 64 then some (.new (.lst ((sortBy (fun a b => !ltS b a) ks).map .str))) else none
  | .dict, [.lst ps] => if ps.length ≤ lim then (asPairs ps).map fun kvs => .new (.dic (putAll kvs)) else none
  | .str, [.int i] => if bits i < 1920 then some (.d (.str (intS i))) else none
  | _, _ => none
def joinL (sep : List Nat) : List (List Nat) → List Nat
  | [] => []
  | [x] => x
  | x :: y :: r => x ++ sep ++ joinL sep (y :: r)
def mthD : Mth → D → List D → Option RO
  | .join, .str s, [.lst xs] => (asStrs xs).bind fun ss => if (ss.map (·.length)).sum + ss.length * s.length ≤ lim then some (.d (.str (joinL s ss))) else none
  | .get, .dic kvs, [k, d] => (keyOf k).map fun k => .d ((look k kvs).getD d)
  | .get, .dic kvs, [k] => (keyOf k).map fun k => .d ((look k kvs).getD .non)
  | _, _, _ => none
/-- what a changing method hands back, and leaves -/
def mutD : Mut1 → Ob → List D → Option (D × Ob)
  | .append, .lst xs, [x] => if xs.length < lim then some (.non, .lst (xs ++ [x])) else none
  | .extend, .lst xs, [.lst ys] => if xs.length + ys.length ≤ lim then some (.non, .lst (xs ++ ys)) else none
  | .extend, .lst xs, [.tup ys] => if xs.length + ys.length ≤ lim then some (.non, .lst (xs ++ ys)) else none
  | .pop, .lst xs, [] => (xs[xs.length - 1]?).map fun y => (y, .lst xs.dropLast)
  | .pop, .lst xs, [.int i] => (ixN xs.length i).bind fun k => xs[k]?.map fun y => (y, .lst (xs.eraseIdx k))
  | .clear, .lst _, [] => some (.non, .lst [])
  | _, _, _ => none
def setD : Ob → D → D → Option Ob
  | .lst xs, .int i, v => (ixN xs.length i).map fun k => .lst (xs.set k v)
  | .dic kvs, k, v => (keyOf k).bind fun k => if kvs.length < lim then some (.dic (put kvs k v)) else none
  | _, _, _ => none

/-! ### results -/
/-- an exception: its class (by number), its fields -/
structure Exn where
  cls : Nat
  fs : List (List Nat × D)
inductive Res (α : Type) where
  | ok (a : α) (env : Cells)
  | exc (x : Exn) (env : Cells)
  | bad
def Res.bind {α β : Type} (x : Res α) (f : α → Cells → Res β) : Res β :=
  match x with
  | .ok a env => f a env
  | .exc e env => .exc e env
  | .bad => .bad
def ofO {α : Type} (env : Cells) : Option α → Res α
  | some a => .ok a env
  | none => .bad
/-- to data: what a slot owns is owned no more -/
def frz (env : Cells) : R → Option (D × Cells)
  | .d x => some (x, env)
  | .new b => some (b.toD, env)
  | .own i => match env[i]? with
    | some (.o b) => some (b.toD, env.set i (.d b.toD))
    | some (.d x) => some (x, env)
    | _ => none
def frzs (env : Cells) : List R → Option (List D × Cells)
  | [] => some ([], env)
  | r :: rs => match frz env r with
    | some (x, env1) => match frzs env1 rs with
      | some (xs, env2) => some (x :: xs, env2)
      | none => none
    | none => none
def gets (env : Cells) : List R → Option (List D)
  | [] => some []
  | r :: rs => match r.get env with
    | some x => match gets env rs with
      | some xs => some (x :: xs)
      | none => none
    | none => none
/-- an argument: data, or what a slot owns, handed on to be changed -/
inductive Arg where
  | d (x : D) | io (b : Ob)
inductive FRes where
  | ok (r : RO) (ios : List Ob)
  | exc (x : Exn) (ios : List Ob)
  | bad
structure FE where
  modes : List Bool
  dvs : List D
  sem : List Arg → FRes
abbrev FT := List FE
/-- the arguments by the callee's modes: data, or the slots handed on -/
inductive PArg where
  | d (x : D) | io (i : Nat)
def preArgs (env : Cells) : List Bool → List R → Option (List PArg × Cells)
  | [], [] => some ([], env)
  | true :: ms, .own i :: rs => match preArgs env ms rs with
    | some (ps, e) => some (.io i :: ps, e)
    | none => none
  | false :: ms, r :: rs => match frz env r with
    | some (x, env1) => match preArgs env1 ms rs with
      | some (ps, e) => some (.d x :: ps, e)
      | none => none
    | none => none
  | _, _ => none
def ioIdx : List PArg → List Nat
  | [] => []
  | .d _ :: ps => ioIdx ps
  | .io i :: ps => i :: ioIdx ps
def toArgs (env : Cells) : List PArg → Option (List Arg)
  | [] => some []
  | .d x :: ps => match toArgs env ps with
    | some as => some (.d x :: as)
    | none => none
  | .io i :: ps => match obAt env i, toArgs env ps with
    | some b, some as => some (.io b :: as)
    | _, _ => none
def setObs (env : Cells) : List Nat → List Ob → Option Cells
  | [], [] => some env
  | i :: is, b :: bs => setObs (putOb env i b) is bs
  | _, _ => none
def callF (Γ : FT) (f : Nat) (rs : List R) (env : Cells) : Res R :=
  match Γ[f]? with
  | none => .bad
  | some e => match preArgs env e.modes (rs ++ (e.dvs.drop (e.dvs.length + rs.length - e.modes.length)).map .d) with
    | none => .bad
    | some (ps, env1) => if (ioIdx ps).Nodup then match toArgs env1 ps with
      | none => .bad
      | some as => match e.sem as with
        | .ok r ios => match setObs env1 (ioIdx ps) ios with
          | none => .bad
          | some env2 => .ok r.toR env2
        | .exc x ios => match setObs env1 (ioIdx ps) ios with
          | none => .bad
          | some env2 => .exc x env2
        | .bad => .bad
      else .bad
def cellOf : R → Cells → Option (Cell × Cells)
  | .d x, env => some (.d x, env)
  | .new b, env => some (.o b, env)
  | .own i, env => (frz env (.own i)).map fun p => (.d p.1, p.2)
mutual
/-- data stored to a target -/
def asgD : Tg → D → Cells → Option Cells
  | .nm i, x, env => match env[i]? with
    | some (.io _) => none
    | some _ => some (env.set i (.d x))
    | none => none
  | .tup ts, .tup xs, env => asgDs ts xs env
  | _, _, _ => none
def asgDs : List Tg → List D → Cells → Option Cells
  | [], [], env => some env
  | t :: ts, x :: xs, env => match asgD t x env with
    | some env1 => asgDs ts xs env1
    | none => none
  | _, _, _ => none
end
def asgR : Tg → R → Cells → Option Cells
  | .nm i, r, env => match cellOf r env with
    | some (c, env1) => match env1[i]? with
      | some (.io _) => none
      | some _ => some (env1.set i c)
      | none => none
    | none => none
  | .tup ts, r, env => match frz env r with
    | some (x, env1) => asgD (.tup ts) x env1
    | none => none
def isOb (env : Cells) (i : Nat) : Bool := (obAt env i).isSome
def wipeC (env : Cells) : List Nat → Cells
  | [] => env
  | v :: vs => (wipeC env vs).set v .none
/-- the block's own slots as they were before -/
def restC (env0 env : Cells) : List Nat → Cells
  | [] => env
  | v :: vs => (restC env0 env vs).set v (env0[v]?.getD .none)
/-- a comprehension's turns -/
def lcRun (wiped : List Nat) (t : Tg) (c : Cells → Res Bool) (el : Cells → Res R) : List D → List D → Cells → Res (List D)
  | [], acc, env => .ok acc env
  | x :: xs, acc, env => match asgD t x (wipeC env wiped) with
    | none => .bad
    | some env1 => (c env1).bind fun b env2 => if b then
        (el env2).bind fun r env3 => match frz env3 r with
          | none => .bad
          | some (y, env4) => if acc.length < lim ∧ wiped.any (isOb env4) = false then lcRun wiped t c el xs (acc ++ [y]) env4 else .bad
      else if wiped.any (isOb env2) = false then lcRun wiped t c el xs acc env2 else .bad
def dcRun (wiped : List Nat) (t : Tg) (c : Cells → Res Bool) (k el : Cells → Res R) : List D → List (DK × D) → Cells → Res (List (DK × D))
  | [], acc, env => .ok acc env
  | x :: xs, acc, env => match asgD t x (wipeC env wiped) with
    | none => .bad
    | some env1 => (c env1).bind fun b env2 => if b then
        (k env2).bind fun kr env3 => match kr with
          | .d kd => match keyOf kd with
            | some kk => (el env3).bind fun r env4 => match frz env4 r with
              | some (y, env5) => if acc.length < lim ∧ wiped.any (isOb env5) = false then dcRun wiped t c k el xs (put acc kk y) env5 else .bad
              | none => .bad
            | none => .bad
          | _ => .bad
      else if wiped.any (isOb env2) = false then dcRun wiped t c k el xs acc env2 else .bad
def rangeL (lo : Int) (n : Nat) (st : Int) : List D := (List.range n).map fun (i : Nat) => .int (lo + (i : Int) * st)
def rangeD : List D → Option (List D)
  | [.int n] => if n.natAbs ≤ lim then some (rangeL 0 n.toNat 1) else none
  | [.int a, .int b] => if a.natAbs ≤ lim ∧ b.natAbs ≤ lim then some (rangeL a (b - a).toNat 1) else none
  | [.int a, .int b, .int c] => if a.natAbs ≤ lim ∧ b.natAbs ≤ lim ∧ c = -1 then some (rangeL a (a - b).toNat (-1)) else none
  | _ => none
def enumL : Nat → List D → List D
  | _, [] => []
  | n, x :: xs => .tup [.int n, x] :: enumL (n + 1) xs
def zipL : List D → List D → List D
  | x :: xs, y :: ys => .tup [x, y] :: zipL xs ys
  | _, _ => []

/-- an expression as a value, as a test -/
structure E2 where
  v : Cells → Res R
  t : Cells → Res Bool
/-- the test is the value's truth -/
def E2.of (f : Cells → Res R) : E2 := ⟨f, fun env => (f env).bind fun x env1 => match x.get env1 with
  | some d => ofO env1 (truD d)
  | none => .bad⟩
def doVar (i : Nat) (env : Cells) : Res R :=
  match env[i]? with
  | some (.d x) => .ok (.d x) env
  | some (.o _) => .ok (.own i) env
  | some (.io _) => .ok (.own i) env
  | _ => .bad
/-- two values into one -/
def do2 (f : D → D → Option R) (a b : Cells → Res R) (env : Cells) : Res R :=
  (a env).bind fun x env1 => (b env1).bind fun y env2 => match x.get env2, y.get env2 with
    | some dx, some dy => ofO env2 (f dx dy)
    | _, _ => .bad
def do1 (f : D → Option R) (a : Cells → Res R) (env : Cells) : Res R :=
  (a env).bind fun x env1 => match x.get env1 with
    | some dx => ofO env1 (f dx)
    | none => .bad
def doChain (op op' : Cop) (a b c : Cells → Res R) (env : Cells) : Res R :=
  (a env).bind fun x env1 => (b env1).bind fun y env2 => match x.get env2, y.get env2 with
    | some dx, some dy => match cmpD op dx dy with
      | some true => (c env2).bind fun z env3 => match y.get env3, z.get env3 with
        | some dy', some dz => ofO env3 ((cmpD op' dy' dz).map fun b => .d (.bl b))
        | _, _ => .bad
      | some false => .ok (.d (.bl false)) env2
      | none => .bad
    | _, _ => .bad
def doAnd (a b : Cells → Res R) (env : Cells) : Res R :=
  (a env).bind fun x env1 => match x with
    | .d (.bl true) => b env1
    | .d (.bl false) => .ok (.d (.bl false)) env1
    | _ => .bad
def doOr (a b : Cells → Res R) (env : Cells) : Res R :=
  (a env).bind fun x env1 => match x with
    | .d (.bl true) => .ok (.d (.bl true)) env1
    | .d (.bl false) => b env1
    | _ => .bad
def doNot (a : Cells → Res R) (env : Cells) : Res R :=
  (a env).bind fun x env1 => match x with
    | .d (.bl b) => .ok (.d (.bl (!b))) env1
    | _ => .bad
def toAnd (a b : Cells → Res Bool) (env : Cells) : Res Bool := (a env).bind fun x env1 => if x then b env1 else .ok false env1
def toOr (a b : Cells → Res Bool) (env : Cells) : Res Bool := (a env).bind fun x env1 => if x then .ok true env1 else b env1
def toNot (a : Cells → Res Bool) (env : Cells) : Res Bool := (a env).bind fun x env1 => .ok (!x) env1
def doIte (c : Cells → Res Bool) (a b : Cells → Res R) (env : Cells) : Res R := (c env).bind fun t env1 => if t then a env1 else b env1
def doSeq (f : List D → R) (es : Cells → Res (List R)) (env : Cells) : Res R :=
  (es env).bind fun rs env1 => match frzs env1 rs with
    | some (xs, env2) => if xs.length ≤ lim then .ok (f xs) env2 else .bad
    | none => .bad
def doDisp (ks : Cells → Res (List (DK × D))) (env : Cells) : Res R :=
  (ks env).bind fun kvs env1 => .ok (.new (.dic (kvs.foldl (fun acc p => put acc p.1 p.2) []))) env1
def doCall (Γ : FT) (f : Nat) (es : Cells → Res (List R)) (env : Cells) : Res R := (es env).bind fun rs env1 => callF Γ f rs env1
def doBlt (b : Blt) (es : Cells → Res (List R)) (env : Cells) : Res R :=
  (es env).bind fun rs env1 => match gets env1 rs with
    | some xs => ofO env1 ((bltD b xs).map RO.toR)
    | none => .bad
def doMth (m : Mth) (o : Cells → Res R) (es : Cells → Res (List R)) (env : Cells) : Res R :=
  (o env).bind fun x env1 => (es env1).bind fun rs env2 => match x.get env2, gets env2 rs with
    | some d, some xs => ofO env2 ((mthD m d xs).map RO.toR)
    | _, _ => .bad
def isL (env : Cells) (i : Nat) : Bool := match obAt env i with
  | some (.lst _) => true
  | _ => false
def doMut (m : Mut1) (i : Nat) (es : Cells → Res (List R)) (env : Cells) : Res R :=
  if isL env i then (es env).bind fun rs env1 => match frzs env1 rs with
    | some (xs, env2) => match obAt env2 i with
      | some b => match mutD m b xs with
        | some (y, b') => .ok (.d y) (putOb env2 i b')
        | none => .bad
      | none => .bad
    | none => .bad
  else .bad
def doSl (a : Cells → Res R) (lo hi : Cells → Res (Option Int)) (env : Cells) : Res R :=
  (a env).bind fun x env1 => (lo env1).bind fun l env2 => (hi env2).bind fun h env3 => match x.get env3 with
    | some dx => ofO env3 ((slD dx l h).map RO.toR)
    | none => .bad
def doCol (it : Cells → Res (List D)) (env : Cells) : Res R :=
  (it env).bind fun xs env1 => if xs.length ≤ lim then .ok (.new (.lst xs)) env1 else .bad
def doLc (el : Cells → Res R) (t : Tg) (it : Cells → Res (List D)) (c : Cells → Res Bool) (own : List Nat) (env : Cells) : Res R :=
  (it env).bind fun xs env1 => if own.any (isOb env1) then .bad else (lcRun own t c el xs [] env1).bind fun ys env2 => .ok (.new (.lst ys)) (restC env1 env2 own)
def doDc (k v : Cells → Res R) (t : Tg) (it : Cells → Res (List D)) (c : Cells → Res Bool) (own : List Nat) (env : Cells) : Res R :=
  (it env).bind fun xs env1 => if own.any (isOb env1) then .bad else (dcRun own t c k v xs [] env1).bind fun ys env2 => .ok (.new (.dic ys)) (restC env1 env2 own)
def doInt (f : Cells → Res R) (env : Cells) : Res (Option Int) :=
  (f env).bind fun x env1 => match x.get env1 with
    | some (.int i) => .ok (some i) env1
    | _ => .bad
/-- a thing that is walked, its items by f -/
def doIt1 (f : D → Option (List D)) (a : Cells → Res R) (env : Cells) : Res (List D) :=
  (a env).bind fun x env1 => match frz env1 x with
    | some (d, env2) => ofO env2 (f d)
    | none => .bad
/-- things that are walked together -/
def doItN (f : List D → Option (List D)) (es : Cells → Res (List R)) (env : Cells) : Res (List D) :=
  (es env).bind fun rs env1 => match frzs env1 rs with
    | some (xs, env2) => ofO env2 (f xs)
    | none => .bad
def enumD : List D → Option (List D)
  | [x] => (itemsOf x).map (enumL 0)
  | _ => none
def zipD : List D → Option (List D)
  | [x, y] => (itemsOf x).bind fun xs => (itemsOf y).map fun ys => zipL xs ys
  | _ => none
def zipD2 : List D → Option (List D)
  | [.lst xs, .lst ys] => some (zipL xs ys)
  | _ => none
def doRange (es : Cells → Res (List R)) (env : Cells) : Res (List D) :=
  (es env).bind fun rs env1 => match gets env1 rs with
    | some xs => ofO env1 (rangeD xs)
    | none => .bad
def itemsL : D → Option (List D)
  | .dic kvs => some (kvs.map fun p => .tup [p.1.toD, p.2])
  | _ => none
def valuesL : D → Option (List D)
  | .dic kvs => some (kvs.map fun p => p.2)
  | _ => none

mutual
def ev (Γ : FT) : CE → E2
  | .var i => .of (doVar i)
  | .cst x => .of fun env => .ok (.d x) env
  | .bin op a b => .of (do2 (fun x y => (binD op x y).map RO.toR) (ev Γ a).v (ev Γ b).v)
  | .neg a => .of (do1 (fun x => (negD x).map RO.toR) (ev Γ a).v)
  | .not a => ⟨doNot (ev Γ a).v, toNot (ev Γ a).t⟩
  | .cmp op a b => .of (do2 (fun x y => (cmpD op x y).map fun b => .d (.bl b)) (ev Γ a).v (ev Γ b).v)
  | .chain op op' a b c => .of (doChain op op' (ev Γ a).v (ev Γ b).v (ev Γ c).v)
  | .and a b => ⟨doAnd (ev Γ a).v (ev Γ b).v, toAnd (ev Γ a).t (ev Γ b).t⟩
  | .or a b => ⟨doOr (ev Γ a).v (ev Γ b).v, toOr (ev Γ a).t (ev Γ b).t⟩
  | .ite c a b => .of (doIte (ev Γ c).t (ev Γ a).v (ev Γ b).v)
  | .tup es => .of (doSeq (fun xs => .d (.tup xs)) (evEs Γ es))
  | .lst es => .of (doSeq (fun xs => .new (.lst xs)) (evEs Γ es))
  | .disp ks => .of (doDisp (evKs Γ ks))
  | .call f es => .of (doCall Γ f (evEs Γ es))
  | .blt b es => .of (doBlt b (evEs Γ es))
  | .isinst a t => .of (do1 (fun d => (some (RO.d (.bl (tyD t d)))).map RO.toR) (ev Γ a).v)
  | .mth m o es => .of (doMth m (ev Γ o).v (evEs Γ es))
  | .mut m i es => .of (doMut m i (evEs Γ es))
  | .ix a i => .of (do2 (fun x y => (ixRO x y).map RO.toR) (ev Γ a).v (ev Γ i).v)
  | .sl a lo hi => .of (doSl (ev Γ a).v (evO Γ lo) (evO Γ hi))
  | .rev a => .of (do1 (fun x => (revD x).map RO.toR) (ev Γ a).v)
  | .col es => .of (doCol (doItN zipD2 (evEs Γ es)))
  | .lc el t it c own => .of (doLc (ev Γ el).v t (evI Γ it) (evC Γ c) own)
  | .lc2 _ _ _ _ _ _ _ => .of fun _ => .bad
  | .dc k v t it c own => .of (doDc (ev Γ k).v (ev Γ v).v t (evI Γ it) (evC Γ c) own)
def evEs (Γ : FT) : List CE → Cells → Res (List R)
  | [], env => .ok [] env
  | e :: es, env => ((ev Γ e).v env).bind fun r env1 => (evEs Γ es env1).bind fun rs env2 => .ok (r :: rs) env2
def evKs (Γ : FT) : List (DK × CE) → Cells → Res (List (DK × D))
  | [], env => .ok [] env
  | (k, e) :: ks, env => ((ev Γ e).v env).bind fun r env1 => match frz env1 r with
      | some (x, env2) => (evKs Γ ks env2).bind fun xs env3 => .ok ((k, x) :: xs) env3
      | none => .bad
def evO (Γ : FT) : Option CE → Cells → Res (Option Int)
  | none, env => .ok none env
  | some e, env => doInt (ev Γ e).v env
def evC (Γ : FT) : Option CE → Cells → Res Bool
  | none, env => .ok true env
  | some e, env => (ev Γ e).t env
def evI (Γ : FT) : It → Cells → Res (List D)
  | .e a, env => doIt1 walkOf (ev Γ a).v env
  | .range es, env => doRange (evEs Γ es) env
  | .enum es, env => doItN enumD (evEs Γ es) env
  | .zip es, env => doItN zipD (evEs Γ es) env
  | .items a, env => doIt1 itemsL (ev Γ a).v env
  | .values a, env => doIt1 valuesL (ev Γ a).v env
end
abbrev evE (Γ : FT) (e : CE) (env : Cells) : Res R := (ev Γ e).v env
abbrev evT (Γ : FT) (e : CE) (env : Cells) : Res Bool := (ev Γ e).t env

inductive Fl where
  | next | brk | cnt | ret (r : R)
def asgRs : List Tg → List R → Cells → Option Cells
  | [], [], env => some env
  | t :: ts, r :: rs, env => match asgR t r env with
    | some env1 => asgRs ts rs env1
    | none => none
  | _, _, _ => none
/-- the turns of a for -/
def forRun (t : Tg) (body : Cells → Res Fl) : List D → Cells → Res Fl
  | [], env => .ok .next env
  | x :: xs, env => match asgD t x env with
    | none => .bad
    | some env1 => (body env1).bind fun f env2 => match f with
      | .next => forRun t body xs env2
      | .cnt => forRun t body xs env2
      | .brk => .ok .next env2
      | .ret r => .ok (.ret r) env2
/-- the turns of a while, at most so many -/
def whlRun (c : Cells → Res Bool) (body : Cells → Res Fl) : Nat → Cells → Res Fl
  | 0, _ => .bad
  | n + 1, env => (c env).bind fun b env1 => if b then
      (body env1).bind fun f env2 => match f with
        | .next => whlRun c body n env2
        | .cnt => whlRun c body n env2
        | .brk => .ok .next env2
        | .ret r => .ok (.ret r) env2
    else .ok .next env1
def fuel : Nat := 10 ^ 2000
def augD : Bop → Int → Int → Option Int
  | .add, x, y => some (x + y)
  | .sub, x, y => some (x - y)
  | _, _, _ => none
def doAug (i : Nat) (op : Bop) (f : Cells → Res R) (env : Cells) : Res Fl :=
  match env[i]? with
  | some (.d (.int x)) => (f env).bind fun r env1 => match r.get env1 with
    | some (.int y) => match augD op x y with
      | some z => match asgD (.nm i) (.int z) env1 with
        | some env2 => .ok .next env2
        | none => .bad
      | none => .bad
    | _ => .bad
  | _ => .bad
/-- to be dropped from the locals: nothing that a list of R would alias -/
def noOwn : List R → Bool
  | [] => true
  | .own _ :: _ => false
  | _ :: rs => noOwn rs
mutual
def evS (Γ : FT) : CS → Cells → Res Fl
  | .asg t e, env => (evE Γ e env).bind fun r env1 => match asgR t r env1 with
      | some env2 => .ok .next env2
      | none => .bad
  | .par ts es, env => (evEs Γ es env).bind fun rs env1 => if noOwn rs then
      (match asgRs ts rs env1 with
        | some env2 => .ok .next env2
        | none => .bad)
      else (match frzs env1 rs with
        | some (xs, env2) => match asgDs ts xs env2 with
          | some env3 => .ok .next env3
          | none => .bad
        | none => .bad)
  | .aug i op e, env => doAug i op (evE Γ e) env
  | .set i j e, env => (evE Γ e env).bind fun r env1 => match frz env1 r with
      | none => .bad
      | some (v, env2) => if (obAt env2 i).isSome then (evE Γ j env2).bind fun k env3 => match k.get env3, obAt env3 i with
        | some dk, some b => match setD b dk v with
          | some b' => .ok .next (putOb env3 i b')
          | none => .bad
        | _, _ => .bad
        else .bad
  | .augix _ _ _ _, _ => .bad
  | .expr e, env => (evE Γ e env).bind fun _ env1 => .ok .next env1
  | .ifs c a b, env => (evT Γ c env).bind fun t env1 => if t then evSs Γ a env1 else evSs Γ b env1
  | .fors t it body, env => (evI Γ it env).bind fun xs env1 => forRun t (evSs Γ body) xs env1
  | .whl c body, env => whlRun (evT Γ c) (evSs Γ body) fuel env
  | .ret e, env => (evE Γ e env).bind fun r env1 => .ok (.ret r) env1
  | .retN, env => .ok (.ret (.d .non)) env
  | .brk, env => .ok .brk env
  | .cnt, env => .ok .cnt env
  | .pas, env => .ok .next env
  | .never, _ => .bad
def evSs (Γ : FT) : List CS → Cells → Res Fl
  | [], env => .ok .next env
  | s :: ss, env => (evS Γ s env).bind fun f env1 => match f with
      | .next => evSs Γ ss env1
      | f => .ok f env1
end
/-! ### defs -/
def argCell : Arg → Cell
  | .d x => .d x
  | .io b => .io b
def ioOf (env : Cells) : List Arg → Nat → Option (List Ob)
  | [], _ => some []
  | .d _ :: as, i => ioOf env as (i + 1)
  | .io _ :: as, i => match env[i]? with
    | some (.io b) => (ioOf env as (i + 1)).map (b :: ·)
    | _ => none
/-- a def's meaning: n slots, the parameters first -/
def runF (Γ : FT) (n : Nat) (body : List CS) (as : List Arg) : FRes :=
  match evSs Γ body (as.map argCell ++ List.replicate (n - as.length) .none) with
  | .ok fl env =>
    let r : Option R := match fl with | .next => some (.d .non) | .ret r => some r | _ => none
    (match r with
    | none => .bad
    | some r =>
      -- what is handed back: data, or the object that a slot of ours (no parameter) owns
      let out : Option (RO × Cells) := match r with
        | .d x => some (.d x, env)
        | .new b => some (.new b, env)
        | .own i => match env[i]? with
          | some (.o b) => some (.new b, env)
          | some (.d x) => some (.d x, env)
          | _ => none
      match out with
      | none => .bad
      | some (o, env) => match ioOf env as 0 with
        | some ios => .ok o ios
        | none => .bad)
  | .exc x env => match ioOf env as 0 with
    | some ios => .exc x ios
    | none => .bad
  | .bad => .bad
end Fx

set_option Elab.async false
set_option linter.all false
set_option maxRecDepth 100000
/-! Fx3: readings by the evaluator, and how they lie in the hand layer's readings. -/
namespace Fx
open L2 PyProof.Rows PySem PySem.Spec

section
variable {K : PySem.W.Frag} {O : Addr → Prop} {env env1 env2 env' : Cells} {σ σ1 σ2 σ' : L2.St} {H H0 H1 H2 H' : Hp}

theorem toD_view {A : RdA} {b : Ob} {p : Addr} (h : ObR K A H b p) : View K A H b.toD (.ref p) := by
  cases b with
  | lst ds => obtain ⟨xs, e, r⟩ := h; exact ⟨p, xs, rfl, .inl (.inl e), r⟩
  | dic kvs => obtain ⟨ys, e, r⟩ := h; exact ⟨p, ys, rfl, .inl e, r⟩
theorem toD_rp {A : RdA} {b : Ob} {p : Addr} (h : ObR K A H b p) (ha : ∀ u, H p = some u → A p u) : Rp K A b.toD (.ref p) := by
  cases b with
  | lst ds => obtain ⟨xs, e, r⟩ := h; simp only [Ob.toD, Rp]; exact ⟨p, xs, rfl, .inl (ha _ e), r⟩
  | dic kvs => obtain ⟨ys, e, r⟩ := h; simp only [Ob.toD, Rp]; exact ⟨p, ys, rfl, ha _ e, r⟩
theorem ObR.step {N : Addr → Prop} (s : Step env σ H env1 σ1 H1) (hN : ∀ a, N a → H a = none) {b : Ob} {p : Addr} (n : ¬ Ow env σ p) (h : ObR K (Av O env σ H) H b p) :
    ObR K (Av (un O N) env1 σ1 H1) H1 b p := by
  obtain ⟨o, ho, _⟩ := h.some
  exact h.mono (s.avN hN) ((s.kp p o ho n).trans ho.symm)
theorem RR.step {N : Addr → Prop} {r : R} {v : V} (rel : Rel K O env σ H1) (s : Step env σ H1 env1 σ H2) (hN : ∀ a, N a → H1 a = none) (hn : ∀ a, nw r v a → O a)
    (h : RR K O env σ H H1 r v) : RR K (un O N) env1 σ H H2 r v := by
  cases r with
  | d x => exact Rp.mono (s.avN hN) _ _ h
  | own i => exact h
  | new b =>
    obtain ⟨p, e, h0, ho⟩ := h
    exact ⟨p, e, h0, ho.step s hN (rel.hid p (hn p e)).2⟩
theorem RR.less {O' : Addr → Prop} (hO : ∀ a, O' a → O a) {r : R} {v : V} (h : RR K O env σ H H1 r v) : RR K O' env σ H H1 r v := by
  cases r with
  | d x => exact Rp.mono (av_anti hO) _ _ h
  | own i => exact h
  | new b =>
    obtain ⟨p, e, h0, ho⟩ := h
    exact ⟨p, e, h0, ho.mono (av_anti hO) rfl⟩
theorem RR.back (hb : ∀ p, H1 p = none → H p = none) {r : R} {v : V} (h : RR K O env σ H1 H2 r v) : RR K O env σ H H2 r v := by
  cases r with
  | d x => exact h
  | own i => exact h
  | new b =>
    obtain ⟨p, e, hn, ho⟩ := h
    exact ⟨p, e, hb p hn, ho⟩
theorem RR.fresh {r : R} {v : V} (h : RR K O env σ H1 H2 r v) (a : Addr) (n : nw r v a) : H1 a = none := by
  cases r with
  | d x => exact n.elim
  | own i => exact n.elim
  | new b =>
    obtain ⟨p, e, hn, ho⟩ := h
    rw [show v = .ref a from n] at e
    cases e
    exact hn
theorem Step.back (s : Step env σ H env1 σ1 H1) {p : Addr} (h : H1 p = none) : H p = none := by
  cases e : H p with
  | none => rfl
  | some o => exact absurd h (s.th p (by rw [e]; simp))
theorem Rel.hidT (rel : Rel K O env σ H) {a : Addr} (h : O a) : H a ≠ none := by
  obtain ⟨⟨o, e, _⟩, _⟩ := rel.hid a h
  rw [e]; simp
/-- a value looked at -/
theorem RR.view (rel : Rel K O env σ H) {r : R} {v : V} {d : D} (h : RR K O env σ H0 H r v) (g : r.get env = some d) : View K (Av O env σ H) H d v := by
  cases r with
  | d x => cases g; exact Rp.view (fun _ _ => av_rd) h
  | own i =>
    have hv : σ[i]? = some (some v) := h
    simp only [R.get] at g
    cases e : env[i]? with
    | none => rw [e] at g; cases g
    | some c =>
      rw [e] at g
      cases c with
      | none => cases g
      | d x =>
        cases g
        obtain ⟨w, e1, q⟩ := rel.at_ i _ e
        rw [hv] at e1
        cases e1
        exact Rp.view (fun _ _ => av_rd) q
      | o b =>
        cases g
        obtain ⟨p, e1, q⟩ := rel.ob (obAt_o e)
        rw [hv] at e1
        cases e1
        exact toD_view q
      | io b =>
        cases g
        obtain ⟨p, e1, q⟩ := rel.ob (obAt_io e)
        rw [hv] at e1
        cases e1
        exact toD_view q
  | new b =>
    cases g
    obtain ⟨p, rfl, _, q⟩ := h
    exact toD_view q

/-! ### giving up an owned object -/
theorem obAt_set_d {i j : Nat} {x : D} : obAt (env.set i (.d x)) j = if i = j then none else obAt env j := by
  unfold obAt
  by_cases h : i = j
  · subst h
    rw [if_pos rfl]
    by_cases hl : i < env.length
    · rw [List.getElem?_set_self hl]; rfl
    · rw [List.getElem?_eq_none (by simpa using hl)]; rfl
  · rw [if_neg h, List.getElem?_set_ne h]
theorem ow_set_d {i : Nat} {x : D} {a : Addr} (h : Ow (env.set i (.d x)) σ a) : Ow env σ a := by
  obtain ⟨j, b, e, e2⟩ := h
  rw [obAt_set_d] at e
  split at e
  · cases e
  · exact ⟨j, b, e, e2⟩
theorem frz_own (rel : Rel K O env σ H) {i : Nat} {b : Ob} {v : V} (e : env[i]? = some (.o b)) (hv : σ[i]? = some (some v)) :
    Rel K O (env.set i (.d b.toD)) σ H ∧ Step env σ H (env.set i (.d b.toD)) σ H ∧ Rp K (Av O (env.set i (.d b.toD)) σ H) b.toD v := by
  have st : Step env σ H (env.set i (.d b.toD)) σ H := by
    refine ⟨fun _ _ h _ => h, fun a _ n o => n (ow_set_d o), fun _ h => h, fun j b' h => ⟨rfl, b', ?_⟩⟩
    have hj : i ≠ j := fun z => by subst z; rw [e] at h; cases h
    rw [List.getElem?_set_ne hj]
    exact h
  obtain ⟨p, e1, q⟩ := rel.ob (obAt_o e)
  rw [hv] at e1
  cases e1
  have hl : i < env.length := (List.getElem?_eq_some_iff.mp e).1
  have nop : ¬ Ow (env.set i (.d b.toD)) σ p := by
    rintro ⟨j, b', h1, h2⟩
    rw [obAt_set_d] at h1
    split at h1
    · cases h1
    · rename_i hj
      exact hj (rel.inj i j b b' p (obAt_o e) h1 hv h2)
  have noO : ¬ O p := fun z => (rel.hid p z).2 ⟨i, b, obAt_o e, hv⟩
  have q' : ObR K (Av O (env.set i (.d b.toD)) σ H) H b p := q.mono st.av rfl
  have hr : Rp K (Av O (env.set i (.d b.toD)) σ H) b.toD (.ref p) := toD_rp q' fun u hu => ⟨nop, noO, .inl hu⟩
  refine ⟨⟨by rw [List.length_set]; exact rel.len, fun j c h => ?_, fun j k b1 b2 pp h1 h2 h3 h4 => ?_, fun a z => ⟨(rel.hid a z).1, fun o => (rel.hid a z).2 (ow_set_d o)⟩⟩, st, hr⟩
  · by_cases hj : i = j
    · subst hj
      rw [List.getElem?_set_self hl] at h
      cases h
      exact ⟨_, hv, hr⟩
    · rw [List.getElem?_set_ne hj] at h
      have z := rel.at_ j c h
      cases c with
      | none => trivial
      | d x => obtain ⟨w, e1, r⟩ := z; exact ⟨w, e1, st.rp r⟩
      | o b' => obtain ⟨w, e1, r⟩ := z; exact ⟨w, e1, r.mono st.av rfl⟩
      | io b' => obtain ⟨w, e1, r⟩ := z; exact ⟨w, e1, r.mono st.av rfl⟩
  · rw [obAt_set_d] at h1 h2
    split at h1
    · cases h1
    · split at h2
      · cases h2
      · exact rel.inj j k b1 b2 pp h1 h2 h3 h4
theorem frz_ok {r : R} {v : V} {d : D} (rel : Rel K (un O (nw r v)) env σ H) (hs : ∀ a, nw r v a → ¬ O a) (h : RR K (un O (nw r v)) env σ H0 H r v)
    (g : frz env r = some (d, env1)) : Rel K O env1 σ H ∧ Step env σ H env1 σ H ∧ Rp K (Av O env1 σ H) d v := by
  have relO := rel.less (O' := O) fun a z => .inl z
  cases r with
  | d x => cases g; exact ⟨relO, Step.refl, Rp.mono (av_anti fun a z => .inl z) _ _ h⟩
  | new b =>
    cases g
    obtain ⟨p, rfl, _, q⟩ := h
    exact ⟨relO, Step.refl, toD_rp (q.mono (av_anti fun a z => .inl z) rfl) fun u hu => ⟨(rel.hid p (.inr rfl)).2, hs p rfl, .inl hu⟩⟩
  | own i =>
    have hv : σ[i]? = some (some v) := h
    simp only [frz] at g
    cases e : env[i]? with
    | none => rw [e] at g; cases g
    | some c =>
      rw [e] at g
      cases c with
      | none => cases g
      | io b => cases g
      | d x =>
        cases g
        obtain ⟨w, e1, q⟩ := relO.at_ i _ e
        rw [hv] at e1
        cases e1
        exact ⟨relO, Step.refl, q⟩
      | o b => cases g; exact frz_own relO e hv

/-! ### lists of values -/
/-- the new objects stand apart -/
def Apart : List R → List V → Prop
  | r :: rs, v :: vs => (∀ a, nw r v a → ¬ nws rs vs a) ∧ Apart rs vs
  | _, _ => True
def RRs (K : PySem.W.Frag) (O : Addr → Prop) (env : Cells) (σ : L2.St) (H H' : Hp) : List R → List V → Prop
  | [], vs => vs = []
  | r :: rs, vs => ∃ x xs, vs = x :: xs ∧ RR K O env σ H H' r x ∧ RRs K O env σ H H' rs xs
theorem RRs.step {N : Addr → Prop} (rel : Rel K O env σ H1) (s : Step env σ H1 env1 σ H2) (hN : ∀ a, N a → H1 a = none) :
    ∀ {rs : List R} {vs : List V}, (∀ a, nws rs vs a → O a) → RRs K O env σ H H1 rs vs → RRs K (un O N) env1 σ H H2 rs vs
  | [], _, _, h => h
  | r :: rs, _, hn, ⟨x, xs, e, h, t⟩ => by
    subst e
    exact ⟨x, xs, rfl, h.step rel s hN fun a z => hn a (.inl z), RRs.step rel s hN (fun a z => hn a (.inr z)) t⟩
theorem RRs.less {O' : Addr → Prop} (hO : ∀ a, O' a → O a) : ∀ {rs : List R} {vs : List V}, RRs K O env σ H H1 rs vs → RRs K O' env σ H H1 rs vs
  | [], _, h => h
  | r :: rs, _, ⟨x, xs, e, h, t⟩ => ⟨x, xs, e, h.less hO, RRs.less hO t⟩
theorem RRs.back (hb : ∀ p, H1 p = none → H p = none) : ∀ {rs : List R} {vs : List V}, RRs K O env σ H1 H2 rs vs → RRs K O env σ H H2 rs vs
  | [], _, h => h
  | r :: rs, _, ⟨x, xs, e, h, t⟩ => ⟨x, xs, e, h.back hb, RRs.back hb t⟩
theorem RRs.fresh : ∀ {rs : List R} {vs : List V}, RRs K O env σ H1 H2 rs vs → ∀ a, nws rs vs a → H1 a = none
  | [], _, h, a, n => n.elim
  | r :: rs, _, ⟨x, xs, e, h, t⟩, a, n => by
    subst e
    exact Or.elim n (h.fresh a) (RRs.fresh t a)
theorem RRs.length : ∀ {rs : List R} {vs : List V}, RRs K O env σ H1 H2 rs vs → vs.length = rs.length
  | [], _, h => by simp only [RRs] at h; subst h; rfl
  | r :: rs, _, ⟨x, xs, e, h, t⟩ => by subst e; simp [RRs.length t]
theorem RRs.views (rel : Rel K O env σ H) : ∀ {rs : List R} {vs : List V} {ds : List D}, RRs K O env σ H0 H rs vs → gets env rs = some ds → ViewL K (Av O env σ H) H ds vs
  | [], _, ds, h, g => by cases g; exact h
  | r :: rs, _, ds, ⟨x, xs, e, h, t⟩, g => by
    unfold gets at g
    cases e1 : r.get env with
    | none => rw [e1] at g; cases g
    | some d =>
      rw [e1] at g
      cases e2 : gets env rs with
      | none => rw [e2] at g; cases g
      | some ds' =>
        rw [e2] at g
        cases g
        exact ⟨x, xs, e, h.view rel e1, RRs.views rel t e2⟩
theorem un_cons {r : R} {rs : List R} {v : V} {vs : List V} : un O (nws (r :: rs) (v :: vs)) = un (un O (nws rs vs)) (nw r v) := by
  funext a
  exact propext ⟨fun z => z.elim (fun z => .inl (.inl z)) fun z => z.elim .inr fun z => .inl (.inr z),
    fun z => z.elim (fun z => z.elim .inl fun z => .inr (.inr z)) fun z => .inr (.inl z)⟩
theorem un_cons' {r : R} {rs : List R} {v : V} {vs : List V} : un O (nws (r :: rs) (v :: vs)) = un (un O (nw r v)) (nws rs vs) := by
  funext a
  exact propext ⟨fun z => z.elim (fun z => .inl (.inl z)) fun z => z.elim (fun z => .inl (.inr z)) .inr,
    fun z => z.elim (fun z => z.elim .inl fun z => .inr (.inl z)) fun z => .inr (.inr z)⟩
theorem un_nil {v : List V} : un O (nws [] v) = O := by
  funext a
  exact propext ⟨fun z => z.elim id fun z => z.elim, .inl⟩
theorem frzs_ok : ∀ {rs : List R} {vs : List V} {ds : List D} {env env1 : Cells}, Rel K (un O (nws rs vs)) env σ H → (∀ a, nws rs vs a → ¬ O a) → Apart rs vs →
    RRs K (un O (nws rs vs)) env σ H0 H rs vs → frzs env rs = some (ds, env1) → Rel K O env1 σ H ∧ Step env σ H env1 σ H ∧ RpL K (Av O env1 σ H) ds vs
  | [], _, ds, env, env1, rel, hs, ap, h, g => by cases g; rw [un_nil] at rel; exact ⟨rel, Step.refl, h⟩
  | r :: rs, _, ds, env, env1, rel, hs, ap, ⟨x, xs, e, h, t⟩, g => by
    subst e
    unfold frzs at g
    cases e1 : frz env r with
    | none => rw [e1] at g; cases g
    | some p =>
      obtain ⟨d, env'⟩ := p
      rw [e1] at g
      simp only at g
      cases e2 : frzs env' rs with
      | none => rw [e2] at g; cases g
      | some p2 =>
        obtain ⟨ds', env''⟩ := p2
        rw [e2] at g
        cases g
        have hs1 : ∀ a, nw r x a → ¬ un O (nws rs xs) a := fun a z n => Or.elim n (hs a (.inl z)) (ap.1 a z)
        have rel' := rel
        rw [un_cons] at rel' h
        obtain ⟨rel1, st1, rp1⟩ := frz_ok rel' hs1 h e1
        have t1 := (RRs.step (N := fun _ => False) rel st1 (fun a z => z.elim) (fun a z => .inr (.inr z)) t).less (O' := un O (nws rs xs))
          fun a z => .inl (z.elim .inl fun z => .inr (.inr z))
        obtain ⟨rel2, st2, rp2⟩ := frzs_ok rel1 (fun a z => hs a (.inr z)) ap.2 t1 e2
        refine ⟨rel2, st1.trans st2, RpL.cons (Rp.mono (fun a u k => ?_) _ _ rp1) rp2⟩
        exact st2.av a u (av_anti (fun a z => .inl z) a u k)

/-! ### what an operation hands back -/
theorem ror_rr {O2 : Addr → Prop} (rel : Rel K O2 env σ H) (hO : ∀ a, O a → O2 a) (g : Same H H1) {ro : RO} {v : V} (h : ROR K (Av O2 env σ H) H H1 ro v) :
    Rel K (un O (nw ro.toR v)) env σ H1 ∧ RR K (un O (nw ro.toR v)) env σ H H1 ro.toR v := by
  have relO := rel.less hO
  cases ro with
  | d x =>
    have hl : ∀ a, un O (nw (RO.d x).toR v) a → O a := fun a z => z.elim id fun z => z.elim
    refine ⟨(relO.grow g).less hl, Rp.mono (fun a u k => ?_) _ _ h⟩
    rcases k with k | ⟨h1, h2⟩
    · exact av_anti hl a u ((Step.grow g).av a u (av_anti hO a u k))
    · exact ⟨relO.fresh_not h1, fun z => relO.hidT (hl a z) h1, h2⟩
  | new b =>
    obtain ⟨p, rfl, hn, hm, q⟩ := h
    refine ⟨relO.growN g fun a z => ?_, p, rfl, hn, q.mono (fun a u k => ?_) rfl⟩
    · have z : V.ref p = .ref a := z
      cases z
      exact ⟨hn, hm⟩
    · refine (Step.grow g).avN (fun a z => ?_) a u (av_anti hO a u k)
      have z : V.ref p = .ref a := z
      cases z
      exact hn
end

/-! ### readings -/
section
variable (K : PySem.W.Frag)
def tE (f : Cells → Res R) : TE := fun σ H Q => ∃ O env, Rel K O env σ H ∧ ∃ r env', f env = .ok r env' ∧
  ∀ v H', Rel K (un O (nw r v)) env' σ H' → Step env σ H env' σ H' → RR K (un O (nw r v)) env' σ H H' r v → Q v H'
def tT (f : Cells → Res Bool) : TT := fun σ H Q => ∃ O env, Rel K O env σ H ∧ ∃ b env', f env = .ok b env' ∧
  ∀ H', Rel K O env' σ H' → Step env σ H env' σ H' → Q b H'
def tA (f : Cells → Res (List R)) : TA := fun σ H Q => ∃ O env, Rel K O env σ H ∧ ∃ rs env', f env = .ok rs env' ∧
  ∀ vs H', Rel K (un O (nws rs vs)) env' σ H' → Step env σ H env' σ H' → RRs K (un O (nws rs vs)) env' σ H H' rs vs → Apart rs vs → Q vs H'
def tO (f : Cells → Res (Option Int)) : TO := fun σ H Q => ∃ O env, Rel K O env σ H ∧ ∃ o env', f env = .ok o env' ∧
  ∀ H', Rel K O env' σ H' → Step env σ H env' σ H' → Q o H'
/-- rules by values: two operands, one, a list of arguments -/
def r2 (f : D → D → Option RO) : R2 := fun x y H Q => ∃ A dx dy ro, GoodA A H ∧ View K A H dx x ∧ View K A H dy y ∧ f dx dy = some ro ∧
  ∀ v H', Same H H' → ROR K A H H' ro v → Q v H'
def r1 (f : D → Option RO) : V → Hp → VK → Prop := fun x H Q => ∃ A dx ro, GoodA A H ∧ View K A H dx x ∧ f dx = some ro ∧
  ∀ v H', Same H H' → ROR K A H H' ro v → Q v H'
def rL (f : List D → Option RO) : List V → Hp → VK → Prop := fun xs H Q => ∃ A ds ro, GoodA A H ∧ ViewL K A H ds xs ∧ f ds = some ro ∧
  ∀ v H', Same H H' → ROR K A H H' ro v → Q v H'
end
section
variable {K : PySem.W.Frag} {σ : L2.St} {H : Hp}
theorem Res.bind_ok {α β : Type} {x : Res α} {f : α → Cells → Res β} {b : β} {env : Cells} (h : x.bind f = .ok b env) : ∃ a env1, x = .ok a env1 ∧ f a env1 = .ok b env := by
  cases x with
  | ok a env1 => exact ⟨a, env1, rfl, h⟩
  | exc e env1 => cases h
  | bad => cases h
theorem ofO_ok {α : Type} {env env1 : Cells} {o : Option α} {a : α} (h : ofO env o = .ok a env1) : o = some a ∧ env1 = env := by
  cases o with
  | none => cases h
  | some b => cases h; exact ⟨rfl, rfl⟩
theorem map_toR {o : Option RO} {r : R} (h : o.map RO.toR = some r) : ∃ ro, o = some ro ∧ r = ro.toR := by
  cases o with
  | none => cases h
  | some ro => cases h; exact ⟨ro, rfl, rfl⟩
/-- two operands -/
theorem tE_do2 {f : D → D → Option RO} {a b : Cells → Res R} {Q : VK} (h : tE K (do2 (fun x y => (f x y).map RO.toR) a b) σ H Q) : tOp (r2 K f) (tE K a) (tE K b) σ H Q := by
  obtain ⟨O, env, rel, r, env', e, q⟩ := h
  obtain ⟨x, env1, e1, e⟩ := Res.bind_ok e
  obtain ⟨y, env2, e2, e⟩ := Res.bind_ok e
  refine ⟨O, env, rel, x, env1, e1, fun v H1 rel1 st1 rr1 => ⟨_, env1, rel1, y, env2, e2, fun u H2 rel2 st2 rr2 => ?_⟩⟩
  cases g1 : x.get env2 with
  | none => rw [g1] at e; cases e
  | some dx =>
    cases g2 : y.get env2 with
    | none => rw [g1, g2] at e; cases e
    | some dy =>
      rw [g1, g2] at e
      obtain ⟨e3, e4⟩ := ofO_ok e
      subst e4
      obtain ⟨ro, e5, rfl⟩ := map_toR e3
      refine ⟨Av _ _ σ H2, dx, dy, ro, av_good rel2, (rr1.step rel1 st2 rr2.fresh fun a z => .inr z).view rel2 g1, rr2.view rel2 g2, e5, fun w H3 g ror => ?_⟩
      obtain ⟨rel3, rr3⟩ := ror_rr (O := O) rel2 (fun a z => .inl (.inl z)) g ror
      exact q w H3 rel3 ((st1.trans st2).trans (Step.grow g)) (rr3.back fun p => (st1.trans st2).back)
/-- one operand -/
theorem tE_do1d {f : D → Option RO} {a : Cells → Res R} {Q : VK} (h : tE K (do1 (fun x => (f x).map RO.toR) a) σ H Q) :
    ∃ dx, tE K a σ H fun v H1 => ∃ A ro, GoodA A H1 ∧ View K A H1 dx v ∧ f dx = some ro ∧ ∀ w H3, Same H1 H3 → ROR K A H1 H3 ro w → Q w H3 := by
  obtain ⟨O, env, rel, r, env', e, q⟩ := h
  obtain ⟨x, env1, e1, e⟩ := Res.bind_ok e
  cases g1 : x.get env1 with
  | none => rw [g1] at e; cases e
  | some dx =>
    refine ⟨dx, O, env, rel, x, env1, e1, fun v H1 rel1 st1 rr1 => ?_⟩
    rw [g1] at e
    obtain ⟨e3, e4⟩ := ofO_ok e
    subst e4
    obtain ⟨ro, e5, rfl⟩ := map_toR e3
    refine ⟨Av _ _ σ H1, ro, av_good rel1, rr1.view rel1 g1, e5, fun w H3 g ror => ?_⟩
    obtain ⟨rel3, rr3⟩ := ror_rr (O := O) rel1 (fun a z => .inl z) g ror
    exact q w H3 rel3 (st1.trans (Step.grow g)) (rr3.back fun p => st1.back)
theorem tE_do1 {f : D → Option RO} {a : Cells → Res R} {Q : VK} (h : tE K (do1 (fun x => (f x).map RO.toR) a) σ H Q) : tUn (r1 K f) (tE K a) σ H Q := by
  obtain ⟨O, env, rel, r, env', e, q⟩ := h
  obtain ⟨x, env1, e1, e⟩ := Res.bind_ok e
  refine ⟨O, env, rel, x, env1, e1, fun v H1 rel1 st1 rr1 => ?_⟩
  cases g1 : x.get env1 with
  | none => rw [g1] at e; cases e
  | some dx =>
    rw [g1] at e
    obtain ⟨e3, e4⟩ := ofO_ok e
    subst e4
    obtain ⟨ro, e5, rfl⟩ := map_toR e3
    refine ⟨Av _ _ σ H1, dx, ro, av_good rel1, rr1.view rel1 g1, e5, fun w H3 g ror => ?_⟩
    obtain ⟨rel3, rr3⟩ := ror_rr (O := O) rel1 (fun a z => .inl z) g ror
    exact q w H3 rel3 (st1.trans (Step.grow g)) (rr3.back fun p => st1.back)
/-- arguments -/
theorem tA_nil {Q : List V → Hp → Prop} (h : tA K (fun env => .ok [] env) σ H Q) : tNil σ H Q := by
  obtain ⟨O, env, rel, rs, env', e, q⟩ := h
  cases e
  exact q [] H (by rw [un_nil]; exact rel) Step.refl rfl trivial
theorem tA_cons {f : Cells → Res R} {g : Cells → Res (List R)} {Q : List V → Hp → Prop}
    (h : tA K (fun env => (f env).bind fun r env1 => (g env1).bind fun rs env2 => .ok (r :: rs) env2) σ H Q) : tCons (tE K f) (tA K g) σ H Q := by
  obtain ⟨O, env, rel, rs, env', e, q⟩ := h
  obtain ⟨x, env1, e1, e⟩ := Res.bind_ok e
  obtain ⟨ys, env2, e2, e⟩ := Res.bind_ok e
  cases e
  refine ⟨O, env, rel, x, env1, e1, fun v H1 rel1 st1 rr1 => ⟨_, env1, rel1, ys, _, e2, fun us H2 rel2 st2 rr2 ap => ?_⟩⟩
  refine q (v :: us) H2 (by rw [un_cons']; exact rel2) (st1.trans st2) ?_ ⟨fun a z n => ?_, ap⟩
  · rw [un_cons']
    exact ⟨v, us, rfl, rr1.step rel1 st2 rr2.fresh fun a z => .inr z, rr2.back fun p => st1.back⟩
  · exact rel1.hidT (.inr z) (rr2.fresh a n)
/-- a built-in by values -/
theorem tE_doBlt {b : Blt} {es : Cells → Res (List R)} {Q : VK} (h : tE K (doBlt b es) σ H Q) : tCB (rL K (bltD b)) (tA K es) σ H Q := by
  obtain ⟨O, env, rel, r, env', e, q⟩ := h
  obtain ⟨rs, env1, e1, e⟩ := Res.bind_ok e
  refine ⟨O, env, rel, rs, env1, e1, fun vs H1 rel1 st1 rr1 _ => ?_⟩
  cases g1 : gets env1 rs with
  | none => rw [g1] at e; cases e
  | some ds =>
    rw [g1] at e
    obtain ⟨e3, e4⟩ := ofO_ok e
    subst e4
    obtain ⟨ro, e5, rfl⟩ := map_toR e3
    refine ⟨Av _ _ σ H1, ds, ro, av_good rel1, rr1.views rel1 g1, e5, fun w H3 g ror => ?_⟩
    obtain ⟨rel3, rr3⟩ := ror_rr (O := O) rel1 (fun a z => .inl z) g ror
    exact q w H3 rel3 (st1.trans (Step.grow g)) (rr3.back fun p => st1.back)
/-- displays -/
theorem hs_of {O : Addr → Prop} {env env' : Cells} {σ : L2.St} {H H' : Hp} {rs : List R} {vs : List V} (rel : Rel K O env σ H)
    (h : RRs K (un O (nws rs vs)) env' σ H H' rs vs) (a : Addr) (n : nws rs vs a) : ¬ O a := fun z => rel.hidT z (h.fresh a n)
theorem hs1_of {O O' : Addr → Prop} {env env' : Cells} {σ : L2.St} {H H' : Hp} {r : R} {v : V} (rel : Rel K O env σ H)
    (h : RR K O' env' σ H H' r v) (a : Addr) (n : nw r v a) : ¬ O a := fun z => rel.hidT z (h.fresh a n)
theorem Rel.plus {O : Addr → Prop} {env : Cells} {x : D} {v : V} (rel : Rel K O env σ H) : Rel K (un O (nw (.d x) v)) env σ H := rel.less fun a z => z.elim id fun z => z.elim
theorem rr_d {O : Addr → Prop} {env : Cells} {H0 : Hp} {x : D} {v : V} (h : Rp K (Av O env σ H) x v) : RR K (un O (nw (.d x) v)) env σ H0 H (.d x) v :=
  Rp.mono (av_anti fun a z => z.elim id fun z => z.elim) _ _ h
theorem tE_tup {es : Cells → Res (List R)} {Q : VK} (h : tE K (doSeq (fun xs => .d (.tup xs)) es) σ H Q) : tTup (tA K es) σ H Q := by
  obtain ⟨O, env, rel, r, env', e, q⟩ := h
  obtain ⟨rs, env1, e1, e⟩ := Res.bind_ok e
  refine ⟨O, env, rel, rs, env1, e1, fun vs H1 rel1 st1 rr1 ap => ?_⟩
  cases g1 : frzs env1 rs with
  | none => rw [g1] at e; cases e
  | some p =>
    obtain ⟨ds, env2⟩ := p
    rw [g1] at e
    simp only at e
    obtain ⟨rel2, st2, rp2⟩ := frzs_ok rel1 (hs_of rel rr1) ap rr1 g1
    split at e
    · rename_i hl
      cases e
      refine ⟨?_, fun p hp => ?_⟩
      · rw [rp2.length]
        exact Nat.le_trans hl (by decide)
      · have g : Same H1 (upd H1 p (.tup vs)) := same_new hp
        have st3 := Step.grow (env := env') (σ := σ) g
        refine q _ _ (rel2.grow g).plus ((st1.trans st2).trans st3) (rr_d ?_)
        simp only [Rp]
        exact ⟨p, vs, rfl, .inl ⟨rel2.fresh_not hp, fun z => rel2.hidT z hp, .inl upd_same⟩, st3.rpL rp2⟩
    · cases e
theorem tE_lst {es : Cells → Res (List R)} {Q : VK} (h : tE K (doSeq (fun xs => .new (.lst xs)) es) σ H Q) : tLst (tA K es) σ H Q := by
  obtain ⟨O, env, rel, r, env', e, q⟩ := h
  obtain ⟨rs, env1, e1, e⟩ := Res.bind_ok e
  refine ⟨O, env, rel, rs, env1, e1, fun vs H1 rel1 st1 rr1 ap => ?_⟩
  cases g1 : frzs env1 rs with
  | none => rw [g1] at e; cases e
  | some p =>
    obtain ⟨ds, env2⟩ := p
    rw [g1] at e
    simp only at e
    obtain ⟨rel2, st2, rp2⟩ := frzs_ok rel1 (hs_of rel rr1) ap rr1 g1
    split at e
    · rename_i hl
      cases e
      refine ⟨?_, fun p hp => ?_⟩
      · rw [rp2.length]
        exact Nat.le_trans hl (by decide)
      · have g : Same H1 (upd H1 p (.lst vs)) := same_new hp
        have ror : ROR K (Av O env' σ H1) H1 (upd H1 p (.lst vs)) (.new (.lst ds)) (.ref p) := ⟨p, rfl, hp, ⟨_, upd_same, trivial⟩, vs, upd_same, rp2⟩
        obtain ⟨rel3, rr3⟩ := ror_rr (O := O) rel2 (fun a z => z) g ror
        exact q _ _ rel3 ((st1.trans st2).trans (Step.grow g)) (rr3.back fun p => (st1.trans st2).back)
    · cases e
/-- a name -/
theorem Rel.own {O : Addr → Prop} {env : Cells} {i : Nat} {v : V} (rel : Rel K O env σ H) : Rel K (un O (nw (.own i) v)) env σ H := rel.less fun a z => z.elim id fun z => z.elim
theorem tE_var {i : Nat} {Q : VK} (h : tE K (doVar i) σ H Q) : tVar i σ H Q := by
  obtain ⟨O, env, rel, r, env', e, q⟩ := h
  unfold doVar at e
  cases e1 : env[i]? with
  | none => rw [e1] at e; cases e
  | some c =>
    rw [e1] at e
    cases c with
    | none => cases e
    | d x =>
      cases e
      obtain ⟨v, e2, rp⟩ := rel.at_ i _ e1
      exact ⟨v, e2, q v H rel.plus Step.refl (rr_d rp)⟩
    | o b =>
      cases e
      obtain ⟨p, e2, rp⟩ := rel.ob (obAt_o e1)
      exact ⟨_, e2, q _ H rel.own Step.refl e2⟩
    | io b =>
      cases e
      obtain ⟨p, e2, rp⟩ := rel.ob (obAt_io e1)
      exact ⟨_, e2, q _ H rel.own Step.refl e2⟩
theorem tE_cst {x : D} {v : V} {Q : VK} (hv : ∀ A, Rp K A x v) (h : tE K (fun env => .ok (.d x) env) σ H Q) : tC v σ H Q := by
  obtain ⟨O, env, rel, r, env', e, q⟩ := h
  cases e
  exact q v H rel.plus Step.refl (rr_d (hv _))
/-- tests -/
theorem tT_and {f g : Cells → Res Bool} {Q : Bool → Hp → Prop} (h : tT K (toAnd f g) σ H Q) : tAnd (tT K f) (tT K g) σ H Q := by
  obtain ⟨O, env, rel, r, env', e, q⟩ := h
  obtain ⟨x, env1, e1, e⟩ := Res.bind_ok e
  refine ⟨O, env, rel, x, env1, e1, fun H1 rel1 st1 => ?_⟩
  cases x with
  | true => rw [if_pos rfl] at e ⊢; exact ⟨_, env1, rel1, r, env', e, fun H2 rel2 st2 => q H2 rel2 (st1.trans st2)⟩
  | false => rw [if_neg Bool.false_ne_true] at e ⊢; cases e; exact q H1 rel1 st1
theorem tT_or {f g : Cells → Res Bool} {Q : Bool → Hp → Prop} (h : tT K (toOr f g) σ H Q) : tOr (tT K f) (tT K g) σ H Q := by
  obtain ⟨O, env, rel, r, env', e, q⟩ := h
  obtain ⟨x, env1, e1, e⟩ := Res.bind_ok e
  refine ⟨O, env, rel, x, env1, e1, fun H1 rel1 st1 => ?_⟩
  cases x with
  | true => rw [if_pos rfl] at e ⊢; cases e; exact q H1 rel1 st1
  | false => rw [if_neg Bool.false_ne_true] at e ⊢; exact ⟨_, env1, rel1, r, env', e, fun H2 rel2 st2 => q H2 rel2 (st1.trans st2)⟩
theorem tT_not {f : Cells → Res Bool} {Q : Bool → Hp → Prop} (h : tT K (toNot f) σ H Q) : tNot (tT K f) σ H Q := by
  obtain ⟨O, env, rel, r, env', e, q⟩ := h
  obtain ⟨x, env1, e1, e⟩ := Res.bind_ok e
  cases e
  exact ⟨O, env, rel, x, _, e1, fun H1 rel1 st1 => q H1 rel1 st1⟩
theorem tT_of {f : Cells → Res R} {Q : Bool → Hp → Prop} (h : tT K (E2.of f).t σ H Q) : tE K f σ H fun x H' => ∃ k, TruV K x H' k ∧ Q k H' := by
  obtain ⟨O, env, rel, r, env', e, q⟩ := h
  obtain ⟨x, env1, e1, e⟩ := Res.bind_ok e
  refine ⟨O, env, rel, x, env1, e1, fun v H1 rel1 st1 rr1 => ?_⟩
  cases g1 : x.get env1 with
  | none => rw [g1] at e; cases e
  | some d =>
    rw [g1] at e
    obtain ⟨e3, e4⟩ := ofO_ok e
    subst e4
    have vw := rr1.view rel1 g1
    refine ⟨r, ?_, q H1 (rel1.less fun a z => .inl z) st1⟩
    cases d with
    | non => cases e3; simp only [View] at vw; subst vw; exact rfl
    | bl b => cases e3; simp only [View] at vw; subst vw; exact rfl
    | int i => cases e3; simp only [View] at vw; subst vw; exact rfl
    | str s =>
      simp only [View] at vw
      subst vw
      simp only [truD] at e3
      split at e3
      · rename_i hl
        cases e3
        refine ⟨Nat.le_trans (by simpa [mkS, Str.length] using hl) (by decide), ?_⟩
        cases s <;> simp [mkS, Str.length]
        omega
      · cases e3
    | tup xs =>
      cases e3
      simp only [View] at vw
      obtain ⟨a, ys, rfl, hs, hr⟩ := vw
      refine .inr (.inl ⟨ys, hs, ?_⟩)
      have := hr.length
      cases xs <;> cases ys <;> simp_all
    | lst xs =>
      cases e3
      simp only [View] at vw
      obtain ⟨a, ys, rfl, hs, hr⟩ := vw
      refine .inl ⟨ys, hs.seq, ?_⟩
      have := hr.length
      cases xs <;> cases ys <;> simp_all
    | dic xs => cases e3
/-- and, or, not as values; a if c else b -/
theorem tE_and {a b : Cells → Res R} {Q : VK} (h : tE K (doAnd a b) σ H Q) : tAndV (tE K a) (tE K b) σ H Q := by
  obtain ⟨O, env, rel, r, env', e, q⟩ := h
  obtain ⟨x, env1, e1, e⟩ := Res.bind_ok e
  refine ⟨O, env, rel, x, env1, e1, fun v H1 rel1 st1 rr1 => ?_⟩
  cases x with
  | own i => cases e
  | new b => cases e
  | d d =>
    cases d with
    | bl c =>
      have hv : v = .bl c := by simpa [RR, Rp] using rr1
      refine ⟨c, hv, ?_⟩
      cases c with
      | true => rw [if_pos rfl]; exact ⟨O, env1, rel1.less fun a z => .inl z, r, env', e, fun w H2 rel2 st2 rr2 => q w H2 rel2 (st1.trans st2) (rr2.back fun p => st1.back)⟩
      | false => rw [if_neg Bool.false_ne_true]; cases e; exact q _ H1 rel1 st1 (by rw [hv] at rr1; exact rr1)
    | _ => cases e
theorem tE_or {a b : Cells → Res R} {Q : VK} (h : tE K (doOr a b) σ H Q) : tOrV (tE K a) (tE K b) σ H Q := by
  obtain ⟨O, env, rel, r, env', e, q⟩ := h
  obtain ⟨x, env1, e1, e⟩ := Res.bind_ok e
  refine ⟨O, env, rel, x, env1, e1, fun v H1 rel1 st1 rr1 => ?_⟩
  cases x with
  | own i => cases e
  | new b => cases e
  | d d =>
    cases d with
    | bl c =>
      have hv : v = .bl c := by simpa [RR, Rp] using rr1
      refine ⟨c, hv, ?_⟩
      cases c with
      | false => rw [if_neg Bool.false_ne_true]; exact ⟨O, env1, rel1.less fun a z => .inl z, r, env', e, fun w H2 rel2 st2 rr2 => q w H2 rel2 (st1.trans st2) (rr2.back fun p => st1.back)⟩
      | true => rw [if_pos rfl]; cases e; exact q _ H1 rel1 st1 (by rw [hv] at rr1; exact rr1)
    | _ => cases e
theorem tE_not {a : Cells → Res R} {Q : VK} (h : tE K (doNot a) σ H Q) : tNotV (tE K a) σ H Q := by
  obtain ⟨O, env, rel, r, env', e, q⟩ := h
  obtain ⟨x, env1, e1, e⟩ := Res.bind_ok e
  refine ⟨O, env, rel, x, env1, e1, fun v H1 rel1 st1 rr1 => ?_⟩
  cases x with
  | own i => cases e
  | new b => cases e
  | d d =>
    cases d with
    | bl c =>
      have hv : v = .bl c := by simpa [RR, Rp] using rr1
      cases e
      exact ⟨c, hv, q _ H1 rel1 st1 (by simp [RR, Rp])⟩
    | _ => cases e
theorem tE_ite {c : Cells → Res Bool} {a b : Cells → Res R} {Q : VK} (h : tE K (doIte c a b) σ H Q) : tIf (tT K c) (tE K a) (tE K b) σ H Q := by
  obtain ⟨O, env, rel, r, env', e, q⟩ := h
  obtain ⟨x, env1, e1, e⟩ := Res.bind_ok e
  refine ⟨O, env, rel, x, env1, e1, fun H1 rel1 st1 => ?_⟩
  cases x with
  | true => rw [if_pos rfl] at e ⊢; exact ⟨_, env1, rel1, r, env', e, fun w H2 rel2 st2 rr2 => q w H2 rel2 (st1.trans st2) (rr2.back fun p => st1.back)⟩
  | false => rw [if_neg Bool.false_ne_true] at e ⊢; exact ⟨_, env1, rel1, r, env', e, fun w H2 rel2 st2 rr2 => q w H2 rel2 (st1.trans st2) (rr2.back fun p => st1.back)⟩
end
end Fx

set_option Elab.async false
set_option linter.all false
set_option maxRecDepth 100000
set_option maxHeartbeats 3000000
/-! Fx26: tuple * int, any number: three cases of the built-in, one road to it. -/
namespace Fx
open L2 PyProof.Rows PySem PySem.Spec
section
variable {l : Addr} {its : Array Value} {n : Nat} {dd : Option Addr} {sl : Array (Option Value)} {k : Int} {t : Tok}
/-- the tuple as it lies -/
abbrev TupAt (l : Addr) (its : Array Value) (n : Nat) (dd : Option Addr) (sl : Array (Option Value)) (s : Shared) : Prop :=
  s.heap.get? l = some { cls := .type "tuple", dict := dd, data := .seq its n, slots := sl }
theorem ff {b : Bool} (h : b = false) : ¬ b = true := fun z => nomatch h.symm.trans z
/-- times one, or nothing in it: itself -/
theorem mul_self (fit : (decide (k < -(2 ^ 63)) || decide (k ≥ 2 ^ 63)) = false) (self : (its.isEmpty || k == 1) = true) :
    Meets (Builtin.«tuple.__mul__» ⟨[.ref l, .int k t], []⟩) (fun _ R s => TupAt l its n dd sl s ∧ R (.ok (.ret (.ref l))) s) := by
  refine .of_wp fun prog w A R st both => ?_
  rcases st with ⟨heap, gens, dirs, toks, os⟩
  rcases both with ⟨at_l, post⟩
  have := AutoSeq1.idx_int
  wp_walk using wpAny_loadPart' at_l
  refine wpAny_ite_false (decide_eq_false (ff fit)) ?_
  wp_walk using wpAny_loadPart' at_l
  exact ⟨_, rfl, post⟩
/-- times nothing: a new empty one -/
theorem mul_none (fit : (decide (k < -(2 ^ 63)) || decide (k ≥ 2 ^ 63)) = false) (self : (its.isEmpty || k == 1) = false) (none : (decide (k ≤ 0) || its.isEmpty) = true) :
    Meets (Builtin.«tuple.__mul__» ⟨[.ref l, .int k t], []⟩) (fun _ R s => TupAt l its n dd sl s ∧
      R (.ok (.ret (.ref s.heap.objs.size))) { s with heap := s.heap.push { cls := .type "tuple", data := .seq #[] } }) := by
  refine .of_wp fun prog w A R st both => ?_
  rcases st with ⟨heap, gens, dirs, toks, os⟩
  rcases both with ⟨at_l, post⟩
  have := AutoSeq1.idx_int
  wp_walk using wpAny_loadPart' at_l
  refine wpAny_ite_false (decide_eq_false (ff fit)) ?_
  wp_walk using wpAny_loadPart' at_l
  exact ⟨_, rfl, post⟩
variable {prog : Program} {w : World} {A : Around} {s : Shared} {E Q : Value → Shared → Prop}
/-- the operator gives way to the built-in -/
theorem to_mul {S : PySem.Spec} (at_l : TupAt l its n dd sl s) (m : Meets (Builtin.«tuple.__mul__» ⟨[.ref l, .int k t], []⟩) S) (go : S A (wants Q E) s) :
    wpAny (model prog w) A (binaryOp .Mult (.ref l) (.int k t)) Q E s := by
  have isT : s.TypeIs (.ref l) "tuple" := ⟨_, at_l, rfl⟩
  have isI : ∀ s' : Shared, s'.TypeIs (.int k t) "int" := fun s' => typeIs_int s' k t
  have slow := call_meets (prog := prog) (w := w) F.slot_tuple_mul isT F.entry_tuple_mul (F.args_tuple_mul_2 _ _) m go
  have fast := int_rmul_tuple k t l its n dd sl
  refine wpAny_binaryOp_repeat_ref (by decide) isT isI noFill_tuple_mul F.fills_int_mul F.slot_int_rmul repeat_tuple F.slot_int_index.lookup ?_
  exact call_meets F.slot_int_rmul (isI s) F.entry_int_rmul (F.args_int_rmul_2 _ _) fast ⟨at_l, rfl, isT, slow⟩
end
section
variable {X : Cx}
/-- the elements as often as asked, given the sizes -/
theorem times_small {its : List Value} {k : Int} (b : its.length * k.toNat ≤ 1000000) (p : 0 < k) :
    ¬ ((its.toArray.size : Nat) : Int) * k > (2 ^ 63 - 1) / 8 ∧ Builtin.Tuple.tupleTooMany (((its.toArray.size : Nat) : Int) * k) = false ∧ (List.replicate k.toNat its).flatten.length ≤ sizeLine := by
  obtain ⟨m, rfl⟩ := Int.eq_ofNat_of_zero_le (Int.le_of_lt p)
  have b : its.length * m ≤ 1000000 := b
  have e : ((its.toArray.size : Nat) : Int) * (m : Int) = ((its.length * m : Nat) : Int) := by simp
  rw [e]
  have sl := sizeLine_eq
  refine ⟨by omega, ?_, ?_⟩
  · simp only [Builtin.Tuple.tupleTooMany, decide_eq_false_iff_not]
    omega
  · show (List.replicate m its).flatten.length ≤ _
    rw [lm_len_rep_flat, Nat.mul_comm]
    omega
theorem op_repT2 : OpR X (binaryOp .Mult) (fun x y H Q => ∃ l k xs, x = .ref l ∧ y = .int k ∧ SqT X.K H l xs ∧ xs.length * k.toNat ≤ 1000000 ∧ k.natAbs ≤ 1000000 ∧ ((xs = [] ∨ k = 1) → Q (.ref l) H) ∧
    (∀ p, H p = none → Q (.ref p) (upd H p (.tup (List.replicate k.toNat xs).flatten)))) := by
  rintro pns s σ H _ _ _ _ Q I rx ry ⟨l, k, xs, rfl, rfl, old, small, kk, same, new⟩
  obtain ⟨t, rfl⟩ := ry
  cases rx
  obtain ⟨its, rv, ⟨ob, at_l, isT, n, ed⟩, _⟩ := I.tuple old
  obtain ⟨cls, dd, data, sl⟩ := ob
  dsimp only at isT ed
  subst isT
  subst ed
  have ln : xs.length = its.length := rv.length
  have fit : (decide (k < -(2 ^ 63)) || decide (k ≥ 2 ^ 63)) = false := by simp; omega
  have made : ∀ ys : List V, ∀ zs : List Value, Vals ys zs → ys.length ≤ sizeLine → (∀ p, H p = none → Q (.ref p) (upd H p (.tup ys))) →
      EP X pns σ Q (.ref s.heap.objs.size) { s with heap := s.heap.push { cls := .type "tuple", data := .seq zs.toArray } } := fun ys zs r b q =>
    ⟨.ref _, _, I.laid (o := .tup ys) (t' := s.toks) (fun _ _ z => Heap.get?_push_of_some _ z) (Nat.le_refl _) ⟨b, zs, r, IsTup.new _ _⟩, rfl, q _ I.fresh⟩
  cases self : (its.toArray.isEmpty || k == 1) with
  | true =>
    refine to_mul at_l (mul_self fit self) ⟨at_l, .ref l, H, I, rfl, same ?_⟩
    simp only [Bool.or_eq_true, beq_iff_eq, List.isEmpty_toArray, List.isEmpty_iff] at self
    exact self.imp (fun z => List.eq_nil_of_length_eq_zero (by rw [ln, z]; rfl)) id
  | false =>
    cases none : (decide (k ≤ 0) || its.toArray.isEmpty) with
    | true =>
      refine to_mul at_l (mul_none fit self none) ⟨at_l, made [] [] .nil (Nat.zero_le _) fun p hp => ?_⟩
      have k0 : k.toNat = 0 := by
        simp only [Bool.or_eq_true, Bool.or_eq_false_iff, decide_eq_true_eq] at self none
        rcases none with z | z
        · omega
        · rw [self.1] at z; exact nomatch z
      have y := new p hp
      rw [k0] at y
      exact y
    | false =>
      have pos : 0 < k := by
        simp only [Bool.or_eq_false_iff, decide_eq_false_iff_not] at none
        omega
      obtain ⟨c3, c4, c5⟩ := times_small (its := its) (by rw [← ln]; exact small) pos
      have fold : List.foldl (fun x1 x2 => x1 ++ x2) #[] (List.replicate k.toNat its.toArray) = (List.replicate k.toNat its).flatten.toArray := L2.size_rep its _
      have whole := tuple_mulW l its.toArray n dd sl k t fit self none c3 c4 (by rw [fold]; exact c5)
      rw [fold] at whole
      exact to_mul at_l whole ⟨at_l, made _ _ (rv.rep k.toNat) (by rw [(rv.rep k.toNat).length]; exact c5) new⟩
end
end Fx

set_option Elab.async false
set_option linter.all false
set_option maxRecDepth 100000
/-! Fx4: operators by values on data. -/
namespace Fx
open L2 PyProof.Rows PySem PySem.Spec
section
variable {X : Cx} {pns : List (Addr × Obj)} {σ : L2.St} {H : Hp} {s : Shared}

/-- a list that may be read, as it lies -/
theorem rd_list (I : Inv X pns σ H s) {l : Addr} {xs : List V} (h : LsH X.K H l xs) :
    xs.length ≤ sizeLine ∧ ∃ (its : List Value) (n : Nat), Vals xs its ∧ xs.length = its.length ∧ s.heap.get? l = some { cls := .type "list", data := .seq its.toArray n } := by
  rcases h with h | ⟨its, n, h1, h2, h3⟩
  · rcases h.ok I.hok with ⟨small, its, n, r, here⟩
    exact ⟨small, its, n, r, r.length, here⟩
  · exact ⟨by rw [h3.length, Array.length_toList]; exact h2, its.toList, n, h3, h3.length, I.kIn _ _ h1⟩
theorem seqL {K : PySem.W.Frag} {a : Addr} {xs : List V} (h : LsH K H a xs) : SqL K H a xs := h.seq
theorem lim_le {n : Nat} (h : n ≤ lim) : n ≤ sizeLine := Nat.le_trans h (by decide)

/-- a new list handed back -/
theorem give_lst {K : PySem.W.Frag} {A : RdA} {ds : List D} {xs : List V} {p : Addr} {Q : VK} (hn : H p = none) (r : RpL K A ds xs)
    (q : ∀ v H', Same H H' → ROR K A H H' (.new (.lst ds)) v → Q v H') : Q (.ref p) (upd H p (.lst xs)) :=
  q _ _ (same_new hn) ⟨p, rfl, hn, ⟨_, upd_same, trivial⟩, xs, upd_same, r⟩
/-- a new tuple -/
theorem give_tup {K : PySem.W.Frag} {A : RdA} {ds : List D} {xs : List V} {p : Addr} {Q : VK} (hn : H p = none) (r : RpL K A ds xs)
    (q : ∀ v H', Same H H' → ROR K A H H' (.d (.tup ds)) v → Q v H') : Q (.ref p) (upd H p (.tup xs)) := by
  refine q _ _ (same_new hn) ?_
  show Rp K _ (.tup ds) (.ref p)
  simp only [Rp]
  exact ⟨p, xs, rfl, .inl (.inr ⟨hn, .inl upd_same⟩), RpL.mono (fun _ _ h => .inl h) _ _ r⟩
/-- the tuple itself -/
theorem give_tup0 {K : PySem.W.Frag} {A : RdA} {ds : List D} {xs : List V} {p : Addr} {Q : VK} (ha : SqTA K A p xs) (r : RpL K A ds xs)
    (q : ∀ v H', Same H H' → ROR K A H H' (.d (.tup ds)) v → Q v H') : Q (.ref p) H := by
  refine q _ _ (Same.refl H) ?_
  show Rp K _ (.tup ds) (.ref p)
  simp only [Rp]
  exact ⟨p, xs, rfl, ha.mono fun _ _ h => .inl h, RpL.mono (fun _ _ h => .inl h) _ _ r⟩
theorem intBits_le (i : Int) : Builtin.Int.intBits i ≤ bits i + 1 := by
  unfold Builtin.Int.intBits bits
  split <;> omega
theorem mkS_app (a b : List Nat) : mkS a ++ mkS b = mkS (a ++ b) := by
  show (⟨(mkS a).cps ++ (mkS b).cps⟩ : Str) = _
  simp [mkS]
theorem mkS_len (a : List Nat) : (mkS a).length = a.length := by simp [mkS, Str.length]
end
section
variable {X : Cx}
theorem op_addG : OpR X (binaryOp .Add) (r2 X.K (binD .add)) := by
  intro pns s σ H x y v u Q I rx ry h
  obtain ⟨A, dx, dy, ro, ga, vx, vy, hf, q⟩ := h
  unfold binD at hf
  split at hf <;> try contradiction
  · rename_i a b _
    cases hf
    simp only [View] at vx vy
    subst vx vy
    exact op_add pns s σ H _ _ v u Q I rx ry ⟨a, b, rfl, rfl, q _ _ (Same.refl H) (by simp [ROR, Rp])⟩
  · rename_i a b _
    split at hf <;> cases hf
    rename_i hl
    simp only [View] at vx vy
    subst vx vy
    refine op_add_str pns s σ H _ _ v u Q I rx ry ⟨mkS a, mkS b, rfl, rfl, ?_, ?_⟩
    · rw [mkS_len, mkS_len]; exact lim_le hl
    · rw [mkS_app]; exact q _ _ (Same.refl H) (by simp [ROR, Rp])
  · rename_i a b _
    split at hf <;> cases hf
    rename_i hl
    simp only [View] at vx vy
    obtain ⟨l, xs, rfl, hx, r1⟩ := vx
    obtain ⟨m, ys, rfl, hy, r2⟩ := vy
    cases rx
    cases ry
    obtain ⟨z, its, n, r, hl1, e⟩ := rd_list I hx
    obtain ⟨z2, its2, n2, r', hl2, e2⟩ := rd_list I hy
    have hle : xs.length + ys.length ≤ sizeLine := by rw [r1.length, r2.length]; exact lim_le hl
    have small : its.toArray.size + its2.toArray.size ≤ sizeLine := by simp only [List.size_toArray]; omega
    refine PySem.P.add_list e e2 ?_ small
    have joined : its.toArray ++ its2.toArray = (its ++ its2).toArray := by simp
    rw [joined]
    exact ⟨.ref _, _, I.lnew (t' := s.toks) (r.append r') (by rw [List.length_append]; exact hle), rfl, give_lst I.fresh (r1.append r2) q⟩
  · rename_i a b _
    split at hf <;> cases hf
    rename_i hl
    simp only [View] at vx vy
    obtain ⟨l, xs, rfl, hx, r1⟩ := vx
    obtain ⟨m, ys, rfl, hy, r2⟩ := vy
    refine op_catA pns s σ H _ _ v u Q I rx ry ⟨l, m, xs, ys, rfl, rfl, hx, hy, by rw [r1.length, r2.length]; exact lim_le hl, fun e => ?_, fun _ e => ?_, fun _ _ p hp => ?_⟩
    · subst e
      have e0 : a = [] := by have := r1.length; cases a <;> simp_all
      subst e0
      exact give_tup0 (ga.tup hy) r2 q
    · subst e
      have e0 : b = [] := by have := r2.length; cases b <;> simp_all
      subst e0
      rw [List.append_nil] at q
      exact give_tup0 (ga.tup hx) r1 q
    · exact give_tup hp (r1.append r2) q

theorem op_subG : OpR X (binaryOp .Sub) (r2 X.K (binD .sub)) := by
  intro pns s σ H x y v u Q I rx ry h
  obtain ⟨A, dx, dy, ro, ga, vx, vy, hf, q⟩ := h
  unfold binD at hf
  split at hf <;> try contradiction
  rename_i a b _
  cases hf
  simp only [View] at vx vy
  subst vx vy
  exact op_sub pns s σ H _ _ v u Q I rx ry ⟨a, b, rfl, rfl, q _ _ (Same.refl H) (by simp [ROR, Rp])⟩
theorem op_fdivG : OpR X (binaryOp .FloorDiv) (r2 X.K (binD .fdiv)) := by
  intro pns s σ H x y v u Q I rx ry h
  obtain ⟨A, dx, dy, ro, ga, vx, vy, hf, q⟩ := h
  unfold binD at hf
  split at hf <;> try contradiction
  rename_i a b _
  split at hf <;> cases hf
  rename_i hc
  simp only [View] at vx vy
  subst vx vy
  exact op_fdivW pns s σ H _ _ v u Q I rx ry ⟨a, b, rfl, rfl, hc, q _ _ (Same.refl H) (by simp [ROR, Rp])⟩
theorem op_modG : OpR X (binaryOp .Mod) (r2 X.K (binD .mod)) := by
  intro pns s σ H x y v u Q I rx ry h
  obtain ⟨A, dx, dy, ro, ga, vx, vy, hf, q⟩ := h
  unfold binD at hf
  split at hf <;> try contradiction
  rename_i a b _
  split at hf <;> cases hf
  rename_i hc
  simp only [View] at vx vy
  subst vx vy
  exact op_mod pns s σ H _ _ v u Q I rx ry ⟨a, b, rfl, rfl, hc, q _ _ (Same.refl H) (by simp [ROR, Rp])⟩
theorem op_powG : OpR X (binaryOp .Pow) (r2 X.K (binD .pow)) := by
  intro pns s σ H x y v u Q I rx ry h
  obtain ⟨A, dx, dy, ro, ga, vx, vy, hf, q⟩ := h
  unfold binD at hf
  split at hf <;> try contradiction
  rename_i a b _
  split at hf <;> cases hf
  rename_i hc
  simp only [View] at vx vy
  subst vx vy
  obtain ⟨t, rfl⟩ := rx
  obtain ⟨t', rfl⟩ := ry
  have h1 := intBits_le a
  have h2 : (Builtin.Int.intBits a : Int) * b ≤ 2 ^ 27 := by
    obtain ⟨n, rfl⟩ := Int.eq_ofNat_of_zero_le hc.1
    have h3 : (bits a + 1) * n ≤ lim := by simpa using hc.2
    have h4 : Builtin.Int.intBits a * n ≤ lim := Nat.le_trans (Nat.mul_le_mul_right n h1) h3
    have h5 : lim ≤ 2 ^ 27 := by decide
    have h6 : Builtin.Int.intBits a * n ≤ 2 ^ 27 := Nat.le_trans h4 h5
    exact_mod_cast h6
  exact PyProof.Rows.pow_int hc.1 h2 ⟨.int _, H, I.tok _, ⟨_, rfl⟩, q _ _ (Same.refl H) (by simp [ROR, Rp])⟩
theorem rep_rpL {K : PySem.W.Frag} {A : RdA} {ds : List D} {xs : List V} (h : RpL K A ds xs) : ∀ k : Nat, RpL K A (List.replicate k ds).flatten (List.replicate k xs).flatten
  | 0 => by simp [RpL]
  | k + 1 => by
    simp only [List.replicate_succ, List.flatten_cons]
    exact RpL.append h (rep_rpL h k)
theorem foldl_appA (k : Nat) (xs : List Nat) : (List.replicate k xs.toArray).foldl (· ++ ·) #[] = (List.replicate k xs).flatten.toArray := by
  have key : ∀ (k : Nat) (acc : List Nat), (List.replicate k xs.toArray).foldl (· ++ ·) acc.toArray = (acc ++ (List.replicate k xs).flatten).toArray := by
    intro k
    induction k with
    | zero => intro acc; simp
    | succ k ih =>
      intro acc
      rw [List.replicate_succ, List.foldl_cons, List.replicate_succ, List.flatten_cons]
      have e : acc.toArray ++ xs.toArray = (acc ++ xs).toArray := by simp
      rw [e, ih, List.append_assoc]
  simpa using key k []
/-- a list times an int: a new list of the old one's elements, as often -/
theorem rep_new {prog : Program} {w : World} {A : Around} {E : Value → Shared → Prop} {s : Shared} {Q : Value → Shared → Prop} {l : Addr} {its : List Value} {n : Nat} {k : Int} {t : Tok}
    (at_l : s.heap.get? l = some { cls := .type "list", data := .seq its.toArray n }) (lo : -(2 ^ 63) ≤ k) (hi : k < 2 ^ 63) (fits : its.length * k.toNat ≤ sizeLine)
    (out : Q (.ref s.heap.objs.size) { s with heap := s.heap.push { cls := .type "list", data := .seq (List.replicate k.toNat its).flatten.toArray } }) :
    wpAny (model prog w) A (binaryOp .Mult (.ref l) (.int k t)) Q E s := by
  have isL : s.TypeIs (.ref l) "list" := ⟨_, at_l, rfl⟩
  have isI : ∀ s' : Shared, s'.TypeIs (.int k t) "int" := fun s' => typeIs_int s' k t
  have size : its.toArray.size * k.toNat ≤ 16777216 := by rw [← sizeLine_eq, List.size_toArray]; exact fits
  have slow := lm_list_mul_any l its.toArray n none #[] k t (by rw [fitsIndex_both lo hi]; decide) (by omega) (by rw [notLongL (by rw [sizeLine_eq]; exact size)]; decide)
  rw [listMul_foldl_if] at slow
  have fast := lm_int_rmul_list_any k t l its.toArray n none #[]
  have s2 := call_meets (prog := prog) (w := w) (A := A) (E := E) (Q := Q) F.slot_list_mul isL F.entry_list_mul (F.args_list_mul_2 _ _) slow ⟨at_l, out⟩
  refine wpAny_binaryOp_repeat_ref (by decide) isL isI noFill_list_mul F.fills_int_mul F.slot_int_rmul repeat_list F.slot_int_index.lookup ?_
  exact call_meets F.slot_int_rmul (isI s) F.entry_int_rmul (F.args_int_rmul_2 _ _) fast ⟨at_l, rfl, isL, s2⟩
theorem op_mulG : OpR X (binaryOp .Mult) (r2 X.K (binD .mul)) := by
  intro pns s σ H x y v u Q I rx ry h
  obtain ⟨A, dx, dy, ro, ga, vx, vy, hf, q⟩ := h
  unfold binD at hf
  split at hf <;> try contradiction
  · rename_i a b _
    split at hf <;> cases hf
    rename_i hc
    simp only [View] at vx vy
    subst vx vy
    refine op_mulX pns s σ H _ _ v u Q I rx ry ⟨a, b, rfl, rfl, ?_, q _ _ (Same.refl H) (by simp [ROR, Rp])⟩
    have h1 := intBits_le a
    have h2 := intBits_le b
    have h3 : lim ≤ 134217700 := by decide
    unfold CMulX
    omega
  · rename_i a k _
    split at hf <;> cases hf
    rename_i hc
    simp only [View] at vx vy
    obtain ⟨l, xs, rfl, hx, r1⟩ := vx
    subst vy
    cases rx
    obtain ⟨t, rfl⟩ := ry
    obtain ⟨z, its, n, r, hl, e⟩ := rd_list I hx
    have hlim : lim = 1000000 := rfl
    have hsz : sizeLine = 16777216 := sizeLine_eq
    have hle : its.length * k.toNat ≤ lim := by rw [← hl, r1.length]; exact hc.1
    have hk := hc.2
    refine rep_new e (by omega) (by omega) (by omega) ⟨.ref _, _, I.lnew (t' := s.toks) (r.rep k.toNat) ?_, rfl, give_lst I.fresh (rep_rpL r1 k.toNat) q⟩
    rw [lm_len_rep_flat, hl, Nat.mul_comm]
    omega
  · rename_i a k _
    split at hf <;> cases hf
    rename_i hc
    simp only [View] at vx vy
    subst vx vy
    obtain ⟨t, rfl⟩ := rx
    obtain ⟨t', rfl⟩ := ry
    have hlim : lim = 1000000 := rfl
    have hk := hc.2
    have hk1 := hc.1
    have hal := mkS_len a
    refine PySem.P.mul_str (x := mkS a) (n := k) (t := t) (u := t') ?_ (fun h1 h2 => ?_) (fun h1 h2 => ?_) ?_
    · rw [decide_eq_false (show ¬ k < -(2 ^ 63 : Int) by omega), decide_eq_false (show ¬ k ≥ 2 ^ 63 by omega)]
      rfl
    · rw [hal]
      have hk0 : 0 < k := by omega
      have h5 : (a.length : Int) * k ≤ 2 ^ 63 - 1 := by
        obtain ⟨m, rfl⟩ := Int.eq_ofNat_of_zero_le (show 0 ≤ k by omega)
        have h8 : a.length * m ≤ lim := hk1
        have h6 : ((a.length * m : Nat) : Int) ≤ (lim : Int) := Int.ofNat_le.mpr h8
        rw [Int.natCast_mul] at h6
        show (a.length : Int) * (m : Int) ≤ _
        rw [hlim] at h6
        omega
      have h7 : (a.length : Int) ≤ (2 ^ 63 - 1) / k := (Int.le_ediv_iff_mul_le hk0).mpr h5
      omega
    · rw [hal]
      unfold Builtin.Str.tooLong
      have hsz : sizeLine = 16777216 := sizeLine_eq
      refine decide_eq_false ?_; omega
    · have val : ∀ z : List Nat, z = (List.replicate k.toNat a).flatten → Q (.str (mkS z)) H := fun z e => by
        subst e
        exact q _ _ (Same.refl H) (by simp [ROR, Rp])
      by_cases h1 : k < 1
      · rw [if_pos h1]
        have e0 : k.toNat = 0 := by omega
        refine ⟨by decide, .str (mkS []), H, I.tok _, ⟨_, rfl⟩, val [] (by rw [e0]; rfl)⟩
      · rw [if_neg h1]
        by_cases h2 : (k == 1 || (mkS a).length == 0) = true
        · rw [if_pos h2]
          refine ⟨.str (mkS a), H, I, ⟨_, rfl⟩, val a ?_⟩
          rw [hal] at h2
          simp only [Bool.or_eq_true, beq_iff_eq] at h2
          rcases h2 with h2 | h2
          · subst h2; simp
          · have e0 : a = [] := List.length_eq_zero_iff.mp h2
            subst e0
            induction k.toNat with
            | zero => rfl
            | succ m ih => rw [List.replicate_succ, List.flatten_cons, ← ih]; rfl
        · rw [if_neg h2]
          have e1 : (⟨(List.replicate k.toNat (mkS a).cps).foldl (· ++ ·) #[]⟩ : Str) = mkS (List.replicate k.toNat a).flatten := by
            show (⟨(List.replicate k.toNat a.toArray).foldl (· ++ ·) #[]⟩ : Str) = _
            rw [foldl_appA]
            rfl
          rw [e1]
          refine ⟨?_, .str (mkS _), H, I.tok _, ⟨_, rfl⟩, val _ rfl⟩
          rw [mkS_len, PyProof.Rows.lm_len_rep_flat, Nat.mul_comm]
          have hsz : sizeLine = 16777216 := sizeLine_eq
          omega
  · rename_i a k _
    split at hf <;> cases hf
    rename_i hc
    simp only [View] at vx vy
    obtain ⟨l, xs, rfl, hx, r1⟩ := vx
    subst vy
    have hlim : lim = 1000000 := rfl
    have hc1 := hc.1
    have hc2 := hc.2
    refine op_repT2 pns s σ H _ _ v u Q I rx ry ⟨l, k, xs, rfl, rfl, hx, by rw [r1.length]; omega, by omega, fun hz => ?_, fun p hp => give_tup hp (rep_rpL r1 k.toNat) q⟩
    have e : (List.replicate k.toNat a).flatten = a := by
      rcases hz with hz | hz
      · have e0 : a = [] := by
          have := r1.length
          rw [hz] at this
          exact List.length_eq_zero_iff.mp this.symm
        subst e0
        simp
      · subst hz
        simp
    rw [e] at q
    exact give_tup0 (ga.tup hx) r1 q
end
end Fx

set_option Elab.async false
set_option linter.all false
set_option maxRecDepth 100000
/-! Fx5: comparisons by values on data. -/
namespace Fx
open L2 PyProof.Rows PySem PySem.Spec
mutual
theorem rp_dp {K : PySem.W.Frag} {H : Hp} : ∀ (n : Nat) (d : D) (v : V), flatD n d = true → Rp K (All H) d v → Dp K H v (toPy d)
  | n, .non, v, _, h => by simp only [Rp] at h; subst h; simp only [toPy]; exact .non
  | n, .bl b, v, _, h => by simp only [Rp] at h; subst h; simp only [toPy]; exact .bl b
  | n, .int i, v, _, h => by simp only [Rp] at h; subst h; simp only [toPy]; exact .int i
  | n, .str i, v, _, h => by simp only [Rp] at h; subst h; simp only [toPy]; exact .str _
  | 0, .tup _, v, f, h => by simp [flatD] at f
  | 0, .lst _, v, f, h => by simp [flatD] at f
  | n + 1, .tup ds, v, f, h => by
    simp only [Rp] at h
    simp only [flatD] at f
    obtain ⟨a, xs, rfl, hs, hr⟩ := h
    simp only [toPy]
    exact .tup (hs.seq fun _ _ q => q) (rp_dpL n ds xs f hr)
  | n + 1, .lst ds, v, f, h => by
    simp only [Rp] at h
    simp only [flatD] at f
    obtain ⟨a, xs, rfl, hs, hr⟩ := h
    simp only [toPy]
    exact .lst (hs.heap fun _ _ q => q).seq (rp_dpL n ds xs f hr)
  | 0, .dic _, v, f, h => by simp [flatD] at f
  | n + 1, .dic _, v, f, h => by simp [flatD] at f
theorem rp_dpL {K : PySem.W.Frag} {H : Hp} : ∀ (n : Nat) (ds : List D) (xs : List V), flatDs n ds = true → RpL K (All H) ds xs → DpAll K H xs (toPys ds)
  | _, [], xs, _, h => by simp only [RpL] at h; subst h; simp only [toPys]; exact .nil
  | n, d :: ds, xs, f, h => by
    simp only [RpL] at h
    simp only [flatDs, Bool.and_eq_true] at f
    obtain ⟨x, r, rfl, hd, ht⟩ := h
    simp only [toPys]
    exact .cons (rp_dp n d x f.1 hd) (rp_dpL n ds r f.2 ht)
end
mutual
theorem flat_lay : ∀ (n : Nat) (d : D), flatD n d = true → (toPy d).canLay0 = true ∧ (toPy d).depth ≤ n
  | n, .non, _ => by simp [toPy, PyData.canLay0, PyData.depth]
  | n, .bl b, _ => by simp [toPy, PyData.canLay0, PyData.depth]
  | n, .int i, _ => by simp [toPy, PyData.canLay0, PyData.depth]
  | n, .str i, f => by
    have f' : okS i = true := by cases n <;> simpa only [flatD] using f
    have e : (PyData.str (mkS i)).canLay0 = okS i := by
      simp only [PyData.canLay0, PyData.strOk, mkS, okS]
      simp
    simp only [toPy]
    rw [e]
    exact ⟨f', by simp [PyData.depth]⟩
  | 0, .tup _, f => by simp [flatD] at f
  | 0, .lst _, f => by simp [flatD] at f
  | n + 1, .tup ds, f => by
    simp only [flatD] at f
    have h := flat_layL n ds f
    simp only [toPy, PyData.canLay0, PyData.depth]
    exact ⟨h.1, by omega⟩
  | n + 1, .lst ds, f => by
    simp only [flatD] at f
    have h := flat_layL n ds f
    simp only [toPy, PyData.canLay0, PyData.depth]
    exact ⟨h.1, by omega⟩
  | 0, .dic _, f => by simp [flatD] at f
  | n + 1, .dic _, f => by simp [flatD] at f
theorem flat_layL : ∀ (n : Nat) (ds : List D), flatDs n ds = true → PyData.canLayAll0 (toPys ds) = true ∧ PyData.depthAll (toPys ds) ≤ n
  | n, [], _ => by simp [toPys, PyData.canLayAll0, PyData.depthAll]
  | n, d :: ds, f => by
    simp only [flatDs, Bool.and_eq_true] at f
    have h1 := flat_lay n d f.1
    have h2 := flat_layL n ds f.2
    simp only [toPys, PyData.canLayAll0, PyData.depthAll, Bool.and_eq_true]
    exact ⟨⟨h1.1, h2.1⟩, by omega⟩
end
theorem flat_shaped {d : D} (f : flatD 40 d = true) : SeqAt.shaped (toPy d) = true := by
  have h := flat_lay 40 d f
  show ((toPy d).canLay0 && decide ((toPy d).depth ≤ 64)) = true
  rw [h.1, decide_eq_true (by omega)]
  rfl
theorem mkS_inj {a b : List Nat} : (mkS a == mkS b) = (a == b) := by
  rw [Bool.eq_iff_iff]
  simp [mkS]
mutual
theorem eqv_eqD : ∀ (a b : D), PyData.eqv (toPy a) (toPy b) = eqD a b
  | .non, b => by cases b <;> simp [toPy, PyData.eqv, eqD]
  | .bl a, b => by cases b <;> simp [toPy, PyData.eqv, eqD, b2i]
  | .int a, b => by cases b <;> simp [toPy, PyData.eqv, eqD, b2i]
  | .str a, b => by cases b <;> simp [toPy, PyData.eqv, eqD, mkS_inj]
  | .tup a, b => by
    cases b <;> simp only [toPy, PyData.eqv, eqD]
    exact eqv_eqDs _ _
  | .lst a, b => by
    cases b <;> simp only [toPy, PyData.eqv, eqD]
    exact eqv_eqDs _ _
  | .dic a, b => by cases b <;> simp [toPy, PyData.eqv, eqD]
theorem eqv_eqDs : ∀ (a b : List D), PyData.eqvAll (toPys a) (toPys b) = eqDs a b
  | [], [] => by simp [toPys, PyData.eqvAll, eqDs]
  | [], _ :: _ => by simp [toPys, PyData.eqvAll, eqDs]
  | _ :: _, [] => by simp [toPys, PyData.eqvAll, eqDs]
  | a :: as, b :: bs => by
    simp only [toPys, PyData.eqvAll, eqDs]
    rw [eqv_eqD a b, eqv_eqDs as bs]
end
theorem any_eqv (x : D) : ∀ ys : List D, ((toPys ys).any fun z => PyData.eqv z (toPy x)) = ys.any fun y => eqD y x
  | [] => by simp [toPys]
  | y :: ys => by
    simp only [toPys, List.any_cons]
    rw [eqv_eqD, any_eqv x ys]
/-- a comparison's answer as data -/
def cmpRO (op : Cop) (x y : D) : Option RO := (cmpD op x y).map fun b => .d (.bl b)
section
variable {X : Cx}
theorem eq_str {a b : List Nat} : decide (V.str (mkS a) = V.str (mkS b)) = (a == b) := by
  rw [← mkS_inj]
  by_cases h : mkS a = mkS b
  · rw [h]; simp
  · have h' : ¬ V.str (mkS a) = V.str (mkS b) := fun z => h (V.str.inj z)
    rw [decide_eq_false h', beq_eq_false_iff_ne.mpr h]
theorem op_eqG (hu : X.A.units + 64 < cLine) : OpR X (compareOp .Eq) (r2 X.K (cmpRO .eq)) := by
  intro pns s σ H x y v u Q I rx ry h
  obtain ⟨A, dx, dy, ro, ga, vx, vy, hf, q⟩ := h
  by_cases hs : ∃ a b, dx = .str a ∧ dy = .str b
  · obtain ⟨a, b, rfl, rfl⟩ := hs
    cases hf
    simp only [View] at vx vy
    subst vx vy
    exact op_eq pns s σ H _ _ v u Q I rx ry ⟨rfl, by rw [eq_str]; exact q _ _ (Same.refl H) (by simp [ROR, Rp])⟩
  · have e : cmpD .eq dx dy = if flatD 40 dx ∧ flatD 40 dy then some (eqD dx dy) else none := by
      cases dx <;> cases dy <;> first | rfl | exact absurd ⟨_, _, rfl, rfl⟩ hs
    simp only [cmpRO, e] at hf
    split at hf <;> cases hf
    rename_i hc
    refine op_eqD hu pns s σ H x y v u Q I rx ry ⟨toPy dx, toPy dy, rp_dp 40 dx x hc.1 (vx.all ga.rd), rp_dp 40 dy y hc.2 (vy.all ga.rd), flat_shaped hc.1, flat_shaped hc.2, ?_⟩
    rw [eqv_eqD]
    exact q _ _ (Same.refl H) (by simp [ROR, Rp])
theorem op_neG (hu : X.A.units + 64 < cLine) : OpR X (compareOp .NotEq) (r2 X.K (cmpRO .ne)) := by
  intro pns s σ H x y v u Q I rx ry h
  obtain ⟨A, dx, dy, ro, ga, vx, vy, hf, q⟩ := h
  by_cases hs : ∃ a b, dx = .str a ∧ dy = .str b
  · obtain ⟨a, b, rfl, rfl⟩ := hs
    cases hf
    simp only [View] at vx vy
    subst vx vy
    exact op_ne pns s σ H _ _ v u Q I rx ry ⟨rfl, by rw [eq_str]; exact q _ _ (Same.refl H) (by simp [ROR, Rp])⟩
  · have e : cmpD .ne dx dy = if flatD 40 dx ∧ flatD 40 dy then some (!eqD dx dy) else none := by
      cases dx <;> cases dy <;> first | rfl | exact absurd ⟨_, _, rfl, rfl⟩ hs
    simp only [cmpRO, e] at hf
    split at hf <;> cases hf
    rename_i hc
    refine op_neD hu pns s σ H x y v u Q I rx ry ⟨toPy dx, toPy dy, rp_dp 40 dx x hc.1 (vx.all ga.rd), rp_dp 40 dy y hc.2 (vy.all ga.rd), flat_shaped hc.1, flat_shaped hc.2, ?_⟩
    rw [eqv_eqD]
    exact q _ _ (Same.refl H) (by simp [ROR, Rp])
theorem op_ltG : OpR X (compareOp .Lt) (r2 X.K (cmpRO .lt)) := by
  intro pns s σ H x y v u Q I rx ry h
  obtain ⟨A, dx, dy, ro, ga, vx, vy, hf, q⟩ := h
  unfold cmpRO cmpD at hf
  split at hf <;> try contradiction
  · rename_i a b _
    cases hf
    simp only [View] at vx vy
    subst vx vy
    exact op_lt pns s σ H _ _ v u Q I rx ry ⟨a, b, rfl, rfl, q _ _ (Same.refl H) (by simp [ROR, Rp])⟩
  · rename_i a b _
    cases hf
    simp only [View] at vx vy
    subst vx vy
    refine op_lt_str pns s σ H _ _ v u Q I rx ry ⟨mkS a, mkS b, rfl, rfl, ?_⟩
    have e : ∀ (i1 i2 : Decidable (a < b)), @decide (a < b) i1 = @decide (a < b) i2 := fun i1 i2 => decide_eq_decide.mpr Iff.rfl
    refine q _ _ (Same.refl H) ?_
    show Rp X.K (Gr A H H) (.bl (ltS a b)) _
    simp only [Rp, ltS]
    exact congrArg V.bl (e _ _)
theorem op_leG : OpR X (compareOp .LtE) (r2 X.K (cmpRO .le)) := by
  intro pns s σ H x y v u Q I rx ry h
  obtain ⟨A, dx, dy, ro, ga, vx, vy, hf, q⟩ := h
  unfold cmpRO cmpD at hf
  split at hf <;> try contradiction
  rename_i a b _
  cases hf
  simp only [View] at vx vy
  subst vx vy
  exact op_le pns s σ H _ _ v u Q I rx ry ⟨a, b, rfl, rfl, q _ _ (Same.refl H) (by simp [ROR, Rp])⟩
theorem op_gtG : OpR X (compareOp .Gt) (r2 X.K (cmpRO .gt)) := by
  intro pns s σ H x y v u Q I rx ry h
  obtain ⟨A, dx, dy, ro, ga, vx, vy, hf, q⟩ := h
  unfold cmpRO cmpD at hf
  split at hf <;> try contradiction
  rename_i a b _
  cases hf
  simp only [View] at vx vy
  subst vx vy
  exact op_gt pns s σ H _ _ v u Q I rx ry ⟨a, b, rfl, rfl, q _ _ (Same.refl H) (by simp [ROR, Rp])⟩
theorem op_geG : OpR X (compareOp .GtE) (r2 X.K (cmpRO .ge)) := by
  intro pns s σ H x y v u Q I rx ry h
  obtain ⟨A, dx, dy, ro, ga, vx, vy, hf, q⟩ := h
  unfold cmpRO cmpD at hf
  split at hf <;> try contradiction
  rename_i a b _
  cases hf
  simp only [View] at vx vy
  subst vx vy
  exact op_ge pns s σ H _ _ v u Q I rx ry ⟨a, b, rfl, rfl, q _ _ (Same.refl H) (by simp [ROR, Rp])⟩
theorem view_non {K : PySem.W.Frag} {A : RdA} {H : Hp} {d : D} {v : V} (h : View K A H d v) : decide (v = .non) = isNonD d := by
  cases d <;> simp only [View] at h
  all_goals first
    | (subst h; rfl)
    | (subst h; simp)
    | (obtain ⟨a, xs, rfl, _⟩ := h; simp [isNonD])
theorem op_isNG : OpR X (compareOp .Is) (r2 X.K (cmpRO .isN)) := by
  intro pns s σ H x y v u Q I rx ry h
  obtain ⟨A, dx, dy, ro, ga, vx, vy, hf, q⟩ := h
  unfold cmpRO cmpD at hf
  split at hf <;> try contradiction
  · cases hf
    simp only [View] at vy
    refine op_isN pns s σ H _ _ v u Q I rx ry ⟨vy, ?_⟩
    rw [view_non vx]
    exact q _ _ (Same.refl H) (by simp [ROR, Rp])
  · rename_i a b _
    cases hf
    simp only [View] at vx vy
    exact L2.op_is_bl pns s σ H _ _ v u Q I rx ry ⟨a, b, vx, vy, q _ _ (Same.refl H) (by simp [ROR, Rp])⟩
theorem op_notNG : OpR X (compareOp .IsNot) (r2 X.K (cmpRO .notN)) := by
  intro pns s σ H x y v u Q I rx ry h
  obtain ⟨A, dx, dy, ro, ga, vx, vy, hf, q⟩ := h
  unfold cmpRO cmpD at hf
  split at hf <;> try contradiction
  · cases hf
    simp only [View] at vy
    refine op_notN pns s σ H _ _ v u Q I rx ry ⟨vy, ?_⟩
    rw [view_non vx]
    exact q _ _ (Same.refl H) (by simp [ROR, Rp])
  · rename_i a b _
    cases hf
    simp only [View] at vx vy
    exact L2.op_isnot_bl pns s σ H _ _ v u Q I rx ry ⟨a, b, vx, vy, q _ _ (Same.refl H) (by simp [ROR, Rp])⟩
theorem keyOf_v {K : PySem.W.Frag} {A : RdA} {H : Hp} {d : D} {k : DK} {v : V} (h : View K A H d v) (e : keyOf d = some k) : v = kV k.toKey := by
  cases d <;> simp [keyOf] at e
  all_goals
    subst e
    simp only [View] at h
    exact h
theorem toKey_inj {a b : DK} (h : a.toKey = b.toKey) : a = b := by
  cases a with
  | i n =>
    cases b with
    | i m => cases h; rfl
    | s m => cases h
  | s n =>
    cases b with
    | i m => cases h
    | s m =>
      have h' : mkS n = mkS m := Sum.inr.inj h
      have : n = m := by simpa [mkS] using h'
      rw [this]
theorem look_val {K : PySem.W.Frag} {A : RdA} (k : DK) : ∀ {kvs : List (DK × D)} {ys : List (Key × V)}, RpD K A kvs ys →
    (look k kvs = none ∧ valV ys k.toKey = none) ∨ ∃ d v, look k kvs = some d ∧ valV ys k.toKey = some v ∧ Rp K A d v
  | [], _, h => by simp only [RpD] at h; subst h; exact .inl ⟨rfl, rfl⟩
  | (k', d) :: kvs, _, h => by
    simp only [RpD] at h
    obtain ⟨x, r, rfl, hd, ht⟩ := h
    by_cases e : k' = k
    · subst e
      exact .inr ⟨d, x, by simp [look], valV_pos rfl, hd⟩
    · have e2 : ¬ k'.toKey = k.toKey := fun z => e (toKey_inj z)
      have e3 : look k ((k', d) :: kvs) = look k kvs := by simp [look, List.find?_cons, e]
      rw [e3, valV_neg (p := (k'.toKey, x)) e2]
      exact look_val k ht
theorem look_isSome {K : PySem.W.Frag} {A : RdA} (k : DK) {kvs : List (DK × D)} {ys : List (Key × V)} (h : RpD K A kvs ys) : (valV ys k.toKey).isSome = (look k kvs).isSome := by
  rcases look_val k h with ⟨e1, e2⟩ | ⟨d, v, e1, e2, _⟩
  · rw [e1, e2]; rfl
  · rw [e1, e2]; rfl
theorem op_inG (hu : X.A.units + 65 < cLine) : OpR X (compareOp .In) (r2 X.K (cmpRO .isin)) := by
  intro pns s σ H x y v u Q I rx ry h
  obtain ⟨A, dx, dy, ro, ga, vx, vy, hf, q⟩ := h
  simp only [cmpRO, cmpD, inD] at hf
  split at hf
  · rename_i ys
    split at hf <;> cases hf
    rename_i hc
    have hy := rp_dp 40 _ _ hc.2 (vy.all ga.rd)
    have f2 := flat_shaped hc.2
    simp only [toPy] at hy f2
    refine op_inD hu pns s σ H _ _ v u Q I rx ry ⟨_, _, rp_dp 40 _ _ hc.1 (vx.all ga.rd), hy, flat_shaped hc.1, f2, ?_⟩
    rw [any_eqv]
    exact q _ _ (Same.refl H) (by simp [ROR, Rp])
  · rename_i ys
    split at hf <;> cases hf
    rename_i hc
    have hy := rp_dp 40 _ _ hc.2 (vy.all ga.rd)
    have f2 := flat_shaped hc.2
    simp only [toPy] at hy f2
    obtain ⟨as, r1⟩ := Dp.reads I _ _ _ (rp_dp 40 _ _ hc.1 (vx.all ga.rd)) rx
    obtain ⟨bs, r2⟩ := Dp.reads I _ _ _ hy ry
    refine SeqAt.in_tuple_reads r2 r1 (SeqAt.canLay_of_shaped f2) (flat_lay 40 _ hc.1).1 ?_ ⟨.bl _, H, I, rfl, ?_⟩
    · have h1 := (flat_lay 40 _ hc.1).2
      omega
    · rw [any_eqv]
      exact q _ _ (Same.refl H) (by simp [ROR, Rp])
  · rename_i kvs
    cases e : keyOf dx with
    | none => rw [e] at hf; cases hf
    | some k =>
      rw [e] at hf
      cases hf
      have ev := keyOf_v vx e
      subst ev
      simp only [View] at vy
      obtain ⟨a, ys, rfl, hd, hr⟩ := vy
      cases ry
      refine d_in (by omega) I (.inl ⟨ys, k.toKey, hd, rfl, rfl⟩) rx fun s' I' => ⟨.bl _, H, I', rfl, ?_⟩
      rw [look_isSome k hr]
      exact q _ _ (Same.refl H) (by simp [ROR, Rp])
  · rename_i c b
    cases hf
    simp only [View] at vx vy
    subst vx vy
    refine op_in_sign pns s σ H _ _ v u Q I rx ry ⟨c, mkS b, rfl, rfl, ?_⟩
    have e : ∀ i1 : Decidable (c ∈ (mkS b).cps.toList), @decide _ i1 = b.contains c := fun i1 => by
      rw [Bool.eq_iff_iff]
      exact ⟨fun h => by simpa [mkS] using of_decide_eq_true h, fun h => decide_eq_true (by simpa [mkS] using h)⟩
    rw [e]
    exact q _ _ (Same.refl H) (by simp [ROR, Rp])
  · cases hf
theorem op_notinG (hu : X.A.units + 65 < cLine) : OpR X (compareOp .NotIn) (r2 X.K (cmpRO .notin)) := by
  intro pns s σ H x y v u Q I rx ry h
  obtain ⟨A, dx, dy, ro, ga, vx, vy, hf, q⟩ := h
  simp only [cmpRO, cmpD, inD] at hf
  split at hf
  · rename_i ys
    split at hf <;> cases hf
    rename_i hc
    have hy := rp_dp 40 _ _ hc.2 (vy.all ga.rd)
    have f2 := flat_shaped hc.2
    simp only [toPy] at hy f2
    refine op_notInD hu pns s σ H _ _ v u Q I rx ry ⟨_, _, rp_dp 40 _ _ hc.1 (vx.all ga.rd), hy, flat_shaped hc.1, f2, ?_⟩
    rw [any_eqv]
    exact q _ _ (Same.refl H) (by simp [ROR, Rp])
  · rename_i ys
    split at hf <;> cases hf
    rename_i hc
    have hy := rp_dp 40 _ _ hc.2 (vy.all ga.rd)
    have f2 := flat_shaped hc.2
    simp only [toPy] at hy f2
    obtain ⟨as, r1⟩ := Dp.reads I _ _ _ (rp_dp 40 _ _ hc.1 (vx.all ga.rd)) rx
    obtain ⟨bs, r2⟩ := Dp.reads I _ _ _ hy ry
    refine SeqAt.notIn_tuple_reads r2 r1 (SeqAt.canLay_of_shaped f2) (flat_lay 40 _ hc.1).1 ?_ ⟨.bl _, H, I, rfl, ?_⟩
    · have h1 := (flat_lay 40 _ hc.1).2
      omega
    · rw [any_eqv]
      exact q _ _ (Same.refl H) (by simp [ROR, Rp])
  · rename_i kvs
    cases e : keyOf dx with
    | none => rw [e] at hf; cases hf
    | some k =>
      rw [e] at hf
      cases hf
      have ev := keyOf_v vx e
      subst ev
      simp only [View] at vy
      obtain ⟨a, ys, rfl, hd, hr⟩ := vy
      cases ry
      refine d_notIn (by omega) I (.inl ⟨ys, k.toKey, hd, rfl, rfl⟩) rx fun s' I' => ⟨.bl _, H, I', rfl, ?_⟩
      rw [look_isSome k hr]
      exact q _ _ (Same.refl H) (by simp [ROR, Rp])
  · rename_i c b
    cases hf
    simp only [View] at vx vy
    subst vx vy
    refine op_notIn_sign pns s σ H _ _ v u Q I rx ry ⟨c, mkS b, rfl, rfl, ?_⟩
    have e : ∀ i1 : Decidable (c ∈ (mkS b).cps.toList), @decide _ i1 = b.contains c := fun i1 => by
      rw [Bool.eq_iff_iff]
      exact ⟨fun h => by simpa [mkS] using of_decide_eq_true h, fun h => decide_eq_true (by simpa [mkS] using h)⟩
    rw [e]
    exact q _ _ (Same.refl H) (by simp [ROR, Rp])
  · cases hf
end
end Fx

set_option Elab.async false
set_option linter.all false
set_option maxRecDepth 100000
/-! Fx6: subscripts, slices, built-ins by values on data. -/
namespace Fx
open L2 PyProof.Rows PySem PySem.Spec
section
variable {K : PySem.W.Frag} {A : RdA} {H : Hp}
theorem rpl_atI {ds : List D} {xs : List V} {i : Int} {d : D} (h : RpL K A ds xs) (e : atI ds i = some d) : ∃ v, atI xs i = some v ∧ Rp K A d v := by
  unfold atI at e ⊢
  rw [h.length]
  cases e1 : ixN ds.length i with
  | none => rw [e1] at e; cases e
  | some j =>
    rw [e1] at e
    exact h.get e
theorem atI_mkS {s : List Nat} {i : Int} {c : Nat} (e : atI s i = some c) : atI (mkS s).cps.toList i = some c := by simpa [mkS] using e
theorem cut_rpl {ds : List D} {xs : List V} (h : RpL K A ds xs) (lo hi : Option Int) : RpL K A (cutG ds lo hi) (cutV xs lo hi) := by
  unfold cutG cutV
  rw [h.length]
  exact (h.drop _).take _
end
section
variable {X : Cx}
theorem ix_G (hu : X.A.units + 1 < cLine) : IxR X (r2 X.K ixRO) := by
  intro value slice pns s σ H x y v u Q I rx ry h hs
  obtain ⟨A, dx, dy, ro, ga, vx, vy, hf, q⟩ := h
  unfold ixRO ixD at hf
  split at hf
  · rename_i xs i
    cases e : atI xs i with
    | none => rw [e] at hf; cases hf
    | some d =>
      rw [e] at hf
      cases hf
      simp only [View] at vx vy
      obtain ⟨a, ys, rfl, hd, hr⟩ := vx
      subst vy
      obtain ⟨w, e1, rw'⟩ := rpl_atI hr e
      exact ix_list value slice pns s σ H _ _ v u Q I rx ry ⟨a, ys, i, w, rfl, rfl, seqL hd, e1, q _ _ (Same.refl H) (Rp.mono (fun _ _ z => .inl z) _ _ rw')⟩ hs
  · rename_i xs i
    cases e : atI xs i with
    | none => rw [e] at hf; cases hf
    | some d =>
      rw [e] at hf
      cases hf
      simp only [View] at vx vy
      obtain ⟨a, ys, rfl, hd, hr⟩ := vx
      subst vy
      obtain ⟨w, e1, rw'⟩ := rpl_atI hr e
      exact ix_tup value slice pns s σ H _ _ v u Q I rx ry ⟨a, ys, i, w, rfl, rfl, hd, e1, q _ _ (Same.refl H) (Rp.mono (fun _ _ z => .inl z) _ _ rw')⟩ hs
  · rename_i z i
    split at hf
    · rename_i hl
      cases e : atI z i with
      | none => rw [e] at hf; cases hf
      | some c =>
        rw [e] at hf
        cases hf
        simp only [View] at vx vy
        subst vx vy
        exact ix_str value slice pns s σ H _ _ v u Q I rx ry ⟨mkS z, i, c, rfl, rfl, by rw [mkS_len]; exact lim_le hl, atI_mkS e, q _ _ (Same.refl H) (by simp [ROR, Rp, mkS])⟩ hs
    · cases hf
  · rename_i kvs
    cases e : keyOf dy with
    | none => rw [e] at hf; cases hf
    | some k =>
      rw [e] at hf
      have ev := keyOf_v vy e
      subst ev
      simp only [View] at vx
      obtain ⟨a, ys, rfl, hd, hr⟩ := vx
      cases rx
      rcases look_val k hr with ⟨e1, e2⟩ | ⟨d, w, e1, e2, hw⟩
      · simp only [Option.bind_some] at hf
        rw [e1] at hf
        cases hf
      · simp only [Option.bind_some] at hf
        rw [e1] at hf
        cases hf
        have g : DGet H a (kV k.toKey) (some w) := .inl ⟨ys, k.toKey, hd, rfl, e2.symm⟩
        exact tail_any (dict_typeIs I g) PySem.F.slot_dict_getitem.lookup (d_getItem hu I g ry fun w' s' I' rw' => ⟨w, H, I', rw', q _ _ (Same.refl H) (Rp.mono (fun _ _ z => .inl z) _ _ hw)⟩) hs
  · cases hf
/-- slices -/
def rSlG (K : PySem.W.Frag) : V → Option Int → Option Int → Hp → VK → Prop := fun x lo hi H Q => ∃ A dx ro, GoodA A H ∧ View K A H dx x ∧ slD dx lo hi = some ro ∧ ∀ v H', Same H H' → ROR K A H H' ro v → Q v H'
theorem sl_G : SlR X (rSlG X.K) := by
  intro pns s σ H x v vl vu lo hi sl Q I rx hs pl pu h
  obtain ⟨A, dx, ro, ga, vx, hf, q⟩ := h
  unfold slD at hf
  split at hf
  · cases hf
    simp only [View] at vx
    obtain ⟨a, ys, rfl, hd, hr⟩ := vx
    exact sl_list pns s σ H _ v vl vu lo hi sl Q I rx hs pl pu ⟨a, ys, rfl, seqL hd, fun p hp => give_lst hp (cut_rpl hr lo hi) q⟩
  · rename_i xs
    cases hf
    simp only [View] at vx
    obtain ⟨a, ys, rfl, hd, hr⟩ := vx
    refine sl_tupA pns s σ H _ v vl vu lo hi sl Q I rx hs pl pu ⟨a, ys, rfl, hd, fun hw => ?_, fun _ p hp => give_tup hp (cut_rpl hr lo hi) q⟩
    have e : cutG xs lo hi = xs := by
      unfold cutG
      have hl := hr.length
      rw [← hl, hw.1, hw.2]
      rw [hl]
      simp
    rw [e] at q
    exact give_tup0 (ga.tup hd) hr q
  · rename_i z
    split at hf
    · rename_i hl
      cases hf
      simp only [View] at vx
      subst vx
      refine sl_str pns s σ H _ v vl vu lo hi sl Q I rx hs pl pu ⟨mkS z, rfl, by rw [mkS_len]; exact lim_le hl, ?_⟩
      have e : cutS (mkS z) lo hi = mkS (cutG z lo hi) := by
        simp only [cutS, cutG, mkS]
        simp [Str.length]
      rw [e]
      exact q _ _ (Same.refl H) (by simp [ROR, Rp])
    · cases hf
  · cases hf
/-- built-ins -/
theorem v1 {K : PySem.W.Frag} {A : RdA} {H : Hp} {d : D} {vs : List V} (h : ViewL K A H [d] vs) : ∃ x, vs = [x] ∧ View K A H d x := by
  simp only [ViewL] at h
  obtain ⟨x, r, e, hv, e2⟩ := h
  subst e2
  exact ⟨x, e, hv⟩
theorem v2 {K : PySem.W.Frag} {A : RdA} {H : Hp} {d d' : D} {vs : List V} (h : ViewL K A H [d, d'] vs) : ∃ x y, vs = [x, y] ∧ View K A H d x ∧ View K A H d' y := by
  simp only [ViewL] at h
  obtain ⟨x, r, e, hv, y, r2, e2, hv2, e3⟩ := h
  subst e2 e3
  exact ⟨x, y, e, hv, hv2⟩
theorem blt_len : CallR X (.builtin "len") (rL X.K (bltD .len)) := by
  intro pns s σ H xs us Q I r h
  obtain ⟨A, ds, ro, ga, vx, hf, q⟩ := h
  unfold bltD at hf
  split at hf <;> try contradiction
  · rename_i z _
    split at hf <;> cases hf
    rename_i hl
    obtain ⟨x, rfl, hx⟩ := v1 vx
    simp only [View] at hx
    subst hx
    refine call_len pns s σ H _ us Q I r ⟨.str (mkS z), z.length, rfl, ⟨by rw [mkS_len]; exact lim_le hl, by rw [mkS_len]⟩, q _ _ (Same.refl H) (by simp [ROR, Rp])⟩
  · cases hf
    obtain ⟨x, rfl, hx⟩ := v1 vx
    simp only [View] at hx
    obtain ⟨a, ys, rfl, hd, hr⟩ := hx
    exact call_len pns s σ H _ us Q I r ⟨_, _, rfl, .inl ⟨ys, seqL hd, hr.length.symm⟩, q _ _ (Same.refl H) (by simp [ROR, Rp])⟩
  · cases hf
    obtain ⟨x, rfl, hx⟩ := v1 vx
    simp only [View] at hx
    obtain ⟨a, ys, rfl, hd, hr⟩ := hx
    exact call_len pns s σ H _ us Q I r ⟨_, _, rfl, .inr ⟨ys, hd, hr.length.symm⟩, q _ _ (Same.refl H) (by simp [ROR, Rp])⟩
  · cases hf
    obtain ⟨x, rfl, hx⟩ := v1 vx
    simp only [View] at hx
    obtain ⟨a, ys, rfl, hd, hr⟩ := hx
    rcases vals1 r with ⟨u, rfl, ru⟩
    cases ru
    exact d_len I hd fun t s' I' => ⟨.int ys.length, H, I', ⟨t, rfl⟩, q _ _ (Same.refl H) (by simp [ROR, Rp, hr.length])⟩
theorem blt_abs : CallR X (.builtin "abs") (rL X.K (bltD .abs)) := by
  intro pns s σ H xs us Q I r h
  obtain ⟨A, ds, ro, ga, vx, hf, q⟩ := h
  unfold bltD at hf
  split at hf <;> try contradiction
  rename_i i _
  cases hf
  obtain ⟨x, rfl, hx⟩ := v1 vx
  simp only [View] at hx
  subst hx
  exact call_abs pns s σ H _ us Q I r ⟨i, rfl, q _ _ (Same.refl H) (by simp [ROR, Rp])⟩
theorem asInts_map : ∀ {xs : List D} {ns : List Int}, asInts xs = some ns → xs = ns.map D.int
  | [], ns, h => by cases h; rfl
  | x :: xs, ns, h => by
    cases x <;> simp only [asInts] at h <;> try contradiction
    cases e : asInts xs with
    | none => (rw [e] at h; cases h)
    | some ms => rw [e] at h; cases h; rw [asInts_map e]; rfl
theorem asBls_map : ∀ {xs : List D} {ns : List Bool}, asBls xs = some ns → xs = ns.map D.bl
  | [], ns, h => by cases h; rfl
  | x :: xs, ns, h => by
    cases x <;> simp only [asBls] at h <;> try contradiction
    cases e : asBls xs with
    | none => (rw [e] at h; cases h)
    | some ms => rw [e] at h; cases h; rw [asBls_map e]; rfl
theorem asStrs_map : ∀ {xs : List D} {ns : List (List Nat)}, asStrs xs = some ns → xs = ns.map D.str
  | [], ns, h => by cases h; rfl
  | x :: xs, ns, h => by
    cases x <;> simp only [asStrs] at h <;> try contradiction
    cases e : asStrs xs with
    | none => (rw [e] at h; cases h)
    | some ms => rw [e] at h; cases h; rw [asStrs_map e]; rfl
theorem rpl_ints {K : PySem.W.Frag} {A : RdA} : ∀ {ns : List Int} {xs : List V}, RpL K A (ns.map D.int) xs → xs = ns.map V.int
  | [], xs, h => by simpa [RpL] using h
  | n :: ns, xs, h => by
    simp only [List.map_cons, RpL, Rp] at h
    obtain ⟨x, r, rfl, rfl, t⟩ := h
    rw [rpl_ints t]; rfl
theorem rpl_bls {K : PySem.W.Frag} {A : RdA} : ∀ {ns : List Bool} {xs : List V}, RpL K A (ns.map D.bl) xs → xs = ns.map V.bl
  | [], xs, h => by simpa [RpL] using h
  | n :: ns, xs, h => by
    simp only [List.map_cons, RpL, Rp] at h
    obtain ⟨x, r, rfl, rfl, t⟩ := h
    rw [rpl_bls t]; rfl
theorem rpl_strs {K : PySem.W.Frag} {A : RdA} : ∀ {ns : List (List Nat)} {xs : List V}, RpL K A (ns.map D.str) xs → xs = (ns.map mkS).map V.str
  | [], xs, h => by simpa [RpL] using h
  | n :: ns, xs, h => by
    simp only [List.map_cons, RpL, Rp] at h
    obtain ⟨x, r, rfl, rfl, t⟩ := h
    rw [rpl_strs t]; rfl
theorem maxL_ok : ∀ (r : List Int) (m : Int), maxL m r ∈ m :: r ∧ ∀ y ∈ m :: r, y ≤ maxL m r
  | [], m => by simp [maxL]
  | x :: r, m => by
    have h := maxL_ok r (if m < x then x else m)
    simp only [maxL]
    refine ⟨?_, fun y hy => ?_⟩
    · rcases List.mem_cons.mp h.1 with e | e
      · rw [e]; split <;> simp
      · simp [e]
    · have h2 := h.2 _ List.mem_cons_self
      obtain e | hy := List.mem_cons.mp hy
      · subst e; split at h2 <;> split <;> omega
      · obtain e | hy := List.mem_cons.mp hy
        · subst e; split at h2 <;> split <;> omega
        · exact h.2 y (List.mem_cons_of_mem _ hy)
theorem minL_ok : ∀ (r : List Int) (m : Int), minL m r ∈ m :: r ∧ ∀ y ∈ m :: r, minL m r ≤ y
  | [], m => by simp [minL]
  | x :: r, m => by
    have h := minL_ok r (if x < m then x else m)
    simp only [minL]
    refine ⟨?_, fun y hy => ?_⟩
    · rcases List.mem_cons.mp h.1 with e | e
      · rw [e]; split <;> simp
      · simp [e]
    · have h2 := h.2 _ List.mem_cons_self
      obtain e | hy := List.mem_cons.mp hy
      · subst e; split at h2 <;> split <;> omega
      · obtain e | hy := List.mem_cons.mp hy
        · subst e; split at h2 <;> split <;> omega
        · exact h.2 y (List.mem_cons_of_mem _ hy)
theorem blt_max (hc : X.calm = true) : CallR X (.builtin "max") (rL X.K (bltD .max)) := by
  intro pns s σ H xs us Q I r h
  obtain ⟨A, ds, ro, ga, vx, hf, q⟩ := h
  unfold bltD at hf
  split at hf <;> try contradiction
  · rename_i i j _
    cases hf
    obtain ⟨x, y, rfl, hx, hy⟩ := v2 vx
    simp only [View] at hx hy
    subst hx hy
    exact call_max2 hc pns s σ H _ us Q I r ⟨i, j, rfl, q _ _ (Same.refl H) (by simp [ROR, Rp])⟩
  · rename_i zs _
    cases e : asInts zs with
    | none => rw [e] at hf; cases hf
    | some ns =>
      rw [e] at hf
      cases ns with
      | nil => cases hf
      | cons n ns =>
        cases hf
        obtain ⟨x, rfl, hx⟩ := v1 vx
        simp only [View] at hx
        obtain ⟨a, ys, rfl, hd, hr⟩ := hx
        rw [asInts_map e] at hr
        rw [rpl_ints hr] at hd
        refine cr_max hc pns s σ H _ us Q I r ⟨a, n :: ns, rfl, seqL hd, by simp, fun m hm hle => ?_⟩
        have h1 := maxL_ok ns n
        have e2 : m = maxL n ns := Int.le_antisymm (h1.2 m hm) (hle _ h1.1)
        rw [e2]
        exact q _ _ (Same.refl H) (by simp [ROR, Rp])
/-- min over a dict, apart -/
def minK : List D → Option RO
  | [.dic kvs] => bltD .min [.dic kvs]
  | _ => none
theorem blt_min (hc : X.calm = true) (h3 : CallR X (.builtin "min") (rL X.K minK)) : CallR X (.builtin "min") (rL X.K (bltD .min)) := by
  intro pns s σ H xs us Q I r h
  obtain ⟨A, ds, ro, ga, vx, hf, q⟩ := h
  unfold bltD at hf
  split at hf <;> try contradiction
  · rename_i i j _
    cases hf
    obtain ⟨x, y, rfl, hx, hy⟩ := v2 vx
    simp only [View] at hx hy
    subst hx hy
    exact call_min2 hc pns s σ H _ us Q I r ⟨i, j, rfl, q _ _ (Same.refl H) (by simp [ROR, Rp])⟩
  · rename_i zs _
    cases e : asInts zs with
    | none => rw [e] at hf; cases hf
    | some ns =>
      rw [e] at hf
      cases ns with
      | nil => cases hf
      | cons n ns =>
        cases hf
        obtain ⟨x, rfl, hx⟩ := v1 vx
        simp only [View] at hx
        obtain ⟨a, ys, rfl, hd, hr⟩ := hx
        rw [asInts_map e] at hr
        rw [rpl_ints hr] at hd
        refine cr_min hc pns s σ H _ us Q I r ⟨a, n :: ns, rfl, seqL hd, by simp, fun m hm hle => ?_⟩
        have h1 := minL_ok ns n
        have e2 : m = minL n ns := Int.le_antisymm (hle _ h1.1) (h1.2 m hm)
        rw [e2]
        exact q _ _ (Same.refl H) (by simp [ROR, Rp])
  · rename_i kvs _
    exact h3 pns s σ H xs us Q I r ⟨A, [.dic kvs], ro, ga, vx, hf, q⟩
theorem blt_sum (hc : X.calm = true) : CallR X (.builtin "sum") (rL X.K (bltD .sum)) := by
  intro pns s σ H xs us Q I r h
  obtain ⟨A, ds, ro, ga, vx, hf, q⟩ := h
  unfold bltD at hf
  split at hf <;> try contradiction
  rename_i zs _
  cases e : asInts zs with
  | none => rw [e] at hf; cases hf
  | some ns =>
    rw [e] at hf
    cases hf
    obtain ⟨x, rfl, hx⟩ := v1 vx
    simp only [View] at hx
    obtain ⟨a, ys, rfl, hd, hr⟩ := hx
    rw [asInts_map e] at hr
    rw [rpl_ints hr] at hd
    exact cr_sum hc pns s σ H _ us Q I r ⟨a, ns, rfl, seqL hd, q _ _ (Same.refl H) (by simp [ROR, Rp])⟩
theorem blt_all (hc : X.calm = true) : CallR X (.builtin "all") (rL X.K (bltD .all)) := by
  intro pns s σ H xs us Q I r h
  obtain ⟨A, ds, ro, ga, vx, hf, q⟩ := h
  unfold bltD at hf
  split at hf <;> try contradiction
  rename_i zs _
  cases e : asBls zs with
  | none => rw [e] at hf; cases hf
  | some ns =>
    rw [e] at hf
    cases hf
    obtain ⟨x, rfl, hx⟩ := v1 vx
    simp only [View] at hx
    obtain ⟨a, ys, rfl, hd, hr⟩ := hx
    rw [asBls_map e] at hr
    rw [rpl_bls hr] at hd
    exact cr_all hc pns s σ H _ us Q I r ⟨a, ns, rfl, seqL hd, q _ _ (Same.refl H) (by simp [ROR, Rp])⟩
theorem blt_any (hc : X.calm = true) : CallR X (.builtin "any") (rL X.K (bltD .any)) := by
  intro pns s σ H xs us Q I r h
  obtain ⟨A, ds, ro, ga, vx, hf, q⟩ := h
  unfold bltD at hf
  split at hf <;> try contradiction
  rename_i zs _
  cases e : asBls zs with
  | none => rw [e] at hf; cases hf
  | some ns =>
    rw [e] at hf
    cases hf
    obtain ⟨x, rfl, hx⟩ := v1 vx
    simp only [View] at hx
    obtain ⟨a, ys, rfl, hd, hr⟩ := hx
    rw [asBls_map e] at hr
    rw [rpl_bls hr] at hd
    exact cr_any hc pns s σ H _ us Q I r ⟨a, ns, rfl, seqL hd, q _ _ (Same.refl H) (by simp [ROR, Rp])⟩
theorem blt_int : CallR X (.type "int") (rL X.K (bltD .int)) := by
  intro pns s σ H xs us Q I r h
  obtain ⟨A, ds, ro, ga, vx, hf, q⟩ := h
  unfold bltD at hf
  split at hf <;> try contradiction
  · rename_i i _
    cases hf
    obtain ⟨x, rfl, hx⟩ := v1 vx
    simp only [View] at hx
    subst hx
    exact call_int1 pns s σ H _ us Q I r (.inl ⟨i, rfl, q _ _ (Same.refl H) (by simp [ROR, Rp])⟩)
  · rename_i b _
    cases hf
    obtain ⟨x, rfl, hx⟩ := v1 vx
    simp only [View] at hx
    subst hx
    exact call_int1 pns s σ H _ us Q I r (.inr ⟨b, rfl, q _ _ (Same.refl H) (by cases b <;> simp [ROR, Rp, b2i])⟩)
theorem kv_keys {K : PySem.W.Frag} {A : RdA} : ∀ {kvs : List (DK × D)} {ys : List (Key × V)}, RpD K A kvs ys → RpL K A (kvs.map fun p => p.1.toD) (ys.map fun kv => kV kv.1)
  | [], _, h => by simp only [RpD] at h; subst h; exact RpL.nil
  | (k, d) :: kvs, _, h => by
    simp only [RpD] at h
    obtain ⟨x, r, rfl, hd, ht⟩ := h
    refine RpL.cons ?_ (kv_keys ht)
    cases k <;> simp [DK.toD, DK.toKey, Rp, kV]
/-- the signs of a text, each a text -/
theorem sign_vals {x : List Nat} {its : List Value} (hl : its.length = x.length) (h : ∀ (j : Nat) (v : Value), its[j]? = some v → ∃ c u, x[j]? = some c ∧ v = .str ⟨#[c]⟩ u) : Vals (x.map fun c => V.str (mkS [c])) its := by
  induction x generalizing its with
  | nil =>
    have : its = [] := List.length_eq_zero_iff.mp hl
    subst this
    exact .nil
  | cons c x ih =>
    cases its with
    | nil => cases hl
    | cons v its =>
      obtain ⟨c', u, e1, e2⟩ := h 0 v rfl
      cases e1
      exact .cons ⟨u, e2⟩ (ih (by simpa using hl) fun j w e => by simpa using h (j + 1) w (by simpa using e))
theorem signs_rpl {K : PySem.W.Frag} {A : RdA} : ∀ s : List Nat, RpL K A (s.map fun c => D.str [c]) (s.map fun c => V.str (mkS [c]))
  | [] => RpL.nil
  | c :: s => RpL.cons (by simp [Rp]) (signs_rpl s)
theorem blt_list (hc : X.calm = true) : CallR X (.type "list") (rL X.K (bltD .list)) := by
  intro pns s σ H xs us Q I r h
  obtain ⟨A, ds, ro, ga, vx, hf, q⟩ := h
  unfold bltD at hf
  split at hf <;> try contradiction
  · cases hf
    obtain ⟨x, rfl, hx⟩ := v1 vx
    simp only [View] at hx
    obtain ⟨a, ys, rfl, hd, hr⟩ := hx
    exact call_list_of pns s σ H _ us Q I r ⟨a, ys, rfl, .inl (seqL hd), fun l hl => give_lst hl hr q⟩
  · cases hf
    obtain ⟨x, rfl, hx⟩ := v1 vx
    simp only [View] at hx
    obtain ⟨a, ys, rfl, hd, hr⟩ := hx
    exact call_list_of pns s σ H _ us Q I r ⟨a, ys, rfl, .inr hd, fun l hl => give_lst hl hr q⟩
  · cases hf
    obtain ⟨x, rfl, hx⟩ := v1 vx
    simp only [View] at hx
    obtain ⟨a, ys, rfl, hd, hr⟩ := hx
    exact call_listD hc pns s σ H _ us Q I r ⟨a, ys, rfl, hd, fun l hl => give_lst hl (kv_keys hr) q⟩
  · rename_i z _
    split at hf <;> cases hf
    rename_i hl
    obtain ⟨x, rfl, hx⟩ := v1 vx
    simp only [View] at hx
    subst hx
    rcases vals1 r with ⟨u, rfl, t, rfl⟩
    have hz : (mkS z).cps.size = z.length := by simp [mkS]
    refine PySem.call_list_str (I.ok.hd hc) (mkS z) t (hn := by rw [hz]; exact lim_le hl) fun h' tk acc' c' hk hS hacc => ?_
    have hv : Vals (z.map fun c => V.str (mkS [c])) acc'.toList := by
      refine sign_vals (by rw [Array.length_toList, hacc.1, hz]) fun j v e => ?_
      obtain ⟨c, u, e1, e2⟩ := hacc.2 j v (by simpa using e)
      exact ⟨c, u, by simpa [mkS] using e1, e2⟩
    have hlen : (z.map fun c => V.str (mkS [c])).length ≤ sizeLine := by rw [List.length_map]; exact lim_le hl
    refine ⟨.ref _, _, I.laid (a := s.heap.objs.size) (o := .lst (z.map fun c => V.str (mkS [c]))) (t' := tk) hk (Nat.le_refl _) ⟨hlen, acc'.toList, c', hv, ?_⟩, rfl, give_lst I.fresh (signs_rpl z) q⟩
    rw [hS]
theorem blt_tuple : CallR X (.type "tuple") (rL X.K (bltD .tuple)) := by
  intro pns s σ H xs us Q I r h
  obtain ⟨A, ds, ro, ga, vx, hf, q⟩ := h
  unfold bltD at hf
  split at hf <;> try contradiction
  · cases hf
    obtain ⟨x, rfl, hx⟩ := v1 vx
    simp only [View] at hx
    obtain ⟨a, ys, rfl, hd, hr⟩ := hx
    exact call_tuple_of pns s σ H _ us Q I r ⟨a, ys, rfl, .inl ⟨seqL hd, fun l hl => give_tup hl hr q⟩⟩
  · cases hf
    obtain ⟨x, rfl, hx⟩ := v1 vx
    simp only [View] at hx
    obtain ⟨a, ys, rfl, hd, hr⟩ := hx
    exact call_tuple_of pns s σ H _ us Q I r ⟨a, ys, rfl, .inr ⟨hd, give_tup0 (ga.tup hd) hr q⟩⟩
end
end Fx

set_option Elab.async false
set_option linter.all false
set_option maxRecDepth 100000
/-! Fx7: repr of data; isinstance. -/
namespace Fx
open L2 PyProof.Rows PySem PySem.Spec
section
variable {X : Cx} {pns : List (Addr × Obj)} {σ : L2.St} {H : Hp} {s : Shared}
theorem rd_some {a : Addr} {u : HO} (h : Rd H a u) : H a ≠ none := by
  rcases h with h | ⟨o, h⟩ <;> rw [h] <;> simp
/-- no dict is there -/
def NoDict (h : Heap) (a : Addr) : Prop := ∃ o its n, h.get? a = some o ∧ o.data = .seq its n
def pyKey : DK → PyData
  | .i n => .int n
  | .s l => .str (mkS l)
theorem pairs_get {knd : KeyKind X.prog X.w Key} (hk : knd = mixKind X.prog X.w) : ∀ {es : List DictEntry} {vs : List (Key × Value)}, Pairs knd es vs →
    (es.map (·.val)) = vs.map (·.2) ∧ Paired (fun k v => keyIs k v = true) (vs.map (·.1)) (es.map (·.key))
  | _, _, .nil => ⟨rfl, .nil⟩
  | _, _, .cons h1 h2 t => by
    obtain ⟨e1, e2⟩ := pairs_get hk t
    refine ⟨by simp [h2, e1], ?_⟩
    subst hk
    exact .cons h1 e2
theorem readKeys {h : Heap} : ∀ {ks : List DK} {us : List Value}, Paired (fun k v => keyIs k v = true) (ks.map DK.toKey) us → ReadsAll h us (ks.map pyKey) []
  | [], _, .nil => .nil
  | k :: ks, _, .cons (b := u) h1 t => by
    have r : Reads h u (pyKey k) [] := by
      cases k with
      | i n =>
        rcases keyIs_shape h1 with ⟨i, t, e1, e2⟩ | ⟨x, t, e1, e2⟩
        · cases e1; subst e2; exact .int _ _
        · cases e1
      | s l =>
        rcases keyIs_shape h1 with ⟨i, t, e1, e2⟩ | ⟨x, t, e1, e2⟩
        · cases e1
        · cases e1; subst e2; exact .str _ _
    exact .cons r (readKeys t)
theorem toPyk_keys : ∀ kvs : List (DK × D), (toPyk kvs).map (·.1) = (kvs.map (·.1)).map pyKey
  | [] => rfl
  | (k, d) :: r => by
    simp only [toPyk, List.map_cons, toPyk_keys r]
    cases k <;> rfl
theorem toPyk_vals : ∀ kvs : List (DK × D), (toPyk kvs).map (·.2) = toPys (kvs.map (·.2))
  | [] => rfl
  | (k, d) :: r => by simp only [toPyk, List.map_cons, toPyk_vals r, toPys]
theorem rpD_keys {K : PySem.W.Frag} {A : RdA} : ∀ {kvs : List (DK × D)} {ys : List (Key × V)}, RpD K A kvs ys → ys.map (·.1) = (kvs.map (·.1)).map DK.toKey
  | [], _, h => by simp only [RpD] at h; subst h; rfl
  | (k, d) :: r, _, h => by
    simp only [RpD] at h
    obtain ⟨x, r', rfl, _, t⟩ := h
    simp [rpD_keys t]
theorem rpD_vals {K : PySem.W.Frag} {A : RdA} : ∀ {kvs : List (DK × D)} {ys : List (Key × V)}, RpD K A kvs ys → RpL K A (kvs.map (·.2)) (ys.map (·.2))
  | [], _, h => by simp only [RpD] at h; subst h; exact RpL.nil
  | (k, d) :: r, _, h => by
    simp only [RpD] at h
    obtain ⟨x, r', rfl, hd, t⟩ := h
    exact RpL.cons hd (rpD_vals t)
theorem kv_vals : ∀ {ys : List (Key × V)} {vs : List (Key × Value)}, KV ys vs → Vals (ys.map (·.2)) (vs.map (·.2)) ∧ vs.map (·.1) = ys.map (·.1)
  | _, _, .nil => ⟨.nil, rfl⟩
  | _, _, .cons h t => ⟨.cons h.2 (kv_vals t).1, by simp [h.1, (kv_vals t).2]⟩
mutual
theorem rp_reads (I : Inv X pns σ H s) : ∀ (d : D) (v : V) (u : Value), Rp X.K (All H) d v → RelV v u → ∃ as, Reads s.heap u (toPy d) as ∧ ∀ a ∈ as, H a ≠ none ∨ NoDict s.heap a
  | .non, v, u, h, r => by simp only [Rp] at h; subst h; cases r; exact ⟨_, .none, by simp⟩
  | .bl b, v, u, h, r => by simp only [Rp] at h; subst h; cases r; exact ⟨_, .bool b, by simp⟩
  | .int i, v, u, h, r => by simp only [Rp] at h; subst h; obtain ⟨t, rfl⟩ := r; exact ⟨_, .int i t, by simp⟩
  | .str z, v, u, h, r => by simp only [Rp] at h; subst h; obtain ⟨t, rfl⟩ := r; exact ⟨_, .str _ t, by simp⟩
  | .tup ds, v, u, h, r => by
    simp only [Rp] at h
    obtain ⟨a, xs, rfl, hs, hr⟩ := h
    cases r
    obtain ⟨its, rv, ⟨o, ho, hc, n, hd⟩, _⟩ := I.tuple (hs.seq fun _ _ q => q)
    obtain ⟨as, h1, h2⟩ := rp_readsL I ds xs its hr rv
    simp only [toPy]
    exact ⟨as, .tuple ho hc hd h1, h2⟩
  | .lst ds, v, u, h, r => by
    simp only [Rp] at h
    obtain ⟨a, xs, rfl, hs, hr⟩ := h
    cases r
    obtain ⟨_, its, n, rv, _, e⟩ := rd_list I (hs.heap fun _ _ q => q)
    obtain ⟨as, h1, h2⟩ := rp_readsL I ds xs its hr rv
    simp only [toPy]
    refine ⟨a :: as, .list e rfl rfl h1, fun b hb => ?_⟩
    obtain rfl | hb := List.mem_cons.mp hb
    · exact .inr ⟨_, _, _, e, rfl⟩
    · exact h2 b hb
  | .dic kvs, v, u, h, r => by
    simp only [Rp] at h
    obtain ⟨a, ys, rfl, hs, hr⟩ := h
    cases r
    obtain ⟨_, _, vs, rel, o, es, ep, e1, e2, e3, _, e5, _⟩ := dk_rd I.hok hs
    obtain ⟨p1, p2⟩ := pairs_get rfl e5
    obtain ⟨q1, q2⟩ := kv_vals rel
    rw [q2, rpD_keys hr] at p2
    obtain ⟨as, h1, h2⟩ := rp_readsK I kvs ys (vs.map (·.2)) hr q1
    simp only [toPy]
    refine ⟨a :: [] ++ as, .dict e1 e2.1 e3 ?_ ?_, fun b hb => ?_⟩
    · rw [toPyk_keys]
      exact readKeys p2
    · rw [toPyk_vals, p1]
      exact h1
    · obtain rfl | hb := List.mem_cons.mp hb
      · exact .inl (rd_some hs)
      · exact h2 b hb
theorem rp_readsL (I : Inv X pns σ H s) : ∀ (ds : List D) (vs : List V) (us : List Value), RpL X.K (All H) ds vs → Vals vs us → ∃ as, ReadsAll s.heap us (toPys ds) as ∧ ∀ a ∈ as, H a ≠ none ∨ NoDict s.heap a
  | [], vs, us, h, r => by simp only [RpL] at h; subst h; cases r; exact ⟨_, .nil, by simp⟩
  | d :: ds, vs, us, h, r => by
    simp only [RpL] at h
    obtain ⟨x, xs, rfl, hd, ht⟩ := h
    cases r with
    | cons r1 r2 =>
      obtain ⟨as, h1, h2⟩ := rp_reads I d x _ hd r1
      obtain ⟨bs, h3, h4⟩ := rp_readsL I ds xs _ ht r2
      refine ⟨as ++ bs, .cons h1 h3, fun a ha => ?_⟩
      obtain ha | ha := List.mem_append.mp ha
      · exact h2 a ha
      · exact h4 a ha
theorem rp_readsK (I : Inv X pns σ H s) : ∀ (kvs : List (DK × D)) (ys : List (Key × V)) (us : List Value), RpD X.K (All H) kvs ys → Vals (ys.map (·.2)) us → ∃ as, ReadsAll s.heap us (toPys (kvs.map (·.2))) as ∧ ∀ a ∈ as, H a ≠ none ∨ NoDict s.heap a
  | [], vs, us, h, r => by simp only [RpD] at h; subst h; cases r; exact ⟨_, .nil, by simp⟩
  | (k, d) :: ds, vs, us, h, r => by
    simp only [RpD] at h
    obtain ⟨x, xs, rfl, hd, ht⟩ := h
    cases r with
    | cons r1 r2 =>
      obtain ⟨as, h1, h2⟩ := rp_reads I d x _ hd r1
      obtain ⟨bs, h3, h4⟩ := rp_readsK I ds xs _ ht r2
      refine ⟨as ++ bs, .cons h1 h3, fun a ha => ?_⟩
      obtain ha | ha := List.mem_append.mp ha
      · exact h2 a ha
      · exact h4 a ha
end
end
section
variable {X : Cx}
theorem mkS_back (z : Str) : mkS z.cps.toList = z := by simp [mkS]
theorem blt_repr (hu : X.A.units + 100 < cLine) (hg : X.A.guards = some []) (hsys : ∃ o es ep, X.base.get? sysModules = some o ∧ o.data = .dict es ep) : CallR X (.builtin "repr") (rL X.K (bltD .repr)) := by
  intro pns s σ H xs us Q I r h
  obtain ⟨A, ds, ro, ga, vx, hf, q⟩ := h
  unfold bltD at hf
  split at hf <;> try contradiction
  rename_i d _
  split at hf <;> cases hf
  rename_i hc
  obtain ⟨x, rfl, hx⟩ := v1 vx
  rcases vals1 r with ⟨u, rfl, ru⟩
  obtain ⟨as, h1, h2⟩ := rp_reads I d x u (hx.all ga.rd) ru
  have no : sysModules ∉ as := fun hm => by
    obtain ⟨o, es, ep, ho, hd⟩ := hsys
    rcases h2 _ hm with z | ⟨o', its, n, z1, z2⟩
    · exact z (I.bs _ _ ho).2
    · rw [(I.bs _ _ ho).1] at z1
      cases z1
      exact nomatch (hd.symm.trans z2)
  have hsz : (toPy d).shown.length ≤ sizeLine := lim_le hc.2.1
  have fin : ∀ (h' : Heap) (u : Tok) (tk : Nat), (∀ b o, s.heap.get? b = some o → h'.get? b = some o) → EP X pns σ Q (.str (toPy d).shown u) { s with heap := h', toks := tk } := fun h' u tk k => by
    refine ⟨.str (toPy d).shown, H, I.kept k, ⟨_, rfl⟩, ?_⟩
    have := q (.str (toPy d).shown) H (Same.refl H) (by simp [ROR, Rp, mkS_back])
    exact this
  cases d with
  | non => simp only [View] at hx; subst hx; cases ru; exact PySem.P.repr_of_none (by simpa [toPy, PyData.shown] using fin s.heap s.toks (s.toks + 1) fun _ _ e => e)
  | bl b =>
    simp only [View] at hx; subst hx; cases ru
    have z := fin s.heap s.toks (s.toks + 1) fun _ _ e => e
    simp only [toPy, PyData.shown] at z
    exact PySem.P.repr_of_bool z
  | int i =>
    simp only [View] at hx; subst hx; obtain ⟨t, rfl⟩ := ru
    have z := fin s.heap s.toks (s.toks + 1) fun _ _ e => e
    simp only [toPy, PyData.shown] at z
    exact PySem.P.repr_of_int (by simpa [toPy, PyData.showable] using hc.1) z
  | str w =>
    simp only [View] at hx; subst hx; obtain ⟨t, rfl⟩ := ru
    have z := fin s.heap s.toks (s.toks + 1) fun _ _ e => e
    simp only [toPy, PyData.shown] at z hsz
    exact PySem.P.repr_of_str z hsz
  | tup ys =>
    simp only [View] at hx
    obtain ⟨a, zs, rfl, _⟩ := hx
    cases ru
    exact repr_of_reads' h1 hc.1 (fun _ => no) hg (by have := hc.2.2; omega) (fun _ _ e => e) fin hsz
  | lst ys =>
    simp only [View] at hx
    obtain ⟨a, zs, rfl, _⟩ := hx
    cases ru
    exact repr_of_reads' h1 hc.1 (fun _ => no) hg (by have := hc.2.2; omega) (fun _ _ e => e) fin hsz
  | dic ys =>
    simp only [View] at hx
    obtain ⟨a, zs, rfl, _⟩ := hx
    cases ru
    exact repr_of_reads' h1 hc.1 (fun _ => no) hg (by have := hc.2.2; omega) (fun _ _ e => e) fin hsz
/-- isinstance -/
def tyN : Ty → String
  | .int => "int"
  | .bool => "bool"
  | .str => "str"
  | .tuple => "tuple"
  | .list => "list"
  | .dict => "dict"
def tyOfD : D → String
  | .non => "NoneType"
  | .bl _ => "bool"
  | .int _ => "int"
  | .str _ => "str"
  | .tup _ => "tuple"
  | .lst _ => "list"
  | .dic _ => "dict"
theorem view_ty {K : PySem.W.Frag} {A : RdA} {H : Hp} {d : D} {v : V} (h : View K A H d v) : TyX K H v (.type (tyOfD d)) := by
  cases d <;> simp only [View] at h
  · subst h; exact .base .non
  · subst h; exact .base (.bl _)
  · subst h; exact .base (.int _)
  · subst h; exact .base (.str _)
  · obtain ⟨a, xs, rfl, hs, _⟩ := h
    rcases hs with (hs | ⟨o, hs⟩) | ⟨o, its, n, hk, hc, _⟩
    · exact .base (.tup hs)
    · exact .fTuple hs
    · exact .kTuple hk hc
  · obtain ⟨a, xs, rfl, hs, _⟩ := h
    rcases hs with (hs | ⟨o, hs⟩) | ⟨its, n, hk, _⟩
    · exact .base (.lst hs)
    · exact .base (.frz hs)
    · exact .kList hk rfl
  · obtain ⟨a, xs, rfl, hs, _⟩ := h
    rcases hs with hs | ⟨o, hs⟩
    · exact .base (.dK hs)
    · exact .fDict hs
theorem kit_dty (K : PySem.W.Frag) (d : D) (t : Ty) : PySem.W.kitOne K (.type (tyOfD d)) (.type (tyN t)) = some (tyD t d) := by
  cases t <;> cases d <;> exact kit_ty (by simp only [tyOfD, tyN, tyD]; decide +kernel)
/-- the answer of isinstance as a reading of its first argument -/
theorem isi_G {t : Ty} : CallR X (.builtin "isinstance") (fun xs H Q => ∃ A d x, xs = [x, .ty (tyN t)] ∧ GoodA A H ∧ View X.K A H d x ∧ Q (.bl (tyD t d)) H) := by
  intro pns s σ H xs us Q I r h
  obtain ⟨A, d, x, rfl, ga, vx, q⟩ := h
  exact call_isi pns s σ H _ us Q I r ⟨x, _, _, _, _, rfl, .ty _, view_ty vx, kit_dty X.K d t, q⟩
end
end Fx

set_option Elab.async false
set_option linter.all false
set_option maxRecDepth 100000
/-! Fx8: storing, statements: readings by the evaluator. -/
namespace Fx
open L2 PyProof.Rows PySem PySem.Spec

section
variable {K : PySem.W.Frag} {O : Addr → Prop} {env env0 env1 env2 env' : Cells} {σ σ0 σ1 σ2 σ' : L2.St} {H H0 H1 H2 H' : Hp}

/-! ### storing into a slot -/
theorem obAt_set {i j : Nat} {c : Cell} (hi : i < env.length) : obAt (env.set i c) j = if i = j then c.ob else obAt env j := by
  unfold obAt
  by_cases h : i = j
  · subst h; rw [if_pos rfl, List.getElem?_set_self hi]; rfl
  · rw [if_neg h, List.getElem?_set_ne h]
/-- what is owned behind a store -/
theorem ow_set {i : Nat} {c : Cell} {v : V} {a : Addr} (hi : i < env.length) (h : Ow (env.set i c) (σ.set i (some v)) a) :
    Ow env σ a ∨ (∃ b, c.ob = some b) ∧ v = .ref a := by
  obtain ⟨j, b, e, e2⟩ := h
  rw [obAt_set hi] at e
  by_cases hj : i = j
  · subst hj
    rw [if_pos rfl] at e
    refine .inr ⟨⟨b, e⟩, ?_⟩
    by_cases hl : i < σ.length
    · rw [List.getElem?_set_self hl] at e2; cases e2; rfl
    · rw [List.getElem?_eq_none (by simpa using hl)] at e2; cases e2
  · rw [if_neg hj] at e
    rw [List.getElem?_set_ne hj] at e2
    exact .inl ⟨j, b, e, e2⟩
/-- data -/
theorem store_d (rel : Rel K O env σ H) {i : Nat} {x : D} {v : V} (hi : i < env.length) (hio : ∀ b, env[i]? ≠ some (.io b)) (hv : Rp K (Av O env σ H) x v) :
    Rel K O (env.set i (.d x)) (σ.set i (some v)) H ∧ Step env σ H (env.set i (.d x)) (σ.set i (some v)) H := by
  have ow : ∀ a, Ow (env.set i (.d x)) (σ.set i (some v)) a → Ow env σ a := fun a o => by
    rcases ow_set hi o with o | ⟨⟨b, z⟩, _⟩
    · exact o
    · cases z
  have av : ∀ a u, Av O env σ H a u → Av O (env.set i (.d x)) (σ.set i (some v)) H a u := fun a u k => ⟨fun o => k.1 (ow a o), k.2⟩
  have hl : i < σ.length := by rw [← rel.len]; exact hi
  refine ⟨⟨by rw [List.length_set, List.length_set]; exact rel.len, fun j c e => ?_, fun j k b b' p h1 h2 h3 h4 => ?_, fun a z => ⟨(rel.hid a z).1, fun o => (rel.hid a z).2 (ow a o)⟩⟩,
    fun _ _ e _ => e, fun a _ n o => n (ow a o), fun _ h => h, fun j b e => ?_⟩
  · by_cases hj : i = j
    · subst hj
      rw [List.getElem?_set_self hi] at e
      cases e
      exact ⟨v, List.getElem?_set_self hl, Rp.mono av _ _ hv⟩
    · rw [List.getElem?_set_ne hj] at e ⊢
      have q := rel.at_ j c e
      cases c with
      | none => trivial
      | d y => obtain ⟨w, e1, q⟩ := q; exact ⟨w, e1, Rp.mono av _ _ q⟩
      | o b => obtain ⟨w, e1, q⟩ := q; exact ⟨w, e1, q.mono av rfl⟩
      | io b => obtain ⟨w, e1, q⟩ := q; exact ⟨w, e1, q.mono av rfl⟩
  · rw [obAt_set hi] at h1 h2
    split at h1
    · cases h1
    · split at h2
      · cases h2
      · rename_i n1 n2
        rw [List.getElem?_set_ne n1] at h3
        rw [List.getElem?_set_ne n2] at h4
        exact rel.inj j k b b' p h1 h2 h3 h4
  · have hj : i ≠ j := fun z => by subst z; exact hio b e
    rw [List.getElem?_set_ne hj, List.getElem?_set_ne hj]
    exact ⟨rfl, b, e⟩
/-- a new object -/
theorem store_o (st : Step env0 σ0 H0 env σ H) {i : Nat} {b : Ob} {v : V} {p : Addr} (rel : Rel K (un O (nw (.new b) v)) env σ H) (hi : i < env.length)
    (hio : ∀ b, env[i]? ≠ some (.io b)) (nOp : ¬ O p) (hvp : v = .ref p) (hp : H0 p = none) (hb : ObR K (Av (un O (nw (.new b) v)) env σ H) H b p) :
    Rel K O (env.set i (.o b)) (σ.set i (some v)) H ∧ Step env0 σ0 H0 (env.set i (.o b)) (σ.set i (some v)) H ∧
      ∀ a u, Av (un O (nw (.new b) v)) env σ H a u → Av O (env.set i (.o b)) (σ.set i (some v)) H a u := by
  have ow : ∀ a, Ow (env.set i (.o b)) (σ.set i (some v)) a → Ow env σ a ∨ a = p := fun a o => by
    rcases ow_set hi o with o | ⟨_, z⟩
    · exact .inl o
    · rw [hvp] at z; cases z; exact .inr rfl
  have av : ∀ a u, Av (un O (nw (.new b) v)) env σ H a u → Av O (env.set i (.o b)) (σ.set i (some v)) H a u := fun a u k =>
    ⟨fun o => (ow a o).elim k.1 fun z => k.2.1 (.inr (by subst z; exact hvp)), fun z => k.2.1 (.inl z), k.2.2⟩
  have hl : i < σ.length := by rw [← rel.len]; exact hi
  have np : ¬ Ow env σ p := (rel.hid p (.inr hvp)).2
  refine ⟨⟨by rw [List.length_set, List.length_set]; exact rel.len, fun j c e => ?_, fun j k c c' q h1 h2 h3 h4 => ?_, fun a z => ⟨(rel.hid a (.inl z)).1, fun o => ?_⟩⟩,
    ⟨fun a o e n => st.kp a o e n, fun a h n o => ?_, fun a h => st.th a h, fun j c e => ?_⟩, av⟩
  · by_cases hj : i = j
    · subst hj
      rw [List.getElem?_set_self hi] at e
      cases e
      exact ⟨p, by rw [List.getElem?_set_self hl, hvp], hb.mono av rfl⟩
    · rw [List.getElem?_set_ne hj] at e ⊢
      have q := rel.at_ j c e
      cases c with
      | none => trivial
      | d y => obtain ⟨w, e1, q⟩ := q; exact ⟨w, e1, Rp.mono av _ _ q⟩
      | o b => obtain ⟨w, e1, q⟩ := q; exact ⟨w, e1, q.mono av rfl⟩
      | io b => obtain ⟨w, e1, q⟩ := q; exact ⟨w, e1, q.mono av rfl⟩
  · rw [obAt_set hi] at h1 h2
    by_cases n1 : i = j
    · by_cases n2 : i = k
      · exact n1.symm.trans n2
      · rw [if_neg n2] at h2
        subst n1
        rw [List.getElem?_set_self hl] at h3
        rw [List.getElem?_set_ne n2] at h4
        cases h3
        cases hvp
        exact (np ⟨k, c', h2, h4⟩).elim
    · rw [if_neg n1] at h1
      by_cases n2 : i = k
      · subst n2
        rw [List.getElem?_set_self hl] at h4
        rw [List.getElem?_set_ne n1] at h3
        cases h4
        cases hvp
        exact (np ⟨j, c, h1, h3⟩).elim
      · rw [if_neg n2] at h2
        rw [List.getElem?_set_ne n1] at h3
        rw [List.getElem?_set_ne n2] at h4
        exact rel.inj j k c c' q h1 h2 h3 h4
  · rcases ow a o with o | o
    · exact (rel.hid a (.inl z)).2 o
    · subst o; exact nOp z
  · rcases ow a o with o | o
    · exact st.ow a h n o
    · subst o; exact h hp
  · obtain ⟨e1, c', e2⟩ := st.io j c e
    have hj : i ≠ j := fun z => by subst z; exact hio c' e2
    rw [List.getElem?_set_ne hj, List.getElem?_set_ne hj]
    exact ⟨e1, c', e2⟩
/-! ### targets -/
end
mutual
def Tg.slots : Tg → List Nat
  | .nm i => [i]
  | .tup ts => Tg.slotsL ts
def Tg.slotsL : List Tg → List Nat
  | [] => []
  | t :: ts => t.slots ++ Tg.slotsL ts
end
/-- but for some slots the same -/
def Eqo (is : List Nat) (σ σ' : L2.St) : Prop := σ'.length = σ.length ∧ ∀ j, j ∉ is → σ'[j]? = σ[j]?
theorem Eqo.refl {is : List Nat} {σ : L2.St} : Eqo is σ σ := ⟨rfl, fun _ _ => rfl⟩
section
variable (K : PySem.W.Frag)
def gD (t : Tg) : TG := fun v σ H Q => ∃ O env d env', Rel K O env σ H ∧ Rp K (Av O env σ H) d v ∧ asgD t d env = some env' ∧
  ∀ σ' H', Rel K O env' σ' H' → Step env σ H env' σ' H' → Eqo t.slots σ σ' → Q σ' H'
def gDs (ts : List Tg) : TGs := fun vs σ H Q => ∃ O env ds env', Rel K O env σ H ∧ RpL K (Av O env σ H) ds vs ∧ asgDs ts ds env = some env' ∧
  ∀ σ' H', Rel K O env' σ' H' → Step env σ H env' σ' H' → Eqo (Tg.slotsL ts) σ σ' → Q σ' H'
def gR (t : Tg) : TG := fun v σ H Q => ∃ O env0 σ0 H0 env r env', Step env0 σ0 H0 env σ H ∧ Rel K (un O (nw r v)) env σ H ∧ (∀ a, O a → H0 a ≠ none) ∧
  RR K (un O (nw r v)) env σ H0 H r v ∧ asgR t r env = some env' ∧ ∀ σ' H', Rel K O env' σ' H' → Step env0 σ0 H0 env' σ' H' → Q σ' H'
end
section
variable {K : PySem.W.Frag} {O : Addr → Prop} {env env0 env1 env2 env' : Cells} {σ σ0 σ1 σ2 σ' : L2.St} {H H0 H1 H2 H' : Hp}
theorem slot_ok {i : Nat} {c : Cell} {o : Option Cells} (h : (match env[i]? with | some (.io _) => none | some _ => some (env.set i c) | none => none) = some env') :
    i < env.length ∧ (∀ b, env[i]? ≠ some (.io b)) ∧ env' = env.set i c := by
  cases e : env[i]? with
  | none => (rw [e] at h; cases h)
  | some x =>
    have hi := (List.getElem?_eq_some_iff.mp e).1
    rw [e] at h
    cases x with
    | io b => cases h
    | none => cases h; exact ⟨hi, fun b z => (by cases z), rfl⟩
    | d y => cases h; exact ⟨hi, fun b z => (by cases z), rfl⟩
    | o y => cases h; exact ⟨hi, fun b z => (by cases z), rfl⟩
theorem gD_nm {i : Nat} {v : V} {Q : L2.St → Hp → Prop} (h : gD K (.nm i) v σ H Q) : gName i v σ H Q := by
  obtain ⟨O, env, d, env', rel, rp, e, q⟩ := h
  unfold asgD at e
  obtain ⟨hi, hio, rfl⟩ := slot_ok (o := none) e
  obtain ⟨r1, s1⟩ := store_d rel hi hio rp
  exact q _ _ r1 s1 ⟨by rw [List.length_set], fun j hj => List.getElem?_set_ne fun z => hj (by subst z; exact List.mem_singleton_self _)⟩
theorem asgDs_len : ∀ {ts : List Tg} {ds : List D} {env env' : Cells}, asgDs ts ds env = some env' → ds.length = ts.length
  | [], [], _, _, _ => rfl
  | [], _ :: _, _, _, h => by unfold asgDs at h; cases h
  | _ :: _, [], _, _, h => by unfold asgDs at h; cases h
  | t :: ts, d :: ds, env, env', h => by
    unfold asgDs at h
    cases e : asgD t d env with
    | none => (rw [e] at h; cases h)
    | some env1 =>
      rw [e] at h
      simp only at h
      rw [List.length_cons, List.length_cons, asgDs_len h]
theorem gD_tup {ts : List Tg} {v : V} {Q : L2.St → Hp → Prop} (h : gD K (.tup ts) v σ H Q) : gTup K ts.length (gDs K ts) v σ H Q := by
  obtain ⟨O, env, d, env', rel, rp, e, q⟩ := h
  cases d with
  | tup xs =>
    unfold asgD at e
    simp only [Rp] at rp
    obtain ⟨a, ys, rfl, hs, hr⟩ := rp
    exact ⟨a, ys, rfl, hs.seq fun _ _ => av_rd, hr.length.trans (asgDs_len e), O, env, xs, env', rel, hr, e, fun σ' H' a b c => q σ' H' a b (by simpa only [Tg.slots] using c)⟩
  | _ => unfold asgD at e; cases e
theorem gDs_nil {vs : List V} {Q : L2.St → Hp → Prop} (h : gDs K [] vs σ H Q) : gNil vs σ H Q := by
  obtain ⟨O, env, ds, env', rel, rp, e, q⟩ := h
  cases ds with
  | nil =>
    unfold asgDs at e
    cases e
    simp only [RpL] at rp
    exact ⟨rp, q _ _ rel Step.refl Eqo.refl⟩
  | cons d ds => unfold asgDs at e; cases e
theorem gDs_cons {t : Tg} {ts : List Tg} {vs : List V} {Q : L2.St → Hp → Prop} (h : gDs K (t :: ts) vs σ H Q) : gCons (gD K t) (gDs K ts) vs σ H Q := by
  obtain ⟨O, env, ds, env', rel, rp, e, q⟩ := h
  cases ds with
  | nil => unfold asgDs at e; cases e
  | cons d ds =>
    unfold asgDs at e
    simp only [RpL] at rp
    obtain ⟨x, r, rfl, hd, hr⟩ := rp
    cases e1 : asgD t d env with
    | none => rw [e1] at e; cases e
    | some env1 =>
      rw [e1] at e
      exact ⟨x, r, rfl, O, env, d, env1, rel, hd, e1, fun σ1 H1 rel1 st1 eq1 => ⟨O, env1, ds, env', rel1, st1.rpL hr, e, fun σ2 H2 rel2 st2 eq2 => q σ2 H2 rel2 (st1.trans st2)
        ⟨eq2.1.trans eq1.1, fun j hj => (eq2.2 j fun z => hj (by rw [Tg.slotsL]; exact List.mem_append_right _ z)).trans (eq1.2 j fun z => hj (by rw [Tg.slotsL]; exact List.mem_append_left _ z))⟩⟩⟩
theorem gR_nm {i : Nat} {v : V} {Q : L2.St → Hp → Prop} (h : gR K (.nm i) v σ H Q) : gName i v σ H Q := by
  obtain ⟨O, env0, σ0, H0, env, r, env', st, rel, hO, rr, e, q⟩ := h
  simp only [asgR] at e
  cases r with
  | d x =>
    simp only [cellOf] at e
    obtain ⟨hi, hio, rfl⟩ := slot_ok (o := none) e
    obtain ⟨r1, s1⟩ := store_d (rel.less fun a z => .inl z) hi hio (Rp.mono (av_anti fun a z => .inl z) _ _ rr)
    exact q _ _ r1 (st.trans s1)
  | new b =>
    simp only [cellOf] at e
    obtain ⟨hi, hio, rfl⟩ := slot_ok (o := none) e
    obtain ⟨p, hvp, hp, hb⟩ := rr
    obtain ⟨r1, s1, _⟩ := store_o st rel hi hio (fun z => hO p z hp) hvp hp hb
    exact q _ _ r1 s1
  | own j =>
    cases g : frz env (.own j) with
    | none => simp only [cellOf, g, Option.map] at e; cases e
    | some p =>
      obtain ⟨d, env1⟩ := p
      simp only [cellOf, g, Option.map] at e
      obtain ⟨rel1, st1, rp1⟩ := frz_ok rel (fun a z => z.elim) rr g
      obtain ⟨hi, hio, rfl⟩ := slot_ok (o := none) e
      obtain ⟨r1, s1⟩ := store_d rel1 hi hio rp1
      exact q _ _ r1 ((st.trans st1).trans s1)
theorem gR_tup {ts : List Tg} {v : V} {Q : L2.St → Hp → Prop} (h : gR K (.tup ts) v σ H Q) : gD K (.tup ts) v σ H Q := by
  obtain ⟨O, env0, σ0, H0, env, r, env', st, rel, hO, rr, e, q⟩ := h
  simp only [asgR] at e
  cases g : frz env r with
  | none => rw [g] at e; cases e
  | some p =>
    obtain ⟨d, env1⟩ := p
    rw [g] at e
    simp only at e
    obtain ⟨rel1, st1, rp1⟩ := frz_ok rel (fun a z k => hO a k (rr.fresh a z)) rr g
    exact ⟨O, env1, d, env', rel1, rp1, e, fun σ' H' r2 s2 _ => q σ' H' r2 ((st.trans st1).trans s2)⟩
end

/-! ### statements -/
section
variable (K : PySem.W.Frag)
def FinS (O : Addr → Prop) (env : Cells) (σ : L2.St) (H : Hp) (env1 : Cells) (D : Ends) : Fl → Prop
  | .next => ∀ σ' H', Rel K O env1 σ' H' → Step env σ H env1 σ' H' → D.nx σ' H'
  | .brk => ∀ σ' H', Rel K O env1 σ' H' → Step env σ H env1 σ' H' → D.bk σ' H'
  | .cnt => ∀ σ' H', Rel K O env1 σ' H' → Step env σ H env1 σ' H' → D.ct σ' H'
  | .ret r => ∀ v σ' H', Rel K (un O (nw r v)) env1 σ' H' → Step env σ H env1 σ' H' → RR K (un O (nw r v)) env1 σ' H H' r v → D.rt v H'
def tS (f : Cells → Res Fl) : TS := fun D σ H => ∃ O env, Rel K O env σ H ∧ ∃ fl env1, f env = .ok fl env1 ∧ FinS K O env σ H env1 D fl
/-- a walk: what is yielded, as long as S -/
structure Yl (A : RdA) (S : Hp → Prop) (J : L2.It) (ds : List D) : Prop where
  go : ∀ i H, S H → i < ds.length → J.go i H
  yld : ∀ i H x H' d, S H → ds[i]? = some d → J.yld i H x H' → Same H H' ∧ Rp K (Gr A H H') d x
  stop : ∀ i H, S H → ds.length ≤ i → J.stop i H
/-- all that nobody owns stands -/
def Kp (env : Cells) (σ : L2.St) (H H' : Hp) : Prop := ∀ a o, H a = some o → ¬ Ow env σ a → H' a = some o
def tI (f : Cells → Res (List D)) : TI := fun σ H R => ∃ O env, Rel K O env σ H ∧ ∃ ds env', f env = .ok ds env' ∧
  ∀ J H', Rel K O env' σ H' → Step env σ H env' σ H' → Yl K (Av O env' σ H') (Kp env' σ H') J ds → R J H'
end
section
variable {K : PySem.W.Frag} {O : Addr → Prop} {env env0 env1 env2 env' : Cells} {σ σ0 σ1 σ2 σ' : L2.St} {H H0 H1 H2 H' : Hp} {D : Ends}
theorem FinS.later (st : Step env0 σ0 H0 env σ H) {fl : Fl} (h : FinS K O env0 σ0 H0 env1 D fl) : FinS K O env σ H env1 D fl := by
  cases fl with
  | next => exact fun σ' H' r s => h σ' H' r (st.trans s)
  | brk => exact fun σ' H' r s => h σ' H' r (st.trans s)
  | cnt => exact fun σ' H' r s => h σ' H' r (st.trans s)
  | ret r => exact fun v σ' H' k s rr => h v σ' H' k (st.trans s) (rr.back fun p => st.back)
theorem s_nil (h : tS K (fun env => .ok .next env) D σ H) : tNext D σ H := by
  obtain ⟨O, env, rel, fl, env1, e, q⟩ := h
  cases e
  exact q _ _ rel Step.refl
theorem s_brk (h : tS K (fun env => .ok .brk env) D σ H) : tBreak D σ H := by
  obtain ⟨O, env, rel, fl, env1, e, q⟩ := h
  cases e
  exact q _ _ rel Step.refl
theorem s_cnt (h : tS K (fun env => .ok .cnt env) D σ H) : tCont D σ H := by
  obtain ⟨O, env, rel, fl, env1, e, q⟩ := h
  cases e
  exact q _ _ rel Step.refl
theorem s_retN (h : tS K (fun env => .ok (.ret (.d .non)) env) D σ H) : tRetN D σ H := by
  obtain ⟨O, env, rel, fl, env1, e, q⟩ := h
  cases e
  exact q .non _ _ rel.plus Step.refl (rr_d (by simp [Rp]))
theorem s_ret {f : Cells → Res R} (h : tS K (fun env => (f env).bind fun r env1 => .ok (.ret r) env1) D σ H) : tRet (tE K f) D σ H := by
  obtain ⟨O, env, rel, fl, env1, e, q⟩ := h
  obtain ⟨r, env2, e2, e⟩ := Res.bind_ok e
  cases e
  exact ⟨O, env, rel, r, _, e2, fun v H' r1 s1 rr => q v σ H' r1 s1 rr⟩
theorem s_expr {f : Cells → Res R} (h : tS K (fun env => (f env).bind fun _ env1 => .ok .next env1) D σ H) : tDrop (tE K f) D σ H := by
  obtain ⟨O, env, rel, fl, env1, e, q⟩ := h
  obtain ⟨r, env2, e2, e⟩ := Res.bind_ok e
  cases e
  exact ⟨O, env, rel, r, _, e2, fun v H' r1 s1 rr => q σ H' (r1.less fun a z => .inl z) s1⟩
theorem s_seq {f g : Cells → Res Fl} (h : tS K (fun env => (f env).bind fun fl env1 => match fl with
      | .next => g env1
      | fl => .ok fl env1) D σ H) : tSeq (tS K f) (tS K g) D σ H := by
  obtain ⟨O, env, rel, fl, env1, e, q⟩ := h
  obtain ⟨fl1, env2, e2, e⟩ := Res.bind_ok e
  refine ⟨O, env, rel, fl1, env2, e2, ?_⟩
  cases fl1 with
  | next => exact fun σ' H' r s => ⟨O, env2, r, fl, env1, e, q.later s⟩
  | brk => cases e; exact q
  | cnt => cases e; exact q
  | ret r => cases e; exact q
theorem s_if {c : Cells → Res Bool} {f g : Cells → Res Fl} (h : tS K (fun env => (c env).bind fun t env1 => if t then f env1 else g env1) D σ H) :
    tIfS (tT K c) (tS K f) (tS K g) D σ H := by
  obtain ⟨O, env, rel, fl, env1, e, q⟩ := h
  obtain ⟨b, env2, e2, e⟩ := Res.bind_ok e
  refine ⟨O, env, rel, b, env2, e2, fun H' r s => ?_⟩
  cases b with
  | true => rw [if_pos rfl] at e ⊢; exact ⟨O, env2, r, fl, env1, e, q.later s⟩
  | false => rw [if_neg Bool.false_ne_true] at e ⊢; exact ⟨O, env2, r, fl, env1, e, q.later s⟩
theorem s_asg {f : Cells → Res R} {t : Tg} (h : tS K (fun env => (f env).bind fun r env1 => match asgR t r env1 with
      | some env2 => .ok .next env2
      | none => .bad) D σ H) : tAsg (tE K f) (gR K t) D σ H := by
  obtain ⟨O, env, rel, fl, env1, e, q⟩ := h
  obtain ⟨r, env2, e2, e⟩ := Res.bind_ok e
  refine ⟨O, env, rel, r, env2, e2, fun v H' r1 s1 rr => ?_⟩
  cases g : asgR t r env2 with
  | none => rw [g] at e; cases e
  | some env3 =>
    rw [g] at e
    cases e
    exact ⟨O, env, σ, H, env2, r, env1, s1, r1, fun a z => rel.hidT z, rr, g, q⟩
theorem s_whl {c : Cells → Res Bool} {body : Cells → Res Fl} {n : Nat} (h : tS K (whlRun c body n) D σ H) : tWhile (tT K c) (tS K body) D σ H := by
  obtain ⟨O, env, rel, fl, env1, e, q⟩ := h
  refine ⟨fun m σ' H' => ∃ envi, Rel K O envi σ' H' ∧ Step env σ H envi σ' H' ∧ whlRun c body m envi = .ok fl env1, ⟨n, env, rel, Step.refl, e⟩, ?_⟩
  rintro m σ' H' ⟨envi, ri, si, ei⟩
  cases m with
  | zero => cases ei
  | succ m =>
    unfold whlRun at ei
    obtain ⟨b, env2, e2, ei⟩ := Res.bind_ok ei
    refine ⟨O, envi, ri, b, env2, e2, fun H2 r2 s2 => ?_⟩
    cases b with
    | false =>
      rw [if_neg Bool.false_ne_true] at ei ⊢
      cases ei
      exact q _ _ r2 (si.trans s2)
    | true =>
      rw [if_pos rfl] at ei ⊢
      obtain ⟨f, env3, e3, ei⟩ := Res.bind_ok ei
      refine ⟨fun σ3 H3 => ∃ envj, Rel K O envj σ3 H3 ∧ Step env σ H envj σ3 H3 ∧ whlRun c body m envj = .ok fl env1, fun σ3 H3 h3 => ⟨m, Nat.lt_succ_self m, h3⟩, O, env2, r2, f, env3, e3, ?_⟩
      cases f with
      | next => exact fun σ3 H3 r3 s3 => ⟨env3, r3, (si.trans s2).trans s3, ei⟩
      | cnt => exact fun σ3 H3 r3 s3 => ⟨env3, r3, (si.trans s2).trans s3, ei⟩
      | brk => cases ei; exact fun σ3 H3 r3 s3 => q σ3 H3 r3 ((si.trans s2).trans s3)
      | ret r => cases ei; exact FinS.later (D := ⟨_, D.rt, _, _⟩) (si.trans s2) q
theorem gr_at (rel : Rel K O env1 σ1 H1) (st : Step env σ H env1 σ1 H1) (g : Same H1 H2) (a : Addr) (u : HO) (h : Gr (Av O env σ H) H1 H2 a u) : Av O env1 σ1 H2 a u := by
  rcases h with h | ⟨h1, h2⟩
  · exact (Step.grow g).av a u (st.av a u h)
  · exact ⟨rel.fresh_not h1, fun z => rel.hidT z h1, h2⟩
/-- what is left of a for once its source is there -/
def ForRest (K : PySem.W.Frag) (t : Tg) (body : Cells → Res Fl) (J : L2.It) (D : Ends) (σ : L2.St) (H1 : Hp) : Prop :=
  ∃ W : Nat → Nat → L2.St → Hp → Prop, (∃ m, W 0 m σ H1) ∧ ∀ i m σ H, W i m σ H →
    (J.stop i H ∧ D.nx σ H) ∨ (J.go i H ∧ ∃ N : L2.St → Hp → Prop, (∀ σ' H', N σ' H' → ∃ m', m' < m ∧ W (i + 1) m' σ' H') ∧ ∀ x H', J.yld i H x H' → gD K t x σ H' fun σ2 H2 => tS K body { D with nx := N, ct := N, bk := D.nx } σ2 H2)
theorem for_rest {Hs : Hp} {envs : Cells} {body : Cells → Res Fl} {t : Tg} {J : L2.It} {ds : List Fx.D} {fl : Fl} (rs : Rel K O envs σ Hs) (yl : Yl K (Av O envs σ Hs) (Kp envs σ Hs) J ds) (e : forRun t body ds envs = .ok fl env1)
    (q : FinS K O envs σ Hs env1 D fl) : ForRest K t body J D σ Hs := by
  refine ⟨fun i m σ' H' => m = ds.length - i ∧ i ≤ ds.length ∧ ∃ envi, Rel K O envi σ' H' ∧ Step envs σ Hs envi σ' H' ∧ forRun t body (ds.drop i) envi = .ok fl env1,
    ⟨ds.length, rfl, Nat.zero_le _, envs, rs, Step.refl, e⟩, ?_⟩
  rintro i m σ' H' ⟨rfl, hi, envi, ri, si, ei⟩
  have hS : Kp envs σ Hs H' := fun a o h1 h2 => si.kp a o h1 h2
  by_cases hl : i < ds.length
  · refine .inr ⟨yl.go i H' hS hl, fun σ3 H3 => i + 1 ≤ ds.length ∧ ∃ envj, Rel K O envj σ3 H3 ∧ Step envs σ Hs envj σ3 H3 ∧ forRun t body (ds.drop (i + 1)) envj = .ok fl env1, ?_, ?_⟩
    · rintro σ3 H3 ⟨h1, h2⟩
      exact ⟨ds.length - (i + 1), by omega, rfl, h1, h2⟩
    · intro x H2 hy
      obtain ⟨g, rp⟩ := yl.yld i H' x H2 ds[i] hS (List.getElem?_eq_getElem hl) hy
      rw [List.drop_eq_getElem_cons hl] at ei
      unfold forRun at ei
      cases ea : asgD t ds[i] envi with
      | none => rw [ea] at ei; cases ei
      | some env2 =>
        rw [ea] at ei
        obtain ⟨f, env3, e3, ei⟩ := Res.bind_ok ei
        refine ⟨O, envi, ds[i], env2, ri.grow g, Rp.mono (gr_at ri si g) _ _ rp, ea, fun σ3 H3 r3 s3 _ => ?_⟩
        have s4 := (si.trans (Step.grow g)).trans s3
        refine ⟨O, env2, r3, f, env3, e3, ?_⟩
        cases f with
        | next => exact fun σ5 H5 r5 s5 => ⟨hl, env3, r5, s4.trans s5, ei⟩
        | cnt => exact fun σ5 H5 r5 s5 => ⟨hl, env3, r5, s4.trans s5, ei⟩
        | brk => cases ei; exact fun σ5 H5 r5 s5 => q σ5 H5 r5 (s4.trans s5)
        | ret r => cases ei; exact FinS.later (D := ⟨_, D.rt, _, _⟩) s4 q
  · have hi' : ds.drop i = [] := List.drop_eq_nil_of_le (by omega)
    rw [hi'] at ei
    cases ei
    exact .inl ⟨yl.stop i H' hS (by omega), q _ _ ri si⟩
theorem s_for {it : Cells → Res (List Fx.D)} {body : Cells → Res Fl} {t : Tg} (h : tS K (fun env => (it env).bind fun xs env1 => forRun t body xs env1) D σ H) :
    tFor (tI K it) (gD K t) (tS K body) D σ H := by
  obtain ⟨O, env, rel, fl, env1, e, q⟩ := h
  obtain ⟨ds, envs, es, e⟩ := Res.bind_ok e
  exact ⟨O, env, rel, ds, envs, es, fun J Hs rs ss yl => for_rest rs yl e (FinS.later ss q)⟩
end
theorem _root_.L2.PI.imp {X : Cx} {e tg : Expr} {t t' : TI} (h : PI X tg e t) (i : ∀ σ H Q, t' σ H Q → t σ H Q) : PI X tg e t' := ⟨fun pn st σ H Q iv q => h.run pn st σ H Q iv (i σ H Q q)⟩
theorem tE_mono {K : PySem.W.Frag} {f : Cells → Res R} {σ : L2.St} {H : Hp} {Q Q' : VK} (h : tE K f σ H Q) (i : ∀ v H', Q v H' → Q' v H') : tE K f σ H Q' := by
  obtain ⟨O, env, rel, r, env', e, q⟩ := h
  exact ⟨O, env, rel, r, env', e, fun v H' a b d => i v H' (q v H' a b d)⟩
end Fx

set_option Elab.async false
set_option linter.all false
set_option maxRecDepth 100000
/-! Fx9: pairs of stores, writing into objects, methods, slices, chains. -/
namespace Fx
open L2 PyProof.Rows PySem PySem.Spec

section
variable {K : PySem.W.Frag} {O : Addr → Prop} {env env0 env1 env2 env' : Cells} {σ σ0 σ1 σ2 σ' : L2.St} {H H0 H1 H2 H' : Hp} {D : Ends}
/-! ### several names at once -/
def setAll (σ : L2.St) : List Nat → List V → L2.St
  | i :: is, v :: vs => setAll (σ.set i (some v)) is vs
  | _, _ => σ
theorem RRs.move {O2 : Addr → Prop} (av : ∀ a u, Av O env σ H a u → Av O2 env' σ' H a u) : ∀ {rs : List R} {vs : List V}, noOwn rs = true → RRs K O env σ H0 H rs vs → RRs K O2 env' σ' H0 H rs vs
  | [], _, _, h => h
  | r :: rs, _, no, ⟨x, xs, e, h, t⟩ => by
    cases r with
    | own j => simp [noOwn] at no
    | d y => exact ⟨x, xs, e, Rp.mono av _ _ h, RRs.move av (by simpa [noOwn] using no) t⟩
    | new b =>
      obtain ⟨p, e1, e2, hb⟩ := h
      exact ⟨x, xs, e, ⟨p, e1, e2, hb.mono av rfl⟩, RRs.move av (by simpa [noOwn] using no) t⟩
theorem stores : ∀ {is : List Nat} {rs : List R} {vs : List V} {env env' : Cells} {σ : L2.St}, Rel K (un O (nws rs vs)) env σ H → Step env0 σ0 H0 env σ H → Apart rs vs → (∀ a, nws rs vs a → ¬ O a) →
    RRs K (un O (nws rs vs)) env σ H0 H rs vs → noOwn rs = true → asgRs (is.map .nm) rs env = some env' → Rel K O env' (setAll σ is vs) H ∧ Step env0 σ0 H0 env' (setAll σ is vs) H
  | [], [], vs, env, env', σ, rel, st, ap, hs, rr, no, e => by
    simp only [List.map_nil, asgRs] at e
    cases e
    simp only [RRs] at rr
    subst rr
    rw [un_nil] at rel
    exact ⟨rel, st⟩
  | [], _ :: _, _, env, env', σ, rel, st, ap, hs, rr, no, e => by simp only [List.map_nil, asgRs] at e; cases e
  | _ :: _, [], _, env, env', σ, rel, st, ap, hs, rr, no, e => by simp only [List.map_cons, asgRs] at e; cases e
  | i :: is, r :: rs, _, env, env', σ, rel, st, ap, hs, ⟨v, vs, ev, h, t⟩, no, e => by
    subst ev
    simp only [List.map_cons, asgRs] at e
    cases e1 : asgR (.nm i) r env with
    | none => rw [e1] at e; cases e
    | some env1 =>
      rw [e1] at e
      simp only at e
      have hs1 : ∀ a, nws rs vs a → ¬ O a := fun a z => hs a (.inr z)
      rw [un_cons] at rel h t
      cases r with
      | own j => simp [noOwn] at no
      | d x =>
        have no' : noOwn rs = true := by simpa [noOwn] using no
        simp only [asgR, cellOf] at e1
        obtain ⟨hi, hio, rfl⟩ := slot_ok (o := none) e1
        have rel' := rel.less (O' := un O (nws rs vs)) fun a z => .inl z
        obtain ⟨r1, s1⟩ := store_d rel' hi hio (Rp.mono (av_anti fun a z => .inl z) _ _ h)
        rw [show setAll σ (i :: is) (v :: vs) = setAll (σ.set i (some v)) is vs from rfl]
        exact stores r1 (st.trans s1) ap.2 hs1 (t.move (fun a u k => s1.av a u (av_anti (fun a z => .inl z) a u k)) no') no' e
      | new b =>
        have no' : noOwn rs = true := by simpa [noOwn] using no
        simp only [asgR, cellOf] at e1
        obtain ⟨hi, hio, rfl⟩ := slot_ok (o := none) e1
        obtain ⟨p, hvp, hp, hb⟩ := h
        obtain ⟨r1, s1, av⟩ := store_o st rel hi hio (fun z => z.elim (hs p (.inl hvp)) fun z => ap.1 p hvp z) hvp hp hb
        rw [show setAll σ (i :: is) (v :: vs) = setAll (σ.set i (some v)) is vs from rfl]
        exact stores r1 s1 ap.2 hs1 (t.move av no') no' e
theorem storesD : ∀ {is : List Nat} {ds : List Fx.D} {vs : List V} {env env' : Cells} {σ : L2.St}, Rel K O env σ H → RpL K (Av O env σ H) ds vs → asgDs (is.map .nm) ds env = some env' →
    Rel K O env' (setAll σ is vs) H ∧ Step env σ H env' (setAll σ is vs) H
  | [], [], vs, env, env', σ, rel, rp, e => by
    simp only [List.map_nil, asgDs] at e
    cases e
    simp only [RpL] at rp
    subst rp
    exact ⟨rel, Step.refl⟩
  | [], _ :: _, _, env, env', σ, rel, rp, e => by simp only [List.map_nil, asgDs] at e; cases e
  | _ :: _, [], _, env, env', σ, rel, rp, e => by simp only [List.map_cons, asgDs] at e; cases e
  | i :: is, d :: ds, _, env, env', σ, rel, rp, e => by
    simp only [RpL] at rp
    obtain ⟨v, vs, rfl, hd, hr⟩ := rp
    simp only [List.map_cons, asgDs] at e
    cases e1 : asgD (.nm i) d env with
    | none => rw [e1] at e; cases e
    | some env1 =>
      rw [e1] at e
      simp only at e
      simp only [asgD] at e1
      obtain ⟨hi, hio, rfl⟩ := slot_ok (o := none) e1
      obtain ⟨r1, s1⟩ := store_d rel hi hio hd
      obtain ⟨r2, s2⟩ := storesD r1 (s1.rpL hr) e
      rw [show setAll σ (i :: is) (v :: vs) = setAll (σ.set i (some v)) is vs from rfl]
      exact ⟨r2, s1.trans s2⟩
/-- a, b = e, e' -/
def parF (ts : List Tg) (es : Cells → Res (List R)) (env : Cells) : Res Fl := (es env).bind fun rs env1 => if noOwn rs then
      (match asgRs ts rs env1 with
        | some env2 => .ok .next env2
        | none => .bad)
      else (match frzs env1 rs with
        | some (xs, env2) => match asgDs ts xs env2 with
          | some env3 => .ok .next env3
          | none => .bad
        | none => .bad)
theorem par_ok {is : List Nat} {es : Cells → Res (List R)} (h : tS K (parF (is.map .nm) es) D σ H) :
    tA K es σ H fun vs H1 => vs.length = is.length ∧ D.nx (setAll σ is vs) H1 := by
  obtain ⟨O, env, rel, fl, env1, e, q⟩ := h
  obtain ⟨rs, env2, e2, e⟩ := Res.bind_ok e
  refine ⟨O, env, rel, rs, env2, e2, fun vs H1 rel1 st1 rr1 ap => ?_⟩
  by_cases no : noOwn rs = true
  · rw [if_pos no] at e
    cases e3 : asgRs (is.map .nm) rs env2 with
    | none => rw [e3] at e; cases e
    | some env3 =>
      rw [e3] at e
      cases e
      have len : ∀ {is : List Nat} {rs : List R} {env env' : Cells}, asgRs (is.map .nm) rs env = some env' → rs.length = is.length := by
        intro is
        induction is with
        | nil => intro rs env env' e; cases rs with | nil => rfl | cons => simp only [List.map_nil, asgRs] at e; cases e
        | cons i is ih =>
          intro rs env env' e
          cases rs with
          | nil => simp only [List.map_cons, asgRs] at e; cases e
          | cons r rs =>
            simp only [List.map_cons, asgRs] at e
            cases e1 : asgR (.nm i) r env with
            | none => rw [e1] at e; cases e
            | some env1 => rw [e1] at e; simp only at e; rw [List.length_cons, List.length_cons, ih e]
      obtain ⟨r3, s3⟩ := stores rel1 st1 ap (hs_of rel rr1) rr1 no e3
      exact ⟨rr1.length.trans (len e3), q _ _ r3 s3⟩
  · rw [if_neg no] at e
    cases e3 : frzs env2 rs with
    | none => rw [e3] at e; cases e
    | some p =>
      obtain ⟨ds, env3⟩ := p
      rw [e3] at e
      simp only at e
      cases e4 : asgDs (is.map .nm) ds env3 with
      | none => rw [e4] at e; cases e
      | some env4 =>
        rw [e4] at e
        cases e
        obtain ⟨rel3, st3, rp3⟩ := frzs_ok rel1 (hs_of rel rr1) ap rr1 e3
        obtain ⟨r4, s4⟩ := storesD rel3 rp3 e4
        refine ⟨rp3.length.trans ((asgDs_len e4).trans (List.length_map ..)), q _ _ r4 ((st1.trans st3).trans s4)⟩
theorem par2 {i j : Nat} {es : Cells → Res (List R)} (h : tS K (parF [.nm i, .nm j] es) D σ H) : tPar i j (tA K es) D σ H := by
  have h' := par_ok (is := [i, j]) h
  obtain ⟨O, env, rel, rs, env', e, q⟩ := h'
  refine ⟨O, env, rel, rs, env', e, fun vs H' a b c d => ?_⟩
  obtain ⟨hl, q⟩ := q vs H' a b c d
  match vs, hl, q with
  | [v, w], _, q => exact ⟨v, w, rfl, q⟩
theorem par3 {i j l : Nat} {es : Cells → Res (List R)} (h : tS K (parF [.nm i, .nm j, .nm l] es) D σ H) : tPar3 i j l (tA K es) D σ H := by
  have h' := par_ok (is := [i, j, l]) h
  obtain ⟨O, env, rel, rs, env', e, q⟩ := h'
  refine ⟨O, env, rel, rs, env', e, fun vs H' a b c d => ?_⟩
  obtain ⟨hl, q⟩ := q vs H' a b c d
  match vs, hl, q with
  | [u, v, w], _, q => exact ⟨u, v, w, rfl, q⟩

/-! ### writing into an owned object -/
theorem obAt_put {i j : Nat} {b b' : Ob} (h : obAt env i = some b) : obAt (putOb env i b') j = if i = j then some b' else obAt env j := by
  have hi : i < env.length := by
    rcases obAt_some h with e | e
    · exact (List.getElem?_eq_some_iff.mp e).1
    · exact (List.getElem?_eq_some_iff.mp e).1
  unfold putOb
  rcases obAt_some h with e | e
  · rw [e]
    exact obAt_set hi
  · rw [e]
    exact obAt_set hi
theorem put_get {i j : Nat} {b b' : Ob} {c : Cell} (h : obAt env i = some b) (e : (putOb env i b')[j]? = some c) :
    (i = j ∧ (c = .o b' ∨ c = .io b')) ∨ (i ≠ j ∧ env[j]? = some c) := by
  have hi : i < env.length := by
    rcases obAt_some h with e | e
    · exact (List.getElem?_eq_some_iff.mp e).1
    · exact (List.getElem?_eq_some_iff.mp e).1
  unfold putOb at e
  by_cases hj : i = j
  · subst hj
    refine .inl ⟨rfl, ?_⟩
    rcases obAt_some h with e1 | e1
    · rw [e1] at e
      simp only [List.getElem?_set_self hi] at e
      cases e; exact .inl rfl
    · rw [e1] at e
      simp only [List.getElem?_set_self hi] at e
      cases e; exact .inr rfl
  · refine .inr ⟨hj, ?_⟩
    rcases obAt_some h with e1 | e1
    · rw [e1] at e
      simp only [List.getElem?_set_ne hj] at e
      exact e
    · rw [e1] at e
      simp only [List.getElem?_set_ne hj] at e
      exact e
theorem put_io {i j : Nat} {b b' c : Ob} (h : obAt env i = some b) (e : env[j]? = some (.io c)) : ∃ c', (putOb env i b')[j]? = some (.io c') := by
  have hi : i < env.length := by
    rcases obAt_some h with e | e
    · exact (List.getElem?_eq_some_iff.mp e).1
    · exact (List.getElem?_eq_some_iff.mp e).1
  unfold putOb
  by_cases hj : i = j
  · subst hj
    rw [e]
    exact ⟨b', List.getElem?_set_self hi⟩
  · rcases obAt_some h with e1 | e1
    · rw [e1]; exact ⟨c, by rw [List.getElem?_set_ne hj]; exact e⟩
    · rw [e1]; exact ⟨c, by rw [List.getElem?_set_ne hj]; exact e⟩
theorem put_len {i : Nat} {b' : Ob} : (putOb env i b').length = env.length := by
  unfold putOb
  split <;> rw [List.length_set]
theorem ow_put {i : Nat} {b b' : Ob} {a : Addr} (h : obAt env i = some b) : Ow (putOb env i b') σ a ↔ Ow env σ a := by
  constructor
  · rintro ⟨j, c, e, e2⟩
    rw [obAt_put h] at e
    by_cases hj : i = j
    · subst hj; exact ⟨i, b, h, e2⟩
    · rw [if_neg hj] at e; exact ⟨j, c, e, e2⟩
  · rintro ⟨j, c, e, e2⟩
    by_cases hj : i = j
    · subst hj; exact ⟨i, b', by rw [obAt_put h, if_pos rfl], e2⟩
    · exact ⟨j, c, by rw [obAt_put h, if_neg hj]; exact e, e2⟩
/-- the object of slot i written anew -/
theorem write_ob (rel : Rel K O env σ H) {i : Nat} {b b' : Ob} {p : Addr} {o' : HO} (h : obAt env i = some b) (hp : σ[i]? = some (some (.ref p)))
    (hb : ObR K (Av O env σ H) (upd H p o') b' p) : Rel K O (putOb env i b') σ (upd H p o') ∧ Step env σ H (putOb env i b') σ (upd H p o') := by
  have own : Ow env σ p := ⟨i, b, h, hp⟩
  have av : ∀ a u, Av O env σ H a u → Av O (putOb env i b') σ (upd H p o') a u := fun a u ⟨k1, k2, k3⟩ => by
    have ne : a ≠ p := fun z => k1 (by subst z; exact own)
    refine ⟨fun o => k1 ((ow_put h).mp o), k2, ?_⟩
    rcases k3 with k3 | ⟨od, k3⟩
    · exact .inl ((upd_ne ne).trans k3)
    · exact .inr ⟨od, (upd_ne ne).trans k3⟩
  refine ⟨⟨put_len.trans rel.len, fun j c e => ?_, fun j k c c' q h1 h2 h3 h4 => ?_, fun a z => ?_⟩, fun a o e n => ?_, fun a _ n o => n ((ow_put h).mp o), fun a e => ?_, fun j c e => ⟨rfl, put_io h e⟩⟩
  · rcases put_get h e with ⟨rfl, z | z⟩ | ⟨hj, e1⟩
    · subst z; exact ⟨p, hp, hb.mono av rfl⟩
    · subst z; exact ⟨p, hp, hb.mono av rfl⟩
    · have z := rel.at_ j c e1
      cases c with
      | none => trivial
      | d x => obtain ⟨w, e2, r⟩ := z; exact ⟨w, e2, Rp.mono av _ _ r⟩
      | o c =>
        obtain ⟨w, e2, r⟩ := z
        have ne : w ≠ p := fun z => by subst z; exact hj (rel.inj i j b c w h (obAt_o e1) hp e2)
        exact ⟨w, e2, r.mono av (upd_ne ne)⟩
      | io c =>
        obtain ⟨w, e2, r⟩ := z
        have ne : w ≠ p := fun z => by subst z; exact hj (rel.inj i j b c w h (obAt_io e1) hp e2)
        exact ⟨w, e2, r.mono av (upd_ne ne)⟩
  · have g : ∀ j c, obAt (putOb env i b') j = some c → ∃ d, obAt env j = some d := fun j c e => by
      rw [obAt_put h] at e
      by_cases hj : i = j
      · subst hj; exact ⟨b, h⟩
      · rw [if_neg hj] at e; exact ⟨c, e⟩
    obtain ⟨d1, e1⟩ := g j c h1
    obtain ⟨d2, e2⟩ := g k c' h2
    exact rel.inj j k d1 d2 q e1 e2 h3 h4
  · obtain ⟨⟨o, ho, m⟩, n⟩ := rel.hid a z
    have ne : a ≠ p := fun z => by subst z; exact n own
    exact ⟨⟨o, (upd_ne ne).trans ho, m⟩, fun o => n ((ow_put h).mp o)⟩
  · have ne : a ≠ p := fun z => by subst z; exact n own
    exact (upd_ne ne).trans e
  · by_cases ha : a = p
    · subst ha; rw [upd_same]; simp
    · rw [upd_ne ha]; exact e
/-- x[j] = v: what is written -/
def rSetG (K : PySem.W.Frag) : TSet := fun o i v H Q => ∃ A p b dk d b', o = .ref p ∧ ObR K A H b p ∧ View K A H dk i ∧ Rp K A d v ∧ setD b dk d = some b' ∧
  ∀ o', ObR K A (upd H p o') b' p → Q (upd H p o')
def gSet (K : PySem.W.Frag) (i : Nat) (f : Cells → Res R) : TG := fun v σ H Q => ∃ O env r, Rel K (un O (nw r v)) env σ H ∧ (∀ a, nw r v a → ¬ O a) ∧ (∃ H0, RR K (un O (nw r v)) env σ H0 H r v) ∧
  ∃ d env2 k env3 dk b b', frz env r = some (d, env2) ∧ f env2 = .ok k env3 ∧ k.get env3 = some dk ∧ obAt env3 i = some b ∧ setD b dk d = some b' ∧ (∃ b0, obAt env2 i = some b0) ∧
  ∀ H', Rel K O (putOb env3 i b') σ H' → Step env σ H (putOb env3 i b') σ H' → Q σ H'
theorem gSet_sub {i : Nat} {f : Cells → Res R} {v : V} {Q : L2.St → Hp → Prop} (h : gSet K i f v σ H Q) : gSub (tVar i) (tE K f) (rSetG K) v σ H Q := by
  obtain ⟨O, env, r, rel, hs, ⟨H0, rr⟩, d, env2, k, env3, dk, b, b', g, e, e2, e3, e4, ⟨b0, e0⟩, q⟩ := h
  obtain ⟨rel2, st2, rp2⟩ := frz_ok rel hs rr g
  obtain ⟨p, hp, _⟩ := rel2.ob e0
  refine ⟨.ref p, hp, O, env2, rel2, k, env3, e, fun w H3 rel3 st3 rr3 => ?_⟩
  obtain ⟨p', hp', ob⟩ := rel3.ob e3
  rw [hp] at hp'
  cases hp'
  refine ⟨_, p, b, dk, d, b', rfl, ob, rr3.view rel3 e2, Rp.mono (st3.avN fun a z => rr3.fresh a z) _ _ rp2, e4, fun o' hb' => ?_⟩
  obtain ⟨r4, s4⟩ := write_ob rel3 e3 hp hb'
  exact q _ (r4.less fun a z => .inl z) ((st2.trans st3).trans s4)
theorem s_set {i : Nat} {j f : Cells → Res R} (h : tS K (fun env => (f env).bind fun r env1 => match frz env1 r with
      | none => .bad
      | some (v, env2) => if (obAt env2 i).isSome then (j env2).bind fun k env3 => match k.get env3, obAt env3 i with
        | some dk, some b => match setD b dk v with
          | some b' => .ok .next (putOb env3 i b')
          | none => .bad
        | _, _ => .bad
        else .bad) D σ H) : tAsg (tE K f) (gSet K i j) D σ H := by
  obtain ⟨O, env, rel, fl, env1, e, q⟩ := h
  obtain ⟨r, env2, e2, e⟩ := Res.bind_ok e
  refine ⟨O, env, rel, r, env2, e2, fun v H' r1 s1 rr => ?_⟩
  cases g : frz env2 r with
  | none => rw [g] at e; cases e
  | some p =>
    obtain ⟨d, env3⟩ := p
    rw [g] at e
    simp only at e
    split at e
    · rename_i hso
      obtain ⟨k, env4, e4, e⟩ := Res.bind_ok e
      cases g1 : k.get env4 with
      | none => rw [g1] at e; cases e
      | some dk =>
        cases g2 : obAt env4 i with
        | none => rw [g1, g2] at e; cases e
        | some b =>
          rw [g1, g2] at e
          simp only at e
          cases g3 : setD b dk d with
          | none => rw [g3] at e; cases e
          | some b' =>
            rw [g3] at e
            cases e
            exact ⟨O, env2, r, r1, hs1_of rel rr, ⟨H, rr⟩, d, env3, k, env4, dk, b, b', g, e4, g1, g2, g3, Option.isSome_iff_exists.mp hso, fun H4 r4 s4 => q _ _ r4 (s1.trans s4)⟩
    · cases e
end
end Fx

set_option Elab.async false
set_option linter.all false
set_option maxRecDepth 100000
/-! Fx10: rules for writing, methods, slices, chains, tests. -/
namespace Fx
open L2 PyProof.Rows PySem PySem.Spec

section
variable {X : Cx}
theorem rpd_put {K : PySem.W.Frag} {A : RdA} {d : D} {v : V} (k : DK) (hv : Rp K A d v) {kvs : List (DK × D)} {ys : List (Key × V)} (h : RpD K A kvs ys) :
    RpD K A (put kvs k d) (putK ys k.toKey v) := by
  have any : (ys.any fun kv => decide (kv.1 = k.toKey)) = kvs.any fun p => decide (p.1 = k) := by
    induction kvs generalizing ys with
    | nil => simp only [RpD] at h; subst h; rfl
    | cons p kvs ih =>
      obtain ⟨k', e⟩ := p
      simp only [RpD] at h
      obtain ⟨x, r, rfl, _, t⟩ := h
      rw [List.any_cons, List.any_cons, ih t]
      congr 1
      by_cases z : k' = k
      · subst z; simp
      · have z2 : ¬ k'.toKey = k.toKey := fun q => z (toKey_inj q)
        simp [z, z2]
  unfold put putK
  rw [any]
  by_cases z : (kvs.any fun p => decide (p.1 = k)) = true
  · rw [if_pos z, if_pos z]
    clear any z
    induction kvs generalizing ys with
    | nil => simp only [RpD] at h; subst h; simp [RpD]
    | cons p kvs ih =>
      obtain ⟨k', e⟩ := p
      simp only [RpD] at h
      obtain ⟨x, r, rfl, hx, t⟩ := h
      simp only [List.map_cons]
      by_cases z : k' = k
      · subst z
        simp only [if_pos]
        simp only [RpD]
        exact ⟨v, _, rfl, hv, ih t⟩
      · have z2 : ¬ k'.toKey = k.toKey := fun q => z (toKey_inj q)
        simp only [if_neg z, if_neg z2]
        simp only [RpD]
        exact ⟨x, _, rfl, hx, ih t⟩
  · rw [if_neg z, if_neg z]
    clear any z
    induction kvs generalizing ys with
    | nil => simp only [RpD] at h; subst h; simp only [List.nil_append, RpD]; exact ⟨v, _, rfl, hv, rfl⟩
    | cons p kvs ih =>
      obtain ⟨k', e⟩ := p
      simp only [RpD] at h
      obtain ⟨x, r, rfl, hx, t⟩ := h
      simp only [List.cons_append, RpD]
      exact ⟨x, _, rfl, hx, ih t⟩
theorem set_G (hu : X.A.units + 1 < cLine) : PSet X (rSetG X.K) := by
  intro pns s σ H o i v ov iv u Q I ro ri rv h
  obtain ⟨A, p, b, dk, d, b', rfl, ob, vi, vd, hf, q⟩ := h
  cases b with
  | lst ds =>
    obtain ⟨xs, hH, hr⟩ := ob
    cases dk <;> simp only [setD, reduceCtorEq] at hf
    rename_i k
    cases e : ixN ds.length k with
    | none => rw [e] at hf; cases hf
    | some j =>
      rw [e] at hf
      cases hf
      simp only [View] at vi
      subst vi
      exact set_list pns s σ H _ _ v ov iv u Q I ro ri rv ⟨p, xs, k, j, rfl, rfl, hH, by rw [hr.length]; exact e, q _ ⟨_, upd_same, hr.set vd j⟩⟩
  | dic kvs =>
    obtain ⟨ys, hH, hr⟩ := ob
    simp only [setD] at hf
    cases e : keyOf dk with
    | none => rw [e] at hf; cases hf
    | some k =>
      rw [e] at hf
      simp only [Option.bind] at hf
      split at hf
      · rename_i hl
        cases hf
        have ei := keyOf_v vi e
        subst ei
        refine set_dict hu pns s σ H _ _ v ov iv u Q I ro ri rv ⟨p, _, rfl, DPut.k hH ?_, q _ ⟨_, upd_same, rpd_put k vd hr⟩⟩
        rw [hr.length]
        exact Nat.lt_of_lt_of_le hl (by decide)
      · cases hf

/-! ### methods that write -/
def rMutG (K : PySem.W.Frag) (m : Mut1) : V → List V → Hp → VK → Prop := fun x vs H Q => ∃ A p b ds y b', x = .ref p ∧ ObR K A H b p ∧ (∀ a u, A a u → Rd H a u) ∧ RpL K A ds vs ∧
  mutD m b ds = some (y, b') ∧ ∀ v o', Rp K A y v → ObR K A (upd H p o') b' p → Q v (upd H p o')
theorem rpl1 {K : PySem.W.Frag} {A : RdA} {d : D} {vs : List V} (h : RpL K A [d] vs) : ∃ x, vs = [x] ∧ Rp K A d x := by
  simp only [RpL] at h
  obtain ⟨x, r, rfl, hd, rfl⟩ := h
  exact ⟨x, rfl, hd⟩
theorem rpl_last {K : PySem.W.Frag} {A : RdA} {ds : List D} {xs : List V} (h : RpL K A ds xs) : RpL K A ds.dropLast xs.dropLast := by
  rw [List.dropLast_eq_take, List.dropLast_eq_take, h.length]
  exact h.take _
theorem mg_append : MtR X "list.append" (rMutG X.K .append) := by
  intro pns s σ H x xs v us Q I rx rv h
  obtain ⟨A, p, b, ds, y, b', rfl, ob, _, rp, hf, q⟩ := h
  unfold mutD at hf
  split at hf <;> try contradiction
  rename_i ys d
  split at hf <;> cases hf
  rename_i hl
  obtain ⟨zs, hH, hr⟩ := ob
  obtain ⟨w, rfl, hw⟩ := rpl1 rp
  exact mt_append pns s σ H _ _ v us Q I rx rv ⟨p, zs, w, rfl, rfl, hH, by rw [hr.length]; exact Nat.lt_of_lt_of_le hl (by decide), q _ _ (by simp [Rp]) ⟨_, upd_same, hr.append (.cons hw .nil)⟩⟩
theorem extend_arg {ys : List D} {ds : List D} {r : D × Ob} (h : mutD .extend (.lst ys) ds = some r) : ∃ es, ds = [.lst es] ∨ ds = [.tup es] := by
  unfold mutD at h
  split at h <;> simp_all
theorem pop_arg {ys : List D} {ds : List D} {r : D × Ob} (h : mutD .pop (.lst ys) ds = some r) : ds = [] ∨ ∃ i, ds = [.int i] := by
  unfold mutD at h
  split at h <;> simp_all
/-- a list that takes a tuple's elements -/
theorem list_extend_tup (l : Addr) (items : Array Value) (n : Nat) (b : Addr) (items2 : Array Value) (n2 : Nat) (dd : Option Addr) (sl : Array (Option Value)) (hs0 : ¬(!items.isEmpty && Builtin.List.listTooLong (items.size + items2.size)) = true) (hs1 : items.size ≤ sizeLine) (hs2 : items.size + items2.size ≤ sizeLine + 1) :
    Meets (Builtin.«list.extend» ⟨[.ref l, .ref b], []⟩) (fun _ R s => s.heap.get? l = some { cls := .type "list", dict := none, data := .seq items n, slots := #[] } ∧ s.heap.get? b = some { cls := .type "tuple", dict := dd, data := .seq items2 n2, slots := sl } ∧ R (.ok (.ret Value.none)) { s with heap := s.heap.update l (Obj.mapSeq fun x => x ++ items2), toks := s.toks }) := by
  refine .of_wp fun prog w A R st three => ?_
  rcases st with ⟨heap, gens, drawn, toks, os⟩
  rcases three with ⟨at_l, at_b, post⟩
  have both : (items ++ items2).size ≤ sizeLine + 1 := Nat.le_trans (Nat.le_of_eq Array.size_append) hs2
  have sub1 := AutoSeq1.sub_tuple_tuple
  have sub2 := AutoSeq1.sub_tuple_list
  wp_walk using (wpAny_updateSeq at_l rfl (hz := hs1) (_hz' := both)), wpAny_loadPart' at_l, wpAny_loadPart' at_b
  exact ⟨_, rfl, post⟩
theorem mg_extend : MtR X "list.extend" (rMutG X.K .extend) := by
  intro pns s σ H x xs v us Q I rx rv h
  obtain ⟨A, p, b, ds, y, b', rfl, ob, hA, rp, hf, q⟩ := h
  cases b with
  | dic kvs => cases ds with
    | nil => cases hf
    | cons d ds => cases hf
  | lst ys =>
  obtain ⟨es, rfl | rfl⟩ := extend_arg hf
  · simp only [mutD] at hf
    split at hf <;> cases hf
    rename_i hl
    obtain ⟨zs, hH, hr⟩ := ob
    obtain ⟨w, rfl, hw⟩ := rpl1 rp
    simp only [Rp] at hw
    obtain ⟨c, ws, rfl, hc, hws⟩ := hw
    cases rx
    obtain ⟨u, rfl, ru⟩ := rv.one
    cases ru
    obtain ⟨z1, i1, n1, v1, l1, e1⟩ := rd_list I (.inl (.inl hH))
    obtain ⟨z2, i2, n2, v2, l2, e2⟩ := rd_list I (hc.heap hA)
    have bd : i1.length + i2.length ≤ sizeLine := by rw [← l1, ← l2, hr.length, hws.length]; exact lim_le hl
    have short : ¬ (!i1.toArray.isEmpty && Builtin.List.listTooLong (i1.toArray.size + i2.toArray.size)) = true := by
      rw [notLongL (by simpa using bd)]
      simp
    have m := AutoSeq1.list_extend_list_list_0 p i1.toArray n1 c i2.toArray n2 short (by rw [List.size_toArray]; omega) (by rw [List.size_toArray, List.size_toArray]; omega)
    refine call_meets F.slot_list_extend ⟨_, e1, rfl⟩ F.entry_list_extend
      (F.args_list_extend_2 _ _) m ⟨e1, e2, .non, _, I.lset (its' := i1 ++ i2) hH e1 (by simp) (v1.append v2) (by rw [List.length_append, l1, l2]; exact bd), rfl, ?_⟩
    exact q _ _ (by simp [Rp]) ⟨_, upd_same, hr.append hws⟩
  · simp only [mutD] at hf
    split at hf <;> cases hf
    rename_i hl
    obtain ⟨zs, hH, hr⟩ := ob
    obtain ⟨w, rfl, hw⟩ := rpl1 rp
    simp only [Rp] at hw
    obtain ⟨c, ws, rfl, hc, hws⟩ := hw
    cases rx
    obtain ⟨u, rfl, ru⟩ := rv.one
    cases ru
    obtain ⟨z1, i1, n1, v1, l1, e1⟩ := rd_list I (.inl (.inl hH))
    obtain ⟨i2, v2, ⟨⟨cls, dd, data, sl⟩, e2, hcl, n2, hd⟩, _⟩ := I.tuple (hc.seq hA)
    simp only at hcl hd
    subst hcl hd
    have l2 := v2.length
    have bd : i1.length + i2.length ≤ sizeLine := by rw [← l1, ← l2, hr.length, hws.length]; exact lim_le hl
    have short : ¬ (!i1.toArray.isEmpty && Builtin.List.listTooLong (i1.toArray.size + i2.toArray.size)) = true := by
      rw [notLongL (by simpa using bd)]
      simp
    have m := list_extend_tup p i1.toArray n1 c i2.toArray n2 dd sl short (by rw [List.size_toArray]; omega) (by rw [List.size_toArray, List.size_toArray]; omega)
    refine call_meets F.slot_list_extend ⟨_, e1, rfl⟩ F.entry_list_extend
      (F.args_list_extend_2 _ _) m ⟨e1, e2, .non, _, I.lset (its' := i1 ++ i2) hH e1 (by simp) (v1.append v2) (by rw [List.length_append, l1, l2]; exact bd), rfl, ?_⟩
    exact q _ _ (by simp [Rp]) ⟨_, upd_same, hr.append hws⟩
theorem mg_pop : MtR X "list.pop" (rMutG X.K .pop) := by
  intro pns s σ H x xs v us Q I rx rv h
  obtain ⟨A, p, b, ds, y, b', rfl, ob, hA, rp, hf, q⟩ := h
  cases b with
  | dic kvs => cases ds with
    | nil => cases hf
    | cons d ds => cases hf
  | lst ys =>
  rcases pop_arg hf with rfl | ⟨i, rfl⟩
  · simp only [mutD] at hf
    obtain ⟨zs, hH, hr⟩ := ob
    simp only [RpL] at rp
    subst rp
    cases e : ys[ys.length - 1]? with
    | none => rw [e] at hf; cases hf
    | some w =>
      rw [e] at hf
      cases hf
      obtain ⟨w', e', hw⟩ := hr.get e
      exact mt_pop pns s σ H _ _ v us Q I rx rv ⟨p, zs, w', rfl, rfl, hH, by rw [hr.length]; exact e', q _ _ hw ⟨_, upd_same, rpl_last hr⟩⟩
  · simp only [mutD] at hf
    obtain ⟨zs, hH, hr⟩ := ob
    obtain ⟨w, rfl, hw⟩ := rpl1 rp
    simp only [Rp] at hw
    subst hw
    cases e : ixN ys.length i with
    | none => rw [e] at hf; cases hf
    | some k =>
      rw [e] at hf
      simp only [Option.bind] at hf
      cases e2 : ys[k]? with
      | none => rw [e2] at hf; cases hf
      | some w =>
        rw [e2] at hf
        cases hf
        obtain ⟨w', e', hw⟩ := hr.get e2
        obtain ⟨sq, hk, lo, hi⟩ := ixN_seq e
        obtain ⟨z1, _⟩ := rd_list I (.inl (.inl hH))
        rw [hr.length] at z1
        have line : sizeLine ≤ 2 ^ 62 := by decide
        exact mt_popAt pns s σ H _ _ v us Q I rx rv ⟨p, zs, i, k, w', rfl, rfl, hH, by omega, by omega, by rw [hr.length]; exact sq, e', q _ _ hw ⟨_, upd_same, hr.eraseIdx k⟩⟩
theorem mg_clear : MtR X "list.clear" (rMutG X.K .clear) := by
  intro pns s σ H x xs v us Q I rx rv h
  obtain ⟨A, p, b, ds, y, b', rfl, ob, hA, rp, hf, q⟩ := h
  unfold mutD at hf
  split at hf <;> try contradiction
  rename_i ys
  cases hf
  obtain ⟨zs, hH, hr⟩ := ob
  simp only [RpL] at rp
  subst rp
  exact mt_clear pns s σ H _ _ v us Q I rx rv ⟨p, zs, rfl, rfl, hH, q _ _ (by simp [Rp]) ⟨_, upd_same, .nil⟩⟩
end

/-! ### readings -/
section
variable {K : PySem.W.Frag} {σ : L2.St} {H : Hp}
theorem tE_mut {m : Mut1} {i : Nat} {es : Cells → Res (List R)} {Q : VK} (h : tE K (doMut m i es) σ H Q) : tBM K "list" (rMutG K m) (tVar i) (tA K es) σ H Q := by
  obtain ⟨O, env, rel, r, env', e, q⟩ := h
  unfold doMut at e
  split at e
  · rename_i hl
    unfold isL at hl
    split at hl
    · rename_i ds hi
      obtain ⟨p, hp, xs, hx, _⟩ := rel.ob hi
      obtain ⟨rs, env1, e1, e⟩ := Res.bind_ok e
      refine ⟨.ref p, hp, .inl ⟨rfl, xs, .inl (.inl hx)⟩, O, env, rel, rs, env1, e1, fun vs H1 rel1 st1 rr1 ap => ?_⟩
      cases g : frzs env1 rs with
      | none => rw [g] at e; cases e
      | some pr =>
        obtain ⟨ds2, env2⟩ := pr
        rw [g] at e
        simp only at e
        obtain ⟨rel2, st2, rp2⟩ := frzs_ok rel1 (hs_of rel rr1) ap rr1 g
        cases g2 : obAt env2 i with
        | none => rw [g2] at e; cases e
        | some b =>
          rw [g2] at e
          simp only at e
          cases g3 : mutD m b ds2 with
          | none => rw [g3] at e; cases e
          | some pr2 =>
            obtain ⟨y, b'⟩ := pr2
            rw [g3] at e
            cases e
            obtain ⟨p', hp', ob⟩ := rel2.ob g2
            rw [hp] at hp'
            cases hp'
            refine ⟨_, p, b, ds2, y, b', rfl, ob, fun _ _ => av_rd, rp2, g3, fun v o' hv hb => ?_⟩
            obtain ⟨r3, s3⟩ := write_ob rel2 g2 hp hb
            exact q _ _ r3.plus ((st1.trans st2).trans s3) (rr_d (s3.rp hv))
    · cases hl
  · cases e
theorem tE_mut0 {m : Mut1} {i : Nat} {Q : VK} (h : tE K (doMut m i (fun env => .ok [] env)) σ H Q) : tBM0 K "list" (rMutG K m) (tVar i) σ H Q := by
  obtain ⟨x, hx, ty, h⟩ := tE_mut h
  exact ⟨x, hx, ty, tA_nil h⟩
/-- a slice -/
theorem tO_none {Q : Option Int → Hp → Prop} (h : tO K (fun env => .ok none env) σ H Q) : tNoPart σ H Q := by
  obtain ⟨O, env, rel, o, env', e, q⟩ := h
  cases e
  exact q H rel Step.refl
theorem tO_some {f : Cells → Res R} {Q : Option Int → Hp → Prop} (h : tO K (doInt f) σ H Q) : tPart (tE K f) σ H Q := by
  obtain ⟨O, env, rel, o, env', e, q⟩ := h
  obtain ⟨r, env1, e1, e⟩ := Res.bind_ok e
  refine ⟨O, env, rel, r, env1, e1, fun v H1 rel1 st1 rr1 => ?_⟩
  cases g : r.get env1 with
  | none => rw [g] at e; cases e
  | some d =>
    rw [g] at e
    cases d with
    | int i =>
      cases e
      have vw := rr1.view rel1 g
      simp only [View] at vw
      exact ⟨i, vw, q H1 (rel1.less fun a z => .inl z) st1⟩
    | _ => cases e
theorem tE_sl {a : Cells → Res R} {lo hi : Cells → Res (Option Int)} {Q : VK} (h : tE K (doSl a lo hi) σ H Q) : tSl (rSlG K) (tE K a) (tO K lo) (tO K hi) σ H Q := by
  obtain ⟨O, env, rel, r, env', e, q⟩ := h
  obtain ⟨x, env1, e1, e⟩ := Res.bind_ok e
  obtain ⟨l, env2, e2, e⟩ := Res.bind_ok e
  obtain ⟨u, env3, e3, e⟩ := Res.bind_ok e
  refine ⟨O, env, rel, x, env1, e1, fun v H1 rel1 st1 rr1 => ⟨_, env1, rel1, l, env2, e2, fun H2 rel2 st2 => ⟨_, env2, rel2, u, env3, e3, fun H3 rel3 st3 => ?_⟩⟩⟩
  have rr3 := (rr1.step (N := fun _ => False) rel1 (st2.trans st3) (fun a z => z.elim) fun a z => .inr z).less (O' := un O (nw x v)) fun a z => .inl z
  cases g1 : x.get env3 with
  | none => rw [g1] at e; cases e
  | some dx =>
    rw [g1] at e
    obtain ⟨e4, e5⟩ := ofO_ok e
    subst e5
    obtain ⟨ro, e6, rfl⟩ := map_toR e4
    refine ⟨Av _ _ σ H3, dx, ro, av_good rel3, rr3.view rel3 g1, e6, fun w H4 g ror => ?_⟩
    obtain ⟨rel4, rr4⟩ := ror_rr (O := O) rel3 (fun a z => .inl z) g ror
    exact q w H4 rel4 (((st1.trans st2).trans st3).trans (Step.grow g)) (rr4.back fun p => ((st1.trans st2).trans st3).back)
/-- a value that is a truth -/
theorem tT_bl {f : Cells → Res R} {Q : Bool → Hp → Prop} (hb : ∀ env r env', f env = .ok r env' → ∃ b, r = .d (.bl b)) (h : tT K (E2.of f).t σ H Q) :
    tE K f σ H fun x H' => ∃ k, x = .bl k ∧ Q k H' := by
  obtain ⟨O, env, rel, r, env', e, q⟩ := h
  obtain ⟨x, env1, e1, e⟩ := Res.bind_ok e
  obtain ⟨b, rfl⟩ := hb _ _ _ e1
  refine ⟨O, env, rel, _, env1, e1, fun v H1 rel1 st1 rr1 => ?_⟩
  cases e
  have hv : v = .bl r := by simpa [RR, Rp] using rr1
  exact ⟨r, hv, q H1 (rel1.less fun a z => .inl z) st1⟩
theorem cmp_toR {op : Cop} : (fun x y : D => (cmpD op x y).map fun b => R.d (.bl b)) = fun x y => (cmpRO op x y).map RO.toR := by
  funext x y
  unfold cmpRO
  cases cmpD op x y <;> rfl
theorem cmp_bl {op : Cop} {a b : Cells → Res R} (env : Cells) (r : R) (env' : Cells) (h : do2 (fun x y => (cmpD op x y).map fun b => .d (.bl b)) a b env = .ok r env') : ∃ b, r = .d (.bl b) := by
  obtain ⟨x, env1, e1, e⟩ := Res.bind_ok h
  obtain ⟨y, env2, e2, e⟩ := Res.bind_ok e
  cases g1 : x.get env2 with
  | none => rw [g1] at e; cases e
  | some dx =>
    cases g2 : y.get env2 with
    | none => rw [g1, g2] at e; cases e
    | some dy =>
      rw [g1, g2] at e
      obtain ⟨e3, _⟩ := ofO_ok e
      simp only at e3
      cases g3 : cmpD op dx dy with
      | none => rw [g3] at e3; cases e3
      | some c => rw [g3] at e3; cases e3; exact ⟨c, rfl⟩
theorem tE_cmp {op : Cop} {a b : Cells → Res R} {Q : VK} (h : tE K (do2 (fun x y => (cmpD op x y).map fun b => .d (.bl b)) a b) σ H Q) : tOp (r2 K (cmpRO op)) (tE K a) (tE K b) σ H Q := by
  rw [cmp_toR] at h
  exact tE_do2 h
theorem tT_cmp {op : Cop} {a b : Cells → Res R} {Q : Bool → Hp → Prop} (h : tT K (E2.of (do2 (fun x y => (cmpD op x y).map fun b => .d (.bl b)) a b)).t σ H Q) :
    tTest (tOp (r2 K (cmpRO op)) (tE K a) (tE K b)) σ H Q := tE_cmp (tT_bl cmp_bl h)
theorem chain_bl {op op' : Cop} {a b c : Cells → Res R} (env : Cells) (r : R) (env' : Cells) (h : doChain op op' a b c env = .ok r env') : ∃ b, r = .d (.bl b) := by
  obtain ⟨x, env1, e1, e⟩ := Res.bind_ok h
  obtain ⟨y, env2, e2, e⟩ := Res.bind_ok e
  cases g1 : x.get env2 with
  | none => rw [g1] at e; cases e
  | some dx =>
    cases g2 : y.get env2 with
    | none => rw [g1, g2] at e; cases e
    | some dy =>
      rw [g1, g2] at e
      simp only at e
      cases g3 : cmpD op dx dy with
      | none => rw [g3] at e; cases e
      | some k =>
        rw [g3] at e
        cases k with
        | false => cases e; exact ⟨_, rfl⟩
        | true =>
          obtain ⟨z, env3, e3, e⟩ := Res.bind_ok e
          cases g4 : y.get env3 with
          | none => rw [g4] at e; cases e
          | some dy' =>
            cases g5 : z.get env3 with
            | none => rw [g4, g5] at e; cases e
            | some dz =>
              rw [g4, g5] at e
              obtain ⟨e3, _⟩ := ofO_ok e
              cases g6 : cmpD op' dy' dz with
              | none => rw [g6] at e3; cases e3
              | some c => rw [g6] at e3; cases e3; exact ⟨c, rfl⟩
theorem tE_chain {op op' : Cop} {a b c : Cells → Res R} {Q : VK} (h : tE K (doChain op op' a b c) σ H Q) :
    tChain (r2 K (cmpRO op)) (r2 K (cmpRO op')) (tE K a) (tE K b) (tE K c) σ H Q := by
  obtain ⟨O, env, rel, r, env', e, q⟩ := h
  obtain ⟨x, env1, e1, e⟩ := Res.bind_ok e
  obtain ⟨y, env2, e2, e⟩ := Res.bind_ok e
  refine ⟨O, env, rel, x, env1, e1, fun v H1 rel1 st1 rr1 => ⟨_, env1, rel1, y, env2, e2, fun u H2 rel2 st2 rr2 => ?_⟩⟩
  cases g1 : x.get env2 with
  | none => rw [g1] at e; cases e
  | some dx =>
    cases g2 : y.get env2 with
    | none => rw [g1, g2] at e; cases e
    | some dy =>
      rw [g1, g2] at e
      simp only at e
      cases g3 : cmpD op dx dy with
      | none => rw [g3] at e; cases e
      | some k =>
        rw [g3] at e
        refine ⟨Av _ _ σ H2, dx, dy, .d (.bl k), av_good rel2, (rr1.step rel1 st2 rr2.fresh fun a z => .inr z).view rel2 g1, rr2.view rel2 g2, by unfold cmpRO; rw [g3]; rfl, fun w H3 g ror => ?_⟩
        have hw : w = .bl k := by simpa [ROR, Rp] using ror
        refine ⟨k, hw, ?_⟩
        have rel3 := rel2.grow g
        have st3 := (st1.trans st2).trans (Step.grow (env := env2) (σ := σ) g)
        cases k with
        | false =>
          rw [if_neg (by decide)]
          cases e
          exact q _ H3 ((rel3.less fun a z => .inl (.inl z)).plus) st3 (by simp [RR, Rp])
        | true =>
          rw [if_pos rfl]
          obtain ⟨z, env3, e3, e⟩ := Res.bind_ok e
          refine ⟨_, env2, rel3, z, env3, e3, fun w' H4 rel4 st4 rr4 => ?_⟩
          cases g4 : y.get env3 with
          | none => rw [g4] at e; cases e
          | some dy' =>
            cases g5 : z.get env3 with
            | none => rw [g4, g5] at e; cases e
            | some dz =>
              rw [g4, g5] at e
              obtain ⟨e5, e6⟩ := ofO_ok e
              subst e6
              cases g6 : cmpD op' dy' dz with
              | none => rw [g6] at e5; cases e5
              | some c =>
                rw [g6] at e5
                cases e5
                have rr2' := (rr2.step (N := fun _ => False) rel2 (Step.grow g) (fun a z => z.elim) fun a z => .inr z).less (O' := un (un O (nw x v)) (nw y u)) fun a z => .inl z
                refine ⟨Av _ _ σ H4, dy', dz, .d (.bl c), av_good rel4, (rr2'.step rel3 st4 rr4.fresh fun a z => .inr z).view rel4 g4, rr4.view rel4 g5, by unfold cmpRO; rw [g6]; rfl, fun w2 H5 g' ror' => ?_⟩
                have hw2 : w2 = .bl c := by simpa [ROR, Rp] using ror'
                subst hw2
                exact q _ H5 (((rel4.grow g').less fun a z => .inl (.inl (.inl z))).plus) ((st3.trans st4).trans (Step.grow g')) (by simp [RR, Rp])
theorem tT_chain {op op' : Cop} {a b c : Cells → Res R} {Q : Bool → Hp → Prop} (h : tT K (E2.of (doChain op op' a b c)).t σ H Q) :
    tTest (tChain (r2 K (cmpRO op)) (r2 K (cmpRO op')) (tE K a) (tE K b) (tE K c)) σ H Q := tE_chain (tT_bl chain_bl h)
/-- x += e -/
def ipG (op : Bop) : TIp := fun x y H Q => ∃ i j k, x = .int i ∧ y = .int j ∧ augD op i j = some k ∧ Q (.int k) H
theorem ip_addG {X : Cx} : PIp X .Add (ipG .add) := by
  intro pns s σ H x y v u Q I rx ry ⟨i, j, k, e1, e2, e3, q⟩
  cases e3
  exact iop_add pns s σ H x y v u Q I rx ry ⟨i, j, e1, e2, q⟩
theorem ip_subG {X : Cx} : PIp X .Sub (ipG .sub) := by
  intro pns s σ H x y v u Q I rx ry ⟨i, j, k, e1, e2, e3, q⟩
  cases e3
  exact iop_sub pns s σ H x y v u Q I rx ry ⟨i, j, e1, e2, q⟩
theorem s_aug {i : Nat} {op : Bop} {f : Cells → Res R} {D : Ends} (h : tS K (doAug i op f) D σ H) : tAug i (tE K f) (ipG op) D σ H := by
  obtain ⟨O, env, rel, fl, env', e, q⟩ := h
  unfold doAug at e
  cases e0 : env[i]? with
  | none => rw [e0] at e; cases e
  | some c =>
    rw [e0] at e
    cases c with
    | none => cases e
    | o b => cases e
    | io b => cases e
    | d x =>
      cases x with
      | int x =>
        simp only at e
        obtain ⟨r, env1, e1, e⟩ := Res.bind_ok e
        obtain ⟨v, hv, rp⟩ := rel.at_ i _ e0
        refine ⟨v, hv, O, env, rel, r, env1, e1, fun w H1 rel1 st1 rr1 => ?_⟩
        have hx : v = .int x := by simpa [Rp] using rp
        have rel1' := rel1.less (O' := O) fun a z => .inl z
        cases g : r.get env1 with
        | none => rw [g] at e; cases e
        | some d =>
          rw [g] at e
          cases d with
          | int y =>
            have vw := rr1.view rel1 g
            simp only [View] at vw
            simp only at e
            cases g2 : augD op x y with
            | none => rw [g2] at e; cases e
            | some z =>
              rw [g2] at e
              simp only at e
              cases g3 : asgD (.nm i) (.int z) env1 with
              | none => rw [g3] at e; cases e
              | some env2 =>
                rw [g3] at e
                cases e
                refine ⟨x, y, z, hx, vw, g2, ?_⟩
                have := gD_nm (K := K) (i := i) (v := .int z) (σ := σ) (H := H1) (Q := D.nx) ⟨O, env1, .int z, env', rel1', by simp [Rp], g3, fun σ' H' r' s' _ => q σ' H' r' (st1.trans s')⟩
                exact this
          | _ => cases e
      | _ => cases e
end
end Fx

set_option Elab.async false
set_option linter.all false
set_option maxRecDepth 100000
/-! Fx11: calls of defs: what a def promises, the caller's side. -/
namespace Fx
open L2 PyProof.Rows PySem PySem.Spec

section
variable {K : PySem.W.Frag} {O : Addr → Prop} {env env0 env1 env2 env' : Cells} {σ σ0 σ1 σ2 σ' : L2.St} {H H0 H1 H2 H' : Hp}
/-- the objects handed on, as they are handed back -/
def putIos : List Arg → List Ob → List Arg
  | .d x :: as, bs => .d x :: putIos as bs
  | .io _ :: as, b :: bs => .io b :: putIos as bs
  | _, _ => []
/-- what a def promises -/
def spF (K : PySem.W.Frag) (fe : FE) : Sp := fun vs H Q _ => vs.length = fe.modes.length ∧ ∃ O as, Rel K O (as.map argCell) (vs.map some) H ∧ ∃ ro ios, fe.sem as = .ok ro ios ∧
  ∀ v H', Rel K (un O (nw ro.toR v)) ((putIos as ios).map argCell) (vs.map some) H' → Step (as.map argCell) (vs.map some) H ((putIos as ios).map argCell) (vs.map some) H' →
    RR K (un O (nw ro.toR v)) ((putIos as ios).map argCell) (vs.map some) H H' ro.toR v → Q v H'
/-- how the arguments lie -/
def PR (K : PySem.W.Frag) (A : RdA) (σ : L2.St) : List PArg → List V → Prop
  | [], vs => vs = []
  | .d x :: ps, vs => ∃ v r, vs = v :: r ∧ Rp K A x v ∧ PR K A σ ps r
  | .io i :: ps, vs => ∃ v r, vs = v :: r ∧ σ[i]? = some (some v) ∧ PR K A σ ps r
theorem PR.mono {A A' : RdA} (h : ∀ a u, A a u → A' a u) : ∀ {ps : List PArg} {vs : List V}, PR K A σ ps vs → PR K A' σ ps vs
  | [], _, q => q
  | .d x :: ps, _, ⟨v, r, e, hx, t⟩ => ⟨v, r, e, Rp.mono h _ _ hx, PR.mono h t⟩
  | .io i :: ps, _, ⟨v, r, e, hx, t⟩ => ⟨v, r, e, hx, PR.mono h t⟩
theorem preArgs_ok : ∀ {ms : List Bool} {rs : List R} {vs : List V} {ps : List PArg} {env env1 : Cells}, Rel K (un O (nws rs vs)) env σ H → (∀ a, nws rs vs a → ¬ O a) → Apart rs vs →
    RRs K (un O (nws rs vs)) env σ H0 H rs vs → preArgs env ms rs = some (ps, env1) → Rel K O env1 σ H ∧ Step env σ H env1 σ H ∧ PR K (Av O env1 σ H) σ ps vs
  | [], [], vs, ps, env, env1, rel, hs, ap, h, g => by
    simp only [preArgs] at g
    cases g
    rw [un_nil] at rel
    exact ⟨rel, Step.refl, h⟩
  | [], _ :: _, vs, ps, env, env1, rel, hs, ap, h, g => by simp [preArgs] at g
  | true :: ms, [], vs, ps, env, env1, rel, hs, ap, h, g => by simp [preArgs] at g
  | false :: ms, [], vs, ps, env, env1, rel, hs, ap, h, g => by simp [preArgs] at g
  | true :: ms, r :: rs, _, ps, env, env1, rel, hs, ap, ⟨x, xs, e, h, t⟩, g => by
    subst e
    cases r with
    | d y => simp [preArgs] at g
    | new y => simp [preArgs] at g
    | own i =>
      simp only [preArgs] at g
      cases e2 : preArgs env ms rs with
      | none => rw [e2] at g; cases g
      | some p2 =>
        obtain ⟨ps', env''⟩ := p2
        rw [e2] at g
        cases g
        have le : ∀ a, un O (nws rs xs) a → un O (nws (.own i :: rs) (x :: xs)) a := fun a z => z.elim .inl fun z => .inr (.inr z)
        obtain ⟨rel2, st2, pr⟩ := preArgs_ok (rel.less le) (fun a z => hs a (.inr z)) ap.2 (t.less le) e2
        exact ⟨rel2, st2, x, xs, rfl, h, pr⟩
  | false :: ms, r :: rs, _, ps, env, env1, rel, hs, ap, ⟨x, xs, e, h, t⟩, g => by
    subst e
    simp only [preArgs] at g
    cases e1 : frz env r with
    | none => rw [e1] at g; cases g
    | some p =>
      obtain ⟨d, env'⟩ := p
      rw [e1] at g
      simp only at g
      cases e2 : preArgs env' ms rs with
      | none => rw [e2] at g; cases g
      | some p2 =>
        obtain ⟨ps', env''⟩ := p2
        rw [e2] at g
        cases g
        have hs1 : ∀ a, nw r x a → ¬ un O (nws rs xs) a := fun a z n => Or.elim n (hs a (.inl z)) (ap.1 a z)
        have rel' := rel
        rw [un_cons] at rel' h
        obtain ⟨rel1, st1, rp1⟩ := frz_ok rel' hs1 h e1
        have t1 := (RRs.step (N := fun _ => False) rel st1 (fun a z => z.elim) (fun a z => .inr (.inr z)) t).less (O' := un O (nws rs xs))
          fun a z => .inl (z.elim .inl fun z => .inr (.inr z))
        obtain ⟨rel2, st2, pr⟩ := preArgs_ok rel1 (fun a z => hs a (.inr z)) ap.2 t1 e2
        refine ⟨rel2, st1.trans st2, x, xs, rfl, Rp.mono (fun a u k => ?_) _ _ rp1, pr⟩
        exact st2.av a u (av_anti (fun a z => .inl z) a u k)
/-- the addresses handed on -/
def IoAt (σ : L2.St) (is : List Nat) (a : Addr) : Prop := ∃ i ∈ is, σ[i]? = some (some (.ref a))
theorem argAt {ps : List PArg} {as : List Arg} {vs : List V} {A : RdA} : ∀ {k : Nat} {c : Cell}, toArgs env ps = some as → PR K A σ ps vs → (as.map argCell)[k]? = some c →
    (∃ x v, c = .d x ∧ vs[k]? = some v ∧ Rp K A x v ∧ ∃ y, ps[k]? = some (.d y)) ∨ ∃ i b v, c = .io b ∧ vs[k]? = some v ∧ ps[k]? = some (.io i) ∧ obAt env i = some b ∧ σ[i]? = some (some v) := by
  induction ps generalizing as vs with
  | nil => intro k c e pr h; simp only [toArgs] at e; cases e; simp at h
  | cons p ps ih =>
    intro k c e pr h
    cases p with
    | d x =>
      simp only [toArgs] at e
      obtain ⟨v, r, rfl, hx, t⟩ := pr
      cases e1 : toArgs env ps with
      | none => rw [e1] at e; cases e
      | some as' =>
        rw [e1] at e
        cases e
        cases k with
        | zero => simp [argCell] at h; subst h; exact .inl ⟨x, v, rfl, by simp, hx, x, by simp⟩
        | succ k => simpa using ih (k := k) e1 t (by simpa using h)
    | io i =>
      simp only [toArgs] at e
      obtain ⟨v, r, rfl, hx, t⟩ := pr
      cases e0 : obAt env i with
      | none => rw [e0] at e; cases e
      | some b =>
        cases e1 : toArgs env ps with
        | none => rw [e0, e1] at e; cases e
        | some as' =>
          rw [e0, e1] at e
          cases e
          cases k with
          | zero => simp [argCell] at h; subst h; exact .inr ⟨i, b, v, rfl, by simp, by simp, e0, hx⟩
          | succ k => simpa using ih (k := k) e1 t (by simpa using h)
theorem toArgs_len : ∀ {ps : List PArg} {as : List Arg}, toArgs env ps = some as → as.length = ps.length
  | [], as, e => by simp only [toArgs] at e; cases e; rfl
  | .d x :: ps, as, e => by
    simp only [toArgs] at e
    cases e1 : toArgs env ps with
    | none => rw [e1] at e; cases e
    | some as' => rw [e1] at e; cases e; simp [toArgs_len e1]
  | .io i :: ps, as, e => by
    simp only [toArgs] at e
    cases e0 : obAt env i with
    | none => rw [e0] at e; cases e
    | some b =>
      cases e1 : toArgs env ps with
      | none => rw [e0, e1] at e; cases e
      | some as' => rw [e0, e1] at e; cases e; simp [toArgs_len e1]
theorem PR.length {A : RdA} : ∀ {ps : List PArg} {vs : List V}, PR K A σ ps vs → vs.length = ps.length
  | [], _, h => by cases h; rfl
  | .d x :: ps, _, ⟨v, r, e, _, t⟩ => by subst e; simp [PR.length t]
  | .io x :: ps, _, ⟨v, r, e, _, t⟩ => by subst e; simp [PR.length t]
theorem ioIdx_mem {i : Nat} : ∀ {ps : List PArg} {k : Nat}, ps[k]? = some (.io i) → i ∈ ioIdx ps
  | [], k, e => by simp at e
  | .d x :: ps, 0, e => by simp at e
  | .d x :: ps, k + 1, e => ioIdx_mem (ps := ps) (k := k) (by simpa using e)
  | .io j :: ps, 0, e => by simp at e; subst e; exact List.mem_cons_self
  | .io j :: ps, k + 1, e => List.mem_cons_of_mem _ (ioIdx_mem (ps := ps) (k := k) (by simpa using e))
theorem ioIdx_at {i : Nat} : ∀ {ps : List PArg}, i ∈ ioIdx ps → ∃ k : Nat, ps[k]? = some (PArg.io i)
  | [], e => by cases e
  | .d x :: ps, e => let ⟨k, h⟩ := ioIdx_at (ps := ps) e; ⟨k + 1, by simpa using h⟩
  | .io j :: ps, e => by
    rcases List.mem_cons.mp e with rfl | e
    · exact ⟨0, by simp⟩
    · obtain ⟨k, h⟩ := ioIdx_at (ps := ps) e; exact ⟨k + 1, by simpa using h⟩
theorem ioIdx_inj {i : Nat} : ∀ {ps : List PArg} {k l : Nat}, (ioIdx ps).Nodup → ps[k]? = some (.io i) → ps[l]? = some (.io i) → k = l
  | [], k, l, n, e, _ => by simp at e
  | .d x :: ps, 0, l, n, e, _ => by simp at e
  | .d x :: ps, k + 1, 0, n, _, e => by simp at e
  | .d x :: ps, k + 1, l + 1, n, e, e' => by exact congrArg Nat.succ (ioIdx_inj (i := i) (ps := ps) (k := k) (l := l) n (by simpa using e) (by simpa using e'))
  | .io j :: ps, 0, 0, n, e, e' => rfl
  | .io j :: ps, 0, l + 1, n, e, e' => by
    simp at e
    subst e
    exact ((List.nodup_cons.mp n).1 (ioIdx_mem (ps := ps) (k := l) (by simpa using e'))).elim
  | .io j :: ps, k + 1, 0, n, e', e => by simp at e; subst e; exact ((List.nodup_cons.mp n).1 (ioIdx_mem (ps := ps) (k := k) (by simpa using e'))).elim
  | .io j :: ps, k + 1, l + 1, n, e, e' => by exact congrArg Nat.succ (ioIdx_inj (i := i) (ps := ps) (k := k) (l := l) (List.nodup_cons.mp n).2 (by simpa using e) (by simpa using e'))
/-- hidden from the callee: what is hidden, what the caller owns and does not hand on -/
def Oc (O : Addr → Prop) (env : Cells) (σ : L2.St) (is : List Nat) : Addr → Prop := fun a => O a ∨ (Ow env σ a ∧ ¬ IoAt σ is a)
theorem owArg {ps : List PArg} {as : List Arg} {vs : List V} {A : RdA} (e : toArgs env ps = some as) (pr : PR K A σ ps vs) {a : Addr} : Ow (as.map argCell) (vs.map some) a → Ow env σ a ∧ IoAt σ (ioIdx ps) a := by
  rintro ⟨k, b, h1, h2⟩
  rcases obAt_some h1 with h | h
  · rcases argAt e pr h with ⟨x, v, z, _⟩ | ⟨i, b', v, z, _⟩ <;> cases z
  · rcases argAt e pr h with ⟨x, v, z, _⟩ | ⟨i, b', v, z, hv, hp, hb, hs⟩
    · cases z
    · rw [List.getElem?_map, hv] at h2
      cases h2
      exact ⟨⟨i, b', hb, hs⟩, i, ioIdx_mem hp, hs⟩
theorem callee_rel {ps : List PArg} {as : List Arg} {vs : List V} (rel : Rel K O env σ H) (pr : PR K (Av O env σ H) σ ps vs) (nd : (ioIdx ps).Nodup) (e : toArgs env ps = some as) :
    Rel K (Oc O env σ (ioIdx ps)) (as.map argCell) (vs.map some) H := by
  have av : ∀ a u, Av O env σ H a u → Av (Oc O env σ (ioIdx ps)) (as.map argCell) (vs.map some) H a u := fun a u ⟨k1, k2, k3⟩ =>
    ⟨fun o => k1 (owArg e pr o).1, fun z => z.elim k2 fun z => k1 z.1, k3⟩
  refine ⟨by rw [List.length_map, List.length_map, toArgs_len e, pr.length], fun k c h => ?_, fun k l b b' p h1 h2 h3 h4 => ?_, fun a z => ?_⟩
  · rcases argAt e pr h with ⟨x, v, rfl, hv, hx, _⟩ | ⟨i, b, v, rfl, hv, hp, hb, hs⟩
    · exact ⟨v, by rw [List.getElem?_map, hv]; rfl, Rp.mono av _ _ hx⟩
    · obtain ⟨p, hp', ob⟩ := rel.ob hb
      rw [hs] at hp'
      cases hp'
      exact ⟨p, by rw [List.getElem?_map, hv]; rfl, ob.mono av rfl⟩
  · have g : ∀ k b, obAt (as.map argCell) k = some b → (vs.map some)[k]? = some (some (.ref p)) → ∃ i b, ps[k]? = some (.io i) ∧ obAt env i = some b ∧ σ[i]? = some (some (.ref p)) := by
      intro k b h1 h2
      rcases obAt_some h1 with h | h
      · rcases argAt e pr h with ⟨x, v, z, _⟩ | ⟨i, b', v, z, _⟩ <;> cases z
      · rcases argAt e pr h with ⟨x, v, z, _⟩ | ⟨i, b', v, z, hv, hp, hb, hs⟩
        · cases z
        · rw [List.getElem?_map, hv] at h2
          cases h2
          exact ⟨i, b', hp, hb, hs⟩
    obtain ⟨i, c, g1, g2, g3⟩ := g k b h1 h3
    obtain ⟨j, c', g4, g5, g6⟩ := g l b' h2 h4
    have hij := rel.inj i j c c' p g2 g5 g3 g6
    subst hij
    exact ioIdx_inj nd g1 g4
  · rcases z with z | ⟨⟨i, b, h1, h2⟩, z⟩
    · exact ⟨(rel.hid a z).1, fun o => (rel.hid a z).2 (owArg e pr o).1⟩
    · obtain ⟨p, hp, ob⟩ := rel.ob h1
      rw [h2] at hp
      cases hp
      exact ⟨ob.some, fun o => z (owArg e pr o).2⟩

/-! ### the way back -/
theorem setObs_ok {N : Hp} : ∀ {is : List Nat} {bs : List Ob} {env env2 : Cells} {G : Hp}, Rel K O env σ G → is.Nodup → setObs env is bs = some env2 →
    (∀ (k : Nat) (i : Nat), is[k]? = some i → (∃ b, obAt env i = some b) ∧ ∃ b' p o', bs[k]? = some b' ∧ σ[i]? = some (some (.ref p)) ∧ N p = some o' ∧ ObR K (Av O env σ G) N b' p) →
    ∃ G', Rel K O env2 σ G' ∧ Step env σ G env2 σ G' ∧ (∀ a, Ow env2 σ a ↔ Ow env σ a) ∧ (∀ a, IoAt σ is a → G' a = N a) ∧ ∀ a, ¬ IoAt σ is a → G' a = G a
  | [], [], env, env2, G, rel, nd, e, h => by
    simp only [setObs] at e
    cases e
    exact ⟨G, rel, Step.refl, fun _ => Iff.rfl, fun a z => (let ⟨i, hi, _⟩ := z; nomatch hi), fun a _ => rfl⟩
  | [], _ :: _, env, env2, G, rel, nd, e, h => by simp [setObs] at e
  | _ :: _, [], env, env2, G, rel, nd, e, h => by simp [setObs] at e
  | i :: is, b' :: bs, env, env2, G, rel, nd, e, h => by
    simp only [setObs] at e
    obtain ⟨⟨b, hb⟩, c, p, o', hc, hp, hN, ob⟩ := h 0 i (by simp)
    simp at hc
    subst hc
    have up : (upd G p o') p = N p := by rw [upd_same, hN]
    have ob' : ObR K (Av O env σ G) (upd G p o') b' p := ob.mono (fun _ _ k => k) up
    obtain ⟨r1, s1⟩ := write_ob rel hb hp ob'
    rcases List.nodup_cons.mp nd with ⟨n1, n2⟩
    have avs := s1.av (O := O)
    obtain ⟨G', r2, s2, ow, g1, g2⟩ := setObs_ok (N := N) r1 n2 e fun k j hk => by
      obtain ⟨⟨c, hc⟩, d, q, o2, h1, h2, h3, h4⟩ := h (k + 1) j (by simpa using hk)
      have ne : i ≠ j := fun z => by subst z; exact n1 (List.mem_of_getElem? hk)
      exact ⟨⟨c, by rw [obAt_put hb, if_neg ne]; exact hc⟩, d, q, o2, by simpa using h1, h2, h3, h4.mono avs rfl⟩
    refine ⟨G', r2, s1.trans s2, fun a => (ow a).trans (ow_put hb), fun a ⟨j, hj, ha⟩ => ?_, fun a n => ?_⟩
    · by_cases z : IoAt σ is a
      · exact g1 a z
      · rcases List.mem_cons.mp hj with rfl | hj
        · rw [hp] at ha
          cases ha
          rw [g2 p z, up]
        · exact (z ⟨j, hj, ha⟩).elim
    · have ne : a ≠ p := fun z => by subst z; exact n ⟨i, List.mem_cons_self, hp⟩
      rw [g2 a fun ⟨j, hj, ha⟩ => n ⟨j, List.mem_cons_of_mem _ hj, ha⟩, upd_ne ne]
theorem putIos_at : ∀ {as : List Arg} {bs : List Ob} {ps : List PArg} {k i m : Nat}, toArgs env ps = some as → setObs env1 (ioIdx ps) bs = some env2 → (ioIdx ps)[m]? = some i →
    ∃ (k : Nat) (b : Ob), ps[k]? = some (.io i) ∧ bs[m]? = some b ∧ ((putIos as bs).map argCell)[k]? = some (.io b) := by
  intro as bs ps
  induction ps generalizing as bs env1 with
  | nil => intro k i m e e2 h; simp [ioIdx] at h
  | cons p ps ih =>
    intro k i m e e2 h
    cases p with
    | d x =>
      simp only [toArgs] at e
      cases e1 : toArgs env ps with
      | none => rw [e1] at e; cases e
      | some as' =>
        rw [e1] at e
        cases e
        obtain ⟨k', b, h1, h2, h3⟩ := ih (k := k) e1 e2 h
        exact ⟨k' + 1, b, by simpa using h1, h2, by simpa [putIos] using h3⟩
    | io j =>
      simp only [toArgs] at e
      cases e0 : obAt env j with
      | none => rw [e0] at e; cases e
      | some b0 =>
        cases e1 : toArgs env ps with
        | none => rw [e0, e1] at e; cases e
        | some as' =>
          rw [e0, e1] at e
          cases e
          simp only [ioIdx] at h e2
          cases bs with
          | nil => simp [setObs] at e2
          | cons b bs =>
            simp only [setObs] at e2
            cases m with
            | zero => simp at h; subst h; exact ⟨0, b, by simp, by simp, by simp [putIos, argCell]⟩
            | succ m =>
              obtain ⟨k', b', h1, h2, h3⟩ := ih (k := k) e1 e2 (by simpa using h)
              exact ⟨k' + 1, b', by simpa using h1, by simpa using h2, by simpa [putIos] using h3⟩
open Classical in
theorem caller_rel {ps : List PArg} {as : List Arg} {vs : List V} {ios : List Ob} {ro : RO} {v : V} (rel : Rel K O env σ H) (pr : PR K (Av O env σ H) σ ps vs) (nd : (ioIdx ps).Nodup)
    (e : toArgs env ps = some as) (e2 : setObs env (ioIdx ps) ios = some env2)
    (rc : Rel K (un (Oc O env σ (ioIdx ps)) (nw ro.toR v)) ((putIos as ios).map argCell) (vs.map some) H') (sc : Step (as.map argCell) (vs.map some) H ((putIos as ios).map argCell) (vs.map some) H')
    (rr : RR K (un (Oc O env σ (ioIdx ps)) (nw ro.toR v)) ((putIos as ios).map argCell) (vs.map some) H H' ro.toR v) :
    Rel K (un O (nw ro.toR v)) env2 σ H' ∧ Step env σ H env2 σ H' ∧ RR K (un O (nw ro.toR v)) env2 σ H H' ro.toR v := by
  have iothere : ∀ a, IoAt σ (ioIdx ps) a → Ow env σ a ∧ H a ≠ none ∧ Ow ((putIos as ios).map argCell) (vs.map some) a := by
    rintro a ⟨i, hi, ha⟩
    obtain ⟨m, hm⟩ := List.getElem?_of_mem hi
    obtain ⟨k, b, h1, h2, h3⟩ := putIos_at (k := 0) e e2 hm
    -- the slot
    have hk : k < as.length := by rw [toArgs_len e]; exact (List.getElem?_eq_some_iff.mp h1).1
    have hc : (as.map argCell)[k]? = some (argCell as[k]) := by rw [List.getElem?_map, List.getElem?_eq_getElem hk]; rfl
    rcases argAt e pr hc with ⟨x, w, _, _, _, y, hy⟩ | ⟨j, b', w, _, hw, hj, hb, hs⟩
    · rw [h1] at hy; cases hy
    · rw [h1] at hj
      cases hj
      rw [ha] at hs
      cases hs
      have ow : Ow env σ a := ⟨i, b', hb, ha⟩
      exact ⟨ow, rel.own_there ow, k, b, obAt_io h3, by rw [List.getElem?_map, hw]; rfl⟩
  have kp : ∀ a o, H a = some o → ¬ IoAt σ (ioIdx ps) a → H' a = some o := fun a o ha n => sc.kp a o ha fun z => n (owArg e pr z).2
  -- between: all but what is handed on
  let G : Hp := fun a => if IoAt σ (ioIdx ps) a then H a else H' a
  have Gio : ∀ a, IoAt σ (ioIdx ps) a → G a = H a := fun a z => if_pos z
  have Gno : ∀ a, ¬ IoAt σ (ioIdx ps) a → G a = H' a := fun a z => if_neg z
  have same : Same H G := fun a o ha => by
    by_cases z : IoAt σ (ioIdx ps) a
    · rw [Gio a z]; exact ha
    · rw [Gno a z]; exact kp a o ha z
  have nwN : ∀ a, nw ro.toR v a → H a = none ∧ ∃ o, G a = some o ∧ Mut (some o) := fun a z => by
    have hn := rr.fresh a z
    refine ⟨hn, ?_⟩
    rw [Gno a fun q => (iothere a q).2.1 hn]
    exact (rc.hid a (.inr z)).1
  have relG := rel.growN same nwN
  have sG : Step env σ H env σ G := Step.grow same
  have av : ∀ a u, Av (un (Oc O env σ (ioIdx ps)) (nw ro.toR v)) ((putIos as ios).map argCell) (vs.map some) H' a u → Av (un O (nw ro.toR v)) env σ G a u ∧ ¬ IoAt σ (ioIdx ps) a ∧ Rd H' a u := by
    rintro a u ⟨k1, k2, k3⟩
    have nio : ¬ IoAt σ (ioIdx ps) a := fun z => k1 (iothere a z).2.2
    refine ⟨⟨fun o => k2 (.inl (.inr ⟨o, nio⟩)), fun z => k2 (z.elim (fun z => .inl (.inl z)) .inr), ?_⟩, nio, k3⟩
    rcases k3 with k3 | ⟨od, k3⟩
    · exact .inl ((Gno a nio).trans k3)
    · exact .inr ⟨od, (Gno a nio).trans k3⟩
  obtain ⟨G', r2, s2, ow, g1, g2⟩ := setObs_ok (N := H') relG nd e2 fun m i hm => by
    obtain ⟨k, b, h1, h2, h3⟩ := putIos_at (k := 0) e e2 hm
    have hk : k < as.length := by rw [toArgs_len e]; exact (List.getElem?_eq_some_iff.mp h1).1
    have hc : (as.map argCell)[k]? = some (argCell as[k]) := by rw [List.getElem?_map, List.getElem?_eq_getElem hk]; rfl
    rcases argAt e pr hc with ⟨x, w, _, _, _, y, hy⟩ | ⟨j, b', w, _, hw, hj, hb, hs⟩
    · rw [h1] at hy; cases hy
    · rw [h1] at hj
      cases hj
      obtain ⟨p, hp, ob⟩ := rc.at_ k _ h3
      rw [List.getElem?_map, hw] at hp
      cases hp
      obtain ⟨o', ho', _⟩ := ob.some
      exact ⟨⟨b', hb⟩, b, p, o', h2, hs, ho', ob.mono (fun a u z => (av a u z).1) rfl⟩
  have eG : G' = H' := by
    funext a
    by_cases z : IoAt σ (ioIdx ps) a
    · exact g1 a z
    · exact (g2 a z).trans (Gno a z)
  subst eG
  refine ⟨r2, sG.trans s2, ?_⟩
  have av2 : ∀ a u, Av (un (Oc O env σ (ioIdx ps)) (nw ro.toR v)) ((putIos as ios).map argCell) (vs.map some) G' a u → Av (un O (nw ro.toR v)) env2 σ G' a u := fun a u z =>
    let ⟨⟨k1, k2, _⟩, _, k3⟩ := av a u z
    ⟨fun o => k1 ((ow a).mp o), k2, k3⟩
  cases ro with
  | d x => exact Rp.mono av2 _ _ rr
  | new b =>
    obtain ⟨p, h1, h2, h3⟩ := rr
    exact ⟨p, h1, h2, h3.mono av2 rfl⟩
theorem RRs.append {rs rs' : List R} {vs vs' : List V} (h : RRs K O env σ H0 H rs vs) (h' : RRs K O env σ H0 H rs' vs') : RRs K O env σ H0 H (rs ++ rs') (vs ++ vs') := by
  induction rs generalizing vs with
  | nil => cases h; exact h'
  | cons r rs ih =>
    obtain ⟨x, xs, rfl, hx, t⟩ := h
    exact ⟨x, xs ++ vs', rfl, hx, ih t⟩
theorem nws_d {rs : List R} {vs : List V} {ds : List D} {ws : List V} (hl : vs.length = rs.length) (a : Addr) : nws (rs ++ ds.map .d) (vs ++ ws) a ↔ nws rs vs a := by
  induction rs generalizing vs with
  | nil =>
    cases vs with
    | cons v vs => cases hl
    | nil =>
      refine ⟨fun z => ?_, fun z => z.elim⟩
      simp only [List.nil_append] at z
      clear hl
      induction ds generalizing ws with
      | nil => exact z.elim
      | cons d ds ih =>
        cases ws with
        | nil => exact z.elim
        | cons w ws => exact z.elim (fun z => z.elim) ih
  | cons r rs ih =>
    cases vs with
    | nil => cases hl
    | cons v vs => exact or_congr Iff.rfl (ih (by simpa using hl))
theorem apart_d {rs : List R} {vs : List V} {ds : List D} {ws : List V} (hl : vs.length = rs.length) (h : Apart rs vs) : Apart (rs ++ ds.map .d) (vs ++ ws) := by
  induction rs generalizing vs with
  | nil =>
    cases vs with
    | cons v vs => cases hl
    | nil =>
      simp only [List.nil_append]
      clear hl h
      induction ds generalizing ws with
      | nil => trivial
      | cons d ds ih =>
        cases ws with
        | nil => trivial
        | cons w ws => exact ⟨fun a z => z.elim, ih⟩
  | cons r rs ih =>
    cases vs with
    | nil => cases hl
    | cons v vs => exact ⟨fun a z n => h.1 a z ((nws_d (by simpa using hl) a).mp n), ih (by simpa using hl) h.2⟩
/-- the call -/
theorem tE_call {Γ : FT} {f : Nat} {fe : FE} {es : Cells → Res (List R)} {dvs : List V} {E : XK} {n : Nat} {Q : VK} (hf : Γ[f]? = some fe)
    (hd : ∀ A, RpL K A (fe.dvs.drop (fe.dvs.length + n - fe.modes.length)) dvs) (hn : ∀ env rs env', es env = .ok rs env' → rs.length = n)
    (h : tE K (doCall Γ f es) σ H Q) : tCall (spF K fe) dvs E (tA K es) σ H Q := by
  obtain ⟨O, env, rel, r, env', e, q⟩ := h
  obtain ⟨rs, env1, e1, e⟩ := Res.bind_ok e
  refine ⟨O, env, rel, rs, env1, e1, fun vs H1 rel1 st1 rr1 ap => ?_⟩
  unfold callF at e
  rw [hf] at e
  simp only at e
  rw [hn _ _ _ e1] at e
  have hl := rr1.length
  generalize hds : fe.dvs.drop (fe.dvs.length + n - fe.modes.length) = ds at e hd
  cases g1 : preArgs env1 fe.modes (rs ++ ds.map .d) with
  | none => rw [g1] at e; cases e
  | some pr0 =>
    obtain ⟨ps, env2⟩ := pr0
    rw [g1] at e
    simp only at e
    split at e
    · rename_i nd
      have un_eq : un O (nws (rs ++ ds.map .d) (vs ++ dvs)) = un O (nws rs vs) := by
        funext a
        exact propext (or_congr Iff.rfl (nws_d hl a))
      have drr : ∀ {O' : Addr → Prop} {ds : List D} {dvs : List V}, (∀ A, RpL K A ds dvs) → RRs K O' env1 σ H H1 (ds.map .d) dvs := by
        intro O' ds
        induction ds with
        | nil => intro dvs h; have := h (fun _ _ => False); simp only [RpL] at this; exact this
        | cons d ds ih =>
          intro dvs h
          have h0 := h (fun _ _ => False)
          simp only [RpL] at h0
          obtain ⟨x, r, rfl, _, _⟩ := h0
          refine ⟨x, r, rfl, ?_, ih fun A => ?_⟩
          · have := h (Av O' env1 σ H1)
            simp only [RpL] at this
            obtain ⟨x', r', e, hx, _⟩ := this
            cases e
            exact hx
          · have := h A
            simp only [RpL] at this
            obtain ⟨x', r', e, _, hr⟩ := this
            cases e
            exact hr
      have rel1' := rel1
      have rr1' := rr1.append (drr hd)
      rw [← un_eq] at rel1' rr1'
      obtain ⟨rel2, st2, pr⟩ := preArgs_ok rel1' (fun a z => hs_of rel rr1 a ((nws_d hl a).mp z)) (apart_d hl ap) rr1' g1
      cases g2 : toArgs env2 ps with
      | none => rw [g2] at e; cases e
      | some as =>
        rw [g2] at e
        simp only at e
        cases g3 : fe.sem as with
        | bad => rw [g3] at e; cases e
        | exc x ios =>
          rw [g3] at e
          simp only at e
          cases g4 : setObs env2 (ioIdx ps) ios with
          | none => rw [g4] at e; cases e
          | some env3 => rw [g4] at e; cases e
        | ok ro ios =>
          rw [g3] at e
          simp only at e
          cases g4 : setObs env2 (ioIdx ps) ios with
          | none => rw [g4] at e; cases e
          | some env3 =>
            rw [g4] at e
            cases e
            have lenP : ∀ {ms : List Bool} {rs : List R} {ps : List PArg} {env env1 : Cells}, preArgs env ms rs = some (ps, env1) → ps.length = ms.length := by
              intro ms
              induction ms with
              | nil =>
                intro rs ps env env1 h
                cases rs with
                | nil => simp only [preArgs] at h; cases h; rfl
                | cons r rs => simp [preArgs] at h
              | cons m ms ih =>
                intro rs ps env env1 h
                cases rs with
                | nil => cases m <;> simp [preArgs] at h
                | cons r rs =>
                  cases m with
                  | true =>
                    cases r with
                    | d y => simp [preArgs] at h
                    | new y => simp [preArgs] at h
                    | own i =>
                      simp only [preArgs] at h
                      cases e2 : preArgs env ms rs with
                      | none => rw [e2] at h; cases h
                      | some p2 => rw [e2] at h; cases h; simp [ih e2]
                  | false =>
                    simp only [preArgs] at h
                    cases e1 : frz env r with
                    | none => rw [e1] at h; cases h
                    | some p =>
                      rw [e1] at h
                      simp only at h
                      cases e2 : preArgs p.2 ms rs with
                      | none => rw [e2] at h; cases h
                      | some p2 => rw [e2] at h; cases h; simp [ih e2]
            refine ⟨by rw [pr.length, lenP g1], _, as, callee_rel rel2 pr nd g2, ro, ios, g3, fun v H' rc sc rr => ?_⟩
            obtain ⟨r3, s3, rr3⟩ := caller_rel rel2 pr nd g2 g4 rc sc rr
            exact q v H' r3 ((st1.trans st2).trans s3) (rr3.back fun p => st1.back)
    · cases e
end
end Fx

set_option Elab.async false
set_option linter.all false
set_option maxRecDepth 100000
/-! Fx12: the callee's side: a body's run keeps what the def promises. -/
namespace Fx
open L2 PyProof.Rows PySem PySem.Spec

section
variable {K : PySem.W.Frag} {O : Addr → Prop} {env env0 env1 env2 env' : Cells} {σ σ0 σ1 σ2 σ' : L2.St} {H H0 H1 H2 H' : Hp}
theorem obAt_pad {m i : Nat} : obAt (env ++ List.replicate m .none) i = obAt env i := by
  unfold obAt
  by_cases h : i < env.length
  · rw [List.getElem?_append_left h]
  · rw [List.getElem?_append_right (by omega), List.getElem?_eq_none (l := env) (by omega)]
    rw [List.getElem?_replicate]
    split <;> rfl
theorem sig_pad {m i : Nat} {v : V} : (σ ++ List.replicate m none)[i]? = some (some v) ↔ σ[i]? = some (some v) := by
  by_cases h : i < σ.length
  · rw [List.getElem?_append_left h]
  · rw [List.getElem?_append_right (by omega), List.getElem?_eq_none (l := σ) (by omega), List.getElem?_replicate]
    split <;> simp
theorem ow_pad {m : Nat} {a : Addr} : Ow (env ++ List.replicate m .none) (σ ++ List.replicate m none) a ↔ Ow env σ a := by
  constructor
  · rintro ⟨i, b, h1, h2⟩; exact ⟨i, b, by rwa [obAt_pad] at h1, sig_pad.mp h2⟩
  · rintro ⟨i, b, h1, h2⟩; exact ⟨i, b, by rwa [obAt_pad], sig_pad.mpr h2⟩
theorem rel_pad (rel : Rel K O env σ H) (m : Nat) : Rel K O (env ++ List.replicate m .none) (σ ++ List.replicate m none) H := by
  have av : ∀ a u, Av O env σ H a u → Av O (env ++ List.replicate m .none) (σ ++ List.replicate m none) H a u := fun a u k => ⟨fun o => k.1 (ow_pad.mp o), k.2⟩
  refine ⟨by rw [List.length_append, List.length_append, rel.len, List.length_replicate, List.length_replicate], fun i c e => ?_,
    fun i j b b' p h1 h2 h3 h4 => rel.inj i j b b' p (by rwa [obAt_pad] at h1) (by rwa [obAt_pad] at h2) (sig_pad.mp h3) (sig_pad.mp h4),
    fun a z => ⟨(rel.hid a z).1, fun o => (rel.hid a z).2 (ow_pad.mp o)⟩⟩
  by_cases h : i < env.length
  · rw [List.getElem?_append_left h] at e
    rw [List.getElem?_append_left (by rw [← rel.len]; exact h)]
    have q := rel.at_ i c e
    cases c with
    | none => trivial
    | d y => obtain ⟨w, e1, q⟩ := q; exact ⟨w, e1, Rp.mono av _ _ q⟩
    | o b => obtain ⟨w, e1, q⟩ := q; exact ⟨w, e1, q.mono av rfl⟩
    | io b => obtain ⟨w, e1, q⟩ := q; exact ⟨w, e1, q.mono av rfl⟩
  · rw [List.getElem?_append_right (by omega), List.getElem?_replicate] at e
    split at e
    · cases e; trivial
    · cases e
theorem ios_get : ∀ {as : List Arg} {ios : List Ob} {i0 : Nat}, ioOf env as i0 = some ios → (putIos as ios).length = as.length ∧ ∀ (k : Nat) (c : Cell), ((putIos as ios).map argCell)[k]? = some c →
    (∃ x, as[k]? = some (.d x) ∧ c = .d x) ∨ ∃ b b', as[k]? = some (.io b) ∧ env[i0 + k]? = some (.io b') ∧ c = .io b'
  | [], ios, i0, e => by simp only [ioOf] at e; cases e; exact ⟨rfl, fun k c h => by simp [putIos] at h⟩
  | .d x :: as, ios, i0, e => by
    simp only [ioOf] at e
    obtain ⟨l, g⟩ := ios_get e
    refine ⟨by simp [putIos, l], fun k c h => ?_⟩
    cases k with
    | zero => simp [putIos, argCell] at h; exact .inl ⟨x, by simp, h.symm⟩
    | succ k =>
      have := g k c (by simpa [putIos] using h)
      rcases this with ⟨y, h1, h2⟩ | ⟨b, b', h1, h2, h3⟩
      · exact .inl ⟨y, by simpa using h1, h2⟩
      · exact .inr ⟨b, b', by simpa using h1, by rw [← h2]; congr 1; omega, h3⟩
  | .io b0 :: as, ios, i0, e => by
    simp only [ioOf] at e
    split at e
    · rename_i b1 hb
      cases e1 : ioOf env as (i0 + 1) with
      | none => rw [e1] at e; cases e
      | some r =>
        rw [e1] at e
        cases e
        obtain ⟨l, g⟩ := ios_get e1
        refine ⟨by simp [putIos, l], fun k c h => ?_⟩
        cases k with
        | zero => simp [putIos, argCell] at h; exact .inr ⟨b0, b1, by simp, hb, h.symm⟩
        | succ k =>
          have := g k c (by simpa [putIos] using h)
          rcases this with ⟨y, h1, h2⟩ | ⟨b, b', h1, h2, h3⟩
          · exact .inl ⟨y, by simpa using h1, h2⟩
          · exact .inr ⟨b, b', by simpa using h1, by rw [← h2]; congr 1; omega, h3⟩
    · cases e
theorem arg_get {as : List Arg} {k : Nat} {c : Cell} (h : (as.map argCell)[k]? = some c) : (∃ x, as[k]? = some (.d x) ∧ c = .d x) ∨ ∃ b, as[k]? = some (.io b) ∧ c = .io b := by
  rw [List.getElem?_map] at h
  cases e : as[k]? with
  | none => (rw [e] at h; cases h)
  | some a =>
    rw [e] at h
    cases h
    cases a with
    | d x => exact .inl ⟨x, rfl, rfl⟩
    | io b => exact .inr ⟨b, rfl, rfl⟩
/-- what is handed back: data, or an object of ours -/
def outF (env : Cells) : R → Option RO
  | .d x => some (.d x)
  | .new b => some (.new b)
  | .own i => match env[i]? with
    | some (.o b) => some (.new b)
    | some (.d x) => some (.d x)
    | _ => none
theorem callee_end {as : List Arg} {vs : List V} {m : Nat} {r : R} {v : V} {ro : RO} {ios : List Ob} (relA : Rel K O (as.map argCell) (vs.map some) H)
    (rel : Rel K (un O (nw r v)) env1 σ' H') (st : Step (as.map argCell ++ List.replicate m .none) (vs.map some ++ List.replicate m none) H env1 σ' H')
    (rr : RR K (un O (nw r v)) env1 σ' H H' r v) (ho : outF env1 r = some ro) (hi : ioOf env1 as 0 = some ios) :
    Rel K (un O (nw ro.toR v)) ((putIos as ios).map argCell) (vs.map some) H' ∧ Step (as.map argCell) (vs.map some) H ((putIos as ios).map argCell) (vs.map some) H' ∧
      RR K (un O (nw ro.toR v)) ((putIos as ios).map argCell) (vs.map some) H H' ro.toR v := by
  obtain ⟨len, get⟩ := ios_get hi
  have lenA : as.length = vs.length := by have := relA.len; simpa using this
  -- the slots handed on, at the end
  have ioEnd : ∀ (k : Nat) (b : Ob), as[k]? = some (.io b) → σ'[k]? = (vs.map some)[k]? ∧ ∃ b', env1[k]? = some (.io b') := by
    intro k b hk
    have hl : k < as.length := (List.getElem?_eq_some_iff.mp hk).1
    have e : (as.map argCell ++ List.replicate m .none)[k]? = some (.io b) := by
      rw [List.getElem?_append_left (by simpa using hl), List.getElem?_map, hk]; rfl
    obtain ⟨e1, b', e2⟩ := st.io k b e
    rw [List.getElem?_append_left (by rw [List.length_map, ← lenA]; exact hl)] at e1
    exact ⟨e1, b', e2⟩
  have ow0 : ∀ a, Ow (as.map argCell) (vs.map some) a → ∃ (k : Nat) (b' : Ob), env1[k]? = some (Cell.io b') ∧ σ'[k]? = some (some (V.ref a)) ∧ ∃ b, as[k]? = some (Arg.io b) := by
    rintro a ⟨k, b, h1, h2⟩
    rcases obAt_some h1 with h | h
    · rcases arg_get h with ⟨x, _, z⟩ | ⟨b', _, z⟩ <;> cases z
    · rcases arg_get h with ⟨x, _, z⟩ | ⟨b', hk, z⟩
      · cases z
      · obtain ⟨e1, c, e2⟩ := ioEnd k b' hk
        exact ⟨k, c, e2, e1.trans h2, b', hk⟩
  have ow1 : ∀ a, Ow (as.map argCell) (vs.map some) a → Ow env1 σ' a := fun a o => let ⟨k, b', h1, h2, _⟩ := ow0 a o; ⟨k, b', obAt_io h1, h2⟩
  have owE : ∀ (k : Nat) (b : Ob), obAt ((putIos as ios).map argCell) k = some b → ∃ b0, as[k]? = some (.io b0) := by
    intro k b h1
    rcases obAt_some h1 with h | h
    · rcases get k _ h with ⟨x, _, z⟩ | ⟨b', _, _, _, z⟩ <;> cases z
    · rcases get k _ h with ⟨x, _, z⟩ | ⟨b', _, h2, _, _⟩
      · cases z
      · exact ⟨b', h2⟩
  have ow2 : ∀ a, Ow ((putIos as ios).map argCell) (vs.map some) a → Ow (as.map argCell) (vs.map some) a := by
    rintro a ⟨k, b, h1, h2⟩
    obtain ⟨b0, hb⟩ := owE k b h1
    exact ⟨k, b0, obAt_io (by rw [List.getElem?_map, hb]; rfl), h2⟩
  -- what is handed back is new
  have nwH : ∀ a, nw ro.toR v a → H a = none ∧ (∃ o, H' a = some o ∧ Mut (some o)) ∧ (nw r v a ∨ Ow env1 σ' a) := by
    intro a z
    cases r with
    | d x => cases ho; exact z.elim
    | new b => cases ho; exact ⟨rr.fresh a z, (rel.hid a (.inr z)).1, .inl z⟩
    | own i =>
      have hv : σ'[i]? = some (some v) := rr
      simp only [outF] at ho
      cases e : env1[i]? with
      | none => rw [e] at ho; cases ho
      | some c =>
        rw [e] at ho
        cases c with
        | none => cases ho
        | io b => cases ho
        | d x => cases ho; exact z.elim
        | o b =>
          cases ho
          have z : v = .ref a := z
          subst z
          have ow : Ow env1 σ' a := ⟨i, b, obAt_o e, hv⟩
          obtain ⟨p, hp, ob⟩ := rel.ob (obAt_o e)
          rw [hv] at hp
          cases hp
          refine ⟨?_, ob.some, .inr ow⟩
          cases q : H a with
          | none => rfl
          | some o =>
            exfalso
            have := st.ow a (by rw [q]; simp)
            by_cases h0 : Ow (as.map argCell) (vs.map some) a
            · obtain ⟨k, b', h1, h2, _⟩ := ow0 a h0
              have := rel.inj i k b b' a (obAt_o e) (obAt_io h1) hv h2
              subst this
              rw [e] at h1
              cases h1
            · exact this (fun z => h0 (ow_pad.mp z)) ow
  have av : ∀ a u, Av (un O (nw r v)) env1 σ' H' a u → Av (un O (nw ro.toR v)) ((putIos as ios).map argCell) (vs.map some) H' a u := fun a u ⟨k1, k2, k3⟩ =>
    ⟨fun o => k1 (ow1 a (ow2 a o)), fun z => z.elim (fun z => k2 (.inl z)) fun z => (nwH a z).2.2.elim (fun z => k2 (.inr z)) k1, k3⟩
  have kp : ∀ a o, H a = some o → ¬ Ow (as.map argCell) (vs.map some) a → H' a = some o := fun a o h n => st.kp a o h fun z => n (ow_pad.mp z)
  have av0 : ∀ a u, Av O (as.map argCell) (vs.map some) H a u → Av (un O (nw ro.toR v)) ((putIos as ios).map argCell) (vs.map some) H' a u := by
    rintro a u ⟨k1, k2, k3⟩
    have hn : H a ≠ none := by
      rcases k3 with k3 | ⟨od, k3⟩ <;> (rw [k3]; simp)
    refine ⟨fun o => k1 (ow2 a o), fun z => z.elim k2 fun z => hn (nwH a z).1, ?_⟩
    rcases k3 with k3 | ⟨od, k3⟩
    · exact .inl (kp a _ k3 k1)
    · exact .inr ⟨od, kp a _ k3 k1⟩
  refine ⟨⟨by rw [List.length_map, List.length_map, len, lenA], fun k c h => ?_, fun k l b b' p h1 h2 h3 h4 => ?_, fun a z => ?_⟩,
    ⟨kp, fun a _ n o => n (ow2 a o), fun a h => st.th a h, fun k b h => ⟨rfl, ?_⟩⟩, ?_⟩
  · rcases get k c h with ⟨x, hk, rfl⟩ | ⟨b, b', hk, he, rfl⟩
    · obtain ⟨w, hw, rp⟩ := relA.at_ k (.d x) (by rw [List.getElem?_map, hk]; rfl)
      exact ⟨w, hw, Rp.mono av0 _ _ rp⟩
    · obtain ⟨e1, _⟩ := ioEnd k b hk
      obtain ⟨p, hp, ob⟩ := rel.at_ k (.io b') (by rw [← he]; congr 1; omega)
      exact ⟨p, e1.symm.trans hp, ob.mono av rfl⟩
  · obtain ⟨c, hc⟩ := owE k b h1
    obtain ⟨c', hc'⟩ := owE l b' h2
    exact relA.inj k l c c' p (obAt_io (by rw [List.getElem?_map, hc]; rfl)) (obAt_io (by rw [List.getElem?_map, hc']; rfl)) h3 h4
  · rcases z with z | z
    · exact ⟨(rel.hid a (.inl z)).1, fun o => (rel.hid a (.inl z)).2 (ow1 a (ow2 a o))⟩
    · exact ⟨(nwH a z).2.1, fun o => relA.own_there (ow2 a o) (nwH a z).1⟩
  · rcases arg_get h with ⟨x, _, z⟩ | ⟨b', hk, z⟩
    · cases z
    · have hl : k < (putIos as ios).length := by rw [len]; exact (List.getElem?_eq_some_iff.mp hk).1
      have e : ((putIos as ios).map argCell)[k]? = some (argCell (putIos as ios)[k]) := by rw [List.getElem?_map, List.getElem?_eq_getElem hl]; rfl
      rcases get k _ e with ⟨x, h1, _⟩ | ⟨_, b2, _, _, h2⟩
      · rw [hk] at h1; cases h1
      · exact ⟨b2, e.trans (congrArg some h2)⟩
  · cases r with
    | d x => cases ho; exact Rp.mono av _ _ rr
    | new b =>
      cases ho
      obtain ⟨p, h1, h2, h3⟩ := rr
      exact ⟨p, h1, h2, h3.mono av rfl⟩
    | own i =>
      have hv : σ'[i]? = some (some v) := rr
      simp only [outF] at ho
      cases e : env1[i]? with
      | none => rw [e] at ho; cases ho
      | some c =>
        rw [e] at ho
        cases c with
        | none => cases ho
        | io b => cases ho
        | d x =>
          cases ho
          obtain ⟨w, hw, rp⟩ := rel.at_ i _ e
          rw [hv] at hw
          cases hw
          exact Rp.mono av _ _ rp
        | o b =>
          cases ho
          obtain ⟨p, hp, ob⟩ := rel.ob (obAt_o e)
          rw [hv] at hp
          cases hp
          exact ⟨p, rfl, (nwH p rfl).1, ob.mono av rfl⟩
/-- the value that is handed back -/
def retR : Fl → Option R
  | .next => some (.d .non)
  | .ret r => some r
  | _ => none
theorem runF_ok {Γ : FT} {n : Nat} {body : List CS} {as : List Arg} {ro : RO} {ios : List Ob} (h : runF Γ n body as = .ok ro ios) :
    ∃ fl env r, evSs Γ body (as.map argCell ++ List.replicate (n - as.length) .none) = .ok fl env ∧ retR fl = some r ∧ outF env r = some ro ∧ ioOf env as 0 = some ios := by
  unfold runF at h
  cases e : evSs Γ body (as.map argCell ++ List.replicate (n - as.length) .none) with
  | bad => rw [e] at h; cases h
  | exc x env =>
    rw [e] at h
    simp only at h
    cases e2 : ioOf env as 0 with
    | none => rw [e2] at h; cases h
    | some ios => rw [e2] at h; cases h
  | ok fl env =>
    rw [e] at h
    simp only at h
    have fin : ∀ r : R, (match (match r with
        | .d x => some ((RO.d x, env) : RO × Cells)
        | .new b => some (.new b, env)
        | .own i => match env[i]? with
          | some (.o b) => some (.new b, env)
          | some (.d x) => some (.d x, env)
          | _ => none) with
      | none => FRes.bad
      | some (o, env) => match ioOf env as 0 with
        | some ios => .ok o ios
        | none => .bad) = .ok ro ios → outF env r = some ro ∧ ioOf env as 0 = some ios := by
      intro r h
      cases e2 : ioOf env as 0 with
      | none =>
        cases r with
        | d x => simp only [e2] at h; cases h
        | new b => simp only [e2] at h; cases h
        | own i =>
          cases e3 : env[i]? with
          | none => simp only [e3] at h; cases h
          | some c => cases c <;> simp only [e3, e2] at h <;> cases h
      | some z =>
        cases r with
        | d x => simp only [e2] at h; cases h; exact ⟨rfl, rfl⟩
        | new b => simp only [e2] at h; cases h; exact ⟨rfl, rfl⟩
        | own i =>
          cases e3 : env[i]? with
          | none => simp only [e3] at h; cases h
          | some c => cases c <;> simp only [e3, e2] at h <;> cases h <;> exact ⟨by simp only [outF, e3], rfl⟩
    cases fl with
    | next => exact ⟨_, _, .d .non, rfl, rfl, fin (.d .non) h⟩
    | ret r => exact ⟨_, _, r, rfl, rfl, fin r h⟩
    | brk => cases h
    | cnt => cases h
/-- a def by its body -/
theorem callee_ok {Γ : FT} {N : List Str} {n : Nat} {body : List CS} {modes : List Bool} {dvs : List D} {vs : List V} {Q : VK} {E : XK} (hn : N.length = n)
    (h : spF K ⟨modes, dvs, runF Γ n body⟩ vs H Q E) : tS K (evSs Γ body) { nx := fun _ H' => Q .non H', rt := Q } (L2.start N vs) H := by
  obtain ⟨hl, O, as, rel, ro, ios, e, q⟩ := h
  obtain ⟨fl, env1, r, e1, e2, e3, e4⟩ := runF_ok e
  have lenA : as.length = vs.length := by have := rel.len; simpa using this
  refine ⟨O, as.map argCell ++ List.replicate (n - as.length) .none, ?_, fl, env1, e1, ?_⟩
  · unfold L2.start
    rw [hn, ← lenA]
    exact rel_pad rel _
  · have hst : L2.start N vs = vs.map some ++ List.replicate (n - as.length) none := by unfold L2.start; rw [hn, ← lenA]
    rw [hst]
    cases fl with
    | next =>
      cases e2
      intro σ' H' r' s'
      obtain ⟨g1, g2, g3⟩ := callee_end (v := .non) rel r'.plus s' (rr_d (by simp [Rp])) e3 e4
      exact q .non H' g1 g2 g3
    | ret r0 =>
      cases e2
      intro v σ' H' r' s' rr
      obtain ⟨g1, g2, g3⟩ := callee_end rel r' s' rr e3 e4
      exact q v H' g1 g2 g3
    | brk => cases e2
    | cnt => cases e2
theorem spF_len {fe : FE} {vs : List V} {Q : VK} {E : XK} (h : spF K fe vs H Q E) : vs.length = fe.modes.length := h.1
end
end Fx

set_option Elab.async false
set_option linter.all false
set_option maxRecDepth 100000
/-! Fx24: enumerate and zip over lists, tuples and texts, in any mix. -/
namespace Fx
open L2 PyProof.Rows PySem PySem.Spec

theorem far2 {a n : Nat} (h : a < n) : a ≠ n + 1 ∧ a ≠ n := ⟨by omega, by omega⟩
theorem far5 {a n : Nat} (h : a < n) : a ∉ [n + 4, n + 2, n + 3, n, n + 1] := by simp; omega
theorem in5 {a n : Nat} (h : a ∈ [n + 4, n + 2, n + 3, n, n + 1]) : n ≤ a := by simp at h; omega
/-- what is walked -/
inductive Kd where
  | l (a : Addr) | t (a : Addr) | s (x : Str) (u : Tok)
def Kd.adr : Kd → List Addr
  | .l a => [a]
  | .t a => [a]
  | .s _ _ => []
def Kd.val : Kd → Value
  | .l a => .ref a
  | .t a => .ref a
  | .s x u => .str x u
def signsV (x : Str) : List V := x.cps.toList.map fun c => .str ⟨#[c]⟩
def ScK (K : PySem.W.Frag) (H : Hp) : Kd → List V → Prop
  | .l a, xs => SqL K H a xs
  | .t a, xs => SqT K H a xs
  | .s x _, xs => xs = signsV x
/-- its iterator -/
def ItS : Kd → Addr → Nat → Heap → Prop
  | .l a, it, i, h => h.IsListIter it a i
  | .t a, it, i, h => h.IsTupleIter it a i
  | .s x u, it, i, h => h.IsStrIter it (strIterType x) x u i
theorem ItS.at {kd : Kd} {it : Addr} {i : Nat} {h h' : Heap} (q : ItS kd it i h) (k : ∀ o, h.get? it = some o → h'.get? it = some o) : ItS kd it i h' := by
  cases kd with
  | l a => exact Heap.IsListIter.at q k
  | t a => exact Heap.IsTupleIter.at q k
  | s x u => obtain ⟨o, ho, r⟩ := q; exact ⟨o, k o ho, r⟩
theorem ItS.obj {kd : Kd} {it : Addr} {i : Nat} {h : Heap} (q : ItS kd it i h) : ∃ o, h.get? it = some o ∧ ∀ v, o.data ≠ .cell v := by
  cases kd with
  | l a => obtain ⟨o, ho, _, d⟩ := q; exact ⟨o, ho, fun v z => by rw [d] at z; cases z⟩
  | t a => obtain ⟨o, ho, _, d⟩ := q; exact ⟨o, ho, fun v z => by rw [d] at z; cases z⟩
  | s x u => obtain ⟨o, ho, _, d⟩ := q; exact ⟨o, ho, fun v z => by rw [d] at z; cases z⟩
section
variable {X : Cx} {pns : List (Addr × Obj)} {σ : L2.St} {H : Hp} {s : Shared}
theorem ScK.inj (I : Inv X pns σ H s) {kd : Kd} {xs ys : List V} (h : ScK X.K H kd xs) (h' : ScK X.K H kd ys) : xs = ys := by
  cases kd with
  | l a => exact I.list_inj h h'
  | t a => exact I.tuple_inj h h'
  | s x u => rw [show xs = _ from h, show ys = _ from h']
/-- drawing from it, at turn i -/
structure Drw (prog : Program) (w : World) (A : Around) (kd : Kd) (it : Addr) (xs : List V) (i : Nat) (h : Heap) where
  fp : List Addr
  n : Nat
  P : Nat → Value → Prop
  St : Nat → Heap → Prop
  D : Draws prog w A it fp n P St
  st : St i h
  le : i ≤ n
  lt : i < n ↔ i < xs.length
  p : ∀ x, P i x → ∃ v, xs[i]? = some v ∧ RelV v x
  nx : ∀ h', St (i + 1) h' → ItS kd it (i + 1) h'
  mem : it ∈ fp
  ad : ∀ b ∈ fp, b = it ∨ b ∈ kd.adr
theorem drw_end {prog : Program} {w : World} {A : Around} {it : Addr} {fp : List Addr} {i : Nat} {S : Heap → Prop} (live : ∀ h, S h → ∃ o, h.get? it = some o) (frame : ∀ h h', S h → (∀ b ∈ fp, ∀ o, h.get? b = some o → h'.get? b = some o) → S h')
    (done : ∀ (s : Shared) (Q : Value → Shared → Prop) (E : Value → Shared → Prop), S s.heap →
    (∀ h' e, Heap.ExtBut it s.heap h' → (∃ o, h'.get? e = some o ∧ o.cls = .type "StopIteration") → E (.ref e) { s with heap := h' }) → wpAny (model prog w) A (Builtin.SmallTypes.nextOf (.ref it)) Q E s) :
    Draws prog w A it fp i (fun _ _ => False) (fun j h => j = i ∧ S h) where
  live := fun _ _ st => live _ st.2
  frame := fun _ _ _ st k => ⟨st.1, frame _ _ st.2 k⟩
  item := fun j s Q E hj st _ => by have := st.1; omega
  done := fun s Q E st hE => done s Q E st.2 hE
theorem drw_of (hc : X.calm = true) (I : Inv X pns σ H s) {kd : Kd} {xs : List V} (h : ScK X.K H kd xs) {it : Addr} (ha : ∀ a ∈ kd.adr, a ≠ it) {i : Nat} (hi : ItS kd it i s.heap) : Nonempty (Drw X.prog X.w X.A.in1 kd it xs i s.heap) := by
  have hh : X.A.in1.handled = none := I.ok.hd hc
  cases kd with
  | l a =>
    obtain ⟨its, rv, p, _⟩ := I.list h
    have hne := ha a (by simp [Kd.adr])
    have hl := rv.length
    by_cases hlt : i < xs.length
    · exact ⟨⟨[it, a], its.toArray.size, _, _, .list hh it a hne its.toArray, ⟨hi, p.isList⟩, by simp; omega, by simp; omega, fun x hx => by
        have hx : its[i]? = some x := by simpa using hx
        obtain ⟨u, hu, r⟩ := rv.get (List.getElem?_eq_getElem hlt)
        rw [hx] at hu; cases hu
        exact ⟨_, List.getElem?_eq_getElem hlt, r⟩, fun h' st => st.1, by simp, fun b hb => by simpa [Kd.adr] using hb⟩⟩
    · refine ⟨⟨[it, a], i, _, _, drw_end (S := fun h => h.IsListIter it a i ∧ h.IsList a its.toArray) (fun h st => let ⟨o, ho, _⟩ := st.1; ⟨o, ho⟩) (fun h h' st k => ⟨st.1.at fun o e => k it (by simp) o e, st.2.at fun o e => k a (by simp) o e⟩)
        (fun s Q E st hE => wpAny_nextOf_list_end hh st.1 st.2 (by simp; omega) hE), ⟨rfl, hi, p.isList⟩, Nat.le_refl _, ⟨fun z => absurd z (Nat.lt_irrefl _), fun z => absurd z hlt⟩, fun x hx => hx.elim, fun h' st => by have := st.1; omega, by simp, fun b hb => by simpa [Kd.adr] using hb⟩⟩
  | t a =>
    obtain ⟨its, rv, p, _⟩ := I.tuple h
    have hne := ha a (by simp [Kd.adr])
    have hl := rv.length
    by_cases hlt : i < xs.length
    · exact ⟨⟨[it, a], its.toArray.size, _, _, .tuple hh it a hne its.toArray, ⟨hi, p⟩, by simp; omega, by simp; omega, fun x hx => by
        have hx : its[i]? = some x := by simpa using hx
        obtain ⟨u, hu, r⟩ := rv.get (List.getElem?_eq_getElem hlt)
        rw [hx] at hu; cases hu
        exact ⟨_, List.getElem?_eq_getElem hlt, r⟩, fun h' st => st.1, by simp, fun b hb => by simpa [Kd.adr] using hb⟩⟩
    · refine ⟨⟨[it, a], i, _, _, drw_end (S := fun h => h.IsTupleIter it a i ∧ h.IsTuple a its.toArray) (fun h st => let ⟨o, ho, _⟩ := st.1; ⟨o, ho⟩) (fun h h' st k => ⟨st.1.at fun o e => k it (by simp) o e, st.2.at fun o e => k a (by simp) o e⟩)
        (fun s Q E st hE => wpAny_nextOf_tuple_end hh st.1 st.2 (by simp; omega) hE), ⟨rfl, hi, p⟩, Nat.le_refl _, ⟨fun z => absurd z (Nat.lt_irrefl _), fun z => absurd z hlt⟩, fun x hx => hx.elim, fun h' st => by have := st.1; omega, by simp, fun b hb => by simpa [Kd.adr] using hb⟩⟩
  | s x u =>
    have hx : xs = signsV x := h
    subst hx
    have hl : (signsV x).length = x.cps.size := by simp [signsV]
    by_cases hlt : i < (signsV x).length
    · exact ⟨⟨[it], x.cps.size, _, _, .text hh it x u, hi, by omega, by omega, fun y hy => by
        obtain ⟨c, t, hc, rfl⟩ := hy
        have hc' : x.cps.toList[i]? = some c := by simpa using hc
        exact ⟨.str ⟨#[c]⟩, by unfold signsV; rw [List.getElem?_map, hc']; rfl, ⟨t, rfl⟩⟩, fun h' st => st, by simp, fun b hb => .inl (by simpa using hb)⟩⟩
    · refine ⟨⟨[it], i, _, _, drw_end (S := fun h => h.IsStrIter it (strIterType x) x u i) (fun h st => let ⟨o, ho, _⟩ := st; ⟨o, ho⟩) (fun h h' st k => by obtain ⟨o, ho, r⟩ := st; exact ⟨o, k it (by simp) o ho, r⟩)
        (fun s Q E st hE => ?_), ⟨rfl, hi⟩, Nat.le_refl _, ⟨fun z => absurd z (Nat.lt_irrefl _), fun z => absurd z hlt⟩, fun x hx => hx.elim, fun h' st => by have := st.1; omega, by simp, fun b hb => .inl (by simpa using hb)⟩⟩
      have he : x.cps[i]? = none := by simp; omega
      unfold strIterType at st
      cases ha : Array.all x.cps (· < 128)
      · rw [ha] at st; exact wpAny_nextOf_wide_end hh st he hE
      · rw [ha] at st; exact wpAny_nextOf_ascii_end hh st he hE
/-- how it begins -/
theorem sc_begin (I : Inv X pns σ H s) {kd : Kd} {xs : List V} (h : ScK X.K H kd xs) : ∃ (o : Obj) (S : Heap → Prop), Begins kd.val o S ∧ S s.heap ∧ (∀ (hp : Heap) it, hp.get? it = some o → ItS kd it 0 hp) ∧ ∀ a ∈ kd.adr, a < s.heap.objs.size := by
  cases kd with
  | l a =>
    obtain ⟨its, rv, p, _⟩ := I.list h
    exact ⟨_, _, begins_list a its.toArray, p.isList, fun hp it e => ⟨_, e, rfl, rfl⟩, fun b hb => by
      have : b = a := by simpa [Kd.adr] using hb
      rw [this]; exact p.lt⟩
  | t a =>
    obtain ⟨its, rv, p, _⟩ := I.tuple h
    exact ⟨_, _, begins_tuple a its.toArray, p, fun hp it e => ⟨_, e, rfl, rfl⟩, fun b hb => by
      have : b = a := by simpa [Kd.adr] using hb
      obtain ⟨o, ho, _⟩ := id p
      rw [this]; exact Heap.lt_size ho⟩
  | s x u => exact ⟨_, _, begins_text x u, trivial, fun hp it e => ⟨_, e, rfl, rfl⟩, fun b hb => by simp [Kd.adr] at hb⟩
end

/-! ### what both have in common -/
section
variable {X : Cx} {pn : List (Addr × Obj)} {σ : L2.St} {H : Hp} {st : Shared}
/-- an object, no cell -/
def Thing (h : Heap) (b : Addr) : Prop := ∃ o, h.get? b = some o ∧ ∀ v, o.data ≠ .cell v
theorem Drw.rel {prog : Program} {w : World} {A : Around} {kd : Kd} {it : Addr} {xs : List V} {i : Nat} {h : Heap} (d : Drw prog w A kd it xs i h) {x : V} {u : Value} (ex : xs[i]? = some x) (pu : d.P i u) : RelV x u := by
  obtain ⟨y, ey, r⟩ := d.p u pu
  exact Option.some.inj (ey.symm.trans ex) ▸ r
theorem Drw.more {prog : Program} {w : World} {A : Around} {kd : Kd} {it : Addr} {xs : List V} {i : Nat} {h : Heap} (d : Drw prog w A kd it xs i h) {x : V} (ex : xs[i]? = some x) : i < d.n :=
  d.lt.mpr (List.getElem?_eq_some_iff.mp ex).1
/-- a turn that laid a pair behind all else, and changed nothing but the walk's own objects -/
theorem pair_turn {fp : List Addr} {h' : Heap} {tk : Nat} {x y : V} {u v : Value} (I : Inv X pn σ H st) (free : ∀ b ∈ fp, FpOk X pn H b) (things : ∀ b ∈ fp, Thing st.heap b)
    (kept : ∀ b o, b ∉ fp → st.heap.get? b = some o → h'.get? b = some o) (at_p : h'.get? st.heap.objs.size = some { cls := .type "tuple", data := .seq #[u, v] }) (ru : RelV x u) (rv : RelV y v) :
    Inv X pn σ (upd H st.heap.objs.size (.tup [x, y])) { st with heap := h', toks := tk } ∧ H st.heap.objs.size = none ∧ ∀ b ∈ fp, upd H st.heap.objs.size (.tup [x, y]) b = none := by
  have two : (2 : Nat) ≤ sizeLine := by decide
  have pair : IsTup h' st.heap.objs.size #[u, v] := ⟨_, at_p, rfl, _, rfl⟩
  have ok : ObjOk X.prog X.w (upd H st.heap.objs.size (.tup [x, y])) h' st.heap.objs.size (.tup [x, y]) := ⟨two, _, .cons ru (.cons rv .nil), pair⟩
  refine ⟨I.turnedNew (t' := tk) kept free (Nat.le_refl _) ok, I.fresh, fun b hb => ?_⟩
  obtain ⟨o, at_b, _⟩ := things b hb
  have ne : b ≠ st.heap.objs.size := fun z => Nat.lt_irrefl _ (z ▸ Heap.lt_size at_b)
  rw [upd_ne ne]
  exact (free b hb).1
end

/-! ### enumerate -/
set_option maxHeartbeats 900000 in
theorem enum_new {v : Value} {o : Obj} {H : Heap → Prop} (B : Begins v o H) :
    Meets (Builtin.«enumerate.__new__» ⟨[.type "enumerate", v], []⟩) (fun _ R s => H s.heap ∧
      R (.ok (.ret (.ref (s.heap.push o).objs.size))) { s with heap := (s.heap.push o).push { cls := .type "enumerate", data := .fields #[.none, .bool false, .ref s.heap.objs.size, rawInt 0, .none, .none] } }) := by
  refine .of_wp fun prog w A R st both => ?_
  rcases st with ⟨heap, gens, drawn, toks, os⟩
  rcases both with ⟨ok, post⟩
  have walk {A' : Around} {E Q : Value → Shared → Prop} (q : Q (.ref heap.objs.size) ⟨heap.push o, gens, drawn, toks, os⟩) : wpAny (model prog w) A' (pyIter v) Q E ⟨heap, gens, drawn, toks, os⟩ := B.iter prog w _ _ _ _ ok q
  have sub := sub_enumerate
  wp_walk
  apply wpAny_stack_any
  intro frames
  apply wpAny_pure
  split
  all_goals try (rename_i cls _ _ _ _ _; cases (cls == Value.type "enumerate"))
  all_goals (wp_walk using walk; exact ⟨_, rfl, post⟩)
/-- enumerate's own state: itself, and the walk below it -/
structure EState (kd : Kd) (e it : Addr) (i : Nat) (h : Heap) : Prop where
  own : ∃ old, IsEnum h e it ((i : Nat) : Int) old
  sub : ItS kd it i h
  ne : e ≠ it
theorem EState.things {kd : Kd} {e it : Addr} {i : Nat} {h : Heap} (q : EState kd e it i h) : ∀ b ∈ [e, it], Thing h b := by
  obtain ⟨old, at_e⟩ := q.own
  simp only [List.forall_mem_cons]
  exact ⟨⟨_, at_e, nofun⟩, q.sub.obj, nofun⟩
theorem EState.move {kd : Kd} {e it : Addr} {i : Nat} {h h' : Heap} (q : EState kd e it i h) (k : ∀ b ∈ [e, it], ∀ o, h.get? b = some o → h'.get? b = some o) : EState kd e it i h' := by
  simp only [List.forall_mem_cons] at k
  exact ⟨q.own.imp fun _ z => k.1 _ z, q.sub.at k.2.1, q.ne⟩
section
variable {prog : Program} {w : World} {A : Around} {E Q : Value → Shared → Prop} {s : Shared}
theorem enum_start {v : Value} {kd : Kd} {o : Obj} {S : Heap → Prop} (B : Begins v o S) (ok : S s.heap) (first : ∀ (hp : Heap) it, hp.get? it = some o → ItS kd it 0 hp)
    (q : ∀ h', EState kd (s.heap.objs.size + 1) s.heap.objs.size 0 h' → (∀ b o, s.heap.get? b = some o → h'.get? b = some o) → Q (.ref (s.heap.objs.size + 1)) { s with heap := h' }) :
    wpAny (model prog w) A (call (.type "enumerate") [v]) Q E s := by
  have z : (s.heap.push o).objs.size = s.heap.objs.size + 1 := Heap.size_push ..
  have body := enum_new B
  refine callType_new F.called_enumerate (by decide) (F.typeCall_enumerate_1 v) (F.newCall_enumerate_1 v) (fun x => F.args_object_init_2 x v) F.entry_enumerate_new body ⟨ok, ?_⟩
  have at_e := Heap.get?_push_size (s.heap.push o) (o := { cls := .type "enumerate", data := .fields #[.none, .bool false, .ref s.heap.objs.size, rawInt 0, .none, .none] }) rfl
  have keep : ∀ b u, (s.heap.push o).get? b = some u → ((s.heap.push o).push { cls := .type "enumerate", data := .fields #[.none, .bool false, .ref s.heap.objs.size, rawInt 0, .none, .none] }).get? b = some u := fun b u => Heap.get?_push_of_some _
  rw [z] at at_e
  have state : EState kd (s.heap.objs.size + 1) s.heap.objs.size 0 _ := ⟨⟨.none, at_e⟩, first _ _ (keep _ _ (Heap.get?_push_size _ B.free)), Nat.succ_ne_self _⟩
  rw [z]
  exact ⟨⟨_, at_e, rfl⟩, q _ state fun b u at_b => keep b u (Heap.get?_push_of_some _ at_b)⟩
end
def IteK (K : PySem.W.Frag) (kd : Kd) : L2.It :=
  ⟨fun i H => ∃ (xs : List V) (x : V), ScK K H kd xs ∧ xs[i]? = some x, fun i H v H' => ∃ T x, v = .ref T ∧ H T = none ∧ H' = upd H T (.tup [.int (i : Nat), x]) ∧ ∀ xs, ScK K H kd xs → xs[i]? = some x, fun i H => ∃ xs : List V, ScK K H kd xs ∧ xs.length ≤ i⟩
theorem turn_enumK {P : Program} {w : World} {K : PySem.W.Frag} {elts : List Expr} {kk : Nat} {tpos : Pos} (kd : Kd) (e it : Addr) (apart : ∀ a ∈ kd.adr, a ≠ e ∧ a ≠ it) :
    Turn P w K (.Tuple elts kk tpos) (IteK K kd) [e, it] e (EState kd e it) where
  mem := List.mem_cons_self
  obj := fun _ _ q => q.things
  keep := fun _ _ _ q => q.move
  self := fun _ _ _ _ _ q y => q.own.elim fun _ z => wpAny_pyIter_enum z y
  item := fun X eP ew eK calm i pn st σ H E I free q go => by
    cases eP; cases ew; cases eK
    obtain ⟨xs, x, sx, ex⟩ := go
    obtain ⟨old, at_e⟩ := q.own
    obtain ⟨d⟩ := drw_of calm I sx (fun a ha => (apart a ha).2) q.sub
    have out : e ∉ d.fp := fun z => (d.ad e z).elim q.ne fun y => (apart e y).1 rfl
    have far : ∀ b o, st.heap.get? b = some o → st.heap.objs.size ≠ b := fun b o z => Nat.ne_of_gt (Heap.lt_size z)
    refine wpAny_pyNext_enum_itemD d.D at_e d.st (d.more ex) q.ne out fun u h1 tk pu own1 sub1 new1 _ keep1 => ?_
    refine ⟨.ref _, rfl, wpAny_letOwnedTupleGo_enum (s := { st with heap := h1, toks := tk + 1 }) own1 fun h2 own2 same => ?_⟩
    have keep2 : ∀ b o, b ∉ [e, it] → st.heap.get? b = some o → h2.get? b = some o := fun b o nb z => by
      simp only [List.mem_cons, List.not_mem_nil, or_false, not_or] at nb
      exact (same.2 b nb.1).trans (keep1 b o nb.1 nb.2 z)
    obtain ⟨I2, new, free2⟩ := pair_turn (tk := tk + 1) (x := .int (i : Nat)) I free q.things keep2 ((same.2 _ (far _ _ at_e)).trans new1) ⟨tk, rfl⟩ (d.rel ex pu)
    have sub2 : ItS kd it (i + 1) h2 := (d.nx _ sub1).at fun o z => (same.2 it q.ne.symm).trans z
    refine ⟨.ref _, _, I2, rfl, ⟨_, x, rfl, new, rfl, fun ys sy => ?_⟩, ⟨⟨u, ?_⟩, sub2, q.ne⟩, free2⟩
    · rw [sy.inj I sx]; exact ex
    · have : ((i + 1 : Nat) : Int) = (i : Int) + 1 := by omega
      rw [this]; exact own2
  done := fun X eP ew eK calm i pn st σ H E I free q go => by
    cases eP; cases ew; cases eK
    obtain ⟨xs, sx, over⟩ := go
    obtain ⟨old, at_e⟩ := q.own
    obtain ⟨d⟩ := drw_of calm I sx (fun a ha => (apart a ha).2) q.sub
    have last : d.n = i := by
      have := d.le
      have := d.lt
      omega
    obtain ⟨a, b, _, c', e', f'⟩ := free it (by simp)
    refine wpAny_pyNext_enum_endD d.D at_e (by rw [last]; exact d.st) fun h' but => ⟨rfl, ?_⟩
    exact I.turned (t' := st.toks) (fun b o nb z => but b o nb z) a b c' e' f'
def iEnumK (K : PySem.W.Frag) (ta : TA) : TI := fun σ H R => ta σ H fun vs H1 => ∃ (v : V) (kd : Tok → Kd) (xs : List V), vs = [v] ∧ (∀ u, RelV v u → ∃ t, u = (kd t).val) ∧ (∀ t, ScK K H1 (kd t) xs) ∧ ∀ t, R (IteK K (kd t)) H1
theorem pi_enumK {X : Cx} {e : Expr} {ta : TA} {p pos tpos : Pos} {elts : List Expr} {kk : Nat} (hg : Gl X "enumerate") (hm : X.mg "enumerate" = none) (ha : PA X [e] ta)
    (one : starEach [e] X.env = [(false, eval e X.env)] := by rfl) :
    PI X (.Tuple elts kk tpos) (.Call (.Name "enumerate" p) [e] [] pos) (iEnumK X.K ta) where
  run := fun pn st σ H R I h => Call_ (ld_blt I hg hm boot_enumerate (PyProof.Rows.callWith_type1 (thn (ha.run pos pn st σ H _ I h) fun us st1 got => by
    obtain ⟨_, H1, I1, rel, v, kd, xs, rfl, isK, sx, q⟩ := got
    obtain ⟨u, rfl, ru⟩ := vals1 rel
    obtain ⟨t, rfl⟩ := isK u ru
    obtain ⟨o, S, B, ok, first, below⟩ := sc_begin I1 (sx t)
    refine enum_start B ok first fun h' state keep => wpAny_pyIter_enum state.own.choose_spec ?_
    have ge : ∀ b ∈ [st1.heap.objs.size + 1, st1.heap.objs.size], st1.heap.objs.size ≤ b := by simp
    refine ⟨_, _, _, _, H1, rfl, I1.kept (t' := st1.toks) keep, turn_enumK (kd t) _ _ fun a z => far2 (below a z), state, fun b hb => ?_, q t⟩
    exact I1.fpOk (ge b hb) (I1.hok.fresh (ge b hb))) one rfl))

/-! ### zip -/
def ItzK (K : PySem.W.Frag) (k1 k2 : Kd) : L2.It :=
  ⟨fun i H => ∃ (xs ys : List V) (x y : V), ScK K H k1 xs ∧ ScK K H k2 ys ∧ xs[i]? = some x ∧ ys[i]? = some y,
    fun i H v H' => ∃ T x y, v = .ref T ∧ H T = none ∧ H' = upd H T (.tup [x, y]) ∧ (∀ xs, ScK K H k1 xs → xs[i]? = some x) ∧ ∀ ys, ScK K H k2 ys → ys[i]? = some y,
    fun i H => ∃ xs ys : List V, ScK K H k1 xs ∧ ScK K H k2 ys ∧ (xs.length ≤ i ∨ ys.length ≤ i)⟩
/-- apart -/
structure ZAp (z TI TO i1 i2 : Addr) (k1 k2 : Kd) : Prop where
  nd : [z, TI, TO, i1, i2].Nodup
  a1 : ∀ a ∈ k1.adr, a ∉ [z, TI, TO, i1, i2]
  a2 : ∀ a ∈ k2.adr, a ∉ [z, TI, TO, i1, i2]
theorem ZAp.sep {z TI TO i1 i2 : Addr} {k1 k2 : Kd} (h : ZAp z TI TO i1 i2 k1 k2) {fp1 fp2 : List Addr} (m1 : i1 ∈ fp1) (m2 : i2 ∈ fp2) (h1 : ∀ b ∈ fp1, b = i1 ∨ b ∈ k1.adr) (h2 : ∀ b ∈ fp2, b = i2 ∨ b ∈ k2.adr) : ZipSep2 z TI TO i1 i2 fp1 fp2 := by
  obtain ⟨nd, a1, a2⟩ := h
  simp only [List.nodup_cons, List.mem_cons, List.not_mem_nil, or_false, not_or] at nd
  obtain ⟨⟨n1, n2, n3, n4⟩, ⟨n5, n6, n7⟩, ⟨n8, n9⟩, n10, _⟩ := nd
  have b1 : ∀ x, x ∈ [z, TI, TO, i1, i2] → x ≠ i1 → x ∉ fp1 := fun x hx hn hm => (h1 x hm).elim hn fun k => a1 x k hx
  have b2 : ∀ x, x ∈ [z, TI, TO, i1, i2] → x ≠ i2 → x ∉ fp2 := fun x hx hn hm => (h2 x hm).elim hn fun k => a2 x k hx
  exact ⟨fun q => n1 q.symm, fun q => n2 q.symm, n5, n6, m1, b1 z (by simp) n3, b1 TO (by simp) n8, n7, m2, b2 z (by simp) n4, b2 TO (by simp) n9, b2 i1 (by simp) n10, b1 i2 (by simp) (fun q => n10 q.symm)⟩
/-- zip's own state: its objects, and the two walks below it -/
structure ZState (k1 k2 : Kd) (z TI TO i1 i2 : Addr) (i : Nat) (h : Heap) : Prop where
  own : IsZip h z TI TO .none
  ins : IsTupOf2 h TI (.ref i1) (.ref i2)
  out : ∃ x y, IsTupOf2 h TO x y
  sub1 : ItS k1 i1 i h
  sub2 : ItS k2 i2 i h
section
variable {k1 k2 : Kd} {z TI TO i1 i2 : Addr} {i : Nat} {h h' : Heap}
theorem ZState.things (q : ZState k1 k2 z TI TO i1 i2 i h) : ∀ b ∈ [z, TI, TO, i1, i2], Thing h b := by
  obtain ⟨x, y, out⟩ := q.out
  simp only [List.forall_mem_cons]
  exact ⟨⟨_, q.own, nofun⟩, ⟨_, q.ins, nofun⟩, ⟨_, out, nofun⟩, q.sub1.obj, q.sub2.obj, nofun⟩
theorem ZState.move (q : ZState k1 k2 z TI TO i1 i2 i h) (k : ∀ b ∈ [z, TI, TO, i1, i2], ∀ o, h.get? b = some o → h'.get? b = some o) : ZState k1 k2 z TI TO i1 i2 i h' := by
  simp only [List.forall_mem_cons] at k
  obtain ⟨m1, m2, m3, m4, m5, _⟩ := k
  exact ⟨m1 _ q.own, m2 _ q.ins, q.out.imp fun _ y => y.imp fun _ y => m3 _ y, q.sub1.at m4, q.sub2.at m5⟩
end
theorem not5 {b z TI TO i1 i2 : Addr} (n : b ∉ [z, TI, TO, i1, i2]) : b ≠ z ∧ b ≠ TI ∧ b ≠ TO ∧ b ≠ i1 ∧ b ≠ i2 := by simpa using n
theorem turn_zipK {P : Program} {w : World} {K : PySem.W.Frag} {elts : List Expr} {kk : Nat} {tpos : Pos} {k1 k2 : Kd} {z TI TO i1 i2 : Addr} (D : ZAp z TI TO i1 i2 k1 k2) :
    Turn P w K (.Tuple elts kk tpos) (ItzK K k1 k2) [z, TI, TO, i1, i2] z (ZState k1 k2 z TI TO i1 i2) where
  mem := List.mem_cons_self
  obj := fun _ _ q => q.things
  keep := fun _ _ _ q => q.move
  self := fun _ _ _ _ _ q y => wpAny_pyIter_zip q.own y
  item := fun X eP ew eK calm i pn st σ H E I free q go => by
    cases eP; cases ew; cases eK
    obtain ⟨xs, ys, x, y, sx, sy, ex, ey⟩ := go
    obtain ⟨x0, y0, out⟩ := q.out
    obtain ⟨a⟩ := drw_of calm I sx (fun c hc => by rintro rfl; exact D.a1 _ hc (by simp)) q.sub1
    obtain ⟨b⟩ := drw_of calm I sy (fun c hc => by rintro rfl; exact D.a2 _ hc (by simp)) q.sub2
    have nd : (z ≠ TI ∧ z ≠ TO ∧ z ≠ i1 ∧ z ≠ i2) ∧ (TI ≠ TO ∧ TI ≠ i1 ∧ TI ≠ i2) ∧ (TO ≠ i1 ∧ TO ≠ i2) ∧ i1 ≠ i2 := by simpa using D.nd
    have far : st.heap.objs.size ≠ z := Nat.ne_of_gt (Heap.lt_size q.own)
    refine wpAny_pyNext_zipD2_item (D.sep a.mem b.mem a.ad b.ad) a.D b.D q.own q.ins out a.st b.st (a.more ex) (b.more ey) fun u v h1 tk pu pv own1 out1 l1 r1 new1 _ keep1 => ?_
    refine ⟨.ref _, rfl, wpAny_letOwnedTupleGo_zip (s := { st with heap := h1, toks := tk }) own1 fun h2 own2 same => ?_⟩
    have keep2 : ∀ c o, c ∉ [z, TI, TO, i1, i2] → st.heap.get? c = some o → h2.get? c = some o := fun c o nc e => by
      obtain ⟨n1, _, n3, n4, n5⟩ := not5 nc
      rw [same.2 c n1]
      exact keep1 c o n1 n3 n4 n5 e
    obtain ⟨I2, new, free2⟩ := pair_turn (tk := tk) I free q.things keep2 ((same.2 _ far).trans new1) (a.rel ex pu) (b.rel ey pv)
    have state : ZState k1 k2 z TI TO i1 i2 (i + 1) h2 := by
      refine ⟨own2, ?_, ⟨u, v, ?_⟩, (a.nx _ l1).at fun o e => ?_, (b.nx _ r1).at fun o e => ?_⟩
      · exact (same.2 TI nd.1.1.symm).trans (keep1 TI _ nd.1.1.symm nd.2.1.1 nd.2.1.2.1 nd.2.1.2.2 q.ins)
      · exact (same.2 TO nd.1.2.1.symm).trans out1
      · exact (same.2 i1 nd.1.2.2.1.symm).trans e
      · exact (same.2 i2 nd.1.2.2.2.symm).trans e
    exact ⟨.ref _, _, I2, rfl, ⟨_, x, y, rfl, new, rfl, fun l e => (e.inj I sx) ▸ ex, fun l e => (e.inj I sy) ▸ ey⟩, state, free2⟩
  done := fun X eP ew eK calm i pn st σ H E I free q go => by
    cases eP; cases ew; cases eK
    obtain ⟨xs, ys, sx, sy, over⟩ := go
    obtain ⟨x0, y0, out⟩ := q.out
    obtain ⟨a⟩ := drw_of calm I sx (fun c hc => by rintro rfl; exact D.a1 _ hc (by simp)) q.sub1
    obtain ⟨b⟩ := drw_of calm I sy (fun c hc => by rintro rfl; exact D.a2 _ hc (by simp)) q.sub2
    have last : i = a.n ∨ i = b.n := by
      have := a.le
      have := b.le
      have := a.lt
      have := b.lt
      omega
    refine wpAny_pyNext_zipD2_end (D.sep a.mem b.mem a.ad b.ad) a.D b.D q.own q.ins out a.st b.st a.le b.le last fun h' tk keep => ⟨rfl, I.turnedL (t' := tk) (ch := [z, TI, TO, i1, i2]) (fun c o nc e => ?_) free⟩
    obtain ⟨n1, _, n3, n4, n5⟩ := not5 nc
    exact keep c o n1 n3 n4 n5 e
def iZipK (K : PySem.W.Frag) (ta : TA) : TI := fun σ H R => ta σ H fun vs H1 => ∃ (v v2 : V) (k1 k2 : Tok → Kd) (xs ys : List V), vs = [v, v2] ∧ (∀ u, RelV v u → ∃ t, u = (k1 t).val) ∧ (∀ u, RelV v2 u → ∃ t, u = (k2 t).val) ∧ (∀ t, ScK K H1 (k1 t) xs) ∧ (∀ t, ScK K H1 (k2 t) ys) ∧ ∀ t t', R (ItzK K (k1 t) (k2 t')) H1
theorem pi_zipK {X : Cx} {e e2 : Expr} {ta : TA} {p pos tpos : Pos} {elts : List Expr} {kk : Nat} (hg : Gl X "zip") (hm : X.mg "zip" = none) (ha : PA X [e, e2] ta)
    (two : starEach [e, e2] X.env = (false, eval e X.env) :: starEach [e2] X.env := by rfl) (pl : (backTo pos (starEach [e2] X.env)).any (·.1) = false := by rfl) :
    PI X (.Tuple elts kk tpos) (.Call (.Name "zip" p) [e, e2] [] pos) (iZipK X.K ta) where
  run := fun pn st σ H R I h => Call_ (ld_blt I hg hm PyProof.Rows.boot_zip (PyProof.Rows.callWith_type1 (thn (ha.run pos pn st σ H _ I h) fun us st1 got => by
    obtain ⟨_, H1, I1, rel, v, v2, k1, k2, xs, ys, rfl, isK, isK2, sx, sy, q⟩ := got
    obtain ⟨u, us', ru, rest, rfl⟩ : ∃ u us', RelV v u ∧ Vals [v2] us' ∧ us = u :: us' := by cases rel with | cons r rr => exact ⟨_, _, r, rr, rfl⟩
    obtain ⟨u2, rfl, ru2⟩ := vals1 rest
    obtain ⟨t, rfl⟩ := isK u ru
    obtain ⟨t', rfl⟩ := isK2 u2 ru2
    obtain ⟨o1, S1, B1, ok1, first1, below1⟩ := sc_begin I1 (sx t)
    obtain ⟨o2, S2, B2, ok2, first2, below2⟩ := sc_begin I1 (sy t')
    refine zip_begins2 B1 B2 ok1 ok2 fun h' own ins out at1 at2 _ keep => wpAny_pyIter_zip own ?_
    have state : ZState (k1 t) (k2 t') _ _ _ _ _ 0 h' := ⟨own, ins, ⟨_, _, out⟩, first1 _ _ at1, first2 _ _ at2⟩
    have apart : ZAp (st1.heap.objs.size + 4) (st1.heap.objs.size + 2) (st1.heap.objs.size + 3) st1.heap.objs.size (st1.heap.objs.size + 1) (k1 t) (k2 t') := ⟨by simp, fun a z => far5 (below1 a z), fun a z => far5 (below2 a z)⟩
    refine ⟨_, _, _, _, H1, rfl, I1.kept (t' := st1.toks) keep, turn_zipK apart, state, fun b hb => ?_, q t t'⟩
    exact I1.fpOk (in5 hb) (I1.hok.fresh (in5 hb))) two pl))
end Fx

set_option Elab.async false
set_option linter.all false
set_option maxRecDepth 100000
/-! Fx13: walks. -/
namespace Fx
open L2 PyProof.Rows PySem PySem.Spec
open RZ (ItzT iZipA)

section
variable {K : PySem.W.Frag} {A : RdA} {S : Hp → Prop} {H : Hp}
theorem rp_same {d : D} {x : V} (h : Rp K A d x) (H H' : Hp) : Rp K (Gr A H H') d x := Rp.mono (fun _ _ k => .inl k) _ _ h
theorem yl_list {a : Addr} {xs : List V} {ds : List D} (hS : ∀ H, S H → SqL K H a xs) (hr : RpL K A ds xs) : Yl K A S (Itl K a) ds where
  go := fun i H s hi => ⟨xs, xs[i]'(by rw [hr.length]; exact hi), hS H s, List.getElem?_eq_getElem _⟩
  yld := fun i H x H' d s hd hy => by
    obtain ⟨rfl, hx⟩ := hy
    have e := hx xs (hS H' s)
    obtain ⟨d', e', rp⟩ := hr.getV e
    rw [hd] at e'
    cases e'
    exact ⟨Same.refl _, rp_same rp _ _⟩
  stop := fun i H s hi => ⟨xs, hS H s, by rw [hr.length]; exact hi⟩
theorem yl_tup {a : Addr} {xs : List V} {ds : List D} (hS : ∀ H, S H → SqT K H a xs) (hr : RpL K A ds xs) : Yl K A S (Itt K a) ds where
  go := fun i H s hi => ⟨xs, xs[i]'(by rw [hr.length]; exact hi), hS H s, List.getElem?_eq_getElem _⟩
  yld := fun i H x H' d s hd hy => by
    obtain ⟨rfl, hx⟩ := hy
    have e := hx xs (hS H' s)
    obtain ⟨d', e', rp⟩ := hr.getV e
    rw [hd] at e'
    cases e'
    exact ⟨Same.refl _, rp_same rp _ _⟩
  stop := fun i H s hi => ⟨xs, hS H s, by rw [hr.length]; exact hi⟩
theorem yl_str {s : List Nat} : Yl K A S (Its (mkS s)) (s.map fun c => .str [c]) where
  go := fun i H _ hi => by
    show i < s.toArray.size
    simpa using hi
  yld := fun i H x H' d _ hd hy => by
    obtain ⟨rfl, c, hc, rfl⟩ := hy
    rw [List.getElem?_map] at hd
    have hc' : s[i]? = some c := by simpa [mkS] using hc
    rw [hc'] at hd
    cases hd
    exact ⟨Same.refl _, by simp [Rp, mkS]⟩
  stop := fun i H _ hi => by
    show s.toArray.size ≤ i
    simpa using hi
theorem range_get {lo st : Int} {n i : Nat} {d : D} (h : (rangeL lo n st)[i]? = some d) : d = .int (lo + (i : Int) * st) := by
  unfold rangeL at h
  rw [List.getElem?_map] at h
  cases e : (List.range n)[i]? with
  | none => (rw [e] at h; cases h)
  | some j =>
    rw [e] at h
    cases h
    obtain ⟨h1, h2⟩ := List.getElem?_eq_some_iff.mp e
    rw [List.getElem_range] at h2
    subst h2
    rfl
theorem range_len {lo st : Int} {n : Nat} : (rangeL lo n st).length = n := by simp [rangeL]
theorem yl_range {lo : Int} {n : Nat} : Yl K A S (Itr lo n) (rangeL lo n 1) where
  go := fun i H _ hi => by rw [range_len] at hi; exact hi
  yld := fun i H x H' d _ hd hy => by
    obtain ⟨rfl, rfl⟩ := hy
    rw [range_get hd]
    exact ⟨Same.refl _, by simp [Rp]⟩
  stop := fun i H _ hi => by rw [range_len] at hi; exact hi
theorem yl_rangeC {lo c : Int} {n : Nat} : Yl K A S (Itc lo c n) (rangeL lo n c) where
  go := fun i H _ hi => by rw [range_len] at hi; exact hi
  yld := fun i H x H' d _ hd hy => by
    obtain ⟨rfl, rfl⟩ := hy
    rw [range_get hd]
    exact ⟨Same.refl _, by simp [Rp]⟩
  stop := fun i H _ hi => by rw [range_len] at hi; exact hi
theorem enum_len : ∀ (ds : List D) (n : Nat), (enumL n ds).length = ds.length
  | [], _ => rfl
  | d :: ds, n => by simp [enumL, enum_len ds]
theorem enum_get : ∀ {ds : List D} {n i : Nat} {d : D}, (enumL n ds)[i]? = some d → ∃ y, ds[i]? = some y ∧ d = .tup [.int ((n + i : Nat) : Int), y]
  | [], n, i, d, h => by simp [enumL] at h
  | y :: ds, n, 0, d, h => by simp [enumL] at h; exact ⟨y, by simp, by rw [← h]; rfl⟩
  | y :: ds, n, i + 1, d, h => by
    obtain ⟨z, h1, h2⟩ := enum_get (ds := ds) (n := n + 1) (i := i) (d := d) (by simpa [enumL] using h)
    exact ⟨z, by simpa using h1, by rw [h2]; congr 3; omega⟩
theorem rp_pair {H : Hp} {T : Addr} {x y : V} {d e : D} (hT : H T = none) (hx : Rp K A d x) (hy : Rp K A e y) :
    Same H (upd H T (.tup [x, y])) ∧ Rp K (Gr A H (upd H T (.tup [x, y]))) (.tup [d, e]) (.ref T) := by
  refine ⟨same_new hT, ?_⟩
  simp only [Rp]
  exact ⟨T, [x, y], rfl, .inl (.inr ⟨hT, .inl upd_same⟩), .cons (rp_same hx _ _) (.cons (rp_same hy _ _) .nil)⟩
theorem yl_enum {a : Addr} {xs : List V} {ds : List D} (hS : ∀ H, S H → SqL K H a xs) (hr : RpL K A ds xs) : Yl K A S (Ite K a) (enumL 0 ds) where
  go := fun i H s hi => ⟨xs, xs[i]'(by rw [hr.length]; rwa [enum_len] at hi), hS H s, List.getElem?_eq_getElem _⟩
  yld := fun i H x H' d s hd hy => by
    obtain ⟨T, y, rfl, hT, rfl, hx⟩ := hy
    have e := hx xs (hS H s)
    obtain ⟨d', e', rp⟩ := hr.getV e
    obtain ⟨z, h1, rfl⟩ := enum_get hd
    rw [h1] at e'
    cases e'
    exact rp_pair hT (by simp [Rp]) rp
  stop := fun i H s hi => ⟨xs, hS H s, by rw [hr.length]; rwa [enum_len] at hi⟩
theorem zip_len : ∀ (ds es : List D), (zipL ds es).length = min ds.length es.length
  | [], es => by cases es <;> simp [zipL]
  | d :: ds, [] => by simp [zipL]
  | d :: ds, e :: es => by simp [zipL, zip_len ds es]
theorem zip_get : ∀ {ds es : List D} {i : Nat} {d : D}, (zipL ds es)[i]? = some d → ∃ x y, ds[i]? = some x ∧ es[i]? = some y ∧ d = .tup [x, y]
  | [], es, i, d, h => by cases es <;> simp [zipL] at h
  | x :: ds, [], i, d, h => by simp [zipL] at h
  | x :: ds, y :: es, 0, d, h => by simp [zipL] at h; exact ⟨x, y, by simp, by simp, h.symm⟩
  | x :: ds, y :: es, i + 1, d, h => by
    obtain ⟨a, b, h1, h2, h3⟩ := zip_get (ds := ds) (es := es) (i := i) (d := d) (by simpa [zipL] using h)
    exact ⟨a, b, by simpa using h1, by simpa using h2, h3⟩
theorem yl_zip {a b : Addr} {xs ys : List V} {ds es : List D} (hS : ∀ H, S H → SqL K H a xs) (hS' : ∀ H, S H → SqL K H b ys) (hr : RpL K A ds xs) (hr' : RpL K A es ys) :
    Yl K A S (Itz K a b) (zipL ds es) where
  go := fun i H s hi => by
    rw [zip_len] at hi
    exact ⟨xs, ys, xs[i]'(by rw [hr.length]; omega), ys[i]'(by rw [hr'.length]; omega), hS H s, hS' H s, List.getElem?_eq_getElem _, List.getElem?_eq_getElem _⟩
  yld := fun i H x H' d s hd hy => by
    obtain ⟨T, y, z, rfl, hT, rfl, hx, hx'⟩ := hy
    obtain ⟨d1, e1, rp⟩ := hr.getV (hx xs (hS H s))
    obtain ⟨d2, e2, rp'⟩ := hr'.getV (hx' ys (hS' H s))
    obtain ⟨z1, z2, h1, h2, rfl⟩ := zip_get hd
    rw [h1] at e1
    rw [h2] at e2
    cases e1
    cases e2
    exact rp_pair hT rp rp'
  stop := fun i H s hi => by
    rw [zip_len] at hi
    exact ⟨xs, ys, hS H s, hS' H s, by rw [hr.length, hr'.length]; omega⟩
theorem yl_zipT {a b : Addr} {xs ys : List V} {ds es : List D} (hS : ∀ H, S H → SqT K H a xs) (hS' : ∀ H, S H → SqT K H b ys) (hr : RpL K A ds xs) (hr' : RpL K A es ys) :
    Yl K A S (ItzT K a b) (zipL ds es) where
  go := fun i H s hi => by
    rw [zip_len] at hi
    exact ⟨xs, ys, xs[i]'(by rw [hr.length]; omega), ys[i]'(by rw [hr'.length]; omega), hS H s, hS' H s, List.getElem?_eq_getElem _, List.getElem?_eq_getElem _⟩
  yld := fun i H x H' d s hd hy => by
    obtain ⟨T, y, z, rfl, hT, rfl, hx, hx'⟩ := hy
    obtain ⟨d1, e1, rp⟩ := hr.getV (hx xs (hS H s))
    obtain ⟨d2, e2, rp'⟩ := hr'.getV (hx' ys (hS' H s))
    obtain ⟨z1, z2, h1, h2, rfl⟩ := zip_get hd
    rw [h1] at e1
    rw [h2] at e2
    cases e1
    cases e2
    exact rp_pair hT rp rp'
  stop := fun i H s hi => by
    rw [zip_len] at hi
    exact ⟨xs, ys, hS H s, hS' H s, by rw [hr.length, hr'.length]; omega⟩
end

section
variable {K : PySem.W.Frag} {σ : L2.St} {H : Hp} {R : L2.It → Hp → Prop}
theorem kp_rd {O : Addr → Prop} {env : Cells} {H H' : Hp} {a : Addr} {u : HO} (h : Av O env σ H a u) (k : Kp env σ H H') : Rd H' a u := by
  obtain ⟨h1, _, h3⟩ := h
  rcases h3 with h3 | ⟨od, h3⟩
  · exact .inl (k a _ h3 h1)
  · exact .inr ⟨od, k a _ h3 h1⟩
theorem kp_sql {O : Addr → Prop} {env : Cells} {H H' : Hp} {a : Addr} {xs : List V} (h : LsA K (Av O env σ H) a xs) (k : Kp env σ H H') : SqL K H' a xs :=
  LsH.seq (h.imp (kp_rd · k) id)
theorem kp_sqt {O : Addr → Prop} {env : Cells} {H H' : Hp} {a : Addr} {xs : List V} (h : SqTA K (Av O env σ H) a xs) (k : Kp env σ H H') : SqT K H' a xs := h.imp (kp_rd · k) id
/-- what a thing is walked as -/
def iAny (K : PySem.W.Frag) (te : TE) : TI := fun σ H R => iList K te σ H R ∨ iTup K te σ H R ∨ iStr te σ H R
theorem pi_any {X : Cx} {tg e : Expr} {te : TE} (he : PE X e te) : PI X tg e (iAny X.K te) where
  run := fun pns s σ H R I h => by
    rcases h with h | h | h
    · exact (pi_list he).run pns s σ H R I h
    · exact (pi_tup he).run pns s σ H R I h
    · exact (pi_str he).run pns s σ H R I h
theorem tI_any {f : Cells → Res Fx.R} (h : tI K (doIt1 itemsOf f) σ H R) : iAny K (tE K f) σ H R := by
  obtain ⟨O, env, rel, ds, env', e, q⟩ := h
  obtain ⟨x, env1, e1, e⟩ := Res.bind_ok e
  cases g : frz env1 x with
  | none => rw [g] at e; cases e
  | some p =>
    obtain ⟨d, env2⟩ := p
    rw [g] at e
    obtain ⟨e2, e3⟩ := ofO_ok e
    subst e3
    have fin : ∀ v H1, Rel K (un O (nw x v)) env1 σ H1 → Step env σ H env1 σ H1 → RR K (un O (nw x v)) env1 σ H H1 x v →
        Rel K O env' σ H1 ∧ Step env σ H env' σ H1 ∧ Rp K (Av O env' σ H1) d v := fun v H1 r1 s1 rr => by
      obtain ⟨r2, s2, rp⟩ := frz_ok r1 (hs1_of rel rr) rr g
      exact ⟨r2, s1.trans s2, rp⟩
    cases d with
    | lst xs =>
      cases e2
      refine .inl ⟨O, env, rel, x, env1, e1, fun v H1 r1 s1 rr => ?_⟩
      obtain ⟨r2, s2, rp⟩ := fin v H1 r1 s1 rr
      simp only [Rp] at rp
      obtain ⟨a, ys, rfl, ha, hr⟩ := rp
      exact ⟨a, rfl, ⟨ys, (ha.heap fun _ _ k => k.2.2).seq⟩, q _ H1 r2 s2 (yl_list (fun H' k => kp_sql ha k) hr)⟩
    | tup xs =>
      cases e2
      refine .inr (.inl ⟨O, env, rel, x, env1, e1, fun v H1 r1 s1 rr => ?_⟩)
      obtain ⟨r2, s2, rp⟩ := fin v H1 r1 s1 rr
      simp only [Rp] at rp
      obtain ⟨a, ys, rfl, ha, hr⟩ := rp
      exact ⟨a, rfl, ⟨ys, ha.seq fun _ _ k => k.2.2⟩, q _ H1 r2 s2 (yl_tup (fun H' k => kp_sqt ha k) hr)⟩
    | str s =>
      cases e2
      refine .inr (.inr ⟨O, env, rel, x, env1, e1, fun v H1 r1 s1 rr => ?_⟩)
      obtain ⟨r2, s2, rp⟩ := fin v H1 r1 s1 rr
      simp only [Rp] at rp
      exact ⟨mkS s, rp, q _ H1 r2 s2 yl_str⟩
    | _ => cases e2
/-- range -/
theorem lim62 {i : Int} (h : i.natAbs ≤ lim) : -(2 ^ 62) ≤ i ∧ i < 2 ^ 62 := by
  have : lim < 2 ^ 62 := by decide
  omega
theorem args1 {K : PySem.W.Frag} {A : RdA} {H : Hp} {ds : List D} {vs : List V} {n : Int} (h : ViewL K A H ds vs) (e : ds = [.int n]) : vs = [.int n] := by
  subst e
  simpa [ViewL, View] using h
theorem tI_range1 {f : Cells → Res (List Fx.R)} (h1 : ∀ env rs env', f env = .ok rs env' → rs.length = 1) (h : tI K (doRange f) σ H R) : iRng1 (tA K f) σ H R := by
  obtain ⟨O, env, rel, ds, env', e, q⟩ := h
  obtain ⟨rs, env1, e1, e⟩ := Res.bind_ok e
  refine ⟨O, env, rel, rs, env1, e1, fun vs H1 r1 s1 rr ap => ?_⟩
  cases g : gets env1 rs with
  | none => rw [g] at e; cases e
  | some xs =>
    rw [g] at e
    obtain ⟨e2, e3⟩ := ofO_ok e
    subst e3
    have vw := rr.views r1 g
    have hl : xs.length = 1 := by rw [← vw.length, rr.length, h1 _ _ _ e1]
    match xs, hl with
    | [x], _ =>
      cases x with
      | int n =>
        simp only [rangeD] at e2
        split at e2
        · rename_i hn
          cases e2
          have ev : vs = [.int n] := by simpa [ViewL, View] using vw
          exact ⟨n, ev, (lim62 hn).1, (lim62 hn).2, q _ H1 (r1.less fun a z => .inl z) s1 yl_range⟩
        · cases e2
      | _ => cases e2
theorem tI_range2 {f : Cells → Res (List Fx.R)} (h1 : ∀ env rs env', f env = .ok rs env' → rs.length = 2) (h : tI K (doRange f) σ H R) : iRng2 (tA K f) σ H R := by
  obtain ⟨O, env, rel, ds, env', e, q⟩ := h
  obtain ⟨rs, env1, e1, e⟩ := Res.bind_ok e
  refine ⟨O, env, rel, rs, env1, e1, fun vs H1 r1 s1 rr ap => ?_⟩
  cases g : gets env1 rs with
  | none => rw [g] at e; cases e
  | some xs =>
    rw [g] at e
    obtain ⟨e2, e3⟩ := ofO_ok e
    subst e3
    have vw := rr.views r1 g
    have hl : xs.length = 2 := by rw [← vw.length, rr.length, h1 _ _ _ e1]
    match xs, hl with
    | [x, y], _ =>
      cases x with
      | int n =>
        cases y with
        | int m =>
          simp only [rangeD] at e2
          split at e2
          · rename_i hn
            cases e2
            have ev : vs = [.int n, .int m] := by
              simp only [ViewL, View] at vw
              obtain ⟨x, r, rfl, rfl, y, r', rfl, rfl, rfl⟩ := vw
              rfl
            exact ⟨n, m, ev, ⟨(lim62 hn.1).1, (lim62 hn.1).2, (lim62 hn.2).1, (lim62 hn.2).2⟩, q _ H1 (r1.less fun a z => .inl z) s1 yl_range⟩
          · cases e2
        | _ => cases e2
      | _ => cases e2
theorem tI_range3 {f : Cells → Res (List Fx.R)} (h1 : ∀ env rs env', f env = .ok rs env' → rs.length = 3) (h : tI K (doRange f) σ H R) : iRng3 (tA K f) σ H R := by
  obtain ⟨O, env, rel, ds, env', e, q⟩ := h
  obtain ⟨rs, env1, e1, e⟩ := Res.bind_ok e
  refine ⟨O, env, rel, rs, env1, e1, fun vs H1 r1 s1 rr ap => ?_⟩
  cases g : gets env1 rs with
  | none => rw [g] at e; cases e
  | some xs =>
    rw [g] at e
    obtain ⟨e2, e3⟩ := ofO_ok e
    subst e3
    have vw := rr.views r1 g
    have hl : xs.length = 3 := by rw [← vw.length, rr.length, h1 _ _ _ e1]
    match xs, hl with
    | [x, y, z], _ =>
      cases x with
      | int n =>
        cases y with
        | int m =>
          cases z with
          | int c =>
            simp only [rangeD] at e2
            split at e2
            · rename_i hn
              cases e2
              obtain ⟨hn1, hn2, rfl⟩ := hn
              have ev : vs = [.int n, .int m, .int (-1)] := by
                simp only [ViewL, View] at vw
                obtain ⟨x, r, rfl, rfl, y, r', rfl, rfl, z, r'', rfl, rfl, rfl⟩ := vw
                rfl
              exact ⟨n, m, -1, _, ev, RgC.neg (lim62 hn1).1 (lim62 hn1).2 (lim62 hn2).1 (lim62 hn2).2, q _ H1 (r1.less fun a z => .inl z) s1 yl_rangeC⟩
            · cases e2
          | _ => cases e2
        | _ => cases e2
      | _ => cases e2
/-- enumerate, zip -/
theorem signs_rp {A : RdA} {s : List Nat} : RpL K A (s.map fun c => .str [c]) (signsV (mkS s)) := by
  have e : signsV (mkS s) = s.map fun c => V.str (mkS [c]) := by simp [signsV, mkS]
  rw [e]
  induction s with
  | nil => exact RpL.nil
  | cons c r ih =>
    simp only [List.map_cons]
    exact RpL.cons (by simp [Rp]) (ih (by simp [signsV, mkS]))
theorem sc_of {O : Addr → Prop} {env : Cells} {d : D} {v : V} {ds : List D} (hi : itemsOf d = some ds) (rp : Rp K (Av O env σ H) d v) :
    ∃ (kd : Tok → Kd) (xs : List V), (∀ u, RelV v u → ∃ t, u = (kd t).val) ∧ RpL K (Av O env σ H) ds xs ∧ ∀ H' t, Kp env σ H H' → ScK K H' (kd t) xs := by
  cases d with
  | lst xs =>
    cases hi
    simp only [Rp] at rp
    obtain ⟨a, ys, rfl, ha, hr⟩ := rp
    exact ⟨fun _ => .l a, ys, fun u r => ⟨0, r⟩, hr, fun H' t k => kp_sql ha k⟩
  | tup xs =>
    cases hi
    simp only [Rp] at rp
    obtain ⟨a, ys, rfl, ha, hr⟩ := rp
    exact ⟨fun _ => .t a, ys, fun u r => ⟨0, r⟩, hr, fun H' t k => kp_sqt ha k⟩
  | str s =>
    cases hi
    simp only [Rp] at rp
    subst rp
    exact ⟨fun t => .s (mkS s) t, signsV (mkS s), fun u r => r, signs_rp, fun H' t k => rfl⟩
  | _ => cases hi
theorem yl_enumK {A : RdA} {S : Hp → Prop} {kd : Kd} {xs : List V} {ds : List D} (hS : ∀ H, S H → ScK K H kd xs) (hr : RpL K A ds xs) : Yl K A S (IteK K kd) (enumL 0 ds) where
  go := fun i H s hi => ⟨xs, xs[i]'(by rw [hr.length]; rwa [enum_len] at hi), hS H s, List.getElem?_eq_getElem _⟩
  yld := fun i H x H' d s hd hy => by
    obtain ⟨T, y, rfl, hT, rfl, hx⟩ := hy
    have e := hx xs (hS H s)
    obtain ⟨d', e', rp⟩ := hr.getV e
    obtain ⟨z, h1, rfl⟩ := enum_get hd
    rw [h1] at e'
    cases e'
    exact rp_pair hT (by simp [Rp]) rp
  stop := fun i H s hi => ⟨xs, hS H s, by rw [hr.length]; rwa [enum_len] at hi⟩
theorem yl_zipK {A : RdA} {S : Hp → Prop} {k1 k2 : Kd} {xs ys : List V} {ds es : List D} (hS : ∀ H, S H → ScK K H k1 xs) (hS' : ∀ H, S H → ScK K H k2 ys) (hr : RpL K A ds xs) (hr' : RpL K A es ys) :
    Yl K A S (ItzK K k1 k2) (zipL ds es) where
  go := fun i H s hi => by
    rw [zip_len] at hi
    exact ⟨xs, ys, xs[i]'(by rw [hr.length]; omega), ys[i]'(by rw [hr'.length]; omega), hS H s, hS' H s, List.getElem?_eq_getElem _, List.getElem?_eq_getElem _⟩
  yld := fun i H x H' d s hd hy => by
    obtain ⟨T, y, z, rfl, hT, rfl, hx, hx'⟩ := hy
    obtain ⟨d1, e1, rp⟩ := hr.getV (hx xs (hS H s))
    obtain ⟨d2, e2, rp'⟩ := hr'.getV (hx' ys (hS' H s))
    obtain ⟨z1, z2, h1, h2, rfl⟩ := zip_get hd
    rw [h1] at e1
    rw [h2] at e2
    cases e1
    cases e2
    exact rp_pair hT rp rp'
  stop := fun i H s hi => by
    rw [zip_len] at hi
    exact ⟨xs, ys, hS H s, hS' H s, by rw [hr.length, hr'.length]; omega⟩
theorem enum_arg {xs ds : List D} (h : enumD xs = some ds) : ∃ x ys, xs = [x] ∧ itemsOf x = some ys ∧ ds = enumL 0 ys := by
  unfold enumD at h
  split at h
  · rename_i x
    cases e : itemsOf x with
    | none => (rw [e] at h; cases h)
    | some ys => rw [e] at h; cases h; exact ⟨_, ys, rfl, e, rfl⟩
  · cases h
theorem zip_arg {xs ds : List D} (h : zipD xs = some ds) : ∃ x y ys zs, xs = [x, y] ∧ itemsOf x = some ys ∧ itemsOf y = some zs ∧ ds = zipL ys zs := by
  unfold zipD at h
  split at h
  · rename_i x y
    cases e : itemsOf x with
    | none => (rw [e] at h; cases h)
    | some ys =>
      cases e2 : itemsOf y with
      | none => rw [e, e2] at h; cases h
      | some zs => rw [e, e2] at h; cases h; exact ⟨_, _, ys, zs, rfl, e, e2, rfl⟩
  · cases h
theorem tI_enum {f : Cells → Res (List Fx.R)} (h : tI K (doItN enumD f) σ H R) : iEnumK K (tA K f) σ H R := by
  obtain ⟨O, env, rel, ds, env', e, q⟩ := h
  obtain ⟨rs, env1, e1, e⟩ := Res.bind_ok e
  refine ⟨O, env, rel, rs, env1, e1, fun vs H1 r1 s1 rr ap => ?_⟩
  cases g : frzs env1 rs with
  | none => rw [g] at e; cases e
  | some p =>
    obtain ⟨xs, env2⟩ := p
    rw [g] at e
    obtain ⟨e2, e3⟩ := ofO_ok e
    subst e3
    obtain ⟨x, ys, rfl, hi, rfl⟩ := enum_arg e2
    obtain ⟨r2, s2, rp⟩ := frzs_ok r1 (hs_of rel rr) ap rr g
    simp only [RpL] at rp
    obtain ⟨v, r, rfl, rp, rfl⟩ := rp
    obtain ⟨kd, zs, k1, hr, hS⟩ := sc_of hi rp
    exact ⟨v, kd, zs, rfl, k1, fun t => hS H1 t (fun _ _ e _ => e), fun t => q _ H1 r2 (s1.trans s2) (yl_enumK (fun H' k => hS H' t k) hr)⟩
theorem tI_zip {f : Cells → Res (List Fx.R)} (h : tI K (doItN zipD f) σ H R) : iZipK K (tA K f) σ H R := by
  obtain ⟨O, env, rel, ds, env', e, q⟩ := h
  obtain ⟨rs, env1, e1, e⟩ := Res.bind_ok e
  refine ⟨O, env, rel, rs, env1, e1, fun vs H1 r1 s1 rr ap => ?_⟩
  cases g : frzs env1 rs with
  | none => rw [g] at e; cases e
  | some p =>
    obtain ⟨xs, env2⟩ := p
    rw [g] at e
    obtain ⟨e2, e3⟩ := ofO_ok e
    subst e3
    obtain ⟨r2, s2, rp⟩ := frzs_ok r1 (hs_of rel rr) ap rr g
    obtain ⟨x, y, ys, zs, rfl, hi, hi2, rfl⟩ := zip_arg e2
    simp only [RpL] at rp
    obtain ⟨v, r, rfl, rp, v2, r', rfl, rp2, rfl⟩ := rp
    obtain ⟨kd, us, k1, hr, hS⟩ := sc_of hi rp
    obtain ⟨kd2, ws, k2, hr2, hS2⟩ := sc_of hi2 rp2
    exact ⟨v, v2, kd, kd2, us, ws, rfl, k1, k2, fun t => hS H1 t (fun _ _ e _ => e), fun t => hS2 H1 t (fun _ _ e _ => e), fun t t' => q _ H1 r2 (s1.trans s2) (yl_zipK (fun H' k => hS H' t k) (fun H' k => hS2 H' t' k) hr hr2)⟩
end
end Fx

set_option Elab.async false
set_option linter.all false
set_option maxRecDepth 100000
/-! Fx14: list comprehensions. -/
namespace Fx
open L2 PyProof.Rows PySem PySem.Spec

section
variable {K : PySem.W.Frag} {O : Addr → Prop} {env env0 env1 env2 env' : Cells} {σ σ0 σ1 σ2 σ' : L2.St} {H H0 H1 H2 H' : Hp}
/-! ### forgotten slots -/
theorem wipeC_len : ∀ vs : List Nat, (wipeC env vs).length = env.length
  | [] => rfl
  | v :: vs => by simp [wipeC, wipeC_len vs]
theorem wipeC_out {i : Nat} : ∀ {vs : List Nat}, i ∉ vs → (wipeC env vs)[i]? = env[i]?
  | [], _ => rfl
  | v :: vs, h => by
    have h1 : v ≠ i := fun z => h (by subst z; exact List.mem_cons_self)
    unfold wipeC
    rw [List.getElem?_set_ne h1]
    exact wipeC_out fun z => h (List.mem_cons_of_mem _ z)
theorem wipeC_in {i : Nat} {c : Cell} : ∀ {vs : List Nat}, i ∈ vs → (wipeC env vs)[i]? = some c → c = .none
  | v :: vs, h, e => by
    unfold wipeC at e
    by_cases h1 : v = i
    · subst h1
      by_cases hl : v < (wipeC env vs).length
      · rw [List.getElem?_set_self hl] at e; cases e; rfl
      · rw [List.getElem?_eq_none (by simpa using hl)] at e; cases e
    · rw [List.getElem?_set_ne h1] at e
      rcases List.mem_cons.mp h with h | h
      · exact (h1 h.symm).elim
      · exact wipeC_in h e
theorem restC_len {env0 : Cells} : ∀ vs : List Nat, (restC env0 env vs).length = env.length
  | [] => rfl
  | v :: vs => by simp [restC, restC_len vs]
theorem restC_out {env0 : Cells} {i : Nat} : ∀ {vs : List Nat}, i ∉ vs → (restC env0 env vs)[i]? = env[i]?
  | [], _ => rfl
  | v :: vs, h => by
    have h1 : v ≠ i := fun z => h (by subst z; exact List.mem_cons_self)
    unfold restC
    rw [List.getElem?_set_ne h1]
    exact restC_out fun z => h (List.mem_cons_of_mem _ z)
theorem restC_in {env0 : Cells} {i : Nat} {c : Cell} : ∀ {vs : List Nat}, i ∈ vs → (restC env0 env vs)[i]? = some c → c = (env0[i]?.getD .none)
  | v :: vs, h, e => by
    unfold restC at e
    by_cases h1 : v = i
    · subst h1
      by_cases hl : v < (restC env0 env vs).length
      · rw [List.getElem?_set_self hl] at e; cases e; rfl
      · rw [List.getElem?_eq_none (by simpa using hl)] at e; cases e
    · rw [List.getElem?_set_ne h1] at e
      rcases List.mem_cons.mp h with h | h
      · exact (h1 h.symm).elim
      · exact restC_in h e
theorem wipe_at {i : Nat} : ∀ {vs : List Nat}, i ∉ vs → (wipe σ vs)[i]? = σ[i]?
  | [], _ => rfl
  | v :: vs, h => by
    have h1 : v ≠ i := fun z => h (by subst z; exact List.mem_cons_self)
    unfold wipe
    rw [List.getElem?_set_ne h1]
    exact wipe_at fun z => h (List.mem_cons_of_mem _ z)
theorem wipe_in {i : Nat} {w : Option V} : ∀ {vs : List Nat}, i ∈ vs → (wipe σ vs)[i]? = some w → w = none
  | v :: vs, h, e => by
    unfold wipe at e
    by_cases h1 : v = i
    · subst h1
      by_cases hl : v < (wipe σ vs).length
      · rw [List.getElem?_set_self hl] at e; cases e; rfl
      · rw [List.getElem?_eq_none (by simpa using hl)] at e; cases e
    · rw [List.getElem?_set_ne h1] at e
      rcases List.mem_cons.mp h with h | h
      · exact (h1 h.symm).elim
      · exact wipe_in h e
theorem wipe_eq {vs is : List Nat} (e : Eqo is (wipe σ vs) σ2) (h : ∀ i ∈ is, i ∈ vs) : wipe σ2 vs = wipe σ vs := by
  apply List.ext_getElem?
  intro i
  have l1 := wipe_length σ2 vs
  have l2 := wipe_length σ vs
  have l3 := e.1
  by_cases hi : i ∈ vs
  · by_cases hl : i < σ.length
    · have a1 : i < (wipe σ2 vs).length := by omega
      have a2 : i < (wipe σ vs).length := by omega
      rw [List.getElem?_eq_getElem a1, List.getElem?_eq_getElem a2]
      rw [wipe_in hi (List.getElem?_eq_getElem a1), wipe_in hi (List.getElem?_eq_getElem a2)]
    · rw [List.getElem?_eq_none (by omega), List.getElem?_eq_none (by omega)]
  · rw [wipe_at hi, e.2 i fun z => hi (h i z)]
/-- only data is forgotten -/
theorem ob_wipe {vs : List Nat} (no : ∀ i ∈ vs, obAt env i = none) (i : Nat) : obAt (wipeC env vs) i = obAt env i := by
  by_cases hi : i ∈ vs
  · rw [no i hi]
    unfold obAt
    cases e : (wipeC env vs)[i]? with
    | none => rfl
    | some c => rw [wipeC_in hi e]; rfl
  · unfold obAt; rw [wipeC_out hi]
theorem ow_wipe {vs : List Nat} (no : ∀ i ∈ vs, obAt env i = none) {a : Addr} : Ow (wipeC env vs) (wipe σ vs) a ↔ Ow env σ a := by
  constructor
  · rintro ⟨i, b, h1, h2⟩
    rw [ob_wipe no] at h1
    exact ⟨i, b, h1, (wipe_some h2).1⟩
  · rintro ⟨i, b, h1, h2⟩
    have hi : i ∉ vs := fun z => by rw [no i z] at h1; cases h1
    exact ⟨i, b, by rw [ob_wipe no]; exact h1, by rw [wipe_at hi]; exact h2⟩
theorem rel_wipe {vs : List Nat} (rel : Rel K O env σ H) (no : ∀ i ∈ vs, obAt env i = none) : Rel K O (wipeC env vs) (wipe σ vs) H ∧ Step env σ H (wipeC env vs) (wipe σ vs) H := by
  have av : ∀ a u, Av O env σ H a u → Av O (wipeC env vs) (wipe σ vs) H a u := fun a u k => ⟨fun o => k.1 ((ow_wipe no).mp o), k.2⟩
  refine ⟨⟨by rw [wipeC_len, wipe_length]; exact rel.len, fun i c e => ?_, fun i j b b' p h1 h2 h3 h4 => ?_, fun a z => ⟨(rel.hid a z).1, fun o => (rel.hid a z).2 ((ow_wipe no).mp o)⟩⟩,
    fun _ _ h _ => h, fun a _ n o => n ((ow_wipe no).mp o), fun _ h => h, fun i b e => ?_⟩
  · by_cases hi : i ∈ vs
    · rw [wipeC_in hi e]; trivial
    · rw [wipeC_out hi] at e
      rw [wipe_at hi]
      have q := rel.at_ i c e
      cases c with
      | none => trivial
      | d y => obtain ⟨w, e1, q⟩ := q; exact ⟨w, e1, Rp.mono av _ _ q⟩
      | o b => obtain ⟨w, e1, q⟩ := q; exact ⟨w, e1, q.mono av rfl⟩
      | io b => obtain ⟨w, e1, q⟩ := q; exact ⟨w, e1, q.mono av rfl⟩
  · rw [ob_wipe no] at h1 h2
    exact rel.inj i j b b' p h1 h2 (wipe_some h3).1 (wipe_some h4).1
  · have hi : i ∉ vs := fun z => by have := no i z; rw [obAt_io e] at this; cases this
    rw [wipeC_out hi, wipe_at hi]
    exact ⟨rfl, b, e⟩
/-- behind the block: the own slots as they were -/
theorem rel_rest {vs : List Nat} {N : Addr → Prop} (rel : Rel K O env σ H) (no : ∀ i ∈ vs, obAt env i = none) (r2 : Rel K (un O N) (wipeC env2 vs) (wipe σ vs) H')
    (no2 : ∀ i ∈ vs, obAt env2 i = none) (hN : ∀ a, N a → H a = none)
    (st : Step env σ H (wipeC env2 vs) (wipe σ vs) H') : Rel K (un O N) (restC env env2 vs) σ H' ∧ Step env σ H (restC env env2 vs) σ H' := by
  have ob : ∀ i, obAt (restC env env2 vs) i = obAt (wipeC env2 vs) i := by
    intro i
    by_cases hi : i ∈ vs
    · have e1 : obAt (wipeC env2 vs) i = none := by rw [ob_wipe no2]; exact no2 i hi
      rw [e1]
      unfold obAt
      cases e : (restC env env2 vs)[i]? with
      | none => rfl
      | some c =>
        rw [restC_in hi e]
        have := no i hi
        unfold obAt at this
        cases e2 : env[i]? with
        | none => rfl
        | some c => rw [e2] at this; exact this
    · unfold obAt; rw [restC_out hi, wipeC_out hi]
  have ow : ∀ a, Ow (restC env env2 vs) σ a ↔ Ow (wipeC env2 vs) (wipe σ vs) a := by
    intro a
    constructor
    · rintro ⟨i, b, h1, h2⟩
      rw [ob] at h1
      have hi : i ∉ vs := fun z => by rw [ob_wipe no2, no2 i z] at h1; cases h1
      exact ⟨i, b, h1, by rw [wipe_at hi]; exact h2⟩
    · rintro ⟨i, b, h1, h2⟩
      exact ⟨i, b, by rw [ob]; exact h1, (wipe_some h2).1⟩
  have av : ∀ a u, Av (un O N) (wipeC env2 vs) (wipe σ vs) H' a u → Av (un O N) (restC env env2 vs) σ H' a u := fun a u k => ⟨fun o => k.1 ((ow a).mp o), k.2⟩
  refine ⟨⟨?_, fun i c e => ?_, fun i j b b' p h1 h2 h3 h4 => ?_, fun a z => ⟨(r2.hid a z).1, fun o => (r2.hid a z).2 ((ow a).mp o)⟩⟩,
    st.kp, fun a h n o => st.ow a h n ((ow a).mp o), st.th, fun i b e => ⟨rfl, ?_⟩⟩
  · have l := r2.len
    rw [wipeC_len, wipe_length] at l
    rw [restC_len]; exact l
  · by_cases hi : i ∈ vs
    · have ec := restC_in hi e
      cases c with
      | none => trivial
      | d y =>
        cases e2 : env[i]? with
        | none => rw [e2] at ec; cases ec
        | some c =>
          rw [e2] at ec
          simp only [Option.getD_some] at ec
          subst ec
          obtain ⟨w, e1, q⟩ := rel.at_ i _ e2
          exact ⟨w, e1, Rp.mono (fun a u k => av a u (st.avN hN a u k)) _ _ q⟩
      | o b =>
        have := obAt_o e
        rw [ob, ob_wipe no2, no2 i hi] at this
        cases this
      | io b =>
        have := obAt_io e
        rw [ob, ob_wipe no2, no2 i hi] at this
        cases this
    · rw [restC_out hi] at e
      have q := r2.at_ i c (by rw [wipeC_out hi]; exact e)
      rw [wipe_at hi] at q
      cases c with
      | none => trivial
      | d y => obtain ⟨w, e1, q⟩ := q; exact ⟨w, e1, Rp.mono av _ _ q⟩
      | o b => obtain ⟨w, e1, q⟩ := q; exact ⟨w, e1, q.mono av rfl⟩
      | io b => obtain ⟨w, e1, q⟩ := q; exact ⟨w, e1, q.mono av rfl⟩
  · have g : ∀ i b, obAt (restC env env2 vs) i = some b → i ∉ vs := fun i b h z => by rw [ob, ob_wipe no2, no2 i z] at h; cases h
    exact r2.inj i j b b' p (by rw [← ob]; exact h1) (by rw [← ob]; exact h2) (by rw [wipe_at (g i b h1)]; exact h3) (by rw [wipe_at (g j b' h2)]; exact h4)
  · have hi : i ∉ vs := fun z => by have := no i z; rw [obAt_io e] at this; cases this
    obtain ⟨_, b', e2⟩ := st.io i b e
    rw [wipeC_out hi] at e2
    exact ⟨b', by rw [restC_out hi]; exact e2⟩
/-- the hidden object written -/
theorem rel_hidden {p : Addr} {o' : HO} (rel : Rel K O env σ H) (hp : O p) (hm : Mut (some o')) : Rel K O env σ (upd H p o') := by
  have np := (rel.hid p hp).2
  have av : ∀ a u, Av O env σ H a u → Av O env σ (upd H p o') a u := fun a u ⟨k1, k2, k3⟩ => by
    have ne : a ≠ p := fun z => k2 (by subst z; exact hp)
    refine ⟨k1, k2, ?_⟩
    rcases k3 with k3 | ⟨od, k3⟩
    · exact .inl ((upd_ne ne).trans k3)
    · exact .inr ⟨od, (upd_ne ne).trans k3⟩
  refine ⟨rel.len, fun j c e => ?_, rel.inj, fun a z => ?_⟩
  · have z := rel.at_ j c e
    have ne : ∀ b w, obAt env j = some b → σ[j]? = some (some (.ref w)) → w ≠ p := fun b w h1 h2 z => np (by subst z; exact ⟨j, b, h1, h2⟩)
    cases c with
    | none => trivial
    | d x => obtain ⟨w, e2, r⟩ := z; exact ⟨w, e2, Rp.mono av _ _ r⟩
    | o c => obtain ⟨w, e2, r⟩ := z; exact ⟨w, e2, r.mono av (upd_ne (ne _ _ (obAt_o e) e2))⟩
    | io c => obtain ⟨w, e2, r⟩ := z; exact ⟨w, e2, r.mono av (upd_ne (ne _ _ (obAt_io e) e2))⟩
  · obtain ⟨⟨o, ho, m⟩, n⟩ := rel.hid a z
    refine ⟨?_, n⟩
    by_cases h : a = p
    · subst h; exact ⟨o', upd_same, hm⟩
    · exact ⟨o, (upd_ne h).trans ho, m⟩
theorem isOb_none {vs : List Nat} (h : ¬ vs.any (isOb env) = true) : ∀ i ∈ vs, obAt env i = none := fun i hi => by
  cases e : obAt env i with
  | none => rfl
  | some b => exact (h (List.any_eq_true.mpr ⟨i, hi, by unfold isOb; rw [e]; rfl⟩)).elim
/-- what is left of a list comprehension once its source is there -/
def LcRest (K : PySem.W.Frag) (el : Cells → Res R) (c : Cells → Res Bool) (t : Tg) (vs : List Nat) (σ : L2.St) (J : L2.It) (H1 : Hp) (Q : VK) : Prop :=
  ∀ D, H1 D = none → ∃ W : Nat → Nat → Hp → Prop, (∃ m, W 0 m (upd H1 D (.lst []))) ∧ ∀ i m H, W i m H →
    (J.stop i H ∧ Q (.ref D) H) ∨ (J.go i H ∧ ∃ Nx : Hp → Prop, (∀ H', Nx H' → ∃ m', m' < m ∧ W (i + 1) m' H') ∧ ∀ x H', J.yld i H x H' → gD K t x (wipe σ vs) H' fun σ2 H2 => wipe σ2 vs = wipe σ vs ∧ tT K c σ2 H2 fun b H3 =>
      if b = true then tE K el σ2 H3 fun y H4 => ∃ acc, H4 D = some (.lst acc) ∧ acc.length < sizeLine ∧ Nx (upd H4 D (.lst (acc ++ [y]))) else Nx H3)
theorem lc_rest {el : Cells → Res R} {c : Cells → Res Bool} {t : Tg} {vs : List Nat} {Q : VK} {J : L2.It} {ds ys : List Fx.D} (ht : ∀ i ∈ t.slots, i ∈ vs) (r1 : Rel K O env1 σ H1) (no : ∀ i ∈ vs, obAt env1 i = none)
    (yl : Yl K (Av O env1 σ H1) (Kp env1 σ H1) J ds) (e2 : lcRun vs t c el ds [] env1 = .ok ys env2)
    (q : ∀ v H', Rel K (un O (nw (.new (.lst ys)) v)) (restC env1 env2 vs) σ H' → Step env1 σ H1 (restC env1 env2 vs) σ H' → RR K (un O (nw (.new (.lst ys)) v)) (restC env1 env2 vs) σ H1 H' (.new (.lst ys)) v → Q v H') :
    LcRest K el c t vs σ J H1 Q := by
  intro p hp
  let N : Addr → Prop := nw (.new (.lst [])) (.ref p)
  have Np : ∀ a, N a → a = p := fun a z => by
    have z : V.ref p = .ref a := z
    cases z; rfl
  have N0 : ∀ a, N a → H1 a = none := fun a z => by rw [Np a z]; exact hp
  have pN : un O N p := .inr rfl
  -- the turns
  refine ⟨fun i m H' => m = ds.length - i ∧ i ≤ ds.length ∧ ∃ envi acc accV, (∀ j ∈ vs, obAt envi j = none) ∧ Rel K (un O N) (wipeC envi vs) (wipe σ vs) H' ∧
    Step env1 σ H1 (wipeC envi vs) (wipe σ vs) H' ∧ H' p = some (.lst accV) ∧ RpL K (Av (un O N) (wipeC envi vs) (wipe σ vs) H') acc accV ∧
    lcRun vs t c el (ds.drop i) acc envi = .ok ys env2, ⟨ds.length, rfl, Nat.zero_le _, env1, [], [], no, ?_, ?_, upd_same, .nil, e2⟩, ?_⟩
  · have rg := r1.growN (H1 := upd H1 p (.lst [])) (N := N) (same_new hp) fun a z => ⟨N0 a z, by rw [Np a z]; exact ⟨_, upd_same, trivial⟩⟩
    exact (rel_wipe rg no).1
  · exact (Step.grow (same_new hp)).trans (rel_wipe (r1.grow (same_new hp)) no).2
  rintro i m H' ⟨rfl, hi, envi, acc, accV, noi, ri, si, hacc, racc, ei⟩
  have hS : Kp env1 σ H1 H' := fun a o h1 h2 => si.kp a o h1 h2
  have p0 : ¬ Ow (wipeC envi vs) (wipe σ vs) p := (ri.hid p pN).2
  by_cases hl : i < ds.length
  · refine .inr ⟨yl.go i H' hS hl, fun H3 => i + 1 ≤ ds.length ∧ ∃ envi acc accV, (∀ j ∈ vs, obAt envi j = none) ∧ Rel K (un O N) (wipeC envi vs) (wipe σ vs) H3 ∧
      Step env1 σ H1 (wipeC envi vs) (wipe σ vs) H3 ∧ H3 p = some (.lst accV) ∧ RpL K (Av (un O N) (wipeC envi vs) (wipe σ vs) H3) acc accV ∧
      lcRun vs t c el (ds.drop (i + 1)) acc envi = .ok ys env2, fun H3 h3 => ⟨ds.length - (i + 1), by omega, rfl, h3⟩, ?_⟩
    intro x H2 hy
    obtain ⟨g, rp⟩ := yl.yld i H' x H2 ds[i] hS (List.getElem?_eq_getElem hl) hy
    rw [List.drop_eq_getElem_cons hl] at ei
    unfold lcRun at ei
    cases ea : asgD t ds[i] (wipeC envi vs) with
    | none => rw [ea] at ei; cases ei
    | some env3 =>
      rw [ea] at ei
      simp only at ei
      obtain ⟨b, env4, e4, ei⟩ := Res.bind_ok ei
      have hx : Rp K (Av (un O N) (wipeC envi vs) (wipe σ vs) H2) ds[i] x := by
        refine Rp.mono (fun a u k => ?_) _ _ rp
        rcases k with k | ⟨h1, h2⟩
        · exact (Step.grow g).av a u (si.avN N0 a u k)
        · exact ⟨ri.fresh_not h1, fun z => ri.hidT z h1, h2⟩
      refine ⟨un O N, wipeC envi vs, ds[i], env3, ri.grow g, hx, ea, fun σ2 H3 r3 s3 eq3 => ⟨wipe_eq eq3 ht, un O N, env3, r3, b, env4, e4, fun H4 r4 s4 => ?_⟩⟩
      have sA := ((Step.grow (env := wipeC envi vs) (σ := wipe σ vs) g).trans s3).trans s4
      -- the list is as it was
      have acc4 : H4 p = some (.lst accV) := sA.kp p _ hacc p0
      have ra4 := sA.rpL racc
      have goon : ∀ {env6 : Cells} {acc' : List Fx.D} {accV' : List V} {H6 : Hp}, vs.any (isOb env6) = false → Rel K (un O N) env6 σ2 H6 → Step env1 σ H1 env6 σ2 H6 → H6 p = some (.lst accV') →
          RpL K (Av (un O N) env6 σ2 H6) acc' accV' → lcRun vs t c el (ds.drop (i + 1)) acc' env6 = .ok ys env2 →
          ∃ envi acc accV, (∀ j ∈ vs, obAt envi j = none) ∧ Rel K (un O N) (wipeC envi vs) (wipe σ vs) H6 ∧
            Step env1 σ H1 (wipeC envi vs) (wipe σ vs) H6 ∧ H6 p = some (.lst accV) ∧ RpL K (Av (un O N) (wipeC envi vs) (wipe σ vs) H6) acc accV ∧
            lcRun vs t c el (ds.drop (i + 1)) acc envi = .ok ys env2 := by
        intro env6 acc' accV' H6 hno6 r6 s6 h6 ra6 e6
        have no6 := isOb_none (by rw [hno6]; exact Bool.false_ne_true)
        obtain ⟨r8, s8⟩ := rel_wipe r6 no6
        rw [wipe_eq eq3 ht] at r8 s8
        exact ⟨env6, acc', accV', no6, r8, s6.trans s8, h6, s8.rpL ra6, e6⟩
      cases b with
      | true =>
        show tE K el σ2 H4 _
        simp only [if_pos] at ei
        obtain ⟨r, env5, e5, ei⟩ := Res.bind_ok ei
        refine ⟨un O N, env4, r4, r, env5, e5, fun y H5 r5 s5 rr5 => ?_⟩
        cases g5 : frz env5 r with
        | none => rw [g5] at ei; cases ei
        | some pr =>
          obtain ⟨d, env6⟩ := pr
          rw [g5] at ei
          simp only at ei
          obtain ⟨r6, s6, rp6⟩ := frz_ok r5 (hs1_of r4 rr5) rr5 g5
          have sB := (sA.trans s5).trans s6
          have acc5 : H5 p = some (.lst accV) := sB.kp p _ hacc p0
          have ra5 := sB.rpL racc
          split at ei
          · rename_i hlim
            refine ⟨accV, acc5, ?_, hl, ?_⟩
            · rw [ra5.length]; exact Nat.lt_of_lt_of_le hlim.1 (by decide)
            · have av6 : ∀ a u, Av (un O N) env6 σ2 H5 a u → Av (un O N) env6 σ2 (upd H5 p (.lst (accV ++ [y]))) a u := fun a u ⟨k1, k2, k3⟩ => by
                have ne : a ≠ p := fun z => k2 (by subst z; exact pN)
                refine ⟨k1, k2, ?_⟩
                rcases k3 with k3 | ⟨od, k3⟩
                · exact .inl ((upd_ne ne).trans k3)
                · exact .inr ⟨od, (upd_ne ne).trans k3⟩
              have r7 := rel_hidden (o' := .lst (accV ++ [y])) r6 pN trivial
              have sC := si.trans sB
              have s7 : Step env1 σ H1 env6 σ2 (upd H5 p (.lst (accV ++ [y]))) := by
                refine ⟨fun a o e n => ?_, sC.ow, fun a e => ?_, sC.io⟩
                · have ne : a ≠ p := fun z => by subst z; rw [hp] at e; cases e
                  exact (upd_ne ne).trans (sC.kp a o e n)
                · by_cases z : a = p
                  · subst z; rw [upd_same]; simp
                  · rw [upd_ne z]; exact sC.th a e
              exact goon hlim.2 r7 s7 upd_same ((RpL.mono av6 _ _ ra5).append (.cons (Rp.mono av6 _ _ rp6) .nil)) ei
          · cases ei
      | false =>
        show i + 1 ≤ ds.length ∧ _
        simp only [if_neg Bool.false_ne_true] at ei
        split at ei
        · rename_i hno4
          exact ⟨hl, goon hno4 r4 (si.trans sA) acc4 ra4 ei⟩
        · cases ei
  · have hi' : ds.drop i = [] := List.drop_eq_nil_of_le (by omega)
    rw [hi'] at ei
    simp only [lcRun] at ei
    cases ei
    refine .inl ⟨yl.stop i H' hS (by omega), ?_⟩
    obtain ⟨r9, s9⟩ := rel_rest (vs := vs) r1 no ri noi N0 si
    refine q _ _ r9 s9 ⟨p, rfl, hp, accV, hacc, ?_⟩
    refine RpL.mono (fun a u k => ⟨fun o => k.1 ?_, k.2⟩) _ _ racc
    obtain ⟨j, b, h1, h2⟩ := o
    by_cases hj : j ∈ vs
    · have := no j hj
      unfold obAt at h1 this
      cases e9 : (restC env1 env2 vs)[j]? with
      | none => rw [e9] at h1; cases h1
      | some c9 =>
        rw [e9, restC_in hj e9] at h1
        cases e8 : env1[j]? with
        | none => rw [e8] at h1; cases h1
        | some c8 => rw [e8] at h1 this; rw [show Option.bind (some c8) Cell.ob = c8.ob from rfl] at this; rw [show (some ((some c8).getD Cell.none)).bind Cell.ob = c8.ob from rfl, this] at h1; cases h1
    · refine ⟨j, b, ?_, by rw [wipe_at hj]; exact h2⟩
      unfold obAt at h1 ⊢
      rw [restC_out hj] at h1
      rw [wipeC_out hj]
      exact h1
/-- a list comprehension -/
theorem tE_lc {el : Cells → Res R} {c : Cells → Res Bool} {it : Cells → Res (List Fx.D)} {t : Tg} {vs : List Nat} {Q : VK} (ht : ∀ i ∈ t.slots, i ∈ vs)
    (h : tE K (doLc el t it c vs) σ H Q) : tLc (tI K it) (gD K t) (tT K c) (tE K el) vs σ H Q := by
  obtain ⟨O, env, rel, r, env', e, q⟩ := h
  obtain ⟨ds, env1, e1, e⟩ := Res.bind_ok e
  split at e
  · cases e
  rename_i hno
  have no := isOb_none hno
  obtain ⟨ys, env2, e2, e⟩ := Res.bind_ok e
  cases e
  exact ⟨O, env, rel, ds, env1, e1, fun J H1 r1 s1 yl => lc_rest ht r1 no yl e2 fun v H' r9 s9 rr => q v H' r9 (s1.trans s9) (rr.back fun p => s1.back)⟩
theorem tT_yes {Q : Bool → Hp → Prop} (h : tT K (fun env => .ok true env) σ H Q) : tYes σ H Q := by
  obtain ⟨O, env, rel, r, env', e, q⟩ := h
  cases e
  exact q H rel Step.refl
end
end Fx

set_option Elab.async false
set_option linter.all false
set_option maxRecDepth 100000
/-! Fx19: list(zip(a, b)) of two lists. -/
namespace Fx
open PySem PySem.Spec PyProof.Rows PySem.Calls PySem.W

/-- a walk over two lists under way; S: what may change besides -/
structure ZSt (z TI TO i1 i2 l1 l2 S : Addr) (xs ys : Array Value) (i : Nat) (h : Heap) : Prop where
  pr : IsPair h TI (.ref i1) (.ref i2)
  a1 : h.IsListIter i1 l1 i
  a2 : h.IsListIter i2 l2 i
  b1 : h.IsList l1 xs
  b2 : h.IsList l2 ys
  zz : (IsZip h z TI TO .none ∧ ∃ a b, IsPair h TO a b) ∨ ∃ T f oT, IsZipHeld h z TI TO T f ∧ h.get? T = some oT ∧ T ≠ z ∧ T ≠ i1 ∧ T ≠ i2 ∧ T ≠ S
/-- the pairs that were made -/
structure ZPs (xs ys : Array Value) (lo : Addr) (h : Heap) (as : List Addr) : Prop where
  rise : as.Pairwise (· < ·)
  above : ∀ a ∈ as, lo < a
  pairs : ∀ (j : Nat) (a : Addr), as[j]? = some a → ∃ x y, xs[j]? = some x ∧ ys[j]? = some y ∧ IsPair h a x y
section
variable {prog : Program} {w : World} {A : Around} {E : Value → Shared → Prop} {s : Shared} {z TI TO i1 i2 l1 l2 S : Addr} {xs ys : Array Value} {i : Nat} {h h' : Heap}
theorem ZSt.keep (st : ZSt z TI TO i1 i2 l1 l2 S xs ys i h) (n : S ≠ z ∧ S ≠ TI ∧ S ≠ TO ∧ S ≠ i1 ∧ S ≠ i2 ∧ S ≠ l1 ∧ S ≠ l2)
    (k : ∀ b o, b ≠ S → h.get? b = some o → h'.get? b = some o) : ZSt z TI TO i1 i2 l1 l2 S xs ys i h' := by
  obtain ⟨n1, n2, n3, n4, n5, n6, n7⟩ := n
  refine ⟨k _ _ (Ne.symm n2) st.pr, st.a1.at fun o e => k _ o (Ne.symm n4) e, st.a2.at fun o e => k _ o (Ne.symm n5) e, st.b1.at fun o e => k _ o (Ne.symm n6) e, st.b2.at fun o e => k _ o (Ne.symm n7) e, ?_⟩
  rcases st.zz with ⟨q, a, b, p⟩ | ⟨T, f, oT, q1, q2, q3, q4, q5, q6⟩
  · exact .inl ⟨k _ _ (Ne.symm n1) q, a, b, k _ _ (Ne.symm n3) p⟩
  · exact .inr ⟨T, f, oT, k _ _ (Ne.symm n1) q1, k _ _ q6 q2, q3, q4, q5, q6⟩
theorem zst_item {x y : Value} {Q : Option Value → Shared → Prop} (D : ZipApart z TI TO i1 i2 l1 l2) (st : ZSt z TI TO i1 i2 l1 l2 S xs ys i s.heap) (hS : S < s.heap.objs.size)
    (hx : xs[i]? = some x) (hy : ys[i]? = some y)
    (hQ : ∀ h', ZSt z TI TO i1 i2 l1 l2 S xs ys (i + 1) h' → IsPair h' s.heap.objs.size x y → h'.objs.size = s.heap.objs.size + 1 →
      (∀ b o, b ≠ z → b ≠ TO → b ≠ i1 → b ≠ i2 → s.heap.get? b = some o → h'.get? b = some o) → Q (some (.ref s.heap.objs.size)) { s with heap := h' }) :
    wpAny (model prog w) A (pyNext (.ref z)) Q E s :=
  by
  have far : ∀ {c o}, s.heap.get? c = some o → s.heap.objs.size ≠ c := fun e => Nat.ne_of_gt (Heap.lt_size e)
  have n1 : s.heap.objs.size ≠ i1 := let ⟨_, e, _⟩ := st.a1; far e
  have n2 : s.heap.objs.size ≠ i2 := let ⟨_, e, _⟩ := st.a2; far e
  rcases st.zz with ⟨q, a, b, p⟩ | ⟨T, f, oT, q1, q2, q3, q4, q5, q6⟩
  · refine wpAny_pyNext_zip_item D q st.pr p st.a1 st.a2 st.b1 st.b2 hx hy fun h' g1 g2 g3 g4 g5 g6 k => ?_
    refine hQ h' ⟨k _ _ D.TIz D.TITO D.TIi1 D.TIi2 st.pr, g3, g4, st.b1.at fun o e => k _ o D.l1z D.l1TO D.l1i1 D.l1i2 e, st.b2.at fun o e => k _ o D.l2z D.l2TO D.l2i1 D.l2i2 e, ?_⟩ g5 g6 k
    exact .inr ⟨s.heap.objs.size, false, _, g1, g5, far q, n1, n2, Nat.ne_of_gt hS⟩
  · refine wpAny_pyNext_zip_item_held D q1 q2 st.pr st.a1 st.a2 st.b1 st.b2 hx hy fun h' g1 g3 g4 g5 g6 k => ?_
    refine hQ h' ⟨k _ _ D.TIz D.TIi1 D.TIi2 st.pr, g3, g4, st.b1.at fun o e => k _ o D.l1z D.l1i1 D.l1i2 e, st.b2.at fun o e => k _ o D.l2z D.l2i1 D.l2i2 e, ?_⟩ g5 g6 fun b o e1 _ e3 e4 e => k b o e1 e3 e4 e
    exact .inr ⟨T, true, oT, g1, k _ _ q3 q4 q5 q2, q3, q4, q5, q6⟩
theorem zst_done {Q : Option Value → Shared → Prop} (hh : A.handled = none) (D : ZipApart z TI TO i1 i2 l1 l2) (st : ZSt z TI TO i1 i2 l1 l2 S xs ys i s.heap) (he : xs[i]? = none ∨ ys[i]? = none)
    (hQ : ∀ h', (∀ b o, b ≠ z → b ≠ TO → b ≠ i1 → b ≠ i2 → s.heap.get? b = some o → h'.get? b = some o) → Q none { s with heap := h' }) : wpAny (model prog w) A (pyNext (.ref z)) Q E s := by
  rcases st.zz with ⟨q, a, b, p⟩ | ⟨T, f, oT, q1, q2, q3, q4, q5, q6⟩
  · exact wpAny_pyNext_zip_end hh D q st.pr p st.a1 st.a2 st.b1 st.b2 he fun h' k => hQ h' k
  · exact wpAny_pyNext_zip_end_held hh D q1 q2 st.pr st.a1 st.a2 st.b1 st.b2 he fun h' k => hQ h' fun b o e1 _ e3 e4 e => k b o e1 e3 e4 e
end
/-! ### any walk that fills a list -/
section
variable {prog : Program} {w : World} {A : Around} {R : Result → Shared → Prop} {S : Addr} {it res : Value}
/-- how a built-in's body goes out: done, or on with another -/
abbrev Outs (prog : Program) (w : World) (A : Around) (R : Result → Shared → Prop) : Fin → Shared → Prop := fun fin st =>
  match fin with
  | .done f => R (.ok f) st
  | .again next => next.quiet = true ∧ codeAny (model prog w) A next R st
abbrev Errs (R : Result → Shared → Prop) : Value → Shared → Prop := fun e st => R (.error e) st
/-- the list at S -/
abbrev LAt (S : Addr) (acc : Array Value) (h : Heap) : Prop := ∃ c, h.get? S = some { cls := .type "list", data := .seq acc c }
abbrev pushAt (S : Addr) (u : Value) (h : Heap) : Heap := h.update S (Obj.mapSeq (·.push u))
theorem LAt.push {acc : Array Value} {h : Heap} (q : LAt S acc h) (u : Value) : LAt S (acc.push u) (pushAt S u h) := q.elim fun _ at_S => ⟨_, Heap.get?_update_self _ at_S rfl⟩
theorem pushAt_off {h : Heap} {u : Value} {b : Addr} {o : Obj} (ne : b ≠ S) (q : h.get? b = some o) : (pushAt S u h).get? b = some o := (Heap.get?_update_other _ _ ne.symm).trans q
theorem fill_loop {T : Nat → Array Value → Shared → Prop} {N : Nat} (small : N ≤ sizeLine) (count : ∀ i acc st, T i acc st → acc.size = i)
    (turn : ∀ (i : Nat) (acc : Array Value) (st : Shared) (E : Value → Shared → Prop) (Q : Option Value → Shared → Prop), T i acc st → i < N →
      (∀ u st', LAt S acc st'.heap → T (i + 1) (acc.push u) { st' with heap := pushAt S u st'.heap } → Q (some u) st') → wpAny (model prog w) A.in1 (pyNext it) Q E st)
    (stop : ∀ (acc : Array Value) (st : Shared) (E : Value → Shared → Prop) (Q : Option Value → Shared → Prop), T N acc st → (∀ st', R (.ok (.ret res)) st' → Q none st') → wpAny (model prog w) A.in1 (pyNext it) Q E st)
    (left i : Nat) (e : i + left = N) (acc : Array Value) (st : Shared) (t : T i acc st) : codeAny (model prog w) A (.builtin "list.extend.loop" ⟨[.ref S, it, res], []⟩) R st := by
  have opened : ∀ st', wpAny (model prog w) A.in1 (Builtin.«list.extend.loop» ⟨[.ref S, it, res], []⟩) (Outs prog w A R) (Errs R) st' → codeAny (model prog w) A (.builtin "list.extend.loop" ⟨[.ref S, it, res], []⟩) R st' :=
    fun st' body => codeAny_builtin PySem.F.entry_extend_loop (by rw [Around.under_plainId PySem.F.plain_extend_loop _]; exact body)
  induction left generalizing i acc st with
  | zero =>
    obtain rfl : i = N := e
    exact opened _ (wpAny_bind (stop acc st _ _ t fun st' r => wpAny_pure r))
  | succ left on =>
    have n := count i acc st t
    refine opened _ (wpAny_bind (turn i acc st _ _ t (by omega) fun u st' list t' => ?_))
    obtain ⟨c, at_S⟩ := list
    have rest := on (i + 1) (by omega) _ _ t'
    have quiet := plainId_quiet PySem.F.plain_extend_loop (args := ⟨[.ref S, it, res], []⟩)
    have s1 : acc.size ≤ sizeLine := by omega
    have s2 : (acc.push u).size ≤ sizeLine + 1 := by rw [Array.size_push]; omega
    exact wpAny_bind (wpAny_updateSeq at_S rfl (wpAny_pure ⟨quiet, rest⟩) s1 s2)
end
/-! ### a zip's walk that fills a list -/
structure ZGood (h₁ : Heap) (z TI TO i1 i2 l1 l2 S : Addr) (xs ys : Array Value) (i : Nat) (acc : Array Value) (h : Heap) (as : List Addr) : Prop where
  zip : ZSt z TI TO i1 i2 l1 l2 S xs ys i h
  kept : ∀ b o, b ≠ S → b ≠ z → b ≠ TO → b ≠ i1 → b ≠ i2 → h₁.get? b = some o → h.get? b = some o
  list : LAt S acc h
  refs : acc.toList = as.map Value.ref
  count : as.length = i
  made : ZPs xs ys S h as
section
variable {h₁ h h' : Heap} {z TI TO i1 i2 l1 l2 S a : Addr} {xs ys acc : Array Value} {i : Nat} {as : List Addr} {x y : Value}
/-- S and the walk's objects apart; S above those that change -/
structure SFar (z TI TO i1 i2 l1 l2 S : Addr) : Prop where
  ne : S ≠ z ∧ S ≠ TI ∧ S ≠ TO ∧ S ≠ i1 ∧ S ≠ i2 ∧ S ≠ l1 ∧ S ≠ l2
  lt : z < S ∧ TO < S ∧ i1 < S ∧ i2 < S
theorem SFar.above (f : SFar z TI TO i1 i2 l1 l2 S) (h : S < a) : a ≠ z ∧ a ≠ TO ∧ a ≠ i1 ∧ a ≠ i2 :=
  ⟨Nat.ne_of_gt (Nat.lt_trans f.lt.1 h), Nat.ne_of_gt (Nat.lt_trans f.lt.2.1 h), Nat.ne_of_gt (Nat.lt_trans f.lt.2.2.1 h), Nat.ne_of_gt (Nat.lt_trans f.lt.2.2.2 h)⟩
/-- the pairs lie above S, so what leaves all but the walk's objects alone keeps them -/
theorem ZPs.stay (q : ZPs xs ys S h as) (k : ∀ b o, S < b → h.get? b = some o → h'.get? b = some o) : ZPs xs ys S h' as where
  rise := q.rise
  above := q.above
  pairs := fun j b e => by
    obtain ⟨x, y, ex, ey, pr⟩ := q.pairs j b e
    exact ⟨x, y, ex, ey, k b _ (q.above b (List.mem_of_getElem? e)) pr⟩
/-- one pair more -/
theorem ZPs.snoc (q : ZPs xs ys S h as) (ex : xs[as.length]? = some x) (ey : ys[as.length]? = some y) (pr : IsPair h a x y) (top : ∀ b ∈ as, b < a) (over : S < a) : ZPs xs ys S h (as ++ [a]) where
  rise := by
    rw [List.pairwise_append]
    exact ⟨q.rise, List.pairwise_singleton _ a, fun b hb c hc => List.mem_singleton.mp hc ▸ top b hb⟩
  above := by
    simp only [List.forall_mem_append, List.forall_mem_cons]
    exact ⟨q.above, over, nofun⟩
  pairs := fun j b e => by
    rw [List.getElem?_append] at e
    split at e
    · exact q.pairs j b e
    · rename_i ge
      have : j - as.length = 0 := by
        rcases Nat.eq_zero_or_pos (j - as.length) with z | z
        · exact z
        · rw [List.getElem?_eq_none z] at e; cases e
      rw [this] at e
      cases e
      obtain rfl : j = as.length := by omega
      exact ⟨x, y, ex, ey, pr⟩
variable {prog : Program} {w : World} {A : Around} {s : Shared} {R : Result → Shared → Prop} {res : Value}
theorem zl_turn {E : Value → Shared → Prop} {Q : Option Value → Shared → Prop} {st : Shared} (D : ZipApart z TI TO i1 i2 l1 l2) (f : SFar z TI TO i1 i2 l1 l2 S) (g : ZGood h₁ z TI TO i1 i2 l1 l2 S xs ys i acc st.heap as)
    (lx : i < xs.size) (ly : i < ys.size)
    (q : ∀ (u : Value) (h2 : Heap) (as' : List Addr), LAt S acc h2 → ZGood h₁ z TI TO i1 i2 l1 l2 S xs ys (i + 1) (acc.push u) (pushAt S u h2) as' → Q (some u) { st with heap := h2 }) :
    wpAny (model prog w) A (pyNext (.ref z)) Q E st := by
  obtain ⟨n1, n2, n3, n4, n5, n6, n7⟩ := id f.ne
  obtain ⟨c, at_S⟩ := g.list
  have S_in := Heap.lt_size at_S
  refine zst_item D g.zip S_in (Array.getElem?_eq_getElem lx) (Array.getElem?_eq_getElem ly) fun h2 zip2 pair _ keep => ?_
  have list2 : LAt S acc h2 := ⟨c, keep S _ n1 n3 n4 n5 at_S⟩
  have tops : ∀ b ∈ as, b < st.heap.objs.size := fun b hb => by
    obtain ⟨j, e⟩ := List.mem_iff_getElem?.mp hb
    obtain ⟨_, _, _, _, pr⟩ := g.made.pairs j b e
    exact Heap.lt_size pr
  have made2 := (g.made.stay fun b o up e => by
    obtain ⟨a1, a2, a3, a4⟩ := f.above up
    exact pushAt_off (u := .ref st.heap.objs.size) (Nat.ne_of_gt up) (keep b o a1 a2 a3 a4 e)).snoc (a := st.heap.objs.size) (x := xs[i]) (y := ys[i]) (by rw [g.count, Array.getElem?_eq_getElem lx]) (by rw [g.count, Array.getElem?_eq_getElem ly])
      (pushAt_off (Nat.ne_of_gt S_in) pair) tops S_in
  refine q _ h2 (as ++ [st.heap.objs.size]) list2 ⟨zip2.keep f.ne fun b o ne e => pushAt_off ne e, fun b o m0 m1 m2 m3 m4 e => pushAt_off m0 (keep b o m1 m2 m3 m4 (g.kept b o m0 m1 m2 m3 m4 e)), list2.push _, ?_, ?_, made2⟩
  · rw [Array.toList_push, g.refs, List.map_append]; rfl
  · rw [List.length_append, g.count]; rfl
theorem zl_stop {E : Value → Shared → Prop} {Q : Option Value → Shared → Prop} {st : Shared} (calm : A.handled = none) (D : ZipApart z TI TO i1 i2 l1 l2) (f : SFar z TI TO i1 i2 l1 l2 S) (g : ZGood h₁ z TI TO i1 i2 l1 l2 S xs ys i acc st.heap as)
    (over : i = min xs.size ys.size) (q : ∀ h2, (∀ b o, b ≠ S → b ≠ z → b ≠ TO → b ≠ i1 → b ≠ i2 → h₁.get? b = some o → h2.get? b = some o) → LAt S acc h2 → ZPs xs ys S h2 as → Q none { st with heap := h2 }) :
    wpAny (model prog w) A (pyNext (.ref z)) Q E st := by
  obtain ⟨n1, n2, n3, n4, n5, n6, n7⟩ := id f.ne
  have out : xs[i]? = none ∨ ys[i]? = none := by
    rcases Nat.le_total xs.size ys.size with z | z
    · exact .inl (Array.getElem?_eq_none (by omega))
    · exact .inr (Array.getElem?_eq_none (by omega))
  refine zst_done calm D g.zip out fun h2 keep => q h2 (fun b o m0 m1 m2 m3 m4 e => keep b o m1 m2 m3 m4 (g.kept b o m0 m1 m2 m3 m4 e)) (g.list.imp fun c e => keep S _ n1 n3 n4 n5 e) (g.made.stay fun b o up e => ?_)
  obtain ⟨a1, a2, a3, a4⟩ := f.above up
  exact keep b o a1 a2 a3 a4 e
/-- what is asked of the end -/
abbrev ZEnd (h₁ : Heap) (z TI TO i1 i2 l1 l2 S : Addr) (xs ys : Array Value) (G : Heap → Nat → Prop) : Prop :=
  ∀ h' tk acc c as, (∀ b o, b ≠ S → b ≠ z → b ≠ TO → b ≠ i1 → b ≠ i2 → h₁.get? b = some o → h'.get? b = some o) → h'.get? S = some { cls := .type "list", dict := none, data := .seq acc c, slots := #[] } →
    as.length = min xs.size ys.size → ZPs xs ys S h' as → acc.toList = as.map Value.ref → G h' tk
theorem zl_loop (calm : A.handled = none) (D : ZipApart z TI TO i1 i2 l1 l2) (f : SFar z TI TO i1 i2 l1 l2 S) (fits : min xs.size ys.size ≤ sizeLine)
    (fin : ZEnd h₁ z TI TO i1 i2 l1 l2 S xs ys fun h' tk => R (.ok (.ret res)) { s with heap := h', toks := tk }) (tk : Nat) (g : ZGood h₁ z TI TO i1 i2 l1 l2 S xs ys 0 #[] h []) :
    codeAny (model prog w) A (.builtin "list.extend.loop" ⟨[.ref S, .ref z, res], []⟩) R { s with heap := h, toks := tk } := by
  refine fill_loop (T := fun i acc st => ∃ h tk as, st = { s with heap := h, toks := tk } ∧ ZGood h₁ z TI TO i1 i2 l1 l2 S xs ys i acc h as) fits ?count ?turn ?stop (min xs.size ys.size) 0 (Nat.zero_add _) #[] _ ⟨h, tk, [], rfl, g⟩
  case count =>
    rintro i acc _ ⟨h, tk, as, rfl, g⟩
    rw [← Array.length_toList, g.refs, List.length_map, g.count]
  case turn =>
    rintro i acc _ E Q ⟨h, tk, as, rfl, g⟩ lt q
    exact zl_turn (st := { s with heap := h, toks := tk }) D f g (by omega) (by omega) fun u h2 as' l g' => q u _ l ⟨_, tk, as', rfl, g'⟩
  case stop =>
    rintro acc _ E Q ⟨h, tk, as, rfl, g⟩ q
    exact zl_stop (st := { s with heap := h, toks := tk }) calm D f g rfl fun h2 kept l made => l.elim fun c at_S => q _ (fin h2 tk acc c as kept at_S g.count made g.refs)
theorem zip_no_len : typeLookup (.type "zip") "__len__" = pure none := am_miss_of_fast (by decide +kernel)
theorem zip_no_hint : typeLookup (.type "zip") "__length_hint__" = pure none := am_miss_of_fast (by decide +kernel)
/-- a zip tells no length -/
theorem zip_hint {E : Value → Shared → Prop} {Q : Bool → Shared → Prop} (isZ : s.TypeIs (.ref z) "zip") (q : Q true s) : wpAny (model prog w) A (Builtin.List.listLengthHint (.ref z)) Q E s := by
  delta Builtin.List.listLengthHint
  exact wpAny_bind (wpAny_specialOf isZ zip_no_len (wpAny_bind (wpAny_specialOf isZ zip_no_hint (wpAny_pure q))))
/-- a fresh zip and a list to be filled -/
structure ZFresh (z TI TO i1 i2 l1 l2 : Addr) (xs ys : Array Value) (h : Heap) : Prop where
  own : IsZip h z TI TO .none
  ins : IsPair h TI (.ref i1) (.ref i2)
  out : ∃ a b, IsPair h TO a b
  it1 : h.IsListIter i1 l1 0
  it2 : h.IsListIter i2 l2 0
  at1 : h.IsList l1 xs
  at2 : h.IsList l2 ys
theorem ZFresh.st (q : ZFresh z TI TO i1 i2 l1 l2 xs ys h) : ZSt z TI TO i1 i2 l1 l2 S xs ys 0 h := ⟨q.ins, q.it1, q.it2, q.at1, q.at2, .inl ⟨q.own, q.out⟩⟩
theorem ZFresh.keep (q : ZFresh z TI TO i1 i2 l1 l2 xs ys h) (f : SFar z TI TO i1 i2 l1 l2 S) (k : ∀ b o, b ≠ S → h.get? b = some o → h'.get? b = some o) : ZFresh z TI TO i1 i2 l1 l2 xs ys h' := by
  obtain ⟨n1, n2, n3, n4, n5, n6, n7⟩ := f.ne
  exact ⟨k _ _ n1.symm q.own, k _ _ n2.symm q.ins, q.out.imp fun _ y => y.imp fun _ y => k _ _ n3.symm y, q.it1.at fun o => k _ o n4.symm, q.it2.at fun o => k _ o n5.symm, q.at1.at fun o => k _ o n6.symm, q.at2.at fun o => k _ o n7.symm⟩
theorem zl_extend {c₀ : Nat} (calm : A.handled = none) (D : ZipApart z TI TO i1 i2 l1 l2) (f : SFar z TI TO i1 i2 l1 l2 S) (fits : min xs.size ys.size ≤ sizeLine) (at_S : s.heap.get? S = some { cls := .type "list", data := .seq #[] c₀ })
    (q : ZFresh z TI TO i1 i2 l1 l2 xs ys s.heap) (fin : ZEnd s.heap z TI TO i1 i2 l1 l2 S xs ys fun h' tk => R (.ok (.ret res)) { s with heap := h', toks := tk }) :
    wpAny (model prog w) A.in1 (Builtin.List.listExtendWith (.ref S) (.ref z) res) (Outs prog w A R) (Errs R) s := by
  have isZ : s.TypeIs (.ref z) "zip" := ⟨_, q.own, rfl⟩
  have other : Builtin.List.listSameRef (.ref S) (.ref z) = false := by simp [Builtin.List.listSameRef, f.ne.1]
  have noL : (Value.type "zip" == Value.type "list") = false := by decide
  have noT : (Value.type "zip" == Value.type "tuple") = false := by decide
  have up := Heap.get?_update_self (Obj.mapSeq (·.push Value.none)) at_S rfl
  have down := Heap.get?_update_self (Obj.mapSeq (·.pop)) up rfl
  have rest : ∀ b o, b ≠ S → s.heap.get? b = some o → ((s.heap.update S (Obj.mapSeq (·.push Value.none))).update S (Obj.mapSeq (·.pop))).get? b = some o := fun b o ne e => by
    rw [Heap.get?_update_other _ _ ne.symm, Heap.get?_update_other _ _ ne.symm]
    exact e
  have quiet := plainId_quiet PySem.F.plain_extend_loop (args := ⟨[.ref S, .ref z, res], []⟩)
  have loop := zl_loop (prog := prog) (w := w) (R := R) (res := res) calm D f fits fin s.toks ⟨(q.keep f rest).st, fun b o m0 _ _ _ _ e => rest b o m0 e, ⟨_, down⟩, rfl, rfl, ⟨.nil, nofun, fun j a e => by simp at e⟩⟩
  delta Builtin.List.listExtendWith
  refine wpAny_bind (wpAny_typeOf (T := "zip") isZ ?_)
  simp only [other, noL, noT, Bool.or_false, Bool.false_eq_true, if_false]
  refine wpAny_bind (wpAny_pyIter_zip q.own (wpAny_bind (wpAny_holding (zip_hint isZ ?_))))
  simp only [Bool.true_or, if_true]
  refine wpAny_bind (wpAny_rule (wpAny_bind (wpAny_bind (wpAny_updateSeq at_S rfl ?_))))
  exact wpAny_updateSeq (hz := by seq_fits) up rfl (wpAny_pure ⟨quiet, loop⟩)
theorem zl_init (calm : A.handled = none) (D : ZipApart z TI TO i1 i2 l1 l2) (f : SFar z TI TO i1 i2 l1 l2 S) (fits : min xs.size ys.size ≤ sizeLine) (at_S : s.heap.get? S = some { cls := .type "list", data := .seq #[] })
    (q : ZFresh z TI TO i1 i2 l1 l2 xs ys s.heap) (fin : ZEnd s.heap z TI TO i1 i2 l1 l2 S xs ys fun h' tk => R (.ok (.ret .none)) { s with heap := h', toks := tk }) :
    wpAny (model prog w) A.in1 (Builtin.«list.__init__» ⟨[.ref S, .ref z], []⟩) (Outs prog w A R) (Errs R) s := by
  have empty := Heap.get?_update_self (Obj.mapSeq (fun _ => (#[] : Array Value))) at_S rfl
  have rest : ∀ b o, b ≠ S → s.heap.get? b = some o → (s.heap.update S (Obj.mapSeq (fun _ => (#[] : Array Value)))).get? b = some o := fun b o ne e => by
    rw [Heap.get?_update_other _ _ ne.symm]
    exact e
  have ext := zl_extend (prog := prog) (w := w) (A := A) (R := R) (s := { s with heap := s.heap.update S (Obj.mapSeq (fun _ => (#[] : Array Value))) }) calm D f fits empty (q.keep f rest)
    fun h' tk acc c as k => fin h' tk acc c as fun b o m0 m1 m2 m3 m4 e => k b o m0 m1 m2 m3 m4 (rest b o m0 e)
  refine wpAny_bind (?_ : wpAny _ _ (Builtin.List.listItems (.ref S)) _ _ s)
  delta Builtin.List.listItems
  exact wpAny_bind (wpAny_seqItems at_S rfl (wpAny_pure (wpAny_bind (wpAny_updateSeq at_S rfl (wpAny_bind (wpAny_letGo ext))))))
theorem zl_call {E : Value → Shared → Prop} {Q : Value → Shared → Prop} (calm : A.handled = none) (D : ZipApart z TI TO i1 i2 l1 l2) (fits : min xs.size ys.size ≤ sizeLine) (q : ZFresh z TI TO i1 i2 l1 l2 xs ys s.heap)
    (hQ : ∀ h' tk acc c as, (∀ b o, b ≠ z → b ≠ TO → b ≠ i1 → b ≠ i2 → s.heap.get? b = some o → h'.get? b = some o) → h'.get? s.heap.objs.size = some { cls := .type "list", dict := none, data := .seq acc c, slots := #[] } →
      as.length = min xs.size ys.size → ZPs xs ys s.heap.objs.size h' as → acc.toList = as.map Value.ref → Q (.ref s.heap.objs.size) { s with heap := h', toks := tk }) :
    wpAny (model prog w) A (call (.type "list") [.ref z]) Q E s := by
  have lt : ∀ {c o}, s.heap.get? c = some o → c < s.heap.objs.size := Heap.lt_size
  have f : SFar z TI TO i1 i2 l1 l2 s.heap.objs.size := by
    obtain ⟨_, _, e3⟩ := q.out
    obtain ⟨_, e4, _⟩ := id q.it1
    obtain ⟨_, e5, _⟩ := id q.it2
    obtain ⟨_, e6, _⟩ := id q.at1
    obtain ⟨_, e7, _⟩ := id q.at2
    exact ⟨⟨Nat.ne_of_gt (lt q.own), Nat.ne_of_gt (lt q.ins), Nat.ne_of_gt (lt e3), Nat.ne_of_gt (lt e4), Nat.ne_of_gt (lt e5), Nat.ne_of_gt (lt e6), Nat.ne_of_gt (lt e7)⟩, lt q.own, lt e3, lt e4, lt e5⟩
  let s₁ : Shared := { s with heap := s.heap.push { cls := .type "list", data := .seq #[] } }
  have at_S : s₁.heap.get? s.heap.objs.size = some { cls := .type "list", data := .seq #[] } := Heap.get?_push_size _ rfl
  have old : ∀ b o, s.heap.get? b = some o → s₁.heap.get? b = some o := fun b o => Heap.get?_push_of_some _
  refine callType_codes PySem.F.called_list (PySem.F.typeCall_list_1 _) PySem.F.entry_list_init (code_list_new (Q₁ := fun obj t => obj = .ref s.heap.objs.size ∧ t = s₁) _ ⟨rfl, rfl⟩) ?_
  rintro _ _ ⟨rfl, rfl⟩
  refine ⟨⟨_, at_S, rfl⟩, PySem.F.args_list_init_2 _ _, zl_init (A := A.in1) (s := s₁) calm D f fits at_S (q.keep f fun b o _ e => old b o e) fun h' tk acc c as k g6 g7 g8 g9 => ⟨rfl, ?_⟩⟩
  exact hQ h' tk acc c as (fun b o m1 m2 m3 m4 e => k b o (Nat.ne_of_lt (lt e)) m1 m2 m3 m4 (old b o e)) g6 g7 g8 g9
end
end Fx

set_option Elab.async false
set_option linter.all false
set_option maxRecDepth 100000
/-! Fx20: list(zip(a, b)): the rule, the reading. -/
namespace Fx
open L2 PyProof.Rows PySem PySem.Spec

/-- pairs tracked at their addresses -/
def putP : Hp → List Addr → List (V × V) → Hp
  | H, a :: as, p :: ps => putP (upd H a (.tup [p.1, p.2])) as ps
  | H, _, _ => H
theorem putP_off {b : Addr} : ∀ {as : List Addr} {ps : List (V × V)} {H : Hp}, b ∉ as → putP H as ps b = H b
  | [], _, _, _ => rfl
  | _ :: _, [], _, _ => rfl
  | a :: as, p :: ps, H, h => by
    have e : putP H (a :: as) (p :: ps) b = putP (upd H a (.tup [p.1, p.2])) as ps b := rfl
    rw [e, putP_off fun z => h (List.mem_cons_of_mem _ z), upd_ne fun z => h (by rw [z]; exact List.mem_cons_self)]
theorem putP_at : ∀ {as : List Addr} {ps : List (V × V)} {H : Hp} {j : Nat} {t : Addr} {p : V × V}, as.Nodup → as[j]? = some t → ps[j]? = some p → putP H as ps t = some (.tup [p.1, p.2])
  | [], _, _, _, _, _, _, h, _ => by simp at h
  | _ :: _, [], _, _, _, _, _, _, h => by simp at h
  | a :: as, q :: ps, H, 0, t, p, n, h1, h2 => by
    simp at h1 h2
    subst h1
    subst h2
    have e : putP H (a :: as) (q :: ps) a = putP (upd H a (.tup [q.1, q.2])) as ps a := rfl
    rw [e, putP_off (List.nodup_cons.mp n).1, upd_same]
  | a :: as, q :: ps, H, j + 1, t, p, n, h1, h2 => by
    have e : putP H (a :: as) (q :: ps) t = putP (upd H a (.tup [q.1, q.2])) as ps t := rfl
    rw [e]
    exact putP_at (j := j) (List.nodup_cons.mp n).2 (by simpa using h1) (by simpa using h2)
theorem refs_vals : ∀ as : List Addr, Vals (as.map V.ref) (as.map Value.ref)
  | [] => .nil
  | _ :: as => .cons rfl (refs_vals as)
section
variable {X : Cx}
theorem pairs_laid {pns : List (Addr × Obj)} {σ : L2.St} {H : Hp} {s : Shared} {h' : Heap} {tk : Nat} {S : Addr} {vx vy : List V} {ux uy : List Value} {acc : Array Value} {c : Nat} {as : List Addr} (I : Inv X pns σ H s)
    (rx : Vals vx ux) (ry : Vals vy uy) (hl : as.length = min vx.length vy.length) (hlim : vx.length ≤ sizeLine) (hS0 : s.heap.objs.size ≤ S)
    (hk : ∀ b o, s.heap.get? b = some o → h'.get? b = some o) (hS : h'.get? S = some { cls := .type "list", dict := none, data := .seq acc c, slots := #[] })
    (hG : ZPs ux.toArray uy.toArray S h' as) (hacc : acc.toList = as.map Value.ref) :
    ∃ H' : Hp, Same H H' ∧ H S = none ∧ (∀ t ∈ as, H t = none) ∧ H' S = some (.lst (as.map V.ref)) ∧
      (∀ (j : Nat) (t : Addr), as[j]? = some t → ∃ x y, vx[j]? = some x ∧ vy[j]? = some y ∧ H' t = some (.tup [x, y])) ∧ Inv X pns σ H' { s with heap := h', toks := tk } := by
  have nd : as.Nodup := hG.rise.imp fun {_ _} less => Nat.ne_of_lt less
  have nS : S ∉ as := fun z => Nat.lt_irrefl _ (hG.above _ z)
  have new : ∀ t ∈ as, H t = none := fun t ht => I.hok.fresh (Nat.le_trans hS0 (Nat.le_of_lt (hG.above t ht)))
  have newS : H S = none := I.hok.fresh hS0
  let ps := vx.zip vy
  let H' := putP (upd H S (.lst (as.map V.ref))) as ps
  have off : ∀ b, b ∉ as → b ≠ S → H' b = H b := fun b h1 h2 => by
    show putP _ as ps b = _
    rw [putP_off h1, upd_ne h2]
  have kp : Same H H' := fun b u e => by
    rw [off b (fun z => by rw [new b z] at e; cases e) fun z => by rw [z, newS] at e; cases e]
    exact e
  have eS : H' S = some (.lst (as.map V.ref)) := by
    show putP _ as ps S = _
    rw [putP_off nS, upd_same]
  have lk : ∀ (j : Nat) (t : Addr), as[j]? = some t → ∃ x y, vx[j]? = some x ∧ vy[j]? = some y ∧ H' t = some (.tup [x, y]) := fun j t hj => by
    have hj' : j < as.length := (List.getElem?_eq_some_iff.mp hj).1
    have h1 : j < vx.length := by omega
    have h2 : j < vy.length := by omega
    refine ⟨vx[j], vy[j], List.getElem?_eq_getElem h1, List.getElem?_eq_getElem h2, putP_at (p := (vx[j], vy[j])) nd hj ?_⟩
    show (vx.zip vy)[j]? = _
    rw [List.getElem?_eq_getElem (by rw [List.length_zip]; omega), List.getElem_zip]
  have low : ∀ b o, s.heap.get? b = some o → b ∉ as ∧ b ≠ S := fun b o e =>
    have hb := Heap.lt_size e
    ⟨fun z => Nat.lt_irrefl _ (Nat.lt_of_lt_of_le (Nat.lt_trans hb (Nat.lt_of_le_of_lt hS0 (hG.above b z))) (Nat.le_refl _)), fun z => Nat.lt_irrefl _ (Nat.lt_of_lt_of_le (z ▸ hb) hS0)⟩
  refine ⟨H', kp, newS, new, eS, lk, ?_⟩
  refine I.call' (ch := []) rfl ⟨fun b o q _ _ _ => hk b o q, fun b o q _ _ _ => ⟨o.slots, hk b o q⟩, fun b o q n _ => ?_, fun b o q _ => ⟨o, hk b o q⟩, fun b xs q => kp b _ q, fun b o u q => kp b _ q,
    fun b ps q => ⟨#[], by rw [kp b _ q]; simp⟩⟩ (fun b u q => ?_) I.bare fun b z => by simp at z
  · rw [off b (low b o q).1 (low b o q).2]
    exact n
  · by_cases hb : b ∈ as
    · obtain ⟨j, hj⟩ := List.mem_iff_getElem?.mp hb
      obtain ⟨x, y, e1, e2, e3⟩ := lk j b hj
      have q : H' b = some u := q
      rw [e3] at q
      cases q
      obtain ⟨ua, ub, f1, f2, f3⟩ := hG.pairs j b hj
      obtain ⟨wa, g1, g2⟩ := rx.get e1
      obtain ⟨wb, g3, g4⟩ := ry.get e2
      have e4 : ua = wa := by
        have : ux[j]? = some ua := by simpa using f1
        rw [g1] at this; cases this; rfl
      have e5 : ub = wb := by
        have : uy[j]? = some ub := by simpa using f2
        rw [g3] at this; cases this; rfl
      subst e4
      subst e5
      exact ⟨by show 2 ≤ sizeLine; decide, [ua, ub], .cons g2 (.cons g4 .nil), ⟨_, f3, rfl, _, rfl⟩⟩
    · by_cases hb2 : b = S
      · subst hb2
        have q : H' b = some u := q
        rw [eS] at q
        cases q
        refine ⟨by rw [List.length_map]; omega, acc.toList, c, by rw [hacc]; exact refs_vals as, ?_⟩
        rw [Array.toArray_toList]
        exact hS
      · have q : H' b = some u := q
        rw [off b hb hb2] at q
        refine (I.hok b u q).stay (fun d v _ => hk d v) ?_ ?_
        · exact fun d => kp d _
        · exact fun d _ => kp d _
def tColZ (K : PySem.W.Frag) (ta : TA) : TE := fun σ H Q => ta σ H fun vs H1 => ∃ a b xs ys, vs = [.ref a, .ref b] ∧ SqL K H1 a xs ∧ SqL K H1 b ys ∧
  ∀ (H' : Hp) (p : Addr) (ts : List Addr), Same H1 H' → H1 p = none → (∀ t ∈ ts, H1 t = none) → H' p = some (.lst (ts.map V.ref)) → ts.length = min xs.length ys.length →
    (∀ (j : Nat) (t : Addr), ts[j]? = some t → ∃ x y, xs[j]? = some x ∧ ys[j]? = some y ∧ H' t = some (.tup [x, y])) → Q (.ref p) H'
theorem pe_colZ {a b : Expr} {ta : TA} {p p2 pos pos2 : Pos} (hc : X.calm = true) (hg : Gl X "list") (hm : X.mg "list" = none) (hg2 : Gl X "zip") (hm2 : X.mg "zip" = none) (ha : PA X [a, b] ta)
    (hs : starEach [a, b] X.env = (false, eval a X.env) :: starEach [b] X.env) (hpl : (backTo pos2 (starEach [b] X.env)).any (·.1) = false) :
    PE X (.Call (.Name "list" p) [.Call (.Name "zip" p2) [a, b] [] pos2] [] pos) (tColZ X.K ta) := by
  constructor
  intro pns s σ H Q I h
  have hlist : bootBuiltins "list" = some (.type "list") := by decide +kernel
  have hzip : bootBuiltins "zip" = some (.type "zip") := by decide +kernel
  refine wpAny_Call_Name_kw (ld_blt I hg hm hlist ?_)
  have hst : starEach [.Call (.Name "zip" p2) [a, b] [] pos2] X.env = (false, eval (.Call (.Name "zip" p2) [a, b] [] pos2) X.env) :: starEach [] X.env := rfl
  refine PyProof.Rows.callWith_type1 ?_ hst rfl
  rw [hst]
  show wpAny _ _ (spliced ((false, eval (.Call (.Name "zip" p2) [a, b] [] pos2) X.env) :: backTo pos (starEach [] X.env))) _ _ s
  refine Calls.spliced_cons ?_
  refine wpAny_Call_Name_kw (ld_blt I hg2 hm2 hzip ?_)
  refine PyProof.Rows.callWith_type1 (thn (ha.run pos2 pns s σ H _ I h) fun us s1 ⟨vs, H1, I1, r1, la, lb, xs, ys, ex, hqx, hqy, q⟩ => ?_) hs hpl
  subst ex
  obtain ⟨u1, u2, rfl, r2, r3⟩ := r1.two
  cases r2
  cases r3
  obtain ⟨ux, rv, p1, hlx⟩ := I1.list hqx
  obtain ⟨uy, rv2, p3, hly⟩ := I1.list hqy
  refine call_zip_2 p1.isList p3.isList fun h' hz hTI hTO h1 h2 hsz hk => ?_
  refine Calls.spliced_nil ?_
  have hl : min ux.toArray.size uy.toArray.size = min xs.length ys.length := by
    rw [List.size_toArray, List.size_toArray, rv.length, rv2.length]
  have ap := PySem.W.ktu_apart s1.heap.objs.size la lb p1.lt p3.lt
  refine zl_call (s := { s1 with heap := h' }) (I1.ok.hd hc) ap (by rw [hl]; exact Nat.le_trans (Nat.min_le_left _ _) hlx) ⟨hz, hTI, ⟨_, _, hTO⟩, h1, h2, p1.isList.at fun o e => hk _ o e, p3.isList.at fun o e => hk _ o e⟩
    fun h2' tk acc c as k g1 g2 g3 g4 => ?_
  have up : ∀ b o, s1.heap.get? b = some o → h2'.get? b = some o := fun b o e => by
    have hb := Heap.lt_size e
    have nb : ∀ n, b ≠ s1.heap.objs.size + n := fun n z => Nat.lt_irrefl _ (Nat.lt_of_lt_of_le (z ▸ hb) (Nat.le_add_right _ _))
    exact k b o (nb 4) (nb 3) (nb 0) (nb 1) (hk b o e)
  obtain ⟨H', k1, k2, k3, k4, k5, J⟩ := pairs_laid (tk := tk) (S := h'.objs.size) I1 rv rv2 (g2.trans hl) hlx (by rw [hsz]; exact Nat.le_add_right _ _) up g1 g3 g4
  exact ⟨.ref _, H', J, rfl, q H' _ as k1 k2 k3 k4 (g2.trans hl) k5⟩
end
section
variable {K : PySem.W.Frag} {σ : L2.St} {H : Hp}
theorem rpl_refs {A A' : RdA} {ts : List Addr} {xs ys : List V} {ds es : List D} (hA : ∀ a u, A a u → A' a u) (hr : RpL K A ds xs) (hr' : RpL K A es ys)
    (hl : ts.length = min xs.length ys.length) (ht : ∀ (j : Nat) (t : Addr), ts[j]? = some t → ∃ x y, xs[j]? = some x ∧ ys[j]? = some y ∧ A' t (.tup [x, y])) : RpL K A' (zipL ds es) (ts.map V.ref) := by
  induction ts generalizing xs ys ds es with
  | nil =>
    have : (zipL ds es).length = 0 := by
      rw [zip_len, ← hr.length, ← hr'.length]
      simpa using hl.symm
    rw [List.length_eq_zero_iff.mp this]
    simp [RpL]
  | cons t ts ih =>
    obtain ⟨x, y, h1, h2, h3⟩ := ht 0 t (by simp)
    cases ds with
    | nil => simp only [RpL] at hr; subst hr; simp at h1
    | cons d ds =>
      cases es with
      | nil => simp only [RpL] at hr'; subst hr'; simp at h2
      | cons e es =>
        simp only [RpL] at hr hr'
        obtain ⟨x', xr, rfl, hx, hxr⟩ := hr
        obtain ⟨y', yr, rfl, hy, hyr⟩ := hr'
        simp at h1 h2
        subst h1
        subst h2
        rw [List.map_cons]
        refine RpL.cons ?_ (ih hxr hyr (by simp at hl ⊢; omega) fun j t hj => ?_)
        · simp only [Rp]
          exact ⟨t, [x', y'], rfl, .inl h3, .cons (Rp.mono hA _ _ hx) (.cons (Rp.mono hA _ _ hy) .nil)⟩
        · obtain ⟨x, y, q1, q2, q3⟩ := ht (j + 1) t (by simpa using hj)
          exact ⟨x, y, by simpa using q1, by simpa using q2, q3⟩
theorem tE_colZ {f : Cells → Res (List R)} {Q : VK} (h : tE K (doCol (doItN zipD2 f)) σ H Q) : tColZ K (tA K f) σ H Q := by
  obtain ⟨O, env, rel, r, env', e, q⟩ := h
  obtain ⟨ds, env1, e1, e⟩ := Res.bind_ok e
  obtain ⟨rs, env2, e2, e1⟩ := Res.bind_ok e1
  split at e
  · cases e
    refine ⟨O, env, rel, rs, env2, e2, fun vs H1 r1 s1 rr ap => ?_⟩
    cases g : frzs env2 rs with
    | none => rw [g] at e1; cases e1
    | some p =>
      obtain ⟨xs, env3⟩ := p
      rw [g] at e1
      obtain ⟨e3, e4⟩ := ofO_ok e1
      subst e4
      obtain ⟨r2, s2, rp⟩ := frzs_ok r1 (hs_of rel rr) ap rr g
      unfold zipD2 at e3
      split at e3
      · rename_i ya yb
        cases e3
        simp only [RpL, Rp] at rp
        obtain ⟨x, r, rfl, ⟨a, us, rfl, ha, hr⟩, y, r', rfl, ⟨b, ws, rfl, hb, hr'⟩, rfl⟩ := rp
        refine ⟨a, b, us, ws, rfl, (ha.heap fun _ _ k => k.2.2).seq, (hb.heap fun _ _ k => k.2.2).seq, fun H' p ts g1 g2 g3 g4 g5 g6 => ?_⟩
        have np : ∀ a, nw (.new (.lst (zipL ya yb))) (.ref p) a → a = p := fun a z => by
          have z : V.ref p = .ref a := z
          cases z; rfl
        have r3 := r2.growN (N := nw (.new (.lst (zipL ya yb))) (.ref p)) g1 fun a z => by rw [np a z]; exact ⟨g2, _, g4, trivial⟩
        refine q _ H' r3 ((s1.trans s2).trans (Step.grow g1)) ⟨p, rfl, (s1.trans s2).back g2, ts.map V.ref, g4, ?_⟩
        refine rpl_refs (fun a u k => (Step.grow g1).avN (fun a z => by rw [np a z]; exact g2) a u k) hr hr' g5 fun j t hj => ?_
        obtain ⟨x, y, q1, q2, q3⟩ := g6 j t hj
        have ht := g3 t (List.mem_of_getElem? hj)
        refine ⟨x, y, q1, q2, r2.fresh_not ht, fun z => z.elim (fun z => r2.hidT z ht) fun z => ?_, .inl q3⟩
        have := np t z
        subst this
        rw [g4] at q3
        cases q3
      · cases e3
  · cases e
end
end Fx

set_option Elab.async false
set_option linter.all false
set_option maxRecDepth 100000
/-! Fx27: sorted, dict(pairs), str(n), join. -/
namespace Fx
open L2 PyProof.Rows PySem PySem.Spec
/-! ### sorting -/
section
variable {α : Type} {lt : α → α → Bool} {le : α → α → Prop}
theorem insBy_perm (x : α) : ∀ ys : List α, (insBy lt x ys).Perm (x :: ys)
  | [] => List.Perm.refl _
  | y :: r => by
    unfold insBy
    split
    · exact List.Perm.refl _
    · exact ((insBy_perm x r).cons y).trans (List.Perm.swap x y r)
theorem sortBy_perm : ∀ xs : List α, (sortBy lt xs).Perm xs
  | [] => List.Perm.refl _
  | x :: r => (insBy_perm x _).trans ((sortBy_perm r).cons x)
theorem insBy_le (h1 : ∀ a b, lt a b = true → le a b) (h2 : ∀ a b, lt a b = false → le b a) (tr : ∀ a b c, le a b → le b c → le a c) (x : α) : ∀ ys : List α, ys.Pairwise le → (insBy lt x ys).Pairwise le
  | [], _ => by simp [insBy]
  | y :: r, h => by
    unfold insBy
    rw [List.pairwise_cons] at h
    split
    · rename_i e
      refine List.pairwise_cons.mpr ⟨fun z hz => ?_, List.pairwise_cons.mpr h⟩
      obtain rfl | hz := List.mem_cons.mp hz
      · exact h1 _ _ e
      · exact tr _ _ _ (h1 _ _ e) (h.1 z hz)
    · rename_i e
      refine List.pairwise_cons.mpr ⟨fun z hz => ?_, insBy_le h1 h2 tr x r h.2⟩
      rcases List.mem_cons.mp ((insBy_perm x r).mem_iff.mp hz) with rfl | hz
      · exact h2 _ _ (by simpa using e)
      · exact h.1 z hz
theorem sortBy_le (h1 : ∀ a b, lt a b = true → le a b) (h2 : ∀ a b, lt a b = false → le b a) (tr : ∀ a b c, le a b → le b c → le a c) : ∀ xs : List α, (sortBy lt xs).Pairwise le
  | [] => by simp [sortBy]
  | x :: r => insBy_le h1 h2 tr x _ (sortBy_le h1 h2 tr r)
end
theorem sort_int {ns ns' : List Int} (p : ns'.Perm ns) (h : ns'.Pairwise (· ≤ ·)) : ns' = sortBy (fun a b => decide (a ≤ b)) ns := by
  refine List.Perm.eq_of_pairwise (le := (· ≤ ·)) (fun a b _ _ h1 h2 => Int.le_antisymm h1 h2) h ?_ (p.trans (sortBy_perm ns).symm)
  exact sortBy_le (lt := fun a b => decide (a ≤ b)) (le := (· ≤ ·)) (fun a b e => of_decide_eq_true e) (fun a b e => by have := of_decide_eq_false e; omega) (fun a b c => Int.le_trans) ns
theorem lt_cps : ∀ a b : List Nat, ltCps a b = decide (a < b)
  | [], [] => rfl
  | [], b :: bs => by simp [ltCps]
  | a :: as, [] => by simp [ltCps]
  | a :: as, b :: bs => by
    rw [ltCps, lt_cps as bs, Bool.eq_iff_iff]
    simp only [Bool.or_eq_true, Bool.and_eq_true, decide_eq_true_eq, beq_iff_eq, List.cons_lt_cons_iff]
theorem rise_pw : ∀ {ss : List Str} {p : Str}, risingS p ss = true → (p :: ss).Pairwise (fun a b => a.cps.toList ≤ b.cps.toList)
  | [], p, _ => by simp
  | x :: r, p, h => by
    unfold risingS at h
    rw [Bool.and_eq_true] at h
    have h1 : p.cps.toList ≤ x.cps.toList := by
      have := h.1
      rw [lt_cps] at this
      simpa using this
    have h2 := rise_pw h.2
    refine List.pairwise_cons.mpr ⟨fun z hz => ?_, h2⟩
    obtain rfl | hz := List.mem_cons.mp hz
    · exact h1
    · exact List.le_trans h1 ((List.pairwise_cons.mp h2).1 z hz)
theorem sorted_pw {ss : List Str} (h : sortedS ss = true) : ss.Pairwise (fun a b => a.cps.toList ≤ b.cps.toList) := by
  cases ss with
  | nil => simp
  | cons x r => exact rise_pw h
theorem mkS_cps (l : List Nat) : (mkS l).cps.toList = l := by simp [mkS]
theorem mkS_of (s : Str) : mkS s.cps.toList = s := by
  show (⟨s.cps.toList.toArray⟩ : Str) = s
  simp
abbrev sortT (ss : List (List Nat)) : List (List Nat) := sortBy (fun a b => !ltS b a) ss
theorem sortT_le (ss : List (List Nat)) : (sortT ss).Pairwise (· ≤ ·) :=
  sortBy_le (lt := fun a b => !ltS b a) (le := (· ≤ ·)) (fun a b e => by unfold ltS at e; simpa using e) (fun a b e => by unfold ltS at e; exact List.le_of_lt (by simpa using e)) (fun a b c => List.le_trans) ss
theorem sort_strs {ss : List (List Nat)} {ys : List Str} (p : ys.Perm (ss.map mkS)) (h : sortedS ys = true) : ys = (sortT ss).map mkS := by
  have hp : (ys.map fun s => s.cps.toList).Perm ss := by
    have := p.map fun s => s.cps.toList
    rw [List.map_map] at this
    have e : ss.map ((fun s : Str => s.cps.toList) ∘ mkS) = ss := by
      have : ∀ l ∈ ss, ((fun s : Str => s.cps.toList) ∘ mkS) l = id l := fun l _ => mkS_cps l
      rw [List.map_congr_left this, List.map_id]
    rwa [e] at this
  have e : (ys.map fun s => s.cps.toList) = sortT ss := by
    refine List.Perm.eq_of_pairwise (le := (· ≤ ·)) (fun a b _ _ h1 h2 => List.le_antisymm h1 h2) ?_ (sortT_le ss) (hp.trans (sortBy_perm ss).symm)
    exact List.pairwise_map.mpr (sorted_pw h)
  rw [← e, List.map_map]
  have : ∀ l ∈ ys, (mkS ∘ fun s : Str => s.cps.toList) l = id l := fun l _ => mkS_of l
  rw [List.map_congr_left this, List.map_id]
section
variable {K : PySem.W.Frag} {A : RdA}
theorem ints_rpl : ∀ ns : List Int, RpL K A (ns.map D.int) (ns.map V.int)
  | [] => RpL.nil
  | n :: ns => RpL.cons (by simp [Rp]) (ints_rpl ns)
theorem strs_rpl : ∀ ss : List (List Nat), RpL K A (ss.map D.str) ((ss.map mkS).map V.str)
  | [] => RpL.nil
  | n :: ns => RpL.cons (by simp [Rp]) (strs_rpl ns)
theorem keys_strs : ∀ {kvs : List (DK × D)} {ys : List (Key × V)} {ks : List (List Nat)}, RpD K A kvs ys → keyStrs kvs = some ks → ys.map (·.1) = (ks.map mkS).map Sum.inr
  | [], ys, ks, h, e => by simp only [RpD] at h; subst h; cases e; rfl
  | (.i n, d) :: kvs, ys, ks, h, e => by cases e
  | (.s l, d) :: kvs, ys, ks, h, e => by
    simp only [RpD] at h
    obtain ⟨x, r, rfl, _, t⟩ := h
    unfold keyStrs at e
    cases e1 : keyStrs kvs with
    | none => rw [e1] at e; cases e
    | some ms =>
      rw [e1] at e
      cases e
      rw [List.map_cons, keys_strs t e1]
      rfl
theorem keyOf_r {d : D} {k : DK} {v : V} (h : Rp K A d v) (e : keyOf d = some k) : v = kV k.toKey := by
  cases d <;> simp [keyOf] at e
  all_goals
    subst e
    simp only [Rp] at h
    exact h
/-- the pairs, as they lie -/
theorem pairs_r {H : Hp} (hA : ∀ a u, A a u → Rd H a u) : ∀ {ds : List D} {xs : List V} {kvs : List (DK × D)}, RpL K A ds xs → asPairs ds = some kvs →
    ∃ (ps : List Addr) (ys : List (Key × V)), xs = ps.map V.ref ∧ Paired (fun p kv => SqT K H p [kV kv.1, kv.2]) ps ys ∧ RpD K A kvs ys
  | [], xs, kvs, h, e => by
    simp only [RpL] at h
    subst h
    cases e
    exact ⟨[], [], rfl, .nil, by simp [RpD]⟩
  | d :: ds, xs, kvs, h, e => by
    unfold asPairs at e
    split at e
    · rename_i e0; cases e0
    · rename_i k v r e0
      cases e0
      simp only [RpL] at h
      obtain ⟨x, xs', rfl, hd, t⟩ := h
      cases e1 : keyOf k with
      | none => rw [e1] at e; cases e
      | some kk =>
        rw [e1] at e
        simp only [Option.bind] at e
        cases e2 : asPairs ds with
        | none => rw [e2] at e; cases e
        | some kvs' =>
          rw [e2] at e
          cases e
          obtain ⟨ps, ys, e3, e4, e5⟩ := pairs_r hA t e2
          simp only [Rp] at hd
          obtain ⟨a, zs, rfl, hs, hr⟩ := hd
          simp only [RpL] at hr
          obtain ⟨x1, r1, e6, h1, x2, r2, e7, h2, e8⟩ := hr
          subst e8 e7
          subst e6
          have ek := keyOf_r h1 e1
          subst ek
          refine ⟨a :: ps, (kk.toKey, x2) :: ys, by rw [e3]; rfl, .cons (hs.seq hA) e4, ?_⟩
          simp only [RpD]
          exact ⟨x2, ys, rfl, h2, e5⟩
    · cases e
theorem rpd_putAll {ds : List (DK × D)} {ys : List (Key × V)} (h : RpD K A ds ys) :
    RpD K A (putAll ds) (mergeK [] ys) := by
  unfold putAll mergeK
  have go : ∀ {ds : List (DK × D)} {ys : List (Key × V)} {acc : List (DK × D)} {zs : List (Key × V)}, RpD K A ds ys → RpD K A acc zs →
      RpD K A (ds.foldl (fun acc p => put acc p.1 p.2) acc) (ys.foldl (fun acc kv => putK acc kv.1 kv.2) zs) := by
    intro ds
    induction ds with
    | nil => intro ys acc zs h h2; simp only [RpD] at h; subst h; exact h2
    | cons p ds ih =>
      intro ys acc zs h h2
      obtain ⟨k, d⟩ := p
      simp only [RpD] at h
      obtain ⟨x, r, rfl, hx, t⟩ := h
      simp only [List.foldl_cons]
      exact ih t (rpd_put _ hx h2)
  exact go h (by simp [RpD])
/-- a new dict handed back -/
theorem give_dic {H : Hp} {ds : List (DK × D)} {xs : List (Key × V)} {p : Addr} {Q : VK} (hn : H p = none) (r : RpD K A ds xs)
    (q : ∀ v H', Same H H' → ROR K A H H' (.new (.dic ds)) v → Q v H') : Q (.ref p) (upd H p (.dK xs)) :=
  q _ _ (same_new hn) ⟨p, rfl, hn, ⟨_, upd_same, trivial⟩, xs, upd_same, r⟩
end
section
variable {X : Cx}
theorem blt_sorted (hc : X.calm = true) : CallR X (.builtin "sorted") (rL X.K (bltD .sorted)) := by
  intro pns s σ H xs us Q I r h
  obtain ⟨A, ds, ro, ga, vx, hf, q⟩ := h
  unfold bltD at hf
  split at hf <;> try contradiction
  · rename_i zs _
    obtain ⟨x, rfl, hx⟩ := v1 vx
    simp only [View] at hx
    obtain ⟨a, ys, rfl, hd, hr⟩ := hx
    unfold sortL at hf
    cases e : asInts zs with
    | some ns =>
      rw [e] at hf
      cases hf
      rw [asInts_map e] at hr
      rw [rpl_ints hr] at hd
      refine L2.cr_sortedI pns s σ H _ us Q I r ⟨a, ns, rfl, seqL hd, fun ns' p h1 h2 hp => ?_⟩
      rw [sort_int h1 h2]
      exact give_lst hp (ints_rpl _) q
    | none =>
      rw [e] at hf
      cases e2 : asStrs zs with
      | none => rw [e2] at hf; cases hf
      | some ss =>
        rw [e2] at hf
        simp only [Option.bind] at hf
        split at hf
        · rename_i h64
          cases hf
          rw [asStrs_map e2] at hr
          rw [rpl_strs hr] at hd
          refine L2.cr_sortedS pns s σ H _ us Q I r ⟨a, ss.map mkS, rfl, seqL hd, by rw [List.length_map]; exact h64, fun ns' p h1 h2 hp => ?_⟩
          rw [sort_strs h1 h2]
          exact give_lst hp (strs_rpl _) q
        · cases hf
  · rename_i kvs _
    obtain ⟨x, rfl, hx⟩ := v1 vx
    simp only [View] at hx
    obtain ⟨a, ys, rfl, hd, hr⟩ := hx
    cases e : keyStrs kvs with
    | none => rw [e] at hf; cases hf
    | some ks =>
      rw [e] at hf
      simp only [Option.bind] at hf
      split at hf
      · rename_i h64
        cases hf
        refine L2.call_sortedD hc pns s σ H _ us Q I r ⟨a, ys, ks.map mkS, rfl, hd, keys_strs hr e, by rw [List.length_map]; exact h64, fun ns' p h1 h2 hp => ?_⟩
        rw [sort_strs h1 h2]
        exact give_lst hp (strs_rpl _) q
      · cases hf
theorem blt_dict (hc : X.calm = true) : CallR X (.type "dict") (rL X.K (bltD .dict)) := by
  intro pns s σ H xs us Q I r h
  obtain ⟨A, ds, ro, ga, vx, hf, q⟩ := h
  unfold bltD at hf
  split at hf <;> try contradiction
  rename_i zs _
  split at hf
  · cases e : asPairs zs with
    | none => rw [e] at hf; cases hf
    | some kvs =>
      rw [e] at hf
      cases hf
      obtain ⟨x, rfl, hx⟩ := v1 vx
      simp only [View] at hx
      obtain ⟨a, ys, rfl, hd, hr⟩ := hx
      obtain ⟨ps, kys, rfl, hp, hk⟩ := pairs_r ga.rd hr e
      exact L2.call_dictP hc pns s σ H _ us Q I r ⟨a, ps, kys, rfl, seqL hd, hp, fun p hp => give_dic hp (rpd_putAll hk) q⟩
  · cases hf
theorem blt_str : CallR X (.type "str") (rL X.K (bltD .str)) := by
  intro pns s σ H xs us Q I r h
  obtain ⟨A, ds, ro, ga, vx, hf, q⟩ := h
  unfold bltD at hf
  split at hf <;> try contradiction
  rename_i i _
  split at hf
  · rename_i hz
    cases hf
    obtain ⟨x, rfl, hx⟩ := v1 vx
    simp only [View] at hx
    subst hx
    refine L2.call_str_int pns s σ H _ us Q I r ⟨i, rfl, hz, q _ _ (Same.refl H) ?_⟩
    simp only [ROR, Rp]
    congr 1
    exact Str.ofString_eq_toList _
  · cases hf
/-- sep.join(texts) -/
theorem glued_of (sep : List Nat) : ∀ ss : List (List Nat), Txt.join (mkS sep) (ss.map mkS) = mkS (joinL sep ss) := by
  intro ss
  have fo : ∀ (r : List (List Nat)) (acc : Array Nat), (r.map mkS).foldl (fun acc p => acc ++ (mkS sep).cps ++ p.cps) acc = acc ++ (r.map (sep ++ ·)).flatten.toArray := by
    intro r
    induction r with
    | nil => intro acc; simp
    | cons y r ih =>
      intro acc
      rw [List.map_cons, List.foldl_cons, ih]
      simp [mkS]
  have jo : ∀ (r : List (List Nat)) (x : List Nat), joinL sep (x :: r) = x ++ (r.map (sep ++ ·)).flatten := by
    intro r
    induction r with
    | nil => intro x; simp [joinL]
    | cons y r ih =>
      intro x
      rw [joinL, ih]
      simp
  cases ss with
  | nil => rfl
  | cons x r =>
    unfold Txt.join Builtin.Str.glued
    rw [List.map_cons, List.drop_one, List.tail_cons, fo, jo]
    simp [mkS]
/-- a method of a text, by values -/
def rMthG (K : PySem.W.Frag) (m : Mth) : V → List V → Hp → VK → Prop := fun x xs H Q => ∃ A d ds ro, GoodA A H ∧ View K A H d x ∧ ViewL K A H ds xs ∧ mthD m d ds = some ro ∧ ∀ v H', Same H H' → ROR K A H H' ro v → Q v H'
theorem mg_join : MtR X "str.join" (rMthG X.K .join) := by
  intro pns s σ H x xs v us Q I rx rs h
  obtain ⟨A, d, ds, ro, ga, vx, vs, hf, q⟩ := h
  unfold mthD at hf
  split at hf <;> try contradiction
  rename_i sep zs _
  cases e : asStrs zs with
  | none => rw [e] at hf; cases hf
  | some ss =>
    rw [e] at hf
    simp only [Option.bind] at hf
    split at hf
    · rename_i hl
      cases hf
      simp only [View] at vx
      subst vx
      obtain ⟨y, rfl, hy⟩ := v1 vs
      simp only [View] at hy
      obtain ⟨a, ys, rfl, hd, hr⟩ := hy
      rw [asStrs_map e] at hr
      rw [rpl_strs hr] at hd
      refine L2.mt_join pns s σ H _ _ v us Q I rx rs ⟨mkS sep, a, ss.map mkS, rfl, rfl, .inl (seqL hd), ?_, ?_⟩
      · rw [List.map_map, List.length_map, mkS_len]
        have e3 : ss.map ((fun x : Str => x.length) ∘ mkS) = ss.map (·.length) := List.map_congr_left fun l _ => mkS_len l
        rw [e3]
        exact Nat.le_trans hl (by decide)
      · rw [glued_of]
        exact q _ _ (Same.refl H) (by simp [ROR, Rp])
    · cases hf
end
end Fx

set_option Elab.async false
set_option linter.all false
set_option maxRecDepth 100000
/-! Fx15: expressions into the core language; that this is right. -/
namespace Fx
open L2 PyProof.Rows PySem PySem.Spec

/-! ### weaker readings -/
section
variable {X : Cx} {e : Expr}
theorem _root_.L2.PE.imp {t t' : TE} (h : PE X e t) (i : ∀ σ H Q, t' σ H Q → t σ H Q) : PE X e t' := ⟨fun pns s σ H Q I q => h.run pns s σ H Q I (i σ H Q q)⟩
theorem _root_.L2.PT.imp {t t' : TT} (h : PT X e t) (i : ∀ σ H Q, t' σ H Q → t σ H Q) : PT X e t' := ⟨fun pns s σ H Q I q => h.run pns s σ H Q I (i σ H Q q)⟩
theorem _root_.L2.PW.imp {t t' : TT} (h : PW X e t) (i : ∀ σ H Q, t' σ H Q → t σ H Q) : PW X e t' := ⟨fun w pns s σ H Q I q => h.run w pns s σ H Q I (i σ H Q q)⟩
theorem _root_.L2.PA.imp {es : List Expr} {t t' : TA} (h : PA X es t) (i : ∀ σ H Q, t' σ H Q → t σ H Q) : PA X es t' := ⟨fun p pns s σ H Q I q => h.run p pns s σ H Q I (i σ H Q q)⟩
theorem _root_.L2.PO.imp {es : Option Expr} {t t' : TO} (h : PO X es t) (i : ∀ σ H Q, t' σ H Q → t σ H Q) : PO X es t' := ⟨fun pns s σ H Q I q => h.run pns s σ H Q I (i σ H Q q)⟩
theorem _root_.L2.PG.imp {t t' : TG} (h : PG X e t) (i : ∀ v σ H Q, t' v σ H Q → t v σ H Q) : PG X e t' := ⟨fun pns s σ H v u Q I r q => h.run pns s σ H v u Q I r (i v σ H Q q)⟩
theorem _root_.L2.PGs.imp {es : List Expr} {t t' : TGs} (h : PGs X es t) (i : ∀ v σ H Q, t' v σ H Q → t v σ H Q) : PGs X es t' := ⟨fun pns s σ H v u Q I r q => h.run pns s σ H v u Q I r (i v σ H Q q)⟩
theorem _root_.L2.PS.imp {st : Stmt} {t t' : TS} (h : PS X st t) (i : ∀ D σ H, t' D σ H → t D σ H) : PS X st t' := ⟨fun pns s σ H D I q => h.run pns s σ H D I (i D σ H q)⟩
theorem _root_.L2.PSs.imp {st : List Stmt} {t t' : TS} (h : PSs X st t) (i : ∀ D σ H, t' D σ H → t D σ H) : PSs X st t' := ⟨fun pns s σ H D I q => h.run pns s σ H D I (i D σ H q)⟩
theorem _root_.L2.PTs.imp {es : List Expr} {t t' : TT} (h : PTs X es t) (i : ∀ σ H Q, t' σ H Q → t σ H Q) : PTs X es t' := ⟨fun pns s σ H Q I q => h.run pns s σ H Q I (i σ H Q q)⟩
end

/-! ### forms -/
def notStar : Expr → Bool
  | .Starred _ _ => false
  | _ => true
theorem starE {e : Expr} (h : notStar e = true) (es : List Expr) (env : Env) : starEach (e :: es) env = (false, eval e env) :: starEach es env := by
  cases e <;> first | rfl | cases h
theorem noStars {pos : Pos} {env : Env} : ∀ {es : List Expr}, es.all notStar = true → (backTo pos (starEach es env)).any (·.1) = false
  | [], _ => rfl
  | e :: es, h => by
    simp only [Bool.and_eq_true, List.all_cons] at h
    rw [starE h.1]
    show (false || (backTo pos (starEach es env)).any (·.1)) = false
    rw [noStars h.2]
    rfl
theorem assE {e : Expr} (h : notStar e = true) (es : List Expr) (env : Env) : assignEach (e :: es) env = (false, assign e env) :: assignEach es env := by
  cases e <;> first | rfl | cases h
theorem ass_len {env : Env} : ∀ {es : List Expr}, es.all notStar = true → (assignEach es env).length = es.length ∧ (assignEach es env).findIdx? (·.1) = none
  | [], _ => ⟨rfl, rfl⟩
  | e :: es, h => by
    simp only [Bool.and_eq_true, List.all_cons] at h
    rw [assE h.1]
    obtain ⟨h1, h2⟩ := ass_len (env := env) h.2
    exact ⟨by rw [List.length_cons, h1, List.length_cons], by rw [List.findIdx?_cons, h2]; rfl⟩
def plainTest : Expr → Bool
  | .UnaryOp .Not _ _ => false
  | .BoolOp _ _ _ => false
  | .IfExp _ _ _ _ => false
  | .Compare _ _ _ _ => false
  | _ => true
theorem plain_true {e : Expr} (h : plainTest e = true) {env : Env} (whole : Sem Value) : isTrue e env whole = (do let v ← whole; standAt e.pos; holding [v] (truthy v)) := by
  cases e with
  | UnaryOp op a p => cases op <;> first | rfl | cases h
  | _ => first | rfl | cases h
def plainIx : Expr → Bool
  | .Slice _ _ _ _ => false
  | _ => true
theorem plain_ix {e : Expr} (h : plainIx e = true) : PlainIx e := fun o i => by
  cases e <;> first | rfl | cases h
def isSet : Expr → Bool
  | .Set _ _ _ => true
  | _ => false
theorem no_marks {op : CmpOp} {e : Expr} (h : isSet e = false) : behindInMarks op e = false := by
  cases e <;> first | rfl | cases h
theorem no_fold {e : Expr} (h : isSet e = false) {env : Env} (x : Value) : foldedSetIterable e env x = pure x := by
  cases e <;> first | rfl | cases h

/-! ### contexts -/
structure Ctx where
  N : List Str
  sc : Scope
  all : Bool
  bts : List Str
  fns : List (Str × Nat × Nat × Nat)
  cs : List (Str × D)
def slotOf : List Str → Str → Option Nat
  | [], _ => none
  | y :: ys, x => if y = x then some 0 else (slotOf ys x).map (· + 1)
theorem slot_get : ∀ {N : List Str} {x : Str} {i : Nat}, slotOf N x = some i → N[i]? = some x
  | [], _, _, h => by cases h
  | y :: ys, x, i, h => by
    unfold slotOf at h
    split at h
    · rename_i e; cases h; subst e; rfl
    · cases e : slotOf ys x with
      | none => (rw [e] at h; cases h)
      | some j => rw [e] at h; cases h; simpa using slot_get e
def visB (sc : Scope) (x : Str) : Bool := match sc.names.lookup x with
  | some .local => true
  | some .cell => true
  | some .free => true
  | _ => false
theorem vis_of {sc : Scope} {x : Str} (h : visB sc x = true) : Vis sc x := by
  unfold visB at h
  split at h
  · rename_i e; exact .inl e
  · rename_i e; exact .inr (.inl e)
  · rename_i e; exact .inr (.inr e)
  · cases h
def glB (sc : Scope) (x : Str) : Bool := match sc.names.lookup x with
  | some .globalImplicit => true
  | _ => false
theorem gl_of {sc : Scope} {x : Str} (h : glB sc x = true) : sc.names.lookup x = some .globalImplicit := by
  unfold glB at h
  split at h
  · assumption
  · cases h
def okN (x : Str) : Bool := !(x == ("__debug__" : Str)) && !(x == ("__classdict__" : Str)) && !(x == ("__name__" : Str))
theorem okN_of {x : Str} (h : okN x = true) : (x == ("__debug__" : Str)) = false ∧ (x == ("__classdict__" : Str)) = false ∧ x ≠ ("__name__" : Str) := by
  unfold okN at h
  simp only [Bool.and_eq_true, Bool.not_eq_true', beq_eq_false_iff_ne] at h
  exact ⟨beq_eq_false_iff_ne.mpr h.1.1, beq_eq_false_iff_ne.mpr h.1.2, h.2⟩
def locB (c : Ctx) (x : Str) : Bool := match c.sc.names.lookup x with
  | some .local => true
  | some .cell => c.all
  | _ => false

def bopOf : Operator → Option Bop
  | .Add => some .add
  | .Sub => some .sub
  | .Mult => some .mul
  | .FloorDiv => some .fdiv
  | .Mod => some .mod
  | .Pow => some .pow
  | _ => none
def copOf : CmpOp → Option Cop
  | .Eq => some .eq
  | .NotEq => some .ne
  | .Lt => some .lt
  | .LtE => some .le
  | .Gt => some .gt
  | .GtE => some .ge
  | .Is => some .isN
  | .IsNot => some .notN
  | .In => some .isin
  | .NotIn => some .notin
def bltName : Blt → Str
  | .len => "len" | .abs => "abs" | .max => "max" | .min => "min" | .sum => "sum" | .all => "all" | .any => "any"
  | .int => "int" | .list => "list" | .tuple => "tuple" | .dict => "dict" | .repr => "repr" | .sorted => "sorted" | .str => "str"
def blts : List Blt := [.len, .abs, .max, .min, .sum, .all, .any, .int, .list, .tuple, .repr, .sorted, .dict, .str]
def tys : List Ty := [.int, .bool, .str, .tuple, .list, .dict]
def tyName : Ty → Str
  | .int => "int" | .bool => "bool" | .str => "str" | .tuple => "tuple" | .list => "list" | .dict => "dict"
/-- a built-in name as it is -/
def btB (c : Ctx) (x : Str) : Bool := glB c.sc x && c.bts.contains x
def findBlt (x : Str) : Option Blt := blts.find? fun b => decide (bltName b = x)
def findTy (x : Str) : Option Ty := tys.find? fun b => decide (tyName b = x)

/-! ### compiling -/
def cConst : Const → Option CE
  | .int i => some (.cst (.int i))
  | .bool b => some (.cst (.bl b))
  | .none => some (.cst .non)
  | .str s => some (.cst (.str s.cps.toList))
  | _ => none
def cName (c : Ctx) (x : Str) : Option CE :=
  if okN x then
    if visB c.sc x then (slotOf c.N x).map .var
    else if glB c.sc x then (c.cs.lookup x).map .cst
    else none
  else none
section
variable (c : Ctx) (rec : Expr → Option CE)
def cEs : List Expr → Option (List CE)
  | [] => some []
  | e :: es => match rec e, cEs es with
    | some a, some as => some (a :: as)
    | _, _ => none
def cBool (op : BoolOp) : List Expr → Option CE
  | [] => none
  | [e] => rec e
  | e :: es => match rec e, cBool op es with
    | some a, some b => some (match op with | .And => .and a b | .Or => .or a b)
    | _, _ => none
/-- may stand as a test -/
def tstB : Expr → Bool
  | .IfExp _ _ _ _ => false
  | _ => true
def cO : Option Expr → Option (Option CE)
  | none => some none
  | some e => (rec e).map some
end
/-- targets -/
def cTs (rec : Expr → Option Tg) : List Expr → Option (List Tg)
  | [] => some []
  | e :: es => match rec e, cTs rec es with
    | some a, some as => some (a :: as)
    | _, _ => none
def cT (c : Ctx) : Nat → Expr → Option Tg
  | 0, _ => none
  | n + 1, .Name x _ => if locB c x then (slotOf c.N x).map .nm else none
  | n + 1, .Tuple es _ _ => if es.all notStar then (cTs (cT c n) es).map .tup else none
  | _, _ => none
def muts : List Mut1 := [.append, .extend, .pop, .clear]
def mutName : Mut1 → Str
  | .append => "append" | .extend => "extend" | .pop => "pop" | .insert => "insert" | .remove => "remove" | .clear => "clear" | .update => "update"
def findMut (x : Str) : Option Mut1 := muts.find? fun b => decide (mutName b = x)
section
variable (c : Ctx) (rec : Expr → Option CE)
def cIs (a t : Expr) : Option CE :=
  match t with
  | .Name t _ => if btB c t && okN t then (match findTy t, rec a with
      | some ty, some ca => some (.isinst ca ty)
      | _, _ => none) else none
  | _ => none
/-- list(zip(a, b)) -/
def cZip (args : List Expr) : Option CE :=
  match args with
  | [.Call (.Name y _) [a, b] [] _] => if y = "zip" then (if btB c "zip" then (cEs rec [a, b]).map .col else none) else none
  | _ => none
def cCall (x : Str) (args : List Expr) : Option CE :=
  if okN x && !args.isEmpty then
    match c.fns.lookup x with
    | some (i, m, d) => if glB c.sc x && decide (args.length ≤ m) && decide (m ≤ args.length + d) then (cEs rec args).map (.call i) else none
    | none => if btB c x then
        (match (if x = "list" then cZip c rec args else if x = "dict" then (cZip c rec args).map (fun ce => .blt .dict [ce]) else none) with
        | some ce => some ce
        | none =>
        match findBlt x with
        | some b => (cEs rec args).map (.blt b)
        | none => if x = "isinstance" then (match args with
          | [a, t] => cIs c rec a t
          | _ => none) else none)
      else none
  else none
def cMeth (o : Expr) (m : Str) (args : List Expr) (apos cpos : Pos) : Option CE :=
  match o with
  | .Name x _ => if okN x && visB c.sc x && (apos.endLine == cpos.line) then (match slotOf c.N x, findMut m, args with
      | some i, some mu, [] => some (.mut mu i [])
      | some i, some mu, [e] => (rec e).map fun a => .mut mu i [a]
      | _, _, _ => none) else none
  | .Constant (.str s) _ _ => if m = "join" then (if apos.endLine == cpos.line then (match args with
      | [e] => (rec e).map fun a => .mth .join (.cst (.str s.cps.toList)) [a]
      | _ => none) else none) else none
  | _ => none
def cSub (a i : Expr) : Option CE :=
  match i with
  | .Slice lo hi st _ => (match st with
    | none => (match rec a, cO rec lo, cO rec hi with
      | some ca, some l, some h => some (.sl ca l h)
      | _, _, _ => none)
    | some (.UnaryOp .USub (.Constant (.int 1) _ _) _) => (match lo, hi with
      | none, none => (rec a).map .rev
      | _, _ => none)
    | _ => none)
  | i => match rec a, rec i with
    | some ca, some ci => some (.ix ca ci)
    | _, _ => none
def isTup : Expr → Bool
  | .Tuple _ _ _ => true
  | _ => false
def notCall : Expr → Bool
  | .Call _ _ _ _ => false
  | _ => true
def cI (tg iter : Expr) : Option It :=
  match iter with
  | .Call f args [] cpos => (match f with
    | .Name x _ => if btB c x && okN x then
        (if x = "range" then (if decide (1 ≤ args.length) && decide (args.length ≤ 3) then (cEs rec args).map .range else none)
        else if x = "enumerate" then (if isTup tg && decide (args.length = 1) then (cEs rec args).map .enum else none)
        else if x = "zip" then (if isTup tg && decide (args.length = 2) then (cEs rec args).map .zip else none)
        else (rec iter).map .e)
      else (rec iter).map .e
    | .Attribute o m apos => (match args with
      | [] => if notCall o && (apos.endLine == cpos.line) then
          (if m = "items" then (if isTup tg then (rec o).map .items else none)
          else if m = "values" then (rec o).map .values
          else (rec iter).map .e)
        else (rec iter).map .e
      | _ => (rec iter).map .e)
    | _ => (rec iter).map .e)
  | _ => (rec iter).map .e
/-- a key of a display -/
def cKey : Option Expr → Option DK
  | some (.Constant (.str s) _ _) => some (.s s.cps.toList)
  | some (.Constant (.int i) _ _) => some (.i i)
  | _ => none
def cKs : List (Option Expr) → List Expr → Option (List (DK × CE))
  | [], [] => some []
  | k :: ks, v :: vs => match cKey k, rec v, cKs ks vs with
    | some a, some b, some cs => some ((a, b) :: cs)
    | _, _, _ => none
  | _, _ => none
def ownOf (N : List Str) (scope : Scope) : List (Str × Nat) := scope.names.filterMap fun y => match y.2 with
  | .local => (slotOf N y.1).map fun i => (y.1, i)
  | .cell => (slotOf N y.1).map fun i => (y.1, i)
  | _ => none
def Ctx.blk (c : Ctx) (scope : Scope) : Ctx := { c with sc := relS scope c.sc, all := false }
end
def cE : Nat → Ctx → Expr → Option CE
  | 0, _, _ => none
  | n + 1, c, e => match e with
    | .Name x _ => cName c x
    | .Constant k _ _ => cConst k
    | .BinOp a op b _ => (match bopOf op, cE n c a, cE n c b with
      | some o, some x, some y => some (.bin o x y)
      | _, _, _ => none)
    | .UnaryOp op a _ => (match op, cE n c a with
      | .USub, some x => some (.neg x)
      | .Not, some x => if tstB a then some (.not x) else none
      | _, _ => none)
    | .BoolOp op es _ => if es.all tstB then cBool (cE n c) op es else none
    | .Compare a ops bs _ => (match ops, bs with
      | [op], [b] => (match copOf op, cE n c a, cE n c b with
        | some o, some x, some y => some (.cmp o x y)
        | _, _, _ => none)
      | [op, op'], [b, d] => (match copOf op, copOf op', cE n c a, cE n c b, cE n c d with
        | some o, some o', some x, some y, some z => some (.chain o o' x y z)
        | _, _, _, _, _ => none)
      | _, _ => none)
    | .IfExp t a b _ => if tstB t then (match cE n c t, cE n c a, cE n c b with
      | some x, some y, some z => some (.ite x y z)
      | _, _, _ => none) else none
    | .Tuple es _ _ => (cEs (cE n c) es).map .tup
    | .List es _ => (cEs (cE n c) es).map .lst
    | .Dict keys values _ => (match cKs (cE n c) keys values with
      | some ks => if ks.length ≤ 15 then some (.disp ks) else none
      | none => none)
    | .Call f args kws cpos => (match kws with
      | [] => (match f with
        | .Name x _ => cCall c (cE n c) x args
        | .Attribute o m apos => cMeth c (cE n c) o m args apos cpos
        | _ => none)
      | _ => none)
    | .Subscript a i _ => cSub (cE n c) a i
    | .ListComp elt gens scope _ => (match gens with
      | [⟨tg, iter, ifs, 0⟩] => if blkC c.N c.sc scope (ownOf c.N scope) then
          (match cI c (cE n c) tg iter, cT (c.blk scope) n tg, cE n (c.blk scope) elt, ifs with
          | some it, some t, some el, [] => if t.slots.all ((ownOf c.N scope).map (·.2)).contains then some (.lc el t it none ((ownOf c.N scope).map (·.2))) else none
          | some it, some t, some el, [cd] => if tstB cd && t.slots.all ((ownOf c.N scope).map (·.2)).contains then
              (cE n (c.blk scope) cd).map fun cc => .lc el t it (some cc) ((ownOf c.N scope).map (·.2)) else none
          | _, _, _, _ => none) else none
      | _ => none)
    | _ => none

/-! ### what is asked of a place -/
structure FnX (X : Cx) (x : Str) (fe : FE) : Prop where
  ex : ∃ (k : Nat) (f : Addr) (fd : FuncData) (ps : List Str), FnG X.prog X.w X.K X.mg X.base CX0 k f fd ps (spF X.K fe) ∧ Room k X.A ∧ X.mg x = some (.ref f) ∧ PySem.W.keepIn X.K (.ref f) = true ∧
    ∀ n, n ≤ fe.modes.length → fe.modes.length ≤ n + fe.dvs.length → ∃ dvs ds, Vals dvs ds ∧ Binds X.K fd ps ds ∧ ∀ A, RpL X.K A (fe.dvs.drop (fe.dvs.length + n - fe.modes.length)) dvs
structure XOk (Γ : FT) (X : Cx) (c : Ctx) : Prop where
  N : X.N = c.N
  nd : X.N.Nodup
  sc : X.env.scope = c.sc
  kind : c.sc.kind = .function
  calm : X.calm = true
  hg : X.A.guards = some []
  hu : X.A.units + 200 < cLine
  sys : ∃ o es ep, X.base.get? sysModules = some o ∧ o.data = .dict es ep
  all : c.all = true → ∀ x, X.fn x = true
  bts : ∀ x ∈ c.bts, X.mg x = none
  cs : ∀ x d, c.cs.lookup x = some d → ∃ u v, X.mg x = some u ∧ RelV v u ∧ ∀ A, Rp X.K A d v
  fns : ∀ x t, c.fns.lookup x = some t → ∃ fe, Γ[t.1]? = some fe ∧ fe.modes.length = t.2.1 ∧ fe.dvs.length = t.2.2 ∧ FnX X x fe
section
variable {Γ : FT} {X : Cx} {c : Ctx}
theorem XOk.blk (ok : XOk Γ X c) {scope : Scope} (hk : scope.kind = .function) (s : Shared) (H : Hp) (C : Addr) (cl : List (Str × Addr)) (fp : List Addr) :
    XOk Γ (X.blk s H scope (compEnvC scope cl C X.env) fp) (c.blk scope) where
  N := ok.N
  nd := ok.nd
  sc := by
    show relS scope X.env.scope = relS scope c.sc
    rw [ok.sc]
  kind := hk
  calm := ok.calm
  hg := ok.hg
  hu := ok.hu
  sys := ok.sys
  all := fun h => by cases h
  bts := ok.bts
  cs := ok.cs
  fns := fun x t h => by
    obtain ⟨fe, h1, h2, h3, ⟨h4⟩⟩ := ok.fns x t h
    exact ⟨fe, h1, h2, h3, ⟨h4⟩⟩
structure Snd (Γ : FT) (X : Cx) (e : Expr) (ce : CE) : Prop where
  v : PE X e (tE X.K (ev Γ ce).v)
  t : tstB e = true → PT X e (tT X.K (ev Γ ce).t)
  ns : notStar e = true
  nset : isSet e = false
theorem Snd.of {e : Expr} {ce : CE} {f : Cells → Res R} (h1 : (ev Γ ce) = .of f) (hp : PE X e (tE X.K f)) (h3 : plainTest e = true) (h4 : notStar e = true) (h5 : isSet e = false) : Snd Γ X e ce where
  v := by rw [h1]; exact hp
  t := fun _ => by rw [h1]; exact (pt_truth hp (plain_true h3)).imp fun σ H Q q => tT_of q
  ns := h4
  nset := h5
theorem lookup_mem {x : Str} (h : btB c x = true) (ok : XOk Γ X c) : Gl X x ∧ X.mg x = none := by
  unfold btB at h
  rw [Bool.and_eq_true] at h
  refine ⟨?_, ok.bts x (by simpa using h.2)⟩
  show X.env.scope.names.lookup x = _
  rw [ok.sc]
  exact gl_of h.1
theorem gl_x {x : Str} (h : glB c.sc x = true) (ok : XOk Γ X c) : Gl X x := by
  show X.env.scope.names.lookup x = _
  rw [ok.sc]
  exact gl_of h
theorem k_name {x : Str} {p : Pos} {ce : CE} (ok : XOk Γ X c) (h : cName c x = some ce) : Snd Γ X (.Name x p) ce := by
  unfold cName at h
  split at h
  · rename_i hx
    obtain ⟨n1, n2, n3⟩ := okN_of hx
    split at h
    · rename_i hv
      cases e : slotOf c.N x with
      | none => (rw [e] at h; cases h)
      | some i =>
        rw [e] at h
        cases h
        refine .of (by rw [ev]) ((pe_var (i := i) (by rw [ok.N]; exact slot_get e) (by rw [ok.sc]; exact vis_of hv) n1 n2).imp fun σ H Q q => tE_var q) rfl rfl rfl
    · split at h
      · rename_i hg
        cases e : c.cs.lookup x with
        | none => (rw [e] at h; cases h)
        | some d =>
          rw [e] at h
          cases h
          obtain ⟨u, v, h1, h2, h3⟩ := ok.cs x d e
          exact .of (by rw [ev]) ((pe_glob (gl_x hg ok) h1 h2 n1).imp fun σ H Q q => tE_cst h3 q) rfl rfl rfl
      · cases h
  · cases h
theorem k_const {k : Const} {j : Nat} {p : Pos} {ce : CE} (h : cConst k = some ce) : Snd Γ X (.Constant k j p) ce := by
  cases k <;> simp only [cConst, reduceCtorEq] at h <;> cases h
  · exact .of (by rw [ev]) (pe_non.imp fun σ H Q q => tE_cst (fun A => by simp [Rp]) q) rfl rfl rfl
  · exact .of (by rw [ev]) (pe_bl.imp fun σ H Q q => tE_cst (fun A => by simp [Rp]) q) rfl rfl rfl
  · exact .of (by rw [ev]) (pe_int.imp fun σ H Q q => tE_cst (fun A => by simp [Rp]) q) rfl rfl rfl
  · exact .of (by rw [ev]) (pe_str.imp fun σ H Q q => tE_cst (fun A => by simp [Rp, mkS]) q) rfl rfl rfl
theorem op_of {op : Operator} {o : Bop} (h : bopOf op = some o) : OpR X (binaryOp op) (r2 X.K (binD o)) := by
  cases op <;> simp only [bopOf, reduceCtorEq] at h <;> cases h
  · exact op_addG
  · exact op_subG
  · exact op_mulG
  · exact op_modG
  · exact op_powG
  · exact op_fdivG
theorem cop_of {op : CmpOp} {o : Cop} (hu : X.A.units + 200 < cLine) (h : copOf op = some o) : OpR X (compareOp op) (r2 X.K (cmpRO o)) := by
  cases op <;> simp only [copOf, reduceCtorEq] at h <;> cases h
  · exact op_eqG (by omega)
  · exact op_neG (by omega)
  · exact op_ltG
  · exact op_leG
  · exact op_gtG
  · exact op_geG
  · exact op_isNG
  · exact op_notNG
  · exact op_inG (by omega)
  · exact op_notinG (by omega)
/-- lists of expressions -/
theorem k_es {rec : Expr → Option CE} (hr : ∀ e ce, rec e = some ce → Snd Γ X e ce) : ∀ {es : List Expr} {ces : List CE}, cEs rec es = some ces →
    PA X es (tA X.K (evEs Γ ces)) ∧ es.all notStar = true ∧ ces.length = es.length
  | [], ces, h => by
    cases h
    refine ⟨pa_nil.imp fun σ H Q q => ?_, rfl, rfl⟩
    have e : evEs Γ [] = fun env => .ok [] env := by funext env; rw [evEs]
    rw [e] at q
    exact tA_nil q
  | e :: es, ces, h => by
    unfold cEs at h
    cases e1 : rec e with
    | none => rw [e1] at h; cases h
    | some a =>
      cases e2 : cEs rec es with
      | none => rw [e1, e2] at h; cases h
      | some as =>
        rw [e1, e2] at h
        cases h
        have s := hr e a e1
        obtain ⟨pa, ns, len⟩ := k_es hr e2
        refine ⟨(pa_cons s.v pa (starE s.ns _ _)).imp fun σ H Q q => ?_, by rw [List.all_cons, s.ns, ns]; rfl, by simp [len]⟩
        have e : evEs Γ (a :: as) = fun env => ((ev Γ a).v env).bind fun r env1 => (evEs Γ as env1).bind fun rs env2 => .ok (r :: rs) env2 := by funext env; rw [evEs]
        rw [e] at q
        exact tA_cons q
theorem ev_len : ∀ {ces : List CE} {env env' : Cells} {rs : List R}, evEs Γ ces env = .ok rs env' → rs.length = ces.length
  | [], env, env', rs, h => by rw [evEs] at h; cases h; rfl
  | a :: as, env, env', rs, h => by
    rw [evEs] at h
    obtain ⟨r, env1, e1, h⟩ := Res.bind_ok h
    obtain ⟨rs', env2, e2, h⟩ := Res.bind_ok h
    cases h
    simp [ev_len e2]
theorem k_bool {rec : Expr → Option CE} (hr : ∀ e ce, rec e = some ce → Snd Γ X e ce) {op : BoolOp} {p : Pos} : ∀ {es : List Expr} {ce : CE}, es.all tstB = true → cBool rec op es = some ce →
    PE X (.BoolOp op es p) (tE X.K (ev Γ ce).v) ∧ PW X (.BoolOp op es p) (tT X.K (ev Γ ce).t)
  | [], ce, _, h => by cases h
  | [e], ce, ht, h => by
    have s := hr e ce h
    have te : tstB e = true := by simpa using ht
    cases op with
    | And => exact ⟨pe_one s.v, pw_and1 (s.t te)⟩
    | Or => exact ⟨pe_one s.v, pw_or1 (s.t te)⟩
  | e :: e' :: es, ce, ht, h => by
    rw [List.all_cons, Bool.and_eq_true] at ht
    unfold cBool at h
    cases e1 : rec e with
    | none => rw [e1] at h; cases h
    | some a =>
      cases e2 : cBool rec op (e' :: es) with
      | none => rw [e1, e2] at h; cases h
      | some b =>
        rw [e1, e2] at h
        have s := hr e a e1
        obtain ⟨h1, h2⟩ := k_bool hr (p := p) ht.2 e2
        cases op with
        | And =>
          cases h
          have ee : ev Γ (.and a b) = ⟨doAnd (ev Γ a).v (ev Γ b).v, toAnd (ev Γ a).t (ev Γ b).t⟩ := by rw [ev]
          rw [ee]
          exact ⟨(pe_and s.v h1).imp fun σ H Q q => tE_and q, (pw_and (s.t ht.1) h2).imp fun σ H Q q => tT_and q⟩
        | Or =>
          cases h
          have ee : ev Γ (.or a b) = ⟨doOr (ev Γ a).v (ev Γ b).v, toOr (ev Γ a).t (ev Γ b).t⟩ := by rw [ev]
          rw [ee]
          exact ⟨(pe_or s.v h1).imp fun σ H Q q => tE_or q, (pw_or (s.t ht.1) h2).imp fun σ H Q q => tT_or q⟩
end
end Fx

set_option Elab.async false
set_option linter.all false
set_option maxRecDepth 100000
/-! Fx28: dict displays. -/
namespace Fx
open L2 PyProof.Rows PySem PySem.Spec
section
variable {K : PySem.W.Frag} {σ : L2.St}
abbrev trsK (K : PySem.W.Frag) (Γ : FT) (ks : List (DK × CE)) : List (TE × TE) := ks.map fun p => (tC (kV p.1.toKey), tE K (ev Γ p.2).v)
theorem tPairs_ok {Γ : FT} : ∀ {ks : List (DK × CE)} {O : Addr → Prop} {env env' : Cells} {H : Hp} {kvs : List (DK × D)} {Q : List (V × V) → Hp → Prop}, Rel K O env σ H → evKs Γ ks env = .ok kvs env' →
    (∀ ps H2, Rel K O env' σ H2 → Step env σ H env' σ H2 → (∃ ys : List (Key × V), ps = ys.map (fun kv => (kV kv.1, kv.2)) ∧ RpD K (Av O env' σ H2) kvs ys) → Q ps H2) → tPairs (trsK K Γ ks) σ H Q
  | [], O, env, env', H, kvs, Q, rel, e, q => by
    rw [evKs] at e
    cases e
    exact q [] H rel Step.refl ⟨[], rfl, by simp [RpD]⟩
  | (k, c) :: ks, O, env, env', H, kvs, Q, rel, e, q => by
    rw [evKs] at e
    obtain ⟨r, env1, e1, e⟩ := Res.bind_ok e
    cases e2 : frz env1 r with
    | none => rw [e2] at e; cases e
    | some p =>
      obtain ⟨x, env2⟩ := p
      rw [e2] at e
      simp only at e
      obtain ⟨xs, env3, e3, e⟩ := Res.bind_ok e
      cases e
      refine ⟨O, env, rel, r, env1, e1, fun y H2 rel1 st1 rr1 => ?_⟩
      obtain ⟨rel2, st2, rp2⟩ := frz_ok rel1 (fun a n z => rel.hidT z (rr1.fresh a n)) rr1 e2
      refine tPairs_ok rel2 e3 fun ps H3 rel3 st3 ⟨ys, hps, hys⟩ => q _ H3 rel3 ((st1.trans st2).trans st3) ⟨(k.toKey, y) :: ys, by rw [hps]; rfl, ?_⟩
      simp only [RpD]
      exact ⟨y, ys, rfl, Rp.mono st3.av _ _ rp2, hys⟩
theorem evKs_len {Γ : FT} : ∀ {ks : List (DK × CE)} {env env' : Cells} {kvs : List (DK × D)}, evKs Γ ks env = .ok kvs env' → kvs.length = ks.length
  | [], env, env', kvs, e => by rw [evKs] at e; cases e; rfl
  | (k, c) :: ks, env, env', kvs, e => by
    rw [evKs] at e
    obtain ⟨r, env1, e1, e⟩ := Res.bind_ok e
    cases e2 : frz env1 r with
    | none => rw [e2] at e; cases e
    | some p =>
      rw [e2] at e
      simp only at e
      obtain ⟨xs, env3, e3, e⟩ := Res.bind_ok e
      cases e
      simp [evKs_len e3]
/-- a dict display -/
theorem tE_disp {Γ : FT} {ks : List (DK × CE)} {H : Hp} {Q : VK} (h15 : ks.length ≤ 15) (h : tE K (doDisp (evKs Γ ks)) σ H Q) : tDisp (trsK K Γ ks) σ H Q := by
  obtain ⟨O, env, rel, r, env', e, q⟩ := h
  obtain ⟨kvs, env1, e1, e⟩ := Res.bind_ok e
  cases e
  intro p hp
  let N : Addr → Prop := nw (.new (.dic [])) (.ref p)
  have Np : ∀ a, N a → a = p := fun a z => by
    have z : V.ref p = .ref a := z
    cases z; rfl
  have N0 : ∀ a, N a → H a = none := fun a z => by rw [Np a z]; exact hp
  have pN : un O N p := .inr rfl
  have rg := rel.growN (H1 := upd H p (.dK [])) (N := N) (same_new hp) fun a z => ⟨N0 a z, by rw [Np a z]; exact ⟨_, upd_same, trivial⟩⟩
  refine tPairs_ok rg e1 fun ps H2 rel2 st2 ⟨ys, hps, hys⟩ => ?_
  have hH2 : H2 p = some (.dK []) := st2.kp p _ upd_same (rg.hid p pN).2
  have hl : ys.length ≤ 15 := by rw [hys.length, evKs_len e1]; exact h15
  refine ⟨hH2, ys, hps, hl, ?_⟩
  have av2 : ∀ a u, Av (un O N) env' σ H2 a u → Av (un O N) env' σ (upd H2 p (.dK (mergeK [] ys))) a u := fun a u ⟨k1, k2, k3⟩ => by
    have ne : a ≠ p := fun z => k2 (by subst z; exact pN)
    refine ⟨k1, k2, ?_⟩
    rcases k3 with k3 | ⟨od, k3⟩
    · exact .inl ((upd_ne ne).trans k3)
    · exact .inr ⟨od, (upd_ne ne).trans k3⟩
  have r7 := rel_hidden (o' := .dK (mergeK [] ys)) rel2 pN trivial
  have sC := (Step.grow (env := env) (σ := σ) (same_new hp)).trans st2
  have s7 : Step env σ H env' σ (upd H2 p (.dK (mergeK [] ys))) := by
    refine ⟨fun a o e n => ?_, sC.ow, fun a e => ?_, sC.io⟩
    · have ne : a ≠ p := fun z => by subst z; rw [hp] at e; cases e
      exact (upd_ne ne).trans (sC.kp a o e n)
    · by_cases z : a = p
      · subst z; rw [upd_same]; simp
      · rw [upd_ne z]; exact sC.th a e
  exact q _ _ r7 s7 ⟨p, rfl, hp, _, upd_same, rpd_putAll (RpD.mono av2 _ _ hys)⟩
end
end Fx

set_option Elab.async false
set_option linter.all false
set_option maxRecDepth 100000
/-! Fx29: walks over dicts: the dict is locked while it is walked. -/
namespace Fx
open L2 PyProof.Rows PySem PySem.Spec
/-- no frozen thing -/
def NF (u : HO) : Prop := ∀ o x, u ≠ .frz o x
section
variable {K : PySem.W.Frag} {A A' : RdA}
mutual
theorem Rp.monoF (h : ∀ a u, NF u → A a u → A' a u) : ∀ (d : D) (v : V), Rp K A d v → Rp K A' d v
  | .non, _, q => by simpa [Rp] using q
  | .bl b, _, q => by simpa [Rp] using q
  | .int i, _, q => by simpa [Rp] using q
  | .str s, _, q => by simpa [Rp] using q
  | .tup ds, v, q => by
    simp only [Rp] at q ⊢
    obtain ⟨a, xs, e, hs, hr⟩ := q
    exact ⟨a, xs, e, hs.imp (h _ _ (fun _ _ z => nomatch z)) id, RpL.monoF h ds xs hr⟩
  | .lst ds, v, q => by
    simp only [Rp] at q ⊢
    obtain ⟨a, xs, e, hs, hr⟩ := q
    exact ⟨a, xs, e, hs.imp (h _ _ (fun _ _ z => nomatch z)) id, RpL.monoF h ds xs hr⟩
  | .dic kvs, v, q => by
    simp only [Rp] at q ⊢
    obtain ⟨a, ys, e, hs, hr⟩ := q
    exact ⟨a, ys, e, h _ _ (fun _ _ z => nomatch z) hs, RpD.monoF h kvs ys hr⟩
theorem RpL.monoF (h : ∀ a u, NF u → A a u → A' a u) : ∀ (ds : List D) (xs : List V), RpL K A ds xs → RpL K A' ds xs
  | [], _, q => by simpa [RpL] using q
  | d :: ds, xs, q => by
    simp only [RpL] at q ⊢
    obtain ⟨x, r, e, hd, hr⟩ := q
    exact ⟨x, r, e, Rp.monoF h d x hd, RpL.monoF h ds r hr⟩
theorem RpD.monoF (h : ∀ a u, NF u → A a u → A' a u) : ∀ (kvs : List (DK × D)) (ys : List (Key × V)), RpD K A kvs ys → RpD K A' kvs ys
  | [], _, q => by simpa [RpD] using q
  | (k, d) :: kvs, ys, q => by
    simp only [RpD] at q ⊢
    obtain ⟨x, r, e, hd, hr⟩ := q
    exact ⟨x, r, e, Rp.monoF h d x hd, RpD.monoF h kvs r hr⟩
end
end
section
variable {K : PySem.W.Frag} {O : Addr → Prop} {env env1 env' : Cells} {σ σ' : L2.St} {H H1 H' : Hp} {d : Addr} {od : Obj} {ys : List (Key × V)}
theorem ObR.monoF {A A' : RdA} (h : ∀ a u, NF u → A a u → A' a u) {b : Ob} {p : Addr} (e : H1 p = H p) (q : ObR K A H b p) : ObR K A' H1 b p := by
  cases b with
  | lst ds => obtain ⟨xs, q, r⟩ := q; exact ⟨xs, e.trans q, RpL.monoF h _ _ r⟩
  | dic kvs => obtain ⟨xs, q, r⟩ := q; exact ⟨xs, e.trans q, RpD.monoF h _ _ r⟩
/-- a dict that is data, locked -/
theorem lock_rel (rel : Rel K O env σ H) (h : H d = some (.dK ys)) (n : ¬ Ow env σ d) (m : ¬ O d) : Rel K O env σ (upd H d (.frz od (.dK ys))) := by
  have av : ∀ a u, NF u → Av O env σ H a u → Av O env σ (upd H d (.frz od (.dK ys))) a u := fun a u _ ⟨k1, k2, k3⟩ => by
    refine ⟨k1, k2, ?_⟩
    by_cases z : a = d
    · subst z
      rcases k3 with k3 | ⟨o2, k3⟩
      · rw [h] at k3; cases k3; exact .inr ⟨od, upd_same⟩
      · rw [h] at k3; cases k3
    · rcases k3 with k3 | ⟨o2, k3⟩
      · exact .inl ((upd_ne z).trans k3)
      · exact .inr ⟨o2, (upd_ne z).trans k3⟩
  refine ⟨rel.len, fun j c e => ?_, rel.inj, fun a z => ?_⟩
  · have q := rel.at_ j c e
    have ne : ∀ b w, obAt env j = some b → σ[j]? = some (some (.ref w)) → w ≠ d := fun b w h1 h2 z => n (by subst z; exact ⟨j, b, h1, h2⟩)
    cases c with
    | none => trivial
    | d x => obtain ⟨w, e2, r⟩ := q; exact ⟨w, e2, Rp.monoF av _ _ r⟩
    | o c => obtain ⟨w, e2, r⟩ := q; exact ⟨w, e2, r.monoF av (upd_ne (ne _ _ (obAt_o e) e2))⟩
    | io c => obtain ⟨w, e2, r⟩ := q; exact ⟨w, e2, r.monoF av (upd_ne (ne _ _ (obAt_io e) e2))⟩
  · obtain ⟨⟨o, ho, mu⟩, nn⟩ := rel.hid a z
    exact ⟨⟨o, (upd_ne fun e => m (by subst e; exact z)).trans ho, mu⟩, nn⟩
theorem unlock_av (h : H' d = some (.frz od (.dK ys))) (a : Addr) (u : HO) (hu : NF u) (k : Av O env' σ' H' a u) : Av O env' σ' (upd H' d (.dK ys)) a u := by
  obtain ⟨k1, k2, k3⟩ := k
  refine ⟨k1, k2, ?_⟩
  by_cases z : a = d
  · subst z
    rcases k3 with k3 | ⟨o2, k3⟩
    · rw [h] at k3; cases k3; exact (hu _ _ rfl).elim
    · rw [h] at k3; cases k3; exact .inl upd_same
  · rcases k3 with k3 | ⟨o2, k3⟩
    · exact .inl ((upd_ne z).trans k3)
    · exact .inr ⟨o2, (upd_ne z).trans k3⟩
theorem unlock_rel (rel : Rel K O env' σ' H') (h : H' d = some (.frz od (.dK ys))) : Rel K O env' σ' (upd H' d (.dK ys)) := by
  have av := unlock_av (O := O) (env' := env') (σ' := σ') h
  have obne : ∀ {b p} {A : RdA}, ObR K A H' b p → p ≠ d := fun q z => by
    obtain ⟨o, ho, mu⟩ := q.some
    rw [z, h] at ho
    cases ho
    exact mu
  refine ⟨rel.len, fun j c e => ?_, rel.inj, fun a z => ?_⟩
  · have q := rel.at_ j c e
    cases c with
    | none => trivial
    | d x => obtain ⟨w, e2, r⟩ := q; exact ⟨w, e2, Rp.monoF av _ _ r⟩
    | o c => obtain ⟨w, e2, r⟩ := q; exact ⟨w, e2, r.monoF av (upd_ne (obne r))⟩
    | io c => obtain ⟨w, e2, r⟩ := q; exact ⟨w, e2, r.monoF av (upd_ne (obne r))⟩
  · obtain ⟨⟨o, ho, mu⟩, nn⟩ := rel.hid a z
    have ne : a ≠ d := fun e => by
      rw [e, h] at ho
      cases ho
      exact mu
    exact ⟨⟨o, (upd_ne ne).trans ho, mu⟩, nn⟩
theorem unlock_step (n : ¬ Ow env σ d) (h : H d = some (.dK ys)) (st : Step env σ (upd H d (.frz od (.dK ys))) env' σ' H') :
    H' d = some (.frz od (.dK ys)) ∧ Step env σ H env' σ' (upd H' d (.dK ys)) := by
  have hd : H' d = some (.frz od (.dK ys)) := st.kp d _ upd_same n
  have th : ∀ a, H a ≠ none → upd H d (.frz od (.dK ys)) a ≠ none := fun a e => by
    by_cases z : a = d
    · subst z; rw [upd_same]; simp
    · rw [upd_ne z]; exact e
  refine ⟨hd, fun a o e nn => ?_, fun a e nn => st.ow a (th a e) nn, fun a e => ?_, st.io⟩
  · by_cases z : a = d
    · subst z; rw [h] at e; cases e; exact upd_same
    · rw [upd_ne z]; exact st.kp a o ((upd_ne z).trans e) nn
  · by_cases z : a = d
    · subst z; rw [upd_same]; simp
    · rw [upd_ne z]; exact st.th a (th a e)
theorem unlock_rr {r : R} {v : V} (h : H' d = some (.frz od (.dK ys))) (rr : RR K O env' σ' (upd H d (.frz od (.dK ys))) H' r v) : RR K O env' σ' H (upd H' d (.dK ys)) r v := by
  have av := unlock_av (O := O) (env' := env') (σ' := σ') h
  cases r with
  | d x => exact Rp.monoF av _ _ rr
  | own i => exact rr
  | new b =>
    obtain ⟨p, e, h0, ho⟩ := rr
    have ne : p ≠ d := fun z => by rw [z, upd_same] at h0; cases h0
    exact ⟨p, e, (upd_ne ne).symm.trans h0, ho.monoF av (upd_ne ne)⟩
end
/-! ### readings -/
/-- the heap, or the heap with what was locked unlocked -/
def Ul (H H' : Hp) (P : Hp → Prop) : Prop := P H' ∨ ∃ d od u, H' d = some (.frz od u) ∧ (H d = none ∨ ∃ u', H d = some u' ∧ Mut (some u')) ∧ P (upd H' d u)
def tUlE (t : TE) : TE := fun σ H Q => t σ H fun v H' => Ul H H' (Q v)
def tUlS (t : TS) : TS := fun D σ H => t ⟨fun σ' H' => Ul H H' (D.nx σ'), fun v H' => Ul H H' (D.rt v), fun σ' H' => Ul H H' (D.bk σ'), fun σ' H' => Ul H H' (D.ct σ')⟩ σ H
/-- the keys: the dict is locked, or locked now -/
def iKeysL (td : TE) : TI := fun σ H R => td σ H fun x H1 => ∃ d kvs, x = .ref d ∧ ((H1 d = some (.dK kvs) ∧ ∀ od, R (Itk d od kvs) (upd H1 d (.frz od (.dK kvs)))) ∨ ∃ od, H1 d = some (.frz od (.dK kvs)) ∧ R (Itk d od kvs) H1)
def iValsL (td : TE) : TI := fun σ H R => td σ H fun x H1 => ∃ d kvs, x = .ref d ∧ ((H1 d = some (.dK kvs) ∧ ∀ od, R (Itd d od kvs) (upd H1 d (.frz od (.dK kvs)))) ∨ ∃ od, H1 d = some (.frz od (.dK kvs)) ∧ R (Itd d od kvs) H1)
def iItemsL (td : TE) : TI := fun σ H R => td σ H fun x H1 => ∃ d kvs, x = .ref d ∧ ((H1 d = some (.dK kvs) ∧ ∀ od, R (Iti d od kvs) (upd H1 d (.frz od (.dK kvs)))) ∨ ∃ od, H1 d = some (.frz od (.dK kvs)) ∧ R (Iti d od kvs) H1)
section
variable {X : Cx}
theorem ul_inv {pns : List (Addr × Obj)} {σ σ' : L2.St} {H H' : Hp} {s s' : Shared} {P : Hp → Prop} (I : Inv X pns σ H s) (J : Inv X pns σ' H' s') (h : Ul H H' P) : ∃ H2, Inv X pns σ' H2 s' ∧ P H2 := by
  rcases h with h | ⟨d, od, u, e, hd, q⟩
  · exact ⟨H', J, h⟩
  · refine ⟨_, J.unlock e fun o' u' e0 => ?_, q⟩
    rcases hd with hd | ⟨u2, hd, mu⟩
    · have := I.base.frzs d o' u' e0
      rw [hd] at this
      cases this
    · exact I.nofrz hd mu o' u' e0
theorem pe_ul {e : Expr} {t : TE} (h : PE X e t) : PE X e (tUlE t) := by
  refine ⟨fun pns s σ H Q I hw => ?_⟩
  refine thn (h.run pns s σ H _ I hw) fun v s1 ⟨x, H1, I2, r, q⟩ => ?_
  obtain ⟨H2, I3, q⟩ := ul_inv I I2 q
  exact ⟨x, H2, I3, r, q⟩
theorem ps_ul {st : Stmt} {t : TS} (h : PS X st t) : PS X st (tUlS t) := by
  refine ⟨fun pns s σ H D I hw => ?_⟩
  refine thn (h.run pns s σ H _ I hw) fun f s1 q => ?_
  cases f with
  | next => obtain ⟨σ', H', I2, q⟩ := q; obtain ⟨H2, I3, q⟩ := ul_inv I I2 q; exact ⟨σ', H2, I3, q⟩
  | brk => obtain ⟨σ', H', I2, q⟩ := q; obtain ⟨H2, I3, q⟩ := ul_inv I I2 q; exact ⟨σ', H2, I3, q⟩
  | cont => obtain ⟨σ', H', I2, q⟩ := q; obtain ⟨H2, I3, q⟩ := ul_inv I I2 q; exact ⟨σ', H2, I3, q⟩
  | ret v => obtain ⟨x, σ', H', I2, r, q⟩ := q; obtain ⟨H2, I3, q⟩ := ul_inv I I2 q; exact ⟨x, σ', H2, I3, r, q⟩
/-- the dict that an expression gives is locked behind it, if it isn't yet -/
def tLk (td : TE) : TE := fun σ H Q => td σ H fun x H1 => ∃ d kvs, x = .ref d ∧
  ((H1 d = some (.dK kvs) ∧ ∀ od, Q x (upd H1 d (.frz od (.dK kvs)))) ∨ ((∃ od, H1 d = some (.frz od (.dK kvs))) ∧ Q x H1))
theorem pe_lk {e : Expr} {td : TE} (he : PE X e td) : PE X e (tLk td) where
  run := fun pn st σ H Q iv w => thn (he.run pn st σ H _ iv w) fun u st1 h => by
    obtain ⟨x, H1, iv1, rx, d, kvs, ex, h⟩ := h
    rcases h with ⟨hd, q⟩ | ⟨_, q⟩
    · have l := iv1.lock hd trivial
      obtain ⟨od, iv2⟩ := l
      exact ⟨x, _, iv2, rx, q od⟩
    · exact ⟨x, H1, iv1, rx, q⟩
/-- the three walks over a dict, by the library's rules over the locked one -/
theorem pi_keysL {tg e : Expr} {f : Cells → Res Fx.R} (he : PE X e (tE X.K f)) : PI X tg e (iKeysL (tE X.K f)) :=
  (pi_keys (pe_lk he)).imp fun σ H R q => tE_mono q fun x H1 h => by
    obtain ⟨d, kvs, ex, h⟩ := h
    exact ⟨d, kvs, ex, h.imp (fun k => ⟨k.1, fun od => ⟨d, od, ex, .inl ⟨kvs, upd_same, k.2 od⟩⟩⟩) fun ⟨od, hd, k⟩ => ⟨⟨od, hd⟩, d, od, ex, .inl ⟨kvs, hd, k⟩⟩⟩
theorem pi_valuesL {tg e : Expr} {f : Cells → Res Fx.R} {pa pc : Pos} (he : PE X e (tE X.K f)) (hb : attributeBase e "values" X.env (eval e X.env) = eval e X.env) (hl : (pa.endLine == pc.line) = true) :
    PI X tg (.Call (.Attribute e "values" pa) [] [] pc) (iValsL (tE X.K f)) :=
  (pi_values (pe_lk he) hb hl).imp fun σ H R q => tE_mono q fun x H1 h => by
    obtain ⟨d, kvs, ex, h⟩ := h
    exact ⟨d, kvs, ex, h.imp (fun k => ⟨k.1, fun od => ⟨d, od, kvs, ex, upd_same, k.2 od⟩⟩) fun ⟨od, hd, k⟩ => ⟨⟨od, hd⟩, d, od, kvs, ex, hd, k⟩⟩
theorem pi_itemsL {es : List Expr} {n : Nat} {pt : Pos} {e : Expr} {f : Cells → Res Fx.R} {pa pc : Pos} (he : PE X e (tE X.K f)) (hb : attributeBase e "items" X.env (eval e X.env) = eval e X.env) (hl : (pa.endLine == pc.line) = true) :
    PI X (.Tuple es n pt) (.Call (.Attribute e "items" pa) [] [] pc) (iItemsL (tE X.K f)) :=
  (pi_items (pe_lk he) hb hl).imp fun σ H R q => tE_mono q fun x H1 h => by
    obtain ⟨d, kvs, ex, h⟩ := h
    exact ⟨d, kvs, ex, h.imp (fun k => ⟨k.1, fun od => ⟨d, od, kvs, ex, upd_same, k.2 od⟩⟩) fun ⟨od, hd, k⟩ => ⟨⟨od, hd⟩, d, od, kvs, ex, hd, k⟩⟩
end
/-! ### walks -/
section
variable (K : PySem.W.Frag)
/-- a walk: over what stands, or over a dict that is locked for it -/
def tIW (f : Cells → Res (List D)) : TI := fun σ H R => ∃ O env, Rel K O env σ H ∧ ∃ ds env', f env = .ok ds env' ∧
  (∀ J H1, Rel K O env' σ H1 → Step env σ H env' σ H1 → Yl K (Av O env' σ H1) (Kp env' σ H1) J ds → R J H1) ∧
  (∀ J H1 d od ys, Rel K O env' σ H1 → Step env σ H env' σ H1 → H1 d = some (.dK ys) → ¬ Ow env' σ d → ¬ O d →
    Yl K (Av O env' σ (upd H1 d (.frz od (.dK ys)))) (Kp env' σ (upd H1 d (.frz od (.dK ys)))) J ds → R J (upd H1 d (.frz od (.dK ys))))
end
section
variable {K : PySem.W.Frag} {σ : L2.St} {H : Hp} {R : L2.It → Hp → Prop}
theorem tIW_tI {f : Cells → Res (List Fx.D)} (h : tIW K f σ H R) : tI K f σ H R := by
  obtain ⟨O, env, rel, ds, env', e, q, _⟩ := h
  exact ⟨O, env, rel, ds, env', e, q⟩
def iAnyL (K : PySem.W.Frag) (te : TE) : TI := fun σ H R => iAny K te σ H R ∨ iKeysL te σ H R
theorem pi_anyL {X : Cx} {tg e : Expr} {f : Cells → Res Fx.R} (he : PE X e (tE X.K f)) : PI X tg e (iAnyL X.K (tE X.K f)) where
  run := fun pns s σ H R I h => by
    rcases h with h | h
    · exact (pi_any he).run pns s σ H R I h
    · exact (pi_keysL he).run pns s σ H R I h
theorem rpd_get {A : RdA} : ∀ {kvs : List (DK × D)} {ys : List (Key × V)} {i : Nat} {k : Key} {v : V}, RpD K A kvs ys → ys[i]? = some (k, v) → ∃ dk d, kvs[i]? = some (dk, d) ∧ k = dk.toKey ∧ Rp K A d v
  | [], ys, i, k, v, h, e => by simp only [RpD] at h; subst h; simp at e
  | (dk, d) :: kvs, ys, i, k, v, h, e => by
    simp only [RpD] at h
    obtain ⟨x, r, rfl, hd, t⟩ := h
    cases i with
    | zero => simp at e; obtain ⟨rfl, rfl⟩ := e; exact ⟨dk, d, by simp, rfl, hd⟩
    | succ i =>
      obtain ⟨dk', d', e1, e2, e3⟩ := rpd_get (i := i) t (by simpa using e)
      exact ⟨dk', d', by simpa using e1, e2, e3⟩
theorem rp_key {A : RdA} (k : DK) : Rp K A k.toD (kV k.toKey) := by cases k <;> simp [DK.toD, DK.toKey, Rp, kV]
section
variable {A : RdA} {S : Hp → Prop} {d : Addr} {od : Obj} {kvs : List (DK × D)} {ys : List (Key × V)}
theorem yl_keys (hS : ∀ H, S H → H d = some (.frz od (.dK ys))) (hr : RpD K A kvs ys) : Yl K A S (Itk d od ys) (kvs.map fun p => p.1.toD) where
  go := fun i H s hi => ⟨hS H s, by rw [hr.length]; simpa using hi⟩
  yld := fun i H x H' dd s hd hy => by
    obtain ⟨rfl, k, v, e, rfl⟩ := hy
    obtain ⟨dk, d1, e1, rfl, _⟩ := rpd_get hr e
    rw [List.getElem?_map, e1] at hd
    cases hd
    exact ⟨Same.refl _, rp_key dk⟩
  stop := fun i H s hi => ⟨hS H s, by rw [hr.length]; simpa using hi⟩
theorem yl_vals (hS : ∀ H, S H → H d = some (.frz od (.dK ys))) (hr : RpD K A kvs ys) : Yl K A S (Itd d od ys) (kvs.map fun p => p.2) where
  go := fun i H s hi => ⟨hS H s, by rw [hr.length]; simpa using hi⟩
  yld := fun i H x H' dd s hd hy => by
    obtain ⟨rfl, k, e⟩ := hy
    obtain ⟨dk, d1, e1, rfl, rp⟩ := rpd_get hr e
    rw [List.getElem?_map, e1] at hd
    cases hd
    exact ⟨Same.refl _, rp_same rp _ _⟩
  stop := fun i H s hi => ⟨hS H s, by rw [hr.length]; simpa using hi⟩
theorem yl_items (hS : ∀ H, S H → H d = some (.frz od (.dK ys))) (hr : RpD K A kvs ys) : Yl K A S (Iti d od ys) (kvs.map fun p => .tup [p.1.toD, p.2]) where
  go := fun i H s hi => ⟨hS H s, by rw [hr.length]; simpa using hi⟩
  yld := fun i H x H' dd s hd hy => by
    obtain ⟨T, k, v, e, rfl, hT, rfl⟩ := hy
    obtain ⟨dk, d1, e1, rfl, rp⟩ := rpd_get hr e
    rw [List.getElem?_map, e1] at hd
    cases hd
    exact rp_pair hT (rp_key dk) rp
  stop := fun i H s hi => ⟨hS H s, by rw [hr.length]; simpa using hi⟩
end
/-- what the three walks over a dict share -/
theorem tIW_dic {f : Cells → Res Fx.R} {g : D → Option (List D)} {It : Addr → Obj → List (Key × V) → L2.It} {kvs : List (DK × D)} {ds : List D} {O : Addr → Prop} {env env1 env2 : Cells} {x : Fx.R}
    (rel : Rel K O env σ H) (e1 : f env = .ok x env1) (gz : frz env1 x = some (.dic kvs, env2))
    (yl : ∀ {A : RdA} {S : Hp → Prop} {d : Addr} {od : Obj} {ys : List (Key × V)}, (∀ H, S H → H d = some (.frz od (.dK ys))) → RpD K A kvs ys → Yl K A S (It d od ys) ds)
    (q1 : ∀ J H1, Rel K O env2 σ H1 → Step env σ H env2 σ H1 → Yl K (Av O env2 σ H1) (Kp env2 σ H1) J ds → R J H1)
    (q2 : ∀ J H1 d od ys, Rel K O env2 σ H1 → Step env σ H env2 σ H1 → H1 d = some (.dK ys) → ¬ Ow env2 σ d → ¬ O d →
      Yl K (Av O env2 σ (upd H1 d (.frz od (.dK ys)))) (Kp env2 σ (upd H1 d (.frz od (.dK ys)))) J ds → R J (upd H1 d (.frz od (.dK ys)))) :
    tE K f σ H fun v H1 => ∃ d ys, v = .ref d ∧ ((H1 d = some (.dK ys) ∧ ∀ od, R (It d od ys) (upd H1 d (.frz od (.dK ys)))) ∨ ∃ od, H1 d = some (.frz od (.dK ys)) ∧ R (It d od ys) H1) := by
  refine ⟨O, env, rel, x, env1, e1, fun v H1 r1 s1 rr => ?_⟩
  obtain ⟨r2, s2, rp⟩ := frz_ok r1 (hs1_of rel rr) rr gz
  have s3 := s1.trans s2
  simp only [Rp] at rp
  obtain ⟨d, ys, rfl, ⟨k1, k2, k3⟩, hr⟩ := rp
  refine ⟨d, ys, rfl, ?_⟩
  rcases k3 with k3 | ⟨od, k3⟩
  · refine .inl ⟨k3, fun od => q2 _ H1 d od ys r2 s3 k3 k1 k2 (yl (fun H' k => k d _ upd_same k1) (RpD.monoF (fun a u hu k => ?_) _ _ hr))⟩
    obtain ⟨j1, j2, j3⟩ := k
    refine ⟨j1, j2, ?_⟩
    by_cases z : a = d
    · subst z
      rcases j3 with j3 | ⟨o2, j3⟩
      · rw [k3] at j3; cases j3; exact .inr ⟨od, upd_same⟩
      · rw [k3] at j3; cases j3
    · rcases j3 with j3 | ⟨o2, j3⟩
      · exact .inl ((upd_ne z).trans j3)
      · exact .inr ⟨o2, (upd_ne z).trans j3⟩
  · exact .inr ⟨od, k3, q1 _ H1 r2 s3 (yl (fun H' k => k d _ k3 k1) hr)⟩
theorem tIW_any {f : Cells → Res Fx.R} (h : tIW K (doIt1 walkOf f) σ H R) : iAnyL K (tE K f) σ H R := by
  have h0 := h
  obtain ⟨O, env, rel, ds, env', e, q1, q2⟩ := h
  obtain ⟨x, env1, e1, e⟩ := Res.bind_ok e
  cases g : frz env1 x with
  | none => rw [g] at e; cases e
  | some p =>
    obtain ⟨d, env2⟩ := p
    rw [g] at e
    obtain ⟨e2, e3⟩ := ofO_ok e
    subst e3
    cases d with
    | dic kvs =>
      cases e2
      exact .inr (tIW_dic (g := walkOf) (It := Itk) rel e1 g (fun hS hr => yl_keys hS hr) q1 q2)
    | _ =>
      refine .inl (tI_any ⟨O, env, rel, ds, env', ?_, q1⟩)
      show (f env).bind _ = _
      rw [e1]
      show (match frz env1 x with
        | some (d, env2) => ofO env2 (itemsOf d)
        | none => .bad) = _
      rw [g]
      exact e
theorem tIW_values {f : Cells → Res Fx.R} (h : tIW K (doIt1 valuesL f) σ H R) : iValsL (tE K f) σ H R := by
  obtain ⟨O, env, rel, ds, env', e, q1, q2⟩ := h
  obtain ⟨x, env1, e1, e⟩ := Res.bind_ok e
  cases g : frz env1 x with
  | none => rw [g] at e; cases e
  | some p =>
    obtain ⟨d, env2⟩ := p
    rw [g] at e
    obtain ⟨e2, e3⟩ := ofO_ok e
    subst e3
    cases d with
    | dic kvs =>
      cases e2
      exact tIW_dic (g := valuesL) (It := Itd) rel e1 g (fun hS hr => yl_vals hS hr) q1 q2
    | _ => cases e2
theorem tIW_items {f : Cells → Res Fx.R} (h : tIW K (doIt1 itemsL f) σ H R) : iItemsL (tE K f) σ H R := by
  obtain ⟨O, env, rel, ds, env', e, q1, q2⟩ := h
  obtain ⟨x, env1, e1, e⟩ := Res.bind_ok e
  cases g : frz env1 x with
  | none => rw [g] at e; cases e
  | some p =>
    obtain ⟨d, env2⟩ := p
    rw [g] at e
    obtain ⟨e2, e3⟩ := ofO_ok e
    subst e3
    cases d with
    | dic kvs =>
      cases e2
      exact tIW_dic (g := itemsL) (It := Iti) rel e1 g (fun hS hr => yl_items hS hr) q1 q2
    | _ => cases e2
/-- unlocked behind the walk -/
theorem ul_fin {O : Addr → Prop} {env env1 : Cells} {H1 : Hp} {d : Addr} {ys : List (Key × V)} (rel : Rel K O env σ H) (st : Step env σ H env1 σ H1) (h : H1 d = some (.dK ys)) : H d = none ∨ ∃ u', H d = some u' ∧ Mut (some u') := by
  cases e : H d with
  | none => exact .inl rfl
  | some o =>
    refine .inr ⟨o, rfl, ?_⟩
    by_cases ow : Ow env σ d
    · obtain ⟨i, b, h1, h2⟩ := ow
      obtain ⟨p, e1, ob⟩ := rel.ob h1
      rw [h2] at e1
      cases e1
      obtain ⟨o', ho, mu⟩ := ob.some
      rw [e] at ho
      cases ho
      exact mu
    · have := st.kp d o e ow
      rw [h] at this
      cases this
      trivial
theorem tE_lcW {el : Cells → Res Fx.R} {c : Cells → Res Bool} {it : Cells → Res (List Fx.D)} {t : Tg} {vs : List Nat} {Q : VK} (ht : ∀ i ∈ t.slots, i ∈ vs)
    (h : tE K (doLc el t it c vs) σ H Q) : tUlE (tLc (tIW K it) (gD K t) (tT K c) (tE K el) vs) σ H Q := by
  obtain ⟨O, env, rel, r, env', e, q⟩ := h
  obtain ⟨ds, env1, e1, e⟩ := Res.bind_ok e
  split at e
  · cases e
  rename_i hno
  have no := isOb_none hno
  obtain ⟨ys, env2, e2, e⟩ := Res.bind_ok e
  cases e
  refine ⟨O, env, rel, ds, env1, e1, fun J H1 r1 s1 yl => lc_rest (Q := fun v H' => Ul H H' (Q v)) ht r1 no yl e2 fun v H' r9 s9 rr => .inl (q v H' r9 (s1.trans s9) (rr.back fun p => s1.back)),
    fun J H1 d od zs r1 s1 hd nd no' yl => lc_rest (Q := fun v H' => Ul H H' (Q v)) ht (lock_rel r1 hd nd no') no yl e2 fun v H' r9 s9 rr => ?_⟩
  obtain ⟨hd', s10⟩ := unlock_step nd hd s9
  exact .inr ⟨d, od, _, hd', ul_fin rel s1 hd, q v _ (unlock_rel r9 hd') (s1.trans s10) ((unlock_rr hd' rr).back fun p => s1.back)⟩
theorem s_forW {it : Cells → Res (List Fx.D)} {body : Cells → Res Fl} {t : Tg} {D : Ends} (h : tS K (fun env => (it env).bind fun xs env1 => forRun t body xs env1) D σ H) :
    tUlS (tFor (tIW K it) (gD K t) (tS K body)) D σ H := by
  obtain ⟨O, env, rel, fl, env1, e, q⟩ := h
  obtain ⟨ds, envs, es, e⟩ := Res.bind_ok e
  refine ⟨O, env, rel, ds, envs, es, fun J Hs rs ss yl => for_rest rs yl e ?_, fun J Hs d od zs rs ss hd nd no yl => for_rest (lock_rel rs hd nd no) yl e ?_⟩
  · have q := FinS.later ss q
    cases fl with
    | next => exact fun σ' H' r s => .inl (q σ' H' r s)
    | brk => exact fun σ' H' r s => .inl (q σ' H' r s)
    | cnt => exact fun σ' H' r s => .inl (q σ' H' r s)
    | ret r => exact fun v σ' H' k s rr => .inl (q v σ' H' k s rr)
  · have q := FinS.later ss q
    have uf := ul_fin rel ss hd
    cases fl with
    | next => exact fun σ' H' r s => (by obtain ⟨h1, s2⟩ := unlock_step nd hd s; exact .inr ⟨d, od, _, h1, uf, q σ' _ (unlock_rel r h1) s2⟩)
    | brk => exact fun σ' H' r s => (by obtain ⟨h1, s2⟩ := unlock_step nd hd s; exact .inr ⟨d, od, _, h1, uf, q σ' _ (unlock_rel r h1) s2⟩)
    | cnt => exact fun σ' H' r s => (by obtain ⟨h1, s2⟩ := unlock_step nd hd s; exact .inr ⟨d, od, _, h1, uf, q σ' _ (unlock_rel r h1) s2⟩)
    | ret r => exact fun v σ' H' k s rr => (by obtain ⟨h1, s2⟩ := unlock_step nd hd s; exact .inr ⟨d, od, _, h1, uf, q v σ' _ (unlock_rel k h1) s2 (unlock_rr h1 rr)⟩)
end
end Fx

set_option Elab.async false
set_option linter.all false
set_option maxRecDepth 100000
/-! Fx30: dict(zip(a, b)) of two lists. -/
namespace Fx
open L2 PyProof.Rows PySem PySem.Spec
section
variable {X : Cx}
def tDZ (K : PySem.W.Frag) (ta : TA) : TE := fun σ H Q => ta σ H fun vs H1 => ∃ a b xs ys, ∃ ks : List Key, vs = [.ref a, .ref b] ∧ SqL K H1 a xs ∧ SqL K H1 b ys ∧
  ks.length = min xs.length ys.length ∧ (∀ (i : Nat) (k : Key), ks[i]? = some k → xs[i]? = some (kV k)) ∧ ∀ p, H1 p = none → Q (.ref p) (upd H1 p (.dK (mergeK [] (ks.zip ys))))
theorem kv_zip : ∀ (ks : List Key) {ys : List V} {us : List Value}, Vals ys us → KV (ks.zip ys) (ks.zip us)
  | [], _, _, _ => .nil
  | k :: ks, _, _, .nil => .nil
  | k :: ks, _, _, .cons h t => .cons ⟨rfl, h⟩ (kv_zip ks t)
theorem pe_dictZ {a b : Expr} {ta : TA} {p p2 pos pos2 : Pos} (hc : X.calm = true) (hg : Gl X "dict") (hm : X.mg "dict" = none) (hg2 : Gl X "zip") (hm2 : X.mg "zip" = none) (ha : PA X [a, b] ta)
    (hs : starEach [a, b] X.env = (false, eval a X.env) :: starEach [b] X.env) (hpl : (backTo pos2 (starEach [b] X.env)).any (·.1) = false) :
    PE X (.Call (.Name "dict" p) [.Call (.Name "zip" p2) [a, b] [] pos2] [] pos) (tDZ X.K ta) := by
  constructor
  intro pns s σ H Q I h
  have hdict : bootBuiltins "dict" = some (.type "dict") := by decide +kernel
  have hzip : bootBuiltins "zip" = some (.type "zip") := by decide +kernel
  refine wpAny_Call_Name_kw (ld_blt I hg hm hdict ?_)
  have hst : starEach [.Call (.Name "zip" p2) [a, b] [] pos2] X.env = (false, eval (.Call (.Name "zip" p2) [a, b] [] pos2) X.env) :: starEach [] X.env := rfl
  refine PyProof.Rows.callWith_type1 ?_ hst rfl
  rw [hst]
  show wpAny _ _ (spliced ((false, eval (.Call (.Name "zip" p2) [a, b] [] pos2) X.env) :: backTo pos (starEach [] X.env))) _ _ s
  refine Calls.spliced_cons ?_
  refine wpAny_Call_Name_kw (ld_blt I hg2 hm2 hzip ?_)
  refine PyProof.Rows.callWith_type1 (thn (ha.run pos2 pns s σ H _ I h) fun us s1 ⟨vs, H1, I1, r1, la, lb, xs, ys, ks, ex, hqx, hqy, hl, hk0, q⟩ => ?_) hs hpl
  subst ex
  obtain ⟨u1, u2, rfl, r2, r3⟩ := r1.two
  cases r2
  cases r3
  obtain ⟨ux, rv, p1, hlx⟩ := I1.list hqx
  obtain ⟨uy, rv2, p3, hly⟩ := I1.list hqy
  refine call_zip_2 p1.isList p3.isList fun h' hz hTI hTO h1 h2 hsz hk => ?_
  refine Calls.spliced_nil ?_
  have ap := PySem.W.ktu_apart s1.heap.objs.size la lb p1.lt p3.lt
  have hl2 : min ux.toArray.size uy.toArray.size = ks.length := by
    rw [List.size_toArray, List.size_toArray, ← rv.length, ← rv2.length, hl]
  have lx := rv.length
  have ly := rv2.length
  refine PySem.call_dict_pairs (knd := mixKind X.prog X.w) (kvs := ks.zip uy) (PySem.PairArg.zip (prog := X.prog) (w := X.w) (s1.heap.objs.size + 4) (s1.heap.objs.size + 2) (s1.heap.objs.size + 3) s1.heap.objs.size (s1.heap.objs.size + 1) la lb ap ux.toArray uy.toArray) (I1.ok.hd hc)
    ⟨hz, hTI, ⟨_, _, hTO⟩, h1, h2, p1.isList.at fun o e => hk _ o e, p3.isList.at fun o e => hk _ o e⟩ ⟨?_, fun i key v ⟨e1, e2⟩ => ?_⟩ ?_ fun h2' tk hd' hk2 => ?_
  · rw [List.length_zip, hl2, ← ly]; omega
  · have e1 : ux[i]? = some key := by simpa using e1
    have e2 : uy[i]? = some v := by simpa using e2
    have h5 : i < ks.length := by
      have a1 := (List.getElem?_eq_some_iff.mp e1).1
      have a2 := (List.getElem?_eq_some_iff.mp e2).1
      omega
    refine ⟨ks[i], ?_, ?_⟩
    · rw [List.getElem?_zip_eq_some]
      exact ⟨List.getElem?_eq_getElem h5, e2⟩
    · have e3 := hk0 i _ (List.getElem?_eq_getElem h5)
      obtain ⟨u, e4, ru⟩ := rv.get e3
      rw [e1] at e4
      cases e4
      exact kV_is ru
  · rw [hl2, hl]; omega
  have up : ∀ b o, s1.heap.get? b = some o → h2'.get? b = some o := fun b o e => by
    have hb := Heap.lt_size e
    have nb : ∀ n, b ≠ s1.heap.objs.size + n := fun n z => Nat.lt_irrefl _ (Nat.lt_of_lt_of_le (z ▸ hb) (Nat.le_add_right _ _))
    refine hk2 b o (fun hm => ?_) (hk b o e)
    simp only [List.not_mem_nil, List.mem_cons, or_false] at hm
    rcases hm with hm | hm | hm | hm
    · exact nb 4 hm
    · exact nb 3 hm
    · exact nb 0 hm
    · exact nb 1 hm
  have hszz : s1.heap.objs.size ≤ h'.objs.size := by rw [hsz]; omega
  have hm : (h'.objs.size == sysModules) = false := beq_eq_false_iff_ne.mpr (Nat.ne_of_gt (Nat.lt_of_lt_of_le I1.big hszz))
  have hlen : (mergeK [] (ks.zip ys)).length ≤ sizeLine := by
    refine Nat.le_trans (length_mergeK _ []) ?_
    rw [List.length_nil, Nat.zero_add, List.length_zip]
    omega
  exact ⟨.ref h'.objs.size, upd H1 h'.objs.size (.dK (mergeK [] (ks.zip ys))), I1.laid (t' := tk) up hszz (show ObjOk X.prog X.w _ _ _ (.dK (mergeK [] (ks.zip ys))) from ⟨hlen, hm, merged [] (ks.zip uy), KV.merge (kv_zip ks rv2) .nil, hd'⟩), rfl, q _ (I1.hok.fresh hszz)⟩
end
section
variable {K : PySem.W.Frag} {σ : L2.St} {H : Hp}
theorem zip_pairs {A : RdA} : ∀ {ds es : List D} {xs ys : List V} {kvs : List (DK × D)}, RpL K A ds xs → RpL K A es ys → asPairs (zipL ds es) = some kvs →
    ∃ ks : List Key, ks.length = min xs.length ys.length ∧ (∀ (i : Nat) (k : Key), ks[i]? = some k → xs[i]? = some (kV k)) ∧ RpD K A kvs (ks.zip ys)
  | [], es, xs, ys, kvs, h, h', e => by
    simp only [RpL] at h
    subst h
    cases es <;> (cases e; exact ⟨[], by simp, by simp, by simp [RpD]⟩)
  | d :: ds, [], xs, ys, kvs, h, h', e => by
    simp only [RpL] at h'
    subst h'
    cases e
    exact ⟨[], by simp, by simp, by simp [RpD]⟩
  | d :: ds, e0 :: es, xs, ys, kvs, h, h', e => by
    simp only [RpL] at h h'
    obtain ⟨x, r, rfl, hd, t⟩ := h
    obtain ⟨y, r', rfl, hd', t'⟩ := h'
    simp only [zipL, asPairs] at e
    cases e1 : keyOf d with
    | none => rw [e1] at e; cases e
    | some k =>
      rw [e1] at e
      simp only [Option.bind] at e
      cases e2 : asPairs (zipL ds es) with
      | none => rw [e2] at e; cases e
      | some kvs' =>
        rw [e2] at e
        cases e
        obtain ⟨ks, l1, l2, l3⟩ := zip_pairs t t' e2
        have ek := keyOf_r hd e1
        subst ek
        refine ⟨k.toKey :: ks, by simp [l1], fun i k2 e => ?_, ?_⟩
        · cases i with
          | zero => simp at e; subst e; simp
          | succ i => simpa using l2 i k2 (by simpa using e)
        · rw [List.zip_cons_cons]
          simp only [RpD]
          exact ⟨y, ks.zip r', rfl, hd', l3⟩
theorem tE_dictZ {Γ : FT} {ces : List CE} {Q : VK} (h : tE K (doBlt .dict (evEs Γ [.col ces])) σ H Q) : tDZ K (tA K (evEs Γ ces)) σ H Q := by
  obtain ⟨O, env, rel, r, env', e, q⟩ := h
  obtain ⟨rs0, envA, eA, e⟩ := Res.bind_ok e
  rw [evEs] at eA
  obtain ⟨rc, envB, eB, eA⟩ := Res.bind_ok eA
  obtain ⟨rs1, envC, eC, eA⟩ := Res.bind_ok eA
  rw [evEs] at eC
  cases eC
  cases eA
  rw [ev] at eB
  obtain ⟨ds, env1, e1, eB⟩ := Res.bind_ok eB
  obtain ⟨rs, env2, e2, e1⟩ := Res.bind_ok e1
  split at eB
  · cases eB
    refine ⟨O, env, rel, rs, env2, e2, fun vs H1 r1 s1 rr ap => ?_⟩
    cases g : frzs env2 rs with
    | none => rw [g] at e1; cases e1
    | some p =>
      obtain ⟨xs, env3⟩ := p
      rw [g] at e1
      obtain ⟨e3, e4⟩ := ofO_ok e1
      subst e4
      obtain ⟨r2, s2, rp⟩ := frzs_ok r1 (hs_of rel rr) ap rr g
      simp only [gets, R.get, Ob.toD] at e
      obtain ⟨e5, e6⟩ := ofO_ok e
      subst e6
      unfold zipD2 at e3
      split at e3
      · rename_i ya yb
        cases e3
        simp only [RpL, Rp] at rp
        obtain ⟨x, r', rfl, ⟨a, us, rfl, ha, hr⟩, y, r'', rfl, ⟨b, ws, rfl, hb, hr'⟩, rfl⟩ := rp
        simp only [bltD] at e5
        by_cases hl : (zipL ya yb).length ≤ lim
        · rw [if_pos hl] at e5
          cases e7 : asPairs (zipL ya yb) with
          | none => rw [e7] at e5; cases e5
          | some kvs =>
            rw [e7] at e5
            cases e5
            obtain ⟨ks, l1, l2, l3⟩ := zip_pairs hr hr' e7
            refine ⟨a, b, us, ws, ks, rfl, (ha.heap fun _ _ k => k.2.2).seq, (hb.heap fun _ _ k => k.2.2).seq, l1, l2, fun p hp => ?_⟩
            have np : ∀ a, nw (.new (.dic (putAll kvs))) (.ref p) a → a = p := fun a z => by
              have z : V.ref p = .ref a := z
              cases z; rfl
            have g1 : Same H1 (upd H1 p (.dK (mergeK [] (ks.zip ws)))) := same_new hp
            have r3 := r2.growN (N := nw (.new (.dic (putAll kvs))) (.ref p)) g1 fun a z => by rw [np a z]; exact ⟨hp, _, upd_same, trivial⟩
            refine q _ _ r3 ((s1.trans s2).trans (Step.grow g1)) ⟨p, rfl, (s1.trans s2).back hp, _, upd_same, ?_⟩
            exact rpd_putAll (RpD.mono (fun a u k => (Step.grow g1).avN (fun a z => by rw [np a z]; exact hp) a u k) _ _ l3)
        · rw [if_neg hl] at e5
          cases e5
      · cases e3
  · cases eB
end
end Fx

set_option Elab.async false
set_option linter.all false
set_option maxRecDepth 100000
/-! Fx31: min over a dict's texts, list(text). -/
namespace Fx
open L2 PyProof.Rows PySem PySem.Spec
/-- texts compared -/
theorem cmp_txt {prog : Program} {w : World} {A : Around} {P : Nat → Value → Prop} {f : Nat → Str} (isT : ∀ i v, P i v → ∃ t, v = .str (f i) t) :
    CmpOf prog w A .Lt P (fun i j => decide ((f i).cps.toList < (f j).cps.toList)) := by
  rintro i j a b s Q E pa pb q
  rcases isT i a pa with ⟨t, rfl⟩
  rcases isT j b pb with ⟨t', rfl⟩
  have g := gives_str_lt (f i) (f j) t t'
  refine richCompare_gives (op := .Lt) (typeIs_str s _ t) (typeIs_str s _ t') F.slot_str_lt ?_ ?_ g (by rintro ⟨⟩) q
  · exact F.entry_str_lt
  · exact F.args_str_lt_2 _ _
/-- the place of the least -/
def lowAt (f : Nat → List Nat) (k : Nat) : Nat := argBest (fun i j => decide (f i < f j)) k
theorem lowAt_le (f : Nat → List Nat) : ∀ k, lowAt f k ≤ k
  | 0 => Nat.zero_le 0
  | k + 1 => by
    have := lowAt_le f k
    simp only [lowAt, argBest] at this ⊢
    split <;> omega
theorem lowAt_min (f : Nat → List Nat) : ∀ k j, j ≤ k → f (lowAt f k) ≤ f j
  | 0, 0, _ => List.le_refl (f 0)
  | 0, j + 1, h => by omega
  | k + 1, j, h => by
    have ih := lowAt_min f k
    simp only [lowAt, argBest] at ih ⊢
    split
    · rename_i less
      have less := of_decide_eq_true less
      rcases Nat.lt_or_ge k j with far | near
      · rw [show j = k + 1 by omega]; exact List.le_refl _
      · exact List.le_trans (List.le_of_lt less) (ih j near)
    · rename_i not
      rcases Nat.lt_or_ge k j with far | near
      · rw [show j = k + 1 by omega]; exact fun z => not (decide_eq_true z)
      · exact ih j near
theorem minT_ok : ∀ (r : List (List Nat)) (m : List Nat), minT m r ∈ m :: r ∧ ∀ y ∈ m :: r, minT m r ≤ y
  | [], m => by simp only [minT]; exact ⟨List.mem_cons_self, fun y hy => by rw [List.mem_singleton.mp hy]; exact List.le_refl _⟩
  | x :: r, m => by
    obtain ⟨h1, h2⟩ := minT_ok r (if ltS x m then x else m)
    simp only [minT]
    refine ⟨?_, fun y hy => ?_⟩
    · rcases List.mem_cons.mp h1 with e | e
      · rw [e]; split <;> simp
      · exact List.mem_cons_of_mem _ (List.mem_cons_of_mem _ e)
    · have h3 := h2 _ List.mem_cons_self
      have hm : minT (if ltS x m then x else m) r ≤ m ∧ minT (if ltS x m then x else m) r ≤ x := by
        by_cases c : ltS x m = true
        · rw [if_pos c] at h3 ⊢
          have c : x < m := of_decide_eq_true c
          exact ⟨List.le_trans h3 (List.le_of_lt c), h3⟩
        · rw [if_neg c] at h3 ⊢
          have c : ¬ x < m := fun z => c (decide_eq_true z)
          exact ⟨h3, List.le_trans h3 c⟩
      have cases3 : y = m ∨ y = x ∨ y ∈ r := by simpa using hy
      rcases cases3 with e | e | e
      · rw [e]; exact hm.1
      · rw [e]; exact hm.2
      · exact h2 y (List.mem_cons_of_mem _ e)
/-- what a dict of text keys hands out at a turn -/
theorem key_txt {prog : Program} {w : World} {vs : List (Key × Value)} {is : List Str} (e : vs.map (·.1) = is.map Sum.inr) {i : Nat} {v : Value}
    (h : ∃ k x, vs[i]? = some (k, x) ∧ (mixKind prog w).is k v = true) : ∃ t, v = .str (is.getD i Str.empty) t := by
  obtain ⟨k, x, here, ok⟩ := h
  have c : (is.map Sum.inr)[i]? = some k := by rw [← e, List.getElem?_map, here]; rfl
  rw [List.getElem?_map] at c
  cases z : is[i]? with
  | none => rw [z] at c; cases c
  | some y =>
    rw [z] at c
    cases c
    have g : is.getD i Str.empty = y := by simp [List.getD_eq_getElem?_getD, z]
    rw [g]
    exact Value.isStrOf_shape ok
section
variable {X : Cx}
def rMinKS : List V → Hp → VK → Prop := fun vs H Q => ∃ (a : Addr) (kvs : List (Key × V)) (is : List Str), vs = [V.ref a] ∧ Rd H a (.dK kvs) ∧ kvs.map (·.1) = is.map Sum.inr ∧ is ≠ [] ∧
  ∀ m, m ∈ is → (∀ j ∈ is, m.cps.toList ≤ j.cps.toList) → Q (.str m) H
theorem cr_minKS (calm : X.calm = true) : CallR X (.builtin "min") rMinKS := by
  rintro pns s σ H _ us Q I r ⟨a, kvs, is, rfl, rd, keys, ne, q⟩
  rw [Vals.ref1 r]
  obtain ⟨_, sys, vs, kv, dict⟩ := dk_rd I.hok rd
  obtain ⟨ep, dict⟩ := dict.dictAt
  have a_lt : a < s.heap.objs.size := by
    rcases id dict with ⟨_, _, here, _⟩
    exact Heap.lt_size here
  have keysV : vs.map (·.1) = is.map Sum.inr := by rw [← KV.keys kv]; exact keys
  have len : vs.length = is.length := by simpa using congrArg List.length keysV
  have pos : 0 < is.length := List.length_pos_iff.mpr ne
  let f : Nat → Str := fun i => is.getD i Str.empty
  have f_at : ∀ i (h : i < is.length), f i = is[i] := fun i h => by simp [f, List.getD_eq_getElem?_getD, List.getElem?_eq_getElem h]
  refine call_min_walk (wpAny_pyIter_dict (knd := mixKind X.prog X.w) sys dict ?_)
  have walk := Walks.dictKeys (prog := X.prog) (w := X.w) (knd := mixKind X.prog X.w) (A := X.A.in1) (I.ok.hd calm) s.heap.objs.size a (Nat.ne_of_lt a_lt) vs ep
  refine ⟨_, _, _, _, _, _, _, rfl, walk, ?start, ?inside, by omega, cmp_txt (f := f) fun i v h => key_txt keysV h, ?out⟩
  case start =>
    exact ⟨⟨_, Heap.get?_push_size _ rfl, rfl, rfl⟩, dict.keep fun _ _ z => Heap.get?_push_of_some _ z⟩
  case inside =>
    intro b hb
    have : b = s.heap.objs.size ∨ b = a := by simpa using hb
    refine Nat.lt_of_lt_of_eq (?_ : b < s.heap.objs.size + 1) (Heap.size_push ..).symm
    rcases this with z | z <;> subst z
    · exact Nat.lt_succ_self _
    · exact Nat.lt_succ_of_lt a_lt
  case out =>
    intro v h' tk pv kept
    obtain ⟨t, rfl⟩ := key_txt keysV pv
    have b1 := lowAt_le (fun i => (f i).cps.toList) (vs.length - 1)
    have b2 := lowAt_min (fun i => (f i).cps.toList) (vs.length - 1)
    have b3 : lowAt (fun i => (f i).cps.toList) (vs.length - 1) < is.length := by omega
    have I' : Inv X pns σ H { s with heap := h', toks := tk } := I.kept (t' := tk) fun b u e => by
      refine kept b u (fun z => ?_) (Heap.get?_push_of_some _ e)
      rw [List.mem_singleton.mp z] at e
      exact Nat.lt_irrefl _ (Heap.lt_size e)
    refine ⟨.str _, H, I', ⟨t, rfl⟩, q (f (lowAt (fun i => (f i).cps.toList) (vs.length - 1))) ?_ fun j hj => ?_⟩
    · rw [f_at _ b3]; exact List.getElem_mem b3
    · obtain ⟨i, hi, rfl⟩ := List.getElem_of_mem hj
      rw [← f_at i hi]
      exact b2 i (by omega)
theorem blt_minK (hc : X.calm = true) : CallR X (.builtin "min") (rL X.K minK) := by
  rintro pns s σ H xs us Q I r ⟨A, ds, ro, ga, vx, hf, q⟩
  unfold minK at hf
  split at hf
  · rename_i kvs
    simp only [bltD] at hf
    cases e : keyStrs kvs with
    | none => rw [e] at hf; cases hf
    | some ks =>
      rw [e] at hf
      cases ks with
      | nil => cases hf
      | cons k ks =>
        cases hf
        obtain ⟨x, rfl, hx⟩ := v1 vx
        simp only [View] at hx
        obtain ⟨a, ys, rfl, hd, hr⟩ := hx
        refine cr_minKS hc pns s σ H _ us Q I r ⟨a, ys, (k :: ks).map mkS, rfl, hd, keys_strs hr e, by simp, fun m hm hle => ?_⟩
        obtain ⟨l, hl, rfl⟩ := List.mem_map.mp hm
        have h1 := minT_ok ks k
        have e2 : l = minT k ks := by
          refine List.le_antisymm ?_ (h1.2 l hl)
          have := hle (mkS (minT k ks)) (List.mem_map.mpr ⟨_, h1.1, rfl⟩)
          rw [mkS_cps, mkS_cps] at this
          exact this
        rw [e2]
        exact q _ _ (Same.refl H) (by simp [ROR, Rp])
  · cases hf
end
end Fx

set_option Elab.async false
set_option linter.all false
set_option maxRecDepth 100000
/-! Fx16: calls, methods, subscripts, walks, comprehensions: the compiled expressions are right. -/
namespace Fx
open L2 PyProof.Rows PySem PySem.Spec

section
variable {Γ : FT} {X : Cx} {c : Ctx}
theorem find_blt {x : Str} {b : Blt} (h : findBlt x = some b) : b ∈ blts ∧ bltName b = x := by
  unfold findBlt at h
  exact ⟨List.mem_of_find?_eq_some h, of_decide_eq_true (p := _) (by have := List.find?_some h; exact this)⟩
theorem find_ty {x : Str} {b : Ty} (h : findTy x = some b) : tyName b = x := by
  unfold findTy at h
  exact of_decide_eq_true (p := _) (by have := List.find?_some h; exact this)
theorem find_mut {x : Str} {b : Mut1} (h : findMut x = some b) : b ∈ muts ∧ mutName b = x := by
  unfold findMut at h
  exact ⟨List.mem_of_find?_eq_some h, of_decide_eq_true (p := _) (by have := List.find?_some h; exact this)⟩
theorem k_blt {rec : Expr → Option CE} (ok : XOk Γ X c) (hr : ∀ e ce, rec e = some ce → Snd Γ X e ce) {x : Str} {p cpos : Pos} {e : Expr} {es : List Expr} {ces : List CE} {b : Blt} (hx : okN x = true) (hb : btB c x = true)
    (hf : findBlt x = some b) (h : cEs rec (e :: es) = some ces) : PE X (.Call (.Name x p) (e :: es) [] cpos) (tE X.K (doBlt b (evEs Γ ces))) := by
  obtain ⟨hm, rfl⟩ := find_blt hf
  obtain ⟨gl, mg⟩ := lookup_mem hb ok
  obtain ⟨n1, _, n3⟩ := okN_of hx
  obtain ⟨pa, ns, _⟩ := k_es hr h
  rw [List.all_cons, Bool.and_eq_true] at ns
  have go : ∀ {id : String}, CallR X (.builtin id) (rL X.K (bltD b)) → bootBuiltins (bltName b) = some (.builtin id) → PE X (.Call (.Name (bltName b) p) (e :: es) [] cpos) (tE X.K (doBlt b (evEs Γ ces))) :=
    fun hc hv => (pe_callB hc gl mg hv pa n3 n1 (starE ns.1 _ _) (noStars ns.2)).imp fun σ H Q q => tE_doBlt q
  have goT : ∀ {T : String}, CallR X (.type T) (rL X.K (bltD b)) → bootBuiltins (bltName b) = some (.type T) → PE X (.Call (.Name (bltName b) p) (e :: es) [] cpos) (tE X.K (doBlt b (evEs Γ ces))) :=
    fun hc hv => (pe_callTy hc gl mg hv pa n3 n1 (starE ns.1 _ _) (noStars ns.2)).imp fun σ H Q q => tE_doBlt q
  have hu := ok.hu
  simp only [blts, List.mem_cons, List.not_mem_nil, or_false] at hm
  rcases hm with rfl | rfl | rfl | rfl | rfl | rfl | rfl | rfl | rfl | rfl | rfl | rfl | rfl | rfl
  · exact go blt_len (by decide +kernel)
  · exact go blt_abs (by decide +kernel)
  · exact go (blt_max ok.calm) (by decide +kernel)
  · exact go (blt_min ok.calm (blt_minK ok.calm)) (by decide +kernel)
  · exact go (blt_sum ok.calm) (by decide +kernel)
  · exact go (blt_all ok.calm) (by decide +kernel)
  · exact go (blt_any ok.calm) (by decide +kernel)
  · exact goT blt_int (by decide +kernel)
  · exact goT (blt_list ok.calm) (by decide +kernel)
  · exact goT blt_tuple (by decide +kernel)
  · exact go (blt_repr (by omega) ok.hg ok.sys) (by decide +kernel)
  · exact go (blt_sorted ok.calm) (by decide +kernel)
  · exact goT (blt_dict ok.calm) (by decide +kernel)
  · exact goT blt_str (by decide +kernel)
theorem tE_isinst {K : PySem.W.Frag} {a : Cells → Res R} {ty : Ty} {σ : L2.St} {H : Hp} {Q : VK} (h : tE K (do1 (fun d => (some (RO.d (.bl (tyD ty d)))).map RO.toR) a) σ H Q) :
    tCB (fun xs H Q => ∃ A d x, xs = [x, .ty (tyN ty)] ∧ GoodA A H ∧ View K A H d x ∧ Q (.bl (tyD ty d)) H) (tCons (tE K a) (tCons (tC (.ty (tyN ty))) tNil)) σ H Q := by
  obtain ⟨O, env, rel, r, env', e, q⟩ := tE_do1 (f := fun d => some (RO.d (.bl (tyD ty d)))) h
  refine ⟨O, env, rel, r, env', e, fun v H' r1 s1 rr => ?_⟩
  obtain ⟨A, dx, ro, ga, vw, ef, q'⟩ := q v H' r1 s1 rr
  cases ef
  exact ⟨A, dx, v, rfl, ga, vw, q' _ _ (Same.refl _) (by simp [ROR, Rp])⟩
theorem k_isinst {rec : Expr → Option CE} (ok : XOk Γ X c) (hr : ∀ e ce, rec e = some ce → Snd Γ X e ce) {p cpos : Pos} {a t : Expr} {ce : CE} (hx : okN "isinstance" = true) (hb : btB c "isinstance" = true)
    (h : cIs c rec a t = some ce) : Snd Γ X (.Call (.Name "isinstance" p) [a, t] [] cpos) ce := by
  cases t with
  | Name t tp =>
    simp only [cIs] at h
    split at h
    · rename_i ht
      rw [Bool.and_eq_true] at ht
      cases e1 : findTy t with
      | none => rw [e1] at h; cases h
      | some ty =>
        cases e2 : rec a with
        | none => rw [e1, e2] at h; cases h
        | some ca =>
          rw [e1, e2] at h
          cases h
          have s := hr a ca e2
          obtain ⟨gl, mg⟩ := lookup_mem hb ok
          obtain ⟨n1, _, n3⟩ := okN_of hx
          obtain ⟨gl', mg'⟩ := lookup_mem ht.1 ok
          obtain ⟨m1, _, m3⟩ := okN_of ht.2
          have eb : bootBuiltins t = some (.type (tyN ty)) := by
            rw [← find_ty e1]
            cases ty <;> decide +kernel
          have pt : PE X (.Name t tp) (tC (.ty (tyN ty))) := pe_bltn gl' mg' eb rfl m3 m1
          have pa := pa_cons s.v (pa_cons pt pa_nil (starE rfl [] X.env)) (starE s.ns [.Name t tp] X.env)
          refine .of (f := do1 (fun d => (some (RO.d (.bl (tyD ty d)))).map RO.toR) (ev Γ ca).v) (by rw [ev]) ?_ rfl rfl rfl
          exact (pe_callB isi_G gl mg (by decide +kernel) pa n3 n1 (starE s.ns _ _) rfl).imp fun σ H Q q => tE_isinst q
    · cases h
  | _ => cases h
theorem k_fn {rec : Expr → Option CE} (ok : XOk Γ X c) (hr : ∀ e ce, rec e = some ce → Snd Γ X e ce) {x : Str} {p cpos : Pos} {e : Expr} {es : List Expr} {ces : List CE} {i m d : Nat} (hx : okN x = true) (hg : glB c.sc x = true)
    (hl : c.fns.lookup x = some (i, m, d)) (h1 : (e :: es).length ≤ m) (h2 : m ≤ (e :: es).length + d) (h : cEs rec (e :: es) = some ces) :
    PE X (.Call (.Name x p) (e :: es) [] cpos) (tE X.K (doCall Γ i (evEs Γ ces))) := by
  obtain ⟨fe, hf, hm, hd, ⟨k, f, fd, ps, F, hr', mg, hk, bd⟩⟩ := ok.fns x _ hl
  obtain ⟨n1, _, n3⟩ := okN_of hx
  obtain ⟨pa, ns, len⟩ := k_es hr h
  rw [List.all_cons, Bool.and_eq_true] at ns
  obtain ⟨dvs, ds, b1, b2, b3⟩ := bd (e :: es).length (by rw [hm]; exact h1) (by rw [hm, hd]; exact h2)
  refine (pe_callG (E := E0) F hr' ok.hg (gl_x hg ok) mg hk b2 b1 pass0 pa n1 (starE ns.1 _ _) (noStars ns.2)).imp fun σ H Q q => ?_
  exact tE_call hf b3 (fun env rs env' e => by rw [ev_len e, len]) q
theorem k_zip {rec : Expr → Option CE} (ok : XOk Γ X c) (hr : ∀ e ce, rec e = some ce → Snd Γ X e ce) {p cpos : Pos} {args : List Expr} {ce : CE} (hb : btB c "list" = true)
    (h : cZip c rec args = some ce) : Snd Γ X (.Call (.Name "list" p) args [] cpos) ce := by
  unfold cZip at h
  split at h
  · rename_i y yp a b zp
    split at h
    · rename_i ey
      subst ey
      split at h
      · rename_i hz
        cases e1 : cEs rec [a, b] with
        | none => rw [e1] at h; cases h
        | some ces =>
          rw [e1] at h
          cases h
          obtain ⟨gl, mg⟩ := lookup_mem hb ok
          obtain ⟨gl2, mg2⟩ := lookup_mem hz ok
          obtain ⟨pa, ns, _⟩ := k_es hr e1
          simp only [List.all_cons, Bool.and_eq_true] at ns
          exact .of (by rw [ev]) ((pe_colZ ok.calm gl mg gl2 mg2 pa (starE ns.1 _ _) (by rw [starE ns.2.1]; rfl)).imp fun σ H Q q => tE_colZ q) rfl rfl rfl
      · cases h
    · cases h
  · cases h
theorem k_dzip {rec : Expr → Option CE} (ok : XOk Γ X c) (hr : ∀ e ce, rec e = some ce → Snd Γ X e ce) {p cpos : Pos} {args : List Expr} {ce : CE} (hb : btB c "dict" = true)
    (h : cZip c rec args = some ce) : Snd Γ X (.Call (.Name "dict" p) args [] cpos) (.blt .dict [ce]) := by
  unfold cZip at h
  split at h
  · rename_i y yp a b zp
    split at h
    · rename_i ey
      subst ey
      split at h
      · rename_i hz
        cases e1 : cEs rec [a, b] with
        | none => rw [e1] at h; cases h
        | some ces =>
          rw [e1] at h
          cases h
          obtain ⟨gl, mg⟩ := lookup_mem hb ok
          obtain ⟨gl2, mg2⟩ := lookup_mem hz ok
          obtain ⟨pa, ns, _⟩ := k_es hr e1
          simp only [List.all_cons, Bool.and_eq_true] at ns
          exact .of (by rw [ev]) ((pe_dictZ ok.calm gl mg gl2 mg2 pa (starE ns.1 _ _) (by rw [starE ns.2.1]; rfl)).imp fun σ H Q q => tE_dictZ q) rfl rfl rfl
      · cases h
    · cases h
  · cases h
theorem k_call {rec : Expr → Option CE} (ok : XOk Γ X c) (hr : ∀ e ce, rec e = some ce → Snd Γ X e ce) {x : Str} {p cpos : Pos} {args : List Expr} {ce : CE} (h : cCall c rec x args = some ce) :
    Snd Γ X (.Call (.Name x p) args [] cpos) ce := by
  unfold cCall at h
  split at h
  · rename_i hx
    rw [Bool.and_eq_true] at hx
    cases args with
    | nil => simp at hx
    | cons e es =>
      split at h
      · rename_i i m d hl
        split at h
        · rename_i hg
          simp only [Bool.and_eq_true, decide_eq_true_eq] at hg
          cases e1 : cEs rec (e :: es) with
          | none => rw [e1] at h; cases h
          | some ces =>
            rw [e1] at h
            cases h
            exact .of (by rw [ev]) (k_fn ok hr hx.1 hg.1.1 hl hg.1.2 hg.2 e1) rfl rfl rfl
        · cases h
      · split at h
        · rename_i hb
          split at h
          · rename_i ce' hz
            cases h
            split at hz
            · rename_i el
              subst el
              exact k_zip ok hr hb hz
            · split at hz
              · rename_i el
                subst el
                cases e3 : cZip c rec (e :: es) with
                | none => rw [e3] at hz; cases hz
                | some ce3 =>
                  rw [e3] at hz
                  cases hz
                  exact k_dzip ok hr hb e3
              · cases hz
          split at h
          · rename_i b hf
            cases e1 : cEs rec (e :: es) with
            | none => rw [e1] at h; cases h
            | some ces =>
              rw [e1] at h
              cases h
              exact .of (by rw [ev]) (k_blt ok hr hx.1 hb hf e1) rfl rfl rfl
          · split at h
            · rename_i hi
              subst hi
              split at h
              · rename_i a t ea
                rw [ea]
                exact k_isinst ok hr hx.1 hb h
              · cases h
            · cases h
        · cases h
  · cases h
/-- a method of a constant text, one argument -/
theorem mth1_eq {Γ : FT} {m : Mth} {s : List Nat} {a : CE} : ev Γ (.mth m (.cst (.str s)) [a]) = .of (do1 (fun d => (mthD m (.str s) [d]).map RO.toR) (ev Γ a).v) := by
  rw [ev]
  congr 1
  funext env
  have e1 : (ev Γ (.cst (.str s))).v env = .ok (.d (.str s)) env := by rw [ev]; rfl
  have e2 : ∀ env, evEs Γ [a] env = ((ev Γ a).v env).bind fun r env1 => .ok [r] env1 := fun env => by
    rw [evEs]
    all_goals congr 1
    all_goals (funext r env1)
    all_goals (rw [evEs] <;> rfl)
  unfold doMth do1
  rw [e1]
  simp only [Res.bind]
  rw [e2]
  cases (ev Γ a).v env with
  | bad => rfl
  | exc x e => rfl
  | ok r env1 =>
    have e3 : R.get env1 (.d (.str s)) = some (.str s) := rfl
    simp only [Res.bind, gets]
    rw [e3]
    cases R.get env1 r <;> rfl
theorem tE_mth1 {K : PySem.W.Frag} {m : Mth} {s : List Nat} {a : Cells → Res R} {σ : L2.St} {H : Hp} {Q : VK} (h : tE K (do1 (fun d => (mthD m (.str s) [d]).map RO.toR) a) σ H Q) : tM1 (rMthG K m) (tC (.str (mkS s))) (tE K a) σ H Q := by
  have h2 := tE_do1 (f := fun d => mthD m (.str s) [d]) h
  obtain ⟨O, env, rel, r, env', e, q⟩ := h2
  refine ⟨⟨_, rfl⟩, O, env, rel, r, env', e, fun y H2 a b d => ?_⟩
  replace q := q y H2 a b d
  obtain ⟨A, dx, ro, ga, vw, ef, q⟩ := q
  refine ⟨A, .str s, [dx], ro, ga, by simp only [View], ?_, ef, q⟩
  simp only [ViewL]
  exact ⟨y, [], rfl, vw, rfl⟩
theorem k_meth {rec : Expr → Option CE} (ok : XOk Γ X c) (hr : ∀ e ce, rec e = some ce → Snd Γ X e ce) {o : Expr} {m : Str} {args : List Expr} {apos cpos : Pos} {ce : CE}
    (h : cMeth c rec o m args apos cpos = some ce) : Snd Γ X (.Call (.Attribute o m apos) args [] cpos) ce := by
  cases o with
  | Name x xp =>
    simp only [cMeth] at h
    split at h
    · rename_i hx
      simp only [Bool.and_eq_true] at hx
      obtain ⟨⟨hx, hv⟩, hline⟩ := hx
      obtain ⟨n1, n2, n3⟩ := okN_of hx
      split at h
      · rename_i i mu e1 e2
        cases h
        obtain ⟨hm, rfl⟩ := find_mut e2
        have po : PE X (.Name x xp) (tVar i) := pe_var (by rw [ok.N]; exact slot_get e1) (by rw [ok.sc]; exact vis_of hv) n1 n2
        have ee : ev Γ (.mut mu i []) = .of (doMut mu i (fun env => .ok [] env)) := by
          rw [ev]
          congr 2
          all_goals (funext env; rw [evEs])
        have go : ∀ {id : String}, Slot "list" (mutName mu) id → typeOf (.builtin id) = pure (.type "method_descriptor") → MtR X id (rMutG X.K mu) →
            Snd Γ X (.Call (.Attribute (.Name x xp) (mutName mu) apos) [] [] cpos) (.mut mu i []) := fun sl ty mr =>
          .of ee ((pe_bm0 F.plainAttrs_list sl ty mr po rfl hline).imp fun σ H Q q => tE_mut0 q) rfl rfl rfl
        simp only [muts, List.mem_cons, List.not_mem_nil, or_false] at hm
        obtain rfl | rfl | rfl | rfl := hm
        · exact go F.slot_list_append F.type_list_append mg_append
        · exact go F.slot_list_extend F.type_list_extend mg_extend
        · exact go F.slot_list_pop F.type_list_pop mg_pop
        · exact go F.slot_list_clear F.type_list_clear mg_clear
      · rename_i i mu e e1 e2
        cases e3 : rec e with
        | none => rw [e3] at h; cases h
        | some a =>
          rw [e3] at h
          cases h
          have s := hr e a e3
          obtain ⟨hm, rfl⟩ := find_mut e2
          have po : PE X (.Name x xp) (tVar i) := pe_var (by rw [ok.N]; exact slot_get e1) (by rw [ok.sc]; exact vis_of hv) n1 n2
          have es : cEs rec [e] = some [a] := by unfold cEs; rw [e3]; rfl
          obtain ⟨pa, ns, _⟩ := k_es hr es
          have few : ((backTo cpos (starEach [e] X.env)).all (fun x => !x.1) && (backToKw cpos (keywordEach [] X.env)).all (fun x => x.1.isSome)
              && decide ([e].length + ([] : List Keyword).length + (if ([] : List Keyword).isEmpty then 0 else 1) < 30)) = true := by
            rw [starE s.ns]; rfl
          have go : ∀ {id : String}, Slot "list" (mutName mu) id → typeOf (.builtin id) = pure (.type "method_descriptor") → MtR X id (rMutG X.K mu) →
              Snd Γ X (.Call (.Attribute (.Name x xp) (mutName mu) apos) [e] [] cpos) (.mut mu i [a]) := fun sl ty mr =>
            .of (by rw [ev]) ((pe_bm F.plainAttrs_list sl ty mr po pa rfl few hline (starE s.ns _ _) rfl).imp fun σ H Q q => tE_mut q) rfl rfl rfl
          simp only [muts, List.mem_cons, List.not_mem_nil, or_false] at hm
          obtain rfl | rfl | rfl | rfl := hm
          · exact go F.slot_list_append F.type_list_append mg_append
          · exact go F.slot_list_extend F.type_list_extend mg_extend
          · exact go F.slot_list_pop F.type_list_pop mg_pop
          · exact go F.slot_list_clear F.type_list_clear mg_clear
      · cases h
    · cases h
  | Constant k j kp =>
    cases k <;> simp only [cMeth, reduceCtorEq] at h
    rename_i z
    split at h
    · rename_i em
      subst em
      split at h
      · rename_i hline
        split at h
        · rename_i e
          cases e3 : rec e with
          | none => rw [e3] at h; cases h
          | some a =>
            rw [e3] at h
            cases h
            have s := hr e a e3
            have po : PE X (.Constant (.str z) j kp) (tC (.str (mkS z.cps.toList))) := by rw [mkS_of]; exact pe_str
            exact .of mth1_eq ((pe_m1 F.slot_str_join F.type_str_join mg_join po s.v (starE s.ns [] _) rfl hline).imp fun σ H Q q => tE_mth1 q) rfl rfl rfl
        · cases h
      · cases h
    · cases h
  | _ => cases h
theorem k_O {rec : Expr → Option CE} (hr : ∀ e ce, rec e = some ce → Snd Γ X e ce) {o : Option Expr} {co : Option CE} (h : cO rec o = some co) : PO X o (tO X.K (evO Γ co)) := by
  cases o with
  | none =>
    cases h
    refine po_none.imp fun σ H Q q => ?_
    have e : evO Γ none = fun env => .ok none env := by funext env; rw [evO]
    rw [e] at q
    exact tO_none q
  | some e =>
    simp only [cO] at h
    cases e1 : rec e with
    | none => rw [e1] at h; cases h
    | some a =>
      rw [e1] at h
      cases h
      refine (po_some (hr e a e1).v).imp fun σ H Q q => ?_
      have e : evO Γ (some a) = doInt (ev Γ a).v := by funext env; rw [evO]
      rw [e] at q
      exact tO_some q
theorem rev_str (z : Str) : (((Builtin.Str.strSliceIndices none none (-1) z.length).filterMap (z.cps[·]?)).toArray : Array Nat) = z.cps.toList.reverse.toArray := by
  congr 1
  rw [PyProof.Rows.picked_rev, PySem.W.krv_range, List.filterMap_reverse]
  congr 1
  exact PySem.W.krv_all z.cps
/-! x[::-1] of a text -/
section
variable {X : Cx} {pn : List (Addr × Obj)} {st : Shared} {σ : L2.St} {H : Hp} {P : Value → Shared → Prop}
/-- the parts of such a slice, one by one -/
theorem part_0 (iv : Inv X pn σ H st) (g : ∀ a st', Inv X pn σ H st' → IsPart a none → P a st') : wpAny (model X.prog X.w) X.A (evalPart none X.env) P X.xe st := by
  have w := (po_none (X := X)).run pn st σ H (fun o h => o = none ∧ h = H) iv ⟨rfl, rfl⟩
  exact thn w fun a st' ⟨o, h, jv, pa, eo, eh⟩ => (by subst eo; subst eh; exact g a st' jv pa)
theorem part_m {n : Nat} {pa pb : Pos} (iv : Inv X pn σ H st) (g : ∀ a st', Inv X pn σ H st' → IsPart a (some (-1)) → P a st') :
    wpAny (model X.prog X.w) X.A (evalPart (some (.UnaryOp .USub (.Constant (.int 1) n pa) pb)) X.env) P X.xe st := by
  have m : PO X (some (.UnaryOp .USub (.Constant (.int 1) n pa) pb)) _ := po_some (pe_un un_neg pe_int)
  have w := m.run pn st σ H (fun o h => o = some (-1) ∧ h = H) iv ⟨1, rfl, _, rfl, rfl, rfl⟩
  exact thn w fun a st' ⟨o, h, jv, pa, eo, eh⟩ => (by subst eo; subst eh; exact g a st' jv pa)
end
def backS (z : Str) : Str := ⟨z.cps.toList.reverse.toArray⟩
def tRevS (te : TE) : TE := fun σ H Q => te σ H fun x H1 => ∃ z : Str, x = .str z ∧ z.length ≤ sizeLine ∧ Q (.str (backS z)) H1
theorem pe_revS {X : Cx} {e : Expr} {te : TE} {n : Nat} {pa pb pc pos : Pos} (he : PE X e te) :
    PE X (.Subscript e (.Slice none none (some (.UnaryOp .USub (.Constant (.int 1) n pa) pb)) pc) pos) (tRevS te) where
  run := fun pn st σ H Q iv w => Subscript_ (thn (he.run pn st σ H _ iv w) fun u st1 hx => by
    obtain ⟨x, H1, iv1, ru, z, ez, hz, q⟩ := hx
    subst ez
    obtain ⟨tk, eu⟩ := ru
    subst eu
    refine wpAny_Slice (part_0 iv1 fun a st2 iv2 ha => part_0 iv2 fun b st3 iv3 hb => part_m iv3 fun c st4 iv4 hc => ?_)
    obtain ⟨ra, a1, a2⟩ := IsPart.raw ha
    obtain ⟨rb, b1, b2⟩ := IsPart.raw hb
    obtain ⟨rc, c1, c2⟩ := IsPart.raw hc
    have ka : ra.map (·.1) = none := by first | exact a1 | exact a1.symm | exact a2 | exact a2.symm
    have kb : rb.map (·.1) = none := by first | exact b1 | exact b1.symm | exact b2 | exact b2.symm
    have kc : rc.map (·.1) = some (-1) := by first | exact c1 | exact c1.symm | exact c2 | exact c2.symm
    have iv5 : Inv X pn σ H1 { st4 with heap := st4.heap.push { cls := .type "slice", data := .fields #[a, b, c] } } :=
      iv4.kept (t' := st4.toks) fun r o h => Heap.get?_push_of_some _ h
    have made : (PySem.sliceMade z tk ra rb rc).post (EP X pn σ Q) { st4 with heap := st4.heap.push { cls := .type "slice", data := .fields #[a, b, c] } } := by
      have em : PySem.sliceMade z tk ra rb rc = .str (backS z) := by
        unfold PySem.sliceMade PySem.slicePicked backS
        rw [ka, kb, kc, ← rev_str]
        rfl
      rw [em]
      have lz : (backS z).length ≤ sizeLine := by
        have : (backS z).length = z.length := by simp [backS, Str.length]
        omega
      exact ⟨lz, .str _, H1, iv5.tok _, ⟨_, rfl⟩, q⟩
    have isl : ({ st4 with heap := st4.heap.push { cls := .type "slice", data := .fields #[a, b, c] } } : Shared).heap.IsSlice st4.heap.objs.size ra rb rc := by
      subst_vars
      refine ⟨_, Heap.get?_push_size _ ?_, ?_, ?_⟩ <;> rfl
    have got := wpAny_getItem_str_slice (prog := X.prog) (w := X.w) (A := X.A) (E := X.xe) isl (by rw [kc]; rfl) made
    exact tail_any (typeIs_str _ _ _) F.slot_str_getitem.lookup got (by with_unfolding_all rfl))
/-- x[::-1], by what x is -/
theorem pe_rev {X : Cx} {e : Expr} {a : Cells → Res R} {n : Nat} {pa pb pc pos : Pos} (he : PE X e (tE X.K a)) :
    PE X (.Subscript e (.Slice none none (some (.UnaryOp .USub (.Constant (.int 1) n pa) pb)) pc) pos) (tE X.K (do1 (fun x => (revD x).map RO.toR) a)) where
  run := fun pn st σ H Q iv h => by
    obtain ⟨dx, g⟩ := tE_do1d h
    cases dx with
    | lst ds =>
      refine (pe_revL he).run pn st σ H Q iv (tE_mono g fun v H1 y => ?_)
      obtain ⟨A, ro, ga, vw, ef, q⟩ := y
      cases ef
      simp only [View] at vw
      obtain ⟨p, ys, rfl, hp, hr⟩ := vw
      exact ⟨p, ys, rfl, hp.seq, fun l hl => give_lst hl hr.reverse q⟩
    | str z =>
      refine (pe_revS he).run pn st σ H Q iv (tE_mono g fun v H1 y => ?_)
      obtain ⟨A, ro, ga, vw, ef, q⟩ := y
      simp only [revD] at ef
      split at ef
      · rename_i hl
        cases ef
        simp only [View] at vw
        subst vw
        refine ⟨mkS z, rfl, by rw [mkS_len]; exact lim_le hl, ?_⟩
        have : backS (mkS z) = mkS z.reverse := by simp [mkS, backS]
        rw [this]
        exact q _ _ (Same.refl H1) (by simp [ROR, Rp])
      · cases ef
    | _ =>
      refine Subscript_ (thn (he.run pn st σ H _ iv g) fun u st1 hx => ?_)
      obtain ⟨x, H1, iv1, ru, A, ro, ga, vw, ef, q⟩ := hx
      cases ef
theorem k_sub {rec : Expr → Option CE} (ok : XOk Γ X c) (hr : ∀ e ce, rec e = some ce → Snd Γ X e ce) {a i : Expr} {pos : Pos} {ce : CE} (h : cSub rec a i = some ce) : Snd Γ X (.Subscript a i pos) ce := by
  have hu := ok.hu
  have plain : ∀ {ce : CE}, plainIx i = true → (match rec a, rec i with
      | some ca, some ci => some (CE.ix ca ci)
      | _, _ => none) = some ce → Snd Γ X (.Subscript a i pos) ce := by
    intro ce hi h
    cases e1 : rec a with
    | none => rw [e1] at h; cases h
    | some ca =>
      cases e2 : rec i with
      | none => rw [e1, e2] at h; cases h
      | some ci =>
        rw [e1, e2] at h
        cases h
        exact .of (by rw [ev]) ((pe_ix (ix_G (by omega)) (hr a ca e1).v (hr i ci e2).v (plain_ix hi)).imp fun σ H Q q => tE_do2 q) rfl rfl rfl
  cases i with
  | Slice lo hi st sp =>
    simp only [cSub] at h
    split at h
    · cases e1 : rec a with
      | none => rw [e1] at h; cases h
      | some ca =>
        cases e2 : cO rec lo with
        | none => rw [e1, e2] at h; cases h
        | some l =>
          cases e3 : cO rec hi with
          | none => rw [e1, e2, e3] at h; cases h
          | some u =>
            rw [e1, e2, e3] at h
            cases h
            exact .of (by rw [ev]) ((pe_slice sl_G (hr a ca e1).v (k_O hr e2) (k_O hr e3)).imp fun σ H Q q => tE_sl q) rfl rfl rfl
    · split at h
      · cases e1 : rec a with
        | none => rw [e1] at h; cases h
        | some ca =>
          rw [e1] at h
          cases h
          exact .of (by rw [ev]) (pe_rev (hr a ca e1).v) rfl rfl rfl
      · cases h
    · cases h
  | _ => exact plain rfl h
/-- targets -/
theorem k_Ts {rec : Expr → Option Tg} (hr : ∀ e t, rec e = some t → PG X e (gD X.K t)) : ∀ {es : List Expr} {ts : List Tg}, es.all notStar = true → cTs rec es = some ts → PGs X es (gDs X.K ts) ∧ ts.length = es.length
  | [], ts, _, h => by cases h; exact ⟨pgs_nil.imp fun v σ H Q q => gDs_nil q, rfl⟩
  | e :: es, ts, ns, h => by
    rw [List.all_cons, Bool.and_eq_true] at ns
    unfold cTs at h
    cases e1 : rec e with
    | none => rw [e1] at h; cases h
    | some a =>
      cases e2 : cTs rec es with
      | none => rw [e1, e2] at h; cases h
      | some as =>
        rw [e1, e2] at h
        cases h
        obtain ⟨p, l⟩ := k_Ts hr ns.2 e2
        exact ⟨(pgs_cons (hr e a e1) p (by rw [assE ns.1]; rfl)).imp fun v σ H Q q => gDs_cons q, by simp [l]⟩
theorem loc_of {x : Str} (ok : XOk Γ X c) (h : locB c x = true) : Loc X.env.scope x ∧ (X.fn x = true ∨ X.env.scope.names.lookup x = some .local) := by
  unfold locB at h
  rw [ok.sc]
  split at h
  · rename_i e; exact ⟨.inl e, .inr e⟩
  · rename_i e; exact ⟨.inr e, .inl (ok.all h x)⟩
  · cases h
theorem k_T (ok : XOk Γ X c) : ∀ (n : Nat) (e : Expr) (t : Tg), cT c n e = some t → PG X e (gD X.K t)
  | 0, e, t, h => by cases e <;> simp [cT] at h
  | n + 1, e, t, h => by
    cases e with
    | Name x p =>
      simp only [cT] at h
      split at h
      · rename_i hl
        cases e1 : slotOf c.N x with
        | none => rw [e1] at h; cases h
        | some i =>
          rw [e1] at h
          cases h
          obtain ⟨l1, l2⟩ := loc_of ok hl
          exact (pg_name ok.nd (by rw [ok.N]; exact slot_get e1) l1 l2).imp fun v σ H Q q => gD_nm q
      · cases h
    | Tuple es k p =>
      simp only [cT] at h
      split at h
      · rename_i ns
        cases e1 : cTs (cT c n) es with
        | none => rw [e1] at h; cases h
        | some ts =>
          rw [e1] at h
          cases h
          obtain ⟨pg, l⟩ := k_Ts (k_T ok n) ns e1
          obtain ⟨l1, l2⟩ := ass_len (env := X.env) ns
          exact (pg_tup ok.calm pg (l1.trans l.symm) l2).imp fun v σ H Q q => gD_tup q
      · cases h
    | _ => simp [cT] at h
/-- walks -/
theorem k_I {rec : Expr → Option CE} (ok : XOk Γ X c) (hr : ∀ e ce, rec e = some ce → Snd Γ X e ce) {tg iter : Expr} {it : It} (h : cI c rec tg iter = some it) :
    PI X tg iter (tIW X.K (evI Γ it)) ∧ isSet iter = false := by
  have plain : ∀ {it : It}, (rec iter).map It.e = some it → PI X tg iter (tIW X.K (evI Γ it)) ∧ isSet iter = false := by
    intro it h
    cases e1 : rec iter with
    | none => rw [e1] at h; cases h
    | some a =>
      rw [e1] at h
      cases h
      have s := hr iter a e1
      refine ⟨(pi_anyL s.v).imp fun σ H Q q => ?_, s.nset⟩
      have e : evI Γ (.e a) = doIt1 walkOf (ev Γ a).v := by funext env; rw [evI]
      rw [e] at q
      exact tIW_any q
  cases iter with
  | Call f args kws cp =>
    cases kws with
    | cons k ks => exact plain h
    | nil =>
      cases f with
      | Name x xp =>
        simp only [cI] at h
        split at h
        · rename_i hx
          rw [Bool.and_eq_true] at hx
          obtain ⟨gl, mg⟩ := lookup_mem hx.1 ok
          split at h
          · rename_i ex
            subst ex
            split at h
            · rename_i hl
              simp only [Bool.and_eq_true, decide_eq_true_eq] at hl
              cases e1 : cEs rec args with
              | none => rw [e1] at h; cases h
              | some ces =>
                rw [e1] at h
                cases h
                obtain ⟨pa, ns, len⟩ := k_es hr e1
                have e : evI Γ (.range ces) = doRange (evEs Γ ces) := by funext env; rw [evI]
                rw [e]
                refine ⟨?_, rfl⟩
                match args, hl, ns, len with
                | [a], _, ns, len =>
                  rw [List.all_cons, Bool.and_eq_true] at ns
                  exact (pi_range1 gl mg pa (by rw [starE ns.1]; rfl)).imp fun σ H Q q => tI_range1 (fun env rs env' e => by rw [ev_len e, len]; rfl) (tIW_tI q)
                | [a, b], _, ns, len =>
                  simp only [List.all_cons, Bool.and_eq_true] at ns
                  exact (pi_range2 gl mg pa (by rw [starE ns.1, starE ns.2.1]; rfl) (by rw [starE ns.2.1]; rfl)).imp fun σ H Q q => tI_range2 (fun env rs env' e => by rw [ev_len e, len]; rfl) (tIW_tI q)
                | [a, b, d], _, ns, len =>
                  simp only [List.all_cons, Bool.and_eq_true] at ns
                  exact (pi_range3 gl mg pa (starE ns.1 _ _) (by rw [starE ns.2.1, starE ns.2.2.1]; rfl)).imp fun σ H Q q => tI_range3 (fun env rs env' e => by rw [ev_len e, len]; rfl) (tIW_tI q)
                | [], hl, _, _ => exact absurd hl.1 (by decide)
                | _ :: _ :: _ :: _ :: _, hl, _, _ => exact absurd hl.2 (by simp)
            · cases h
          · split at h
            · rename_i ex
              subst ex
              split at h
              · rename_i hl
                simp only [Bool.and_eq_true, decide_eq_true_eq] at hl
                cases e1 : cEs rec args with
                | none => rw [e1] at h; cases h
                | some ces =>
                  rw [e1] at h
                  cases h
                  obtain ⟨pa, ns, len⟩ := k_es hr e1
                  have e : evI Γ (.enum ces) = doItN enumD (evEs Γ ces) := by funext env; rw [evI]
                  rw [e]
                  refine ⟨?_, rfl⟩
                  cases tg with
                  | Tuple es k tp =>
                    match args, hl, ns with
                    | [a], _, ns =>
                      rw [List.all_cons, Bool.and_eq_true] at ns
                      exact (pi_enumK gl mg pa (by rw [starE ns.1]; rfl)).imp fun σ H Q q => tI_enum (tIW_tI q)
                    | [], hl, _ => exact absurd hl.2 (by decide)
                    | _ :: _ :: _, hl, _ => exact absurd hl.2 (by simp)
                  | _ => exact absurd hl.1 (by simp [isTup])
              · cases h
            · split at h
              · rename_i ex
                subst ex
                split at h
                · rename_i hl
                  simp only [Bool.and_eq_true, decide_eq_true_eq] at hl
                  cases e1 : cEs rec args with
                  | none => rw [e1] at h; cases h
                  | some ces =>
                    rw [e1] at h
                    cases h
                    obtain ⟨pa, ns, len⟩ := k_es hr e1
                    have e : evI Γ (.zip ces) = doItN zipD (evEs Γ ces) := by funext env; rw [evI]
                    rw [e]
                    refine ⟨?_, rfl⟩
                    cases tg with
                    | Tuple es k tp =>
                      match args, hl, ns with
                      | [a, b], _, ns =>
                        simp only [List.all_cons, Bool.and_eq_true] at ns
                        exact (pi_zipK gl mg pa (starE ns.1 _ _) (by rw [starE ns.2.1]; rfl)).imp fun σ H Q q => tI_zip (tIW_tI q)
                      | [], hl, _ => exact absurd hl.2 (by decide)
                      | [_], hl, _ => exact absurd hl.2 (by simp)
                      | _ :: _ :: _ :: _, hl, _ => exact absurd hl.2 (by simp)
                    | _ => exact absurd hl.1 (by simp [isTup])
                · cases h
              · exact plain h
        · exact plain h
      | Attribute o m apos =>
        cases args with
        | cons x xs => exact plain h
        | nil =>
          simp only [cI] at h
          split at h
          · rename_i hb
            rw [Bool.and_eq_true] at hb
            have hbase : attributeBase o m X.env (eval o X.env) = eval o X.env := by
              have := hb.1
              cases o <;> first | rfl | cases this
            split at h
            · rename_i em
              subst em
              split at h
              · rename_i ht
                cases e1 : rec o with
                | none => rw [e1] at h; cases h
                | some a =>
                  rw [e1] at h
                  cases h
                  have e : evI Γ (.items a) = doIt1 itemsL (ev Γ a).v := by funext env; rw [evI]
                  rw [e]
                  refine ⟨?_, rfl⟩
                  cases tg with
                  | Tuple es k tp => exact (pi_itemsL (hr o a e1).v hbase hb.2).imp fun σ H Q q => tIW_items q
                  | _ => exact absurd ht (by simp [isTup])
              · cases h
            · split at h
              · rename_i em
                subst em
                cases e1 : rec o with
                | none => rw [e1] at h; cases h
                | some a =>
                  rw [e1] at h
                  cases h
                  have e : evI Γ (.values a) = doIt1 valuesL (ev Γ a).v := by funext env; rw [evI]
                  rw [e]
                  exact ⟨(pi_valuesL (hr o a e1).v hbase hb.2).imp fun σ H Q q => tIW_values q, rfl⟩
              · exact plain h
          · exact plain h
      | _ => exact plain h
  | _ => exact plain h
theorem k_key {k : Option Expr} {dk : DK} (h : cKey k = some dk) : ∃ e, k = some e ∧ PE X e (tC (kV dk.toKey)) := by
  unfold cKey at h
  split at h
  · rename_i s j p
    cases h
    refine ⟨_, rfl, ?_⟩
    have e : kV (DK.s s.cps.toList).toKey = .str s := by
      show V.str (mkS s.cps.toList) = _
      rw [mkS_of]
    rw [e]
    exact pe_str
  · rename_i i j p
    cases h
    exact ⟨_, rfl, pe_int⟩
  · cases h
theorem k_ks {rec : Expr → Option CE} (hr : ∀ e ce, rec e = some ce → Snd Γ X e ce) {pos : Pos} : ∀ {ks : List (Option Expr)} {vs : List Expr} {cs : List (DK × CE)}, cKs rec ks vs = some cs →
    PPs X pos ks vs (trsK X.K Γ cs) ∧ ks.all (·.isSome) = true ∧ ks.length = vs.length ∧ cs.length = ks.length
  | [], [], cs, h => by cases h; exact ⟨pps_nil, rfl, rfl, rfl⟩
  | [], _ :: _, cs, h => by cases h
  | _ :: _, [], cs, h => by cases h
  | k :: ks, v :: vs, cs, h => by
    unfold cKs at h
    cases e1 : cKey k with
    | none => rw [e1] at h; cases h
    | some dk =>
      cases e2 : rec v with
      | none => rw [e1, e2] at h; cases h
      | some a =>
        cases e3 : cKs rec ks vs with
        | none => rw [e1, e2, e3] at h; cases h
        | some cs' =>
          rw [e1, e2, e3] at h
          cases h
          obtain ⟨e, rfl, pk⟩ := k_key (X := X) e1
          obtain ⟨pp, al, l1, l2⟩ := k_ks hr e3
          exact ⟨pps_cons pk (hr v a e2).v pp, by rw [List.all_cons, al]; rfl, by simp [l1], by simp [l2]⟩
theorem tE_disp0 {K : PySem.W.Frag} {σ : L2.St} {H : Hp} {Q : VK} (h : tE K (doDisp (evKs Γ [])) σ H Q) : tDNewK σ H Q := by
  have h2 := tE_disp (Γ := Γ) (ks := []) (by decide) h
  intro p hp
  obtain ⟨_, kvs, e, _, q⟩ := h2 p hp
  have e0 : kvs = [] := by
    cases kvs with
    | nil => rfl
    | cons a b => cases e
  subst e0
  rw [upd_upd] at q
  exact q
/-- the whole -/
theorem cE_ok : ∀ (n : Nat) (c : Ctx) (X : Cx), XOk Γ X c → ∀ e ce, cE n c e = some ce → Snd Γ X e ce
  | 0, c, X, ok, e, ce, h => by cases h
  | n + 1, c, X, ok, e, ce, h => by
    have hr := cE_ok n c X ok
    cases e with
    | Name x p => exact k_name ok h
    | Constant k j p => exact k_const h
    | BinOp a op b p =>
      simp only [cE] at h
      split at h
      · rename_i o x y e1 e2 e3
        cases h
        exact .of (by rw [ev]) ((pe_op (op_of e1) (hr a x e2).v (hr b y e3).v).imp fun σ H Q q => tE_do2 q) rfl rfl rfl
      · cases h
    | UnaryOp op a p =>
      simp only [cE] at h
      split at h
      · rename_i x e1
        cases h
        have un : UnR X (unaryOp .USub) (r1 X.K negD) := by
          intro pns s σ H x v Q I rx h
          obtain ⟨A, dx, ro, ga, vw, ef, q⟩ := h
          cases dx with
          | int i =>
            cases ef
            simp only [View] at vw
            exact un_neg pns s σ H x v Q I rx ⟨i, vw, q _ _ (Same.refl _) (by simp [ROR, Rp])⟩
          | _ => cases ef
        exact .of (by rw [ev]) ((pe_un un (hr a x e1).v).imp fun σ H Q q => tE_do1 q) rfl rfl rfl
      · rename_i x e1
        split at h
        · rename_i ht
          cases h
          have s := hr a x e1
          have ee : ev Γ (.not x) = ⟨doNot (ev Γ x).v, toNot (ev Γ x).t⟩ := by rw [ev]
          exact ⟨by rw [ee]; exact (pe_not s.v).imp fun σ H Q q => tE_not q, fun _ => by rw [ee]; exact (pt_not (s.t ht)).imp fun σ H Q q => tT_not q, rfl, rfl⟩
        · cases h
      · cases h
    | BoolOp op es p =>
      simp only [cE] at h
      split at h
      · rename_i ht
        obtain ⟨h1, h2⟩ := k_bool hr (p := p) ht h
        exact ⟨h1, fun _ => h2.pt, rfl, rfl⟩
      · cases h
    | Compare a ops bs p =>
      simp only [cE] at h
      have hu := ok.hu
      split at h
      · rename_i op b
        split at h
        · rename_i o x y e1 e2 e3
          cases h
          have sa := hr a x e2
          have sb := hr b y e3
          have ee : ev Γ (.cmp o x y) = .of (do2 (fun x y => (cmpD o x y).map fun b => .d (.bl b)) (ev Γ x).v (ev Γ y).v) := by rw [ev]
          exact ⟨by rw [ee]; exact (pe_cmpR (cop_of hu e1) sa.v sb.v (no_marks sb.nset)).imp fun σ H Q q => tE_cmp q,
            fun _ => by rw [ee]; exact (pt_cmpR (cop_of hu e1) sa.v sb.v (no_marks sb.nset)).imp fun σ H Q q => tT_cmp q, rfl, rfl⟩
        · cases h
      · rename_i op op' b d
        split at h
        · rename_i o o' x y z e1 e1' e2 e3 e4
          cases h
          have sa := hr a x e2
          have sb := hr b y e3
          have sd := hr d z e4
          have ee : ev Γ (.chain o o' x y z) = .of (doChain o o' (ev Γ x).v (ev Γ y).v (ev Γ z).v) := by rw [ev]
          have lm : lastMarks [op, op'] [b, d] = false := no_marks sd.nset
          exact ⟨by rw [ee]; exact (pe_chain (cop_of hu e1) (cop_of hu e1') sa.v sb.v sd.v lm).imp fun σ H Q q => tE_chain q,
            fun _ => by rw [ee]; exact (pt_chain (cop_of hu e1) (cop_of hu e1') sa.v sb.v sd.v lm).imp fun σ H Q q => tT_chain q, rfl, rfl⟩
        · cases h
      · cases h
    | IfExp t a b p =>
      simp only [cE] at h
      split at h
      · rename_i ht
        split at h
        · rename_i x y z e1 e2 e3
          cases h
          have ee : ev Γ (.ite x y z) = .of (doIte (ev Γ x).t (ev Γ y).v (ev Γ z).v) := by rw [ev]
          exact ⟨by rw [ee]; exact (pe_ifExp ((hr t x e1).t ht) (hr a y e2).v (hr b z e3).v).imp fun σ H Q q => tE_ite q, fun z => (by cases z), rfl, rfl⟩
        · cases h
      · cases h
    | Tuple es k p =>
      simp only [cE] at h
      cases e1 : cEs (cE n c) es with
      | none => rw [e1] at h; cases h
      | some ces =>
        rw [e1] at h
        cases h
        exact .of (by rw [ev]) ((pe_tup (k_es hr e1).1).imp fun σ H Q q => tE_tup q) rfl rfl rfl
    | List es p =>
      simp only [cE] at h
      cases e1 : cEs (cE n c) es with
      | none => rw [e1] at h; cases h
      | some ces =>
        rw [e1] at h
        cases h
        exact .of (by rw [ev]) ((pe_lst (k_es hr e1).1).imp fun σ H Q q => tE_lst q) rfl rfl rfl
    | Dict keys values p =>
      simp only [cE] at h
      split at h
      · rename_i ks e1
        split at h
        · rename_i h15
          cases h
          obtain ⟨pp, al, l1, l2⟩ := k_ks (pos := p) hr e1
          cases keys with
          | nil =>
            cases values with
            | cons _ _ => cases l1
            | nil =>
              have e0 : ks = [] := List.length_eq_zero_iff.mp l2
              subst e0
              exact .of (by rw [ev]) (pe_dnewK.imp fun σ H Q q => tE_disp0 q) rfl rfl rfl
          | cons k keys =>
            exact .of (by rw [ev]) ((pe_disp pp al l1 (by simp) (by rw [← l2]; exact h15)).imp fun σ H Q q => tE_disp h15 q) rfl rfl rfl
        · cases h
      · cases h
    | Call f args kws cpos =>
      simp only [cE] at h
      split at h
      · split at h
        · exact k_call ok hr h
        · exact k_meth ok hr h
        · cases h
      · cases h
    | Subscript a i p => exact k_sub ok hr h
    | ListComp elt gens scope p =>
      simp only [cE] at h
      split at h
      · rename_i tg iter ifs
        split at h
        · rename_i hb
          have bo := blkOk_by (N := c.N) (sc := c.sc) (scope := scope) (own := ownOf c.N scope) hb
          have bo' : BlkOk X.N X.env.scope scope (ownOf c.N scope) := by rw [ok.N, ok.sc]; exact bo
          have okb := fun s H C cl fp => ok.blk bo.kind s H C cl fp
          split at h
          · rename_i it t el e1 e2 e3
            split at h
            · rename_i hs
              cases h
              obtain ⟨pi, ns⟩ := k_I ok hr e1
              have ee : ev Γ (.lc el t it none ((ownOf c.N scope).map (·.2))) = .of (doLc (ev Γ el).v t (evI Γ it) (evC Γ none) ((ownOf c.N scope).map (·.2))) := by rw [ev]
              have ec : evC Γ none = fun env => .ok true env := by funext env; rw [evC]
              rw [ec] at ee
              refine .of ee ((pe_ul (pe_lc ok.calm ok.nd pi bo' (fun s H C cl fp => k_T (okb s H C cl fp) n tg t e2) (fun s H C cl fp => pts_nil.imp fun σ H Q q => tT_yes q)
                (fun s H C cl fp => (cE_ok n (c.blk scope) _ (okb s H C cl fp) elt el e3).v) (fun x => no_fold ns x))).imp fun σ H Q q => tE_lcW (fun i hi => ?_) q) rfl rfl rfl
              simpa using List.all_eq_true.mp hs i hi
            · cases h
          · rename_i it t el cd e1 e2 e3
            split at h
            · rename_i hs
              rw [Bool.and_eq_true] at hs
              cases e4 : cE n (c.blk scope) cd with
              | none => rw [e4] at h; cases h
              | some cc =>
                rw [e4] at h
                cases h
                obtain ⟨pi, ns⟩ := k_I ok hr e1
                have ee : ev Γ (.lc el t it (some cc) ((ownOf c.N scope).map (·.2))) = .of (doLc (ev Γ el).v t (evI Γ it) (evC Γ (some cc)) ((ownOf c.N scope).map (·.2))) := by rw [ev]
                have ec : evC Γ (some cc) = (ev Γ cc).t := by funext env; rw [evC]
                rw [ec] at ee
                refine .of ee ((pe_ul (pe_lc ok.calm ok.nd pi bo' (fun s H C cl fp => k_T (okb s H C cl fp) n tg t e2) (fun s H C cl fp => pts_one ((cE_ok n (c.blk scope) _ (okb s H C cl fp) cd cc e4).t hs.1))
                  (fun s H C cl fp => (cE_ok n (c.blk scope) _ (okb s H C cl fp) elt el e3).v) (fun x => no_fold ns x))).imp fun σ H Q q => tE_lcW (fun i hi => ?_) q) rfl rfl rfl
                simpa using List.all_eq_true.mp hs.2 i hi
            · cases h
          · cases h
        · cases h
      · cases h
    | _ => cases h
end
end Fx

set_option Elab.async false
set_option linter.all false
set_option maxRecDepth 100000
/-! Fx17: statements into the core language; a def by its body. -/
namespace Fx
open L2 PyProof.Rows PySem PySem.Spec

def isComp : Expr → Bool
  | .ListComp _ _ _ _ => true
  | .SetComp _ _ _ _ => true
  | .DictComp _ _ _ _ _ => true
  | _ => false
def isName : Expr → Bool
  | .Name _ _ => true
  | _ => false
theorem no_swap {e : Expr} (h : isComp e = false) (tg : Option Expr) (l : Nat) (env : Env) : swapsWith e tg l env = pure false := by
  cases e <;> first | rfl | cases h
theorem no_swapS {tg e : Expr} (h : isComp e = false ∨ isName tg = false) (l : Nat) (env : Env) : swapsWithSole [tg] e l env = pure false := by
  show swapsWith e (some tg) l env = pure false
  rcases h with h | h
  · exact no_swap h _ _ _
  · cases e <;> first | rfl | (cases tg <;> first | rfl | cases h)
/-- a display of a tuple -/
theorem no_stores {tg e : Expr} (h : isTup e = false) (env : Env) : swappedStores [tg] e env = pure none := by
  cases e with
  | Tuple es k p => cases h
  | _ => cases tg <;> rfl
def localB (sc : Scope) (x : Str) : Bool := match sc.names.lookup x with
  | some .local => true
  | _ => false
theorem local_of {sc : Scope} {x : Str} (h : localB sc x = true) : sc.names.lookup x = some .local := by
  unfold localB at h
  split at h
  · assumption
  · cases h
theorem stores2 {x y : Str} {px py pt : Pos} {kt k2 : Nat} {pt2 : Pos} {a b : Expr} {env : Env} (hk : env.scope.kind = .function) (hx : env.scope.names.lookup x = some .local) (hy : env.scope.names.lookup y = some .local)
    (hl : (py.line == px.line) = true) (hxy : x ≠ y) (h1 : notStar a = true) (h2 : notStar b = true) (h3 : [a, b].all (foldedForSure 8) = false) (h4 : [a, b].all (constantsAlone 8) = false) :
    swappedStores [.Tuple [.Name x px, .Name y py] kt pt] (.Tuple [a, b] k2 pt2) env = pure (some [x, y]) := by
  have hb : env.blockKind = .function := by rw [Env.blockKind, hk]; rfl
  have kx : env.kindOf x = some .local := hx
  have ky : env.kindOf y = some NameKind.local := hy
  have e1 : ([x, y] : List Str).eraseDups = [x, y] := by
    have h' : (y == x) = false := beq_eq_false_iff_ne.mpr (Ne.symm hxy)
    rw [List.eraseDups_cons]
    simp [h']
    rfl
  unfold swappedStores
  simp only [hb, List.any_cons, List.any_nil, h3, h4, List.head?_cons, Option.map, Option.getD, Expr.pos, List.length_cons, List.length_nil]
  split
  · rename_i z; exact absurd z (by decide)
  split
  · cases h1
  split
  · cases h2
  simp only [List.filterMap_cons, kx, ky, hl, List.filterMap_nil]
  simp [e1]
theorem stores3 {x y z : Str} {px py pz pt : Pos} {kt k2 : Nat} {pt2 : Pos} {a b d : Expr} {env : Env} (hk : env.scope.kind = .function) (hx : env.scope.names.lookup x = some .local) (hy : env.scope.names.lookup y = some .local)
    (hz : env.scope.names.lookup z = some .local) (hl : (py.line == px.line) = true) (hl' : (pz.line == px.line) = true) (hxy : x ≠ y) (hxz : x ≠ z) (hyz : y ≠ z) (h1 : notStar a = true) (h2 : notStar b = true) (h2' : notStar d = true)
    (h3 : [a, b, d].all (foldedForSure 8) = false) (h4 : [a, b, d].all (constantsAlone 8) = false) :
    swappedStores [.Tuple [.Name x px, .Name y py, .Name z pz] kt pt] (.Tuple [a, b, d] k2 pt2) env = pure (some [x, y, z]) := by
  have hb : env.blockKind = .function := by rw [Env.blockKind, hk]; rfl
  have kx : env.kindOf x = some .local := hx
  have ky : env.kindOf y = some NameKind.local := hy
  have kz : env.kindOf z = some .local := hz
  have e1 : ([x, y, z] : List Str).eraseDups = [x, y, z] := by
    have g1 : (y == x) = false := beq_eq_false_iff_ne.mpr (Ne.symm hxy)
    have g2 : (z == x) = false := beq_eq_false_iff_ne.mpr (Ne.symm hxz)
    have g3 : (z == y) = false := beq_eq_false_iff_ne.mpr (Ne.symm hyz)
    rw [List.eraseDups_cons]
    simp [g1, g2]
    rw [List.eraseDups_cons]
    simp [g3]
    rfl
  unfold swappedStores
  simp only [hb, List.any_cons, List.any_nil, h3, h4, List.head?_cons, Option.map, Option.getD, Expr.pos, List.length_cons, List.length_nil]
  split
  · rename_i z; exact absurd z (by decide)
  split
  · cases h1
  split
  · cases h2
  split
  · cases h2'
  simp only [List.filterMap_cons, kx, ky, kz, hl, hl', List.filterMap_nil]
  simp [e1]
/-- a display of constants stored to a display: as any tuple -/
theorem stores_const {ts vs : List Expr} {kt k2 : Nat} {pt pt2 : Pos} {env : Env} (h : vs.all (foldedForSure 8) = true) (ns : vs.all notStar = true) :
    swappedStores [.Tuple ts kt pt] (.Tuple vs k2 pt2) env = pure none := by
  unfold swappedStores
  simp only [h]
  split
  · rfl
  split
  · rfl
  split
  · rfl
  · rfl

/-- a target that is no local name -/
def loneB (sc : Scope) : Expr → Bool
  | .Name x _ => localB sc x
  | _ => false
/-- a reading that misses one is shorter -/
theorem short {sc : Scope} (g : Expr → Option Str) (miss : ∀ e, loneB sc e = false → g e = none) : ∀ l : List Expr, l.all (loneB sc) = false → (l.filterMap g).length < l.length
  | [], h => nomatch h
  | e :: l, h => by
    have le := List.length_filterMap_le g l
    rw [List.filterMap_cons, List.length_cons]
    simp only [List.all_cons, Bool.and_eq_false_iff] at h
    rcases h with h | h
    · rw [miss e h]
      exact Nat.lt_succ_of_le le
    · have := short g miss l h
      split
      · omega
      · exact Nat.succ_lt_succ this
theorem stores_lone {ts vs : List Expr} {kt k2 : Nat} {pt pt2 : Pos} {env : Env} {sc : Scope} (hs : env.scope = sc) (h : ts.all (loneB sc) = false) (ns : vs.all notStar = true) :
    swappedStores [.Tuple ts kt pt] (.Tuple vs k2 pt2) env = pure none := by
  unfold swappedStores
  simp only
  split
  · rfl
  split
  · rfl
  split
  · rfl
  · rename_i hx
    exfalso
    apply hx
    rw [Bool.or_eq_true]
    left
    rw [bne_iff_ne]
    intro hlen
    refine absurd hlen (Nat.ne_of_lt (short _ (fun e lone => ?_) ts h))
    cases e with
    | Name id pos =>
      have there : env.kindOf id = sc.names.lookup id := by rw [← hs]; rfl
      have no : (env.kindOf id == some .local) = false := by
        rw [there]
        simp only [loneB, localB] at lone
        cases found : sc.names.lookup id with
        | none => rfl
        | some kd => rw [found] at lone; cases kd <;> first | rfl | cases lone
      simp [no]
    | _ => rfl

section
variable (c : Ctx)
def slotL (x : Str) : Option Nat := if localB c.sc x then slotOf c.N x else none
/-- a, b = e, e' -/
def cPar (rec : Expr → Option CE) (ts vs : List Expr) : Option CS :=
  if vs.all (foldedForSure 8) || vs.all (constantsAlone 8) then none else
  match ts, vs with
  | [.Name x px, .Name y py], [a, b] => if (py.line == px.line) && decide (x ≠ y) then (match slotL c x, slotL c y, cEs rec [a, b] with
      | some i, some j, some es => some (.par [.nm i, .nm j] es)
      | _, _, _ => none) else none
  | [.Name x px, .Name y py, .Name z pz], [a, b, d] => if (py.line == px.line) && (pz.line == px.line) && decide (x ≠ y) && decide (x ≠ z) && decide (y ≠ z) then (match slotL c x, slotL c y, slotL c z, cEs rec [a, b, d] with
      | some i, some j, some l, some es => some (.par [.nm i, .nm j, .nm l] es)
      | _, _, _, _ => none) else none
  | _, _ => none
/-- the comprehension's scope does not bind the name -/
def freshB (scope : Scope) (y : Str) : Bool := !(scope.names.any fun (n, k) => n == y && (k == .local || k == .cell))
def cAsg (n : Nat) (tg e : Expr) : Option CS :=
  match tg with
  | .Name x p => (match e with
    | .ListComp _ _ scope lp => if localB c.sc x && (p.line == lp.line) && freshB scope x then (match slotOf c.N x, cE n c e with
        | some i, some ce => some (.asg (.nm i) ce)
        | _, _ => none) else none
    | e => if isComp e then none else (match cT c n tg, cE n c e with
        | some t, some ce => some (.asg t ce)
        | _, _ => none))
  | .Tuple ts _ _ => (match e with
    | .Tuple vs _ _ => if vs.all (foldedForSure 8) then (match cT c n tg, cE n c e with
        | some t, some ce => some (.asg t ce)
        | _, _ => none) else if ts.all (loneB c.sc) = false then (match cT c n tg, cE n c e with
        | some t, some ce => some (.asg t ce)
        | _, _ => none) else cPar c (cE n c) ts vs
    | e => (match cT c n tg, cE n c e with
        | some t, some ce => some (.asg t ce)
        | _, _ => none))
  | .Subscript (.Name x _) i _ => if isComp e || !okN x || !visB c.sc x || !plainIx i || isTup e then none else (match slotOf c.N x, cE n c i, cE n c e with
      | some k, some ci, some ce => some (.set k ci ce)
      | _, _, _ => none)
  | _ => none
def isCall : Expr → Bool
  | .Call _ _ _ _ => true
  | _ => false
def cSs (rec : Stmt → Option CS) : List Stmt → Option (List CS)
  | [] => some []
  | s :: ss => match rec s, cSs rec ss with
    | some a, some as => some (a :: as)
    | _, _ => none
end
def cS : Nat → Ctx → Stmt → Option CS
  | 0, _, _ => none
  | n + 1, c, st => match st with
    | .Assign ts e _ => (match ts with
      | [tg] => cAsg c n tg e
      | _ => none)
    | .AugAssign tg op e _ => (match tg with
      | .Name x _ => if locB c x then (match slotOf c.N x, op, cE n c e with
        | some i, .Add, some ce => some (.aug i .add ce)
        | some i, .Sub, some ce => some (.aug i .sub ce)
        | _, _, _ => none) else none
      | _ => none)
    | .Expr e _ => if isCall e then (cE n c e).map .expr else none
    | .If t a b _ => if tstB t then (match cE n c t, cSs (cS n c) a, cSs (cS n c) b with
      | some ct, some ca, some cb => some (.ifs ct ca cb)
      | _, _, _ => none) else none
    | .While t a b _ => (match b with
      | [] => if tstB t then (match cE n c t, cSs (cS n c) a with
        | some ct, some ca => some (.whl ct ca)
        | _, _ => none) else none
      | _ => none)
    | .For tg iter a b _ => (match b with
      | [] => (match cI c (cE n c) tg iter, cT c n tg, cSs (cS n c) a with
        | some it, some t, some ca => some (.fors t it ca)
        | _, _, _ => none)
      | _ => none)
    | .Return o _ => (match o with
      | none => some .retN
      | some e => (cE n c e).map .ret)
    | .Break _ => some .brk
    | .Continue _ => some .cnt
    | .Pass _ => some .pas
    | .Raise _ _ _ => some .never
    | _ => none
section
variable {Γ : FT} {X : Cx} {c : Ctx}
theorem slotL_of {x : Str} {i : Nat} (ok : XOk Γ X c) (h : slotL c x = some i) : X.N[i]? = some x ∧ X.env.scope.names.lookup x = some .local := by
  unfold slotL at h
  split at h
  · rename_i hl
    rw [ok.N, ok.sc]
    exact ⟨slot_get h, local_of hl⟩
  · cases h
theorem slot_inj {N : List Str} {x y : Str} {i : Nat} (h1 : N[i]? = some x) (h2 : N[i]? = some y) : x = y := by
  rw [h1] at h2; cases h2; rfl
theorem k_par {rec : Expr → Option CE} (ok : XOk Γ X c) (hr : ∀ e ce, rec e = some ce → Snd Γ X e ce) {ts vs : List Expr} {kt k2 : Nat} {pt pt2 pos : Pos} {cs : CS} (h : cPar c rec ts vs = some cs) :
    PS X (.Assign [.Tuple ts kt pt] (.Tuple vs k2 pt2) pos) (tS X.K (evS Γ cs)) := by
  unfold cPar at h
  split at h
  · cases h
  rename_i hc
  simp only [Bool.or_eq_true, not_or, Bool.not_eq_true] at hc
  have hk : X.env.scope.kind = .function := by rw [ok.sc]; exact ok.kind
  split at h
  · rename_i x px y py a b
    split at h
    · rename_i hq
      simp only [Bool.and_eq_true, decide_eq_true_eq] at hq
      split at h
      · rename_i i j es e1 e2 e3
        cases h
        obtain ⟨a1, a2⟩ := slotL_of ok e1
        obtain ⟨b1, b2⟩ := slotL_of ok e2
        obtain ⟨pa, ns, _⟩ := k_es hr e3
        simp only [List.all_cons, Bool.and_eq_true] at ns
        have ij : i ≠ j := fun z => hq.2 (by subst z; exact slot_inj a1 b1)
        refine (ps_par ok.calm ok.nd a1 b1 ij a2 b2 pa (stores2 hk a2 b2 hq.1 hq.2 ns.1 ns.2.1 hc.1 hc.2)).imp fun D σ H q => par2 ?_
        have e : evS Γ (.par [.nm i, .nm j] es) = parF [.nm i, .nm j] (evEs Γ es) := by funext env; (rw [evS] <;> rfl)
        rw [e] at q
        exact q
      · cases h
    · cases h
  · rename_i x px y py z pz a b d
    split at h
    · rename_i hq
      simp only [Bool.and_eq_true, decide_eq_true_eq] at hq
      obtain ⟨⟨⟨⟨q1, q2⟩, q3⟩, q4⟩, q5⟩ := hq
      split at h
      · rename_i i j l es e1 e2 e3 e4
        cases h
        obtain ⟨a1, a2⟩ := slotL_of ok e1
        obtain ⟨b1, b2⟩ := slotL_of ok e2
        obtain ⟨d1, d2⟩ := slotL_of ok e3
        obtain ⟨pa, ns, _⟩ := k_es hr e4
        simp only [List.all_cons, Bool.and_eq_true] at ns
        have ij : i ≠ j := fun z => q3 (by subst z; exact slot_inj a1 b1)
        have il : i ≠ l := fun z => q4 (by subst z; exact slot_inj a1 d1)
        have jl : j ≠ l := fun z => q5 (by subst z; exact slot_inj b1 d1)
        refine (ps_par3 ok.calm ok.nd a1 b1 d1 ij il jl a2 b2 d2 pa (stores3 hk a2 b2 d2 q1 q2 q3 q4 q5 ns.1 ns.2.1 ns.2.2.1 hc.1 hc.2)).imp fun D σ H q => par3 ?_
        have e : evS Γ (.par [.nm i, .nm j, .nm l] es) = parF [.nm i, .nm j, .nm l] (evEs Γ es) := by funext env; (rw [evS] <;> rfl)
        rw [e] at q
        exact q
      · cases h
    · cases h
  · cases h
theorem ev_asg {t : Tg} {ce : CE} : evS Γ (.asg t ce) = fun env => ((ev Γ ce).v env).bind fun r env1 => match asgR t r env1 with
      | some env2 => .ok .next env2
      | none => .bad := by funext env; (rw [evS] <;> rfl)
theorem k_R (ok : XOk Γ X c) {n : Nat} {e : Expr} {t : Tg} (h : cT c n e = some t) : PG X e (gR X.K t) := by
  cases t with
  | tup ts => exact (k_T ok n e _ h).imp fun v σ H Q q => gR_tup q
  | nm i =>
    cases n with
    | zero => cases e <;> simp [cT] at h
    | succ n =>
      cases e with
      | Name x p =>
        simp only [cT] at h
        split at h
        · rename_i hl
          cases e1 : slotOf c.N x with
          | none => rw [e1] at h; cases h
          | some j =>
            rw [e1] at h
            cases h
            obtain ⟨l1, l2⟩ := loc_of ok hl
            exact (pg_name ok.nd (by rw [ok.N]; exact slot_get e1) l1 l2).imp fun v σ H Q q => gR_nm q
        · cases h
      | Tuple es k p =>
        simp only [cT] at h
        split at h
        · cases e1 : cTs (cT c n) es with
          | none => rw [e1] at h; cases h
          | some ts => rw [e1] at h; cases h
        · cases h
      | _ => simp [cT] at h
theorem target_ns {n : Nat} {e : Expr} {t : Tg} (h : cT c n e = some t) : notStar e = true := by
  cases n with
  | zero => cases e <;> simp [cT] at h
  | succ n => cases e <;> first | rfl | simp [cT] at h
theorem k_asg (ok : XOk Γ X c) {n : Nat} {tg e : Expr} {pos : Pos} {cs : CS} (h : cAsg c n tg e = some cs) : PS X (.Assign [tg] e pos) (tS X.K (evS Γ cs)) := by
  have hr := cE_ok (Γ := Γ) n c X ok
  have gen : ∀ {cs : CS}, isComp e = false ∨ isName tg = false → swappedStores [tg] e X.env = pure none → (match cT c n tg, cE n c e with
        | some t, some ce => some (CS.asg t ce)
        | _, _ => none) = some cs → PS X (.Assign [tg] e pos) (tS X.K (evS Γ cs)) := by
    intro cs h1 h2 h
    split at h
    · rename_i t ce e1 e2
      cases h
      rw [ev_asg]
      exact (ps_asg (hr e ce e2).v (k_R ok e1) (no_swapS h1 _ _) h2 (by rw [assE (target_ns e1)]; rfl)).imp fun D σ H q => s_asg q
    · cases h
  cases tg with
  | Name x p =>
    simp only [cAsg] at h
    split at h
    · rename_i elt gens scope lp
      split at h
      · rename_i hq
        simp only [Bool.and_eq_true] at hq ⊢
        obtain ⟨⟨q1, q2⟩, q3⟩ := hq
        split at h
        · rename_i i ce e1 e2
          cases h
          have xl : X.env.scope.names.lookup x = some .local := by rw [ok.sc]; exact local_of q1
          have hk : X.env.scope.kind = .function := by rw [ok.sc]; exact ok.kind
          have sw : ∀ {el gs}, swapsWith (.ListComp el gs scope lp) (some (.Name x p)) pos.line X.env = pure true := fun {el gs} => sw_true hk xl q2 (by simpa [freshB] using q3)
          cases n with
          | zero => cases e2
          | succ n =>
            have hrn := cE_ok (Γ := Γ) n c X ok
            simp only [cE] at e2
            split at e2
            · rename_i tg iter ifs
              split at e2
              · rename_i hb
                have bo := blkOk_by (N := c.N) (sc := c.sc) (scope := scope) (own := ownOf c.N scope) hb
                have bo' : BlkOk X.N X.env.scope scope (ownOf c.N scope) := by rw [ok.N, ok.sc]; exact bo
                have okb := fun s H C cl fp => ok.blk bo.kind s H C cl fp
                have xi : X.N[i]? = some x := by rw [ok.N]; exact slot_get e1
                split at e2
                · rename_i it t el f1 f2 f3
                  split at e2
                  · rename_i hs
                    cases e2
                    obtain ⟨pi, ns⟩ := k_I ok hrn f1
                    have ee : ev Γ (.lc el t it none ((ownOf c.N scope).map (·.2))) = .of (doLc (ev Γ el).v t (evI Γ it) (evC Γ none) ((ownOf c.N scope).map (·.2))) := by rw [ev]
                    have ec : evC Γ none = fun env => .ok true env := by funext env; rw [evC]
                    rw [ec] at ee
                    rw [ev_asg, ee]
                    refine (ps_ul (ps_setLc (te := tE X.K (ev Γ el).v) (g := gD X.K t) (tt := tT X.K fun env => .ok true env) ok.calm ok.nd xi xl sw pi bo' (fun s H C cl fp => k_T (okb s H C cl fp) n tg t f2) (fun s H C cl fp => pts_nil.imp fun σ H Q q => tT_yes q)
                      (fun s H C cl fp => (cE_ok n (c.blk scope) _ (okb s H C cl fp) elt el f3).v) (fun x => no_fold ns x))).imp fun D σ H q => ?_
                    exact tE_lcW (fun i hi => by simpa using List.all_eq_true.mp hs i hi) (tE_mono (s_asg q) fun v H' g => gR_nm g)
                  · cases e2
                · rename_i it t el cd f1 f2 f3
                  split at e2
                  · rename_i hs
                    rw [Bool.and_eq_true] at hs
                    cases f4 : cE n (c.blk scope) cd with
                    | none => rw [f4] at e2; cases e2
                    | some cc =>
                      rw [f4] at e2
                      cases e2
                      obtain ⟨pi, ns⟩ := k_I ok hrn f1
                      have ee : ev Γ (.lc el t it (some cc) ((ownOf c.N scope).map (·.2))) = .of (doLc (ev Γ el).v t (evI Γ it) (evC Γ (some cc)) ((ownOf c.N scope).map (·.2))) := by rw [ev]
                      have ec : evC Γ (some cc) = (ev Γ cc).t := by funext env; rw [evC]
                      rw [ec] at ee
                      rw [ev_asg, ee]
                      refine (ps_ul (ps_setLc (te := tE X.K (ev Γ el).v) (g := gD X.K t) (tt := tT X.K (ev Γ cc).t) ok.calm ok.nd xi xl sw pi bo' (fun s H C cl fp => k_T (okb s H C cl fp) n tg t f2) (fun s H C cl fp => pts_one ((cE_ok n (c.blk scope) _ (okb s H C cl fp) cd cc f4).t hs.1))
                        (fun s H C cl fp => (cE_ok n (c.blk scope) _ (okb s H C cl fp) elt el f3).v) (fun x => no_fold ns x))).imp fun D σ H q => ?_
                      exact tE_lcW (fun i hi => by simpa using List.all_eq_true.mp hs.2 i hi) (tE_mono (s_asg q) fun v H' g => gR_nm g)
                  · cases e2
                · cases e2
              · cases e2
            · cases e2
        · cases h
      · cases h
    · split at h
      · cases h
      · rename_i hc
        refine gen (.inl (by simpa using hc)) ?_ h
        cases e <;> rfl
  | Tuple ts k p =>
    simp only [cAsg] at h
    split at h
    · rename_i vs k2 p2
      split at h
      · rename_i hf
        refine gen (.inl rfl) ?_ h
        have hn : vs.all notStar = true := by
          cases e2 : cE n c (.Tuple vs k2 p2) with
          | none => rw [e2] at h; cases e9 : cT c n (.Tuple ts k p) <;> rw [e9] at h <;> cases h
          | some ce =>
            cases n with
            | zero => cases e2
            | succ n =>
              simp only [cE] at e2
              cases e3 : cEs (cE n c) vs with
              | none => rw [e3] at e2; cases e2
              | some ces => exact (k_es (cE_ok (Γ := Γ) n c X ok) e3).2.1
        exact stores_const hf hn
      split at h
      · rename_i hlo
        refine gen (.inl rfl) ?_ h
        have hn : vs.all notStar = true := by
          cases e2 : cE n c (.Tuple vs k2 p2) with
          | none => rw [e2] at h; cases e9 : cT c n (.Tuple ts k p) <;> rw [e9] at h <;> cases h
          | some ce =>
            cases n with
            | zero => cases e2
            | succ n =>
              simp only [cE] at e2
              cases e3 : cEs (cE n c) vs with
              | none => rw [e3] at e2; cases e2
              | some ces => exact (k_es (cE_ok (Γ := Γ) n c X ok) e3).2.1
        exact stores_lone ok.sc hlo hn
      · exact k_par ok hr h
    · rename_i hne
      refine gen (.inr rfl) (no_stores ?_ _) h
      cases e <;> first | rfl | exact (hne _ _ _ rfl).elim
  | Subscript o i sp =>
    cases o with
    | Name x xp =>
      simp only [cAsg] at h
      split at h
      · cases h
      · rename_i hq
        simp only [Bool.or_eq_true, not_or, Bool.not_eq_true, Bool.not_eq_false'] at hq
        obtain ⟨⟨⟨⟨q1, q2⟩, q3⟩, q4⟩, q5⟩ := hq
        have q2 : okN x = true := by simpa using q2
        have q3 : visB c.sc x = true := by simpa using q3
        have q4 : plainIx i = true := by simpa using q4
        obtain ⟨n1, n2, n3⟩ := okN_of q2
        split at h
        · rename_i k ci ce e1 e2 e3
          cases h
          have po : PE X (.Name x xp) (tVar k) := pe_var (by rw [ok.N]; exact slot_get e1) (by rw [ok.sc]; exact vis_of q3) n1 n2
          have ee : evS Γ (.set k ci ce) = fun env => ((ev Γ ce).v env).bind fun r env1 => match frz env1 r with
              | none => .bad
              | some (v, env2) => if (obAt env2 k).isSome then ((ev Γ ci).v env2).bind fun kk env3 => match kk.get env3, obAt env3 k with
                | some dk, some b => match setD b dk v with
                  | some b' => .ok .next (putOb env3 k b')
                  | none => .bad
                | _, _ => .bad
                else .bad := by funext env; (rw [evS] <;> rfl)
          rw [ee]
          have hu := ok.hu
          have pg := (pg_sub (pos := sp) po (hr i ci e2).v (set_G (X := X) (by omega)) (by
            intro v
            cases i <;> first | rfl | cases q4)).imp fun v σ H Q q => gSet_sub q
          exact (ps_asg (hr e ce e3).v pg (no_swapS (.inr rfl) _ _) (no_stores q5 _) rfl).imp fun D σ H q => s_set q
        · cases h
    | _ => cases h
  | _ => cases h
end
end Fx

set_option Elab.async false
set_option linter.all false
set_option maxRecDepth 100000
/-! Fx18: bodies, defs, the table of a program's defs. -/
namespace Fx
open L2 PyProof.Rows PySem PySem.Spec

section
variable {Γ : FT} {X : Cx} {c : Ctx}
theorem k_Ss {rec : Stmt → Option CS} (hr : ∀ st cs, rec st = some cs → PS X st (tS X.K (evS Γ cs))) : ∀ {sts : List Stmt} {css : List CS}, cSs rec sts = some css → PSs X sts (tS X.K (evSs Γ css))
  | [], css, h => by
    cases h
    have e : evSs Γ [] = fun env => .ok .next env := by funext env; rw [evSs]
    rw [e]
    exact pss_nil.imp fun D σ H q => s_nil q
  | s :: ss, css, h => by
    unfold cSs at h
    cases e1 : rec s with
    | none => rw [e1] at h; cases h
    | some a =>
      cases e2 : cSs rec ss with
      | none => rw [e1, e2] at h; cases h
      | some as =>
        rw [e1, e2] at h
        cases h
        have e : evSs Γ (a :: as) = fun env => (evS Γ a env).bind fun fl env1 => match fl with
            | .next => evSs Γ as env1
            | fl => .ok fl env1 := by funext env; (rw [evSs] <;> rfl)
        rw [e]
        exact (pss_cons (hr s a e1) (k_Ss hr e2)).imp fun D σ H q => s_seq q
theorem cS_ok : ∀ (n : Nat) (c : Ctx) (X : Cx), XOk Γ X c → PassesOwn (model X.prog X.w) X.A X.env X.xe → ∀ st cs, cS n c st = some cs → PS X st (tS X.K (evS Γ cs))
  | 0, c, X, ok, hp, st, cs, h => by cases h
  | n + 1, c, X, ok, hp, st, cs, h => by
    have hr := cS_ok n c X ok hp
    have he := cE_ok (Γ := Γ) n c X ok
    cases st with
    | Assign ts e pos =>
      simp only [cS] at h
      split at h
      · exact k_asg ok h
      · cases h
    | AugAssign tg op e pos =>
      simp only [cS] at h
      split at h
      · rename_i x xp
        split at h
        · rename_i hl
          obtain ⟨l1, l2⟩ := loc_of ok hl
          split at h
          · rename_i i ce e1 e2
            cases h
            have ee : evS Γ (.aug i .add ce) = doAug i .add (ev Γ ce).v := by funext env; rw [evS]
            rw [ee]
            exact (ps_aug ok.nd (by rw [ok.N]; exact slot_get e1) l1 (he e ce e2).v ip_addG l2).imp fun D σ H q => s_aug q
          · rename_i i ce e1 e2
            cases h
            have ee : evS Γ (.aug i .sub ce) = doAug i .sub (ev Γ ce).v := by funext env; rw [evS]
            rw [ee]
            exact (ps_aug ok.nd (by rw [ok.N]; exact slot_get e1) l1 (he e ce e2).v ip_subG l2).imp fun D σ H q => s_aug q
          · cases h
        · cases h
      · cases h
    | Expr e pos =>
      simp only [cS] at h
      split at h
      · rename_i hc
        cases e1 : cE n c e with
        | none => rw [e1] at h; cases h
        | some ce =>
          rw [e1] at h
          cases h
          have ee : evS Γ (.expr ce) = fun env => ((ev Γ ce).v env).bind fun _ env1 => .ok .next env1 := by funext env; rw [evS]
          rw [ee]
          have nc : isComp e = false := by cases e <;> first | rfl | cases hc
          exact (ps_expr (he e ce e1).v (no_swap nc _ _ _)).imp fun D σ H q => s_expr q
      · cases h
    | If t a b pos =>
      simp only [cS] at h
      split at h
      · rename_i ht
        split at h
        · rename_i ct ca cb e1 e2 e3
          cases h
          have ee : evS Γ (.ifs ct ca cb) = fun env => ((ev Γ ct).t env).bind fun t env1 => if t then evSs Γ ca env1 else evSs Γ cb env1 := by funext env; rw [evS]
          rw [ee]
          exact (ps_if ((he t ct e1).t ht) (k_Ss hr e2) (k_Ss hr e3)).imp fun D σ H q => s_if q
        · cases h
      · cases h
    | While t a b pos =>
      simp only [cS] at h
      split at h
      · split at h
        · rename_i ht
          split at h
          · rename_i ct ca e1 e2
            cases h
            have ee : evS Γ (.whl ct ca) = whlRun (ev Γ ct).t (evSs Γ ca) fuel := by funext env; rw [evS]
            rw [ee]
            exact (ps_while hp ((he t ct e1).t ht) (k_Ss hr e2)).imp fun D σ H q => s_whl q
          · cases h
        · cases h
      · cases h
    | For tg iter a b pos =>
      simp only [cS] at h
      split at h
      · split at h
        · rename_i it t ca e1 e2 e3
          cases h
          have ee : evS Γ (.fors t it ca) = fun env => (evI Γ it env).bind fun xs env1 => forRun t (evSs Γ ca) xs env1 := by funext env; rw [evS]
          rw [ee]
          obtain ⟨pi, ns⟩ := k_I ok he e1
          exact (ps_ul (ps_for hp ok.calm pi (k_T ok n tg t e2) (k_Ss hr e3) (fun x => no_fold ns x))).imp fun D σ H q => s_forW q
        · cases h
      · cases h
    | Return o pos =>
      simp only [cS] at h
      split at h
      · cases h
        have ee : evS Γ .retN = fun env => .ok (.ret (.d .non)) env := by funext env; rw [evS]
        rw [ee]
        exact ps_retN.imp fun D σ H q => s_retN q
      · rename_i e
        cases e1 : cE n c e with
        | none => rw [e1] at h; cases h
        | some ce =>
          rw [e1] at h
          cases h
          have ee : evS Γ (.ret ce) = fun env => ((ev Γ ce).v env).bind fun r env1 => .ok (.ret r) env1 := by funext env; rw [evS]
          rw [ee]
          exact (ps_ret (he e ce e1).v).imp fun D σ H q => s_ret q
    | Break pos =>
      cases h
      have ee : evS Γ .brk = fun env => .ok .brk env := by funext env; rw [evS]
      rw [ee]
      exact ps_break.imp fun D σ H q => s_brk q
    | Continue pos =>
      cases h
      have ee : evS Γ .cnt = fun env => .ok .cnt env := by funext env; rw [evS]
      rw [ee]
      exact ps_continue.imp fun D σ H q => s_cnt q
    | Pass pos =>
      cases h
      have ee : evS Γ .pas = fun env => .ok .next env := by funext env; rw [evS]
      rw [ee]
      exact ps_pass.imp fun D σ H q => s_nil q
    | Raise a b pos =>
      cases h
      refine ps_never.imp fun D σ H q => ?_
      obtain ⟨O, env, rel, fl, env1, e, _⟩ := q
      rw [evS] at e
      cases e
    | _ => cases h
end

/-! ### defs -/
/-- what all defs of a program share -/
structure GOk (P : Program) (w : World) (K : PySem.W.Frag) (mg : Str → Option Value) (base : Heap) (k : Nat) (Γ : FT) (bts : List Str) (fns : List (Str × Nat × Nat × Nat)) (cs : List (Str × D)) : Prop where
  sys : SysOk base
  bts : ∀ x ∈ bts, mg x = none
  cs : ∀ x d, cs.lookup x = some d → ∃ u v, mg x = some u ∧ RelV v u ∧ ∀ A, Rp K A d v
  fns : ∀ x t, fns.lookup x = some t → ∃ fe, Γ[t.1]? = some fe ∧ fe.modes.length = t.2.1 ∧ fe.dvs.length = t.2.2 ∧
    ∃ (f : Addr) (fd : FuncData) (ps : List Str), FnG P w K mg base CX0 k f fd ps (spF K fe) ∧ mg x = some (.ref f) ∧ PySem.W.keepIn K (.ref f) = true ∧
    ∀ n, n ≤ fe.modes.length → fe.modes.length ≤ n + fe.dvs.length → ∃ dvs ds, Vals dvs ds ∧ Binds K fd ps ds ∧ ∀ A, RpL K A (fe.dvs.drop (fe.dvs.length + n - fe.modes.length)) dvs
section
variable {P : Program} {w : World} {K : PySem.W.Frag} {mg : Str → Option Value} {base : Heap} {k : Nat} {Γ : FT} {bts : List Str} {fns : List (Str × Nat × Nat × Nat)} {cs : List (Str × D)}
theorem GOk.ctx (g : GOk P w K mg base k Γ bts fns cs) {N ps : List Str} {ql : Str} {scope : Scope} {f : Addr} {cd : Value} {A : Around} {fs : List Env} {s : Shared} {H : Hp} {E : XK} (S : FnScope N ps scope)
    (hr : Room k (A.deeper (envOfC ql scope s.heap.objs.size f cd))) (hg : A.guards = some []) :
    XOk Γ (cxOf CX0 P w K mg base N ql scope f cd A fs s H E) ⟨N, scope, true, bts, fns, cs⟩ where
  N := rfl
  nd := S.nd
  sc := rfl
  kind := S.kind
  calm := rfl
  hg := hg
  hu := by have := hr.un; show (A.deeper _).units + 200 < cLine; omega
  sys := g.sys
  all := fun _ _ => rfl
  bts := g.bts
  cs := g.cs
  fns := fun x t h => by
    obtain ⟨fe, h1, h2, h3, f, fd, ps, h4, h5, h6, h7⟩ := g.fns x t h
    exact ⟨fe, h1, h2, h3, ⟨k, f, fd, ps, h4, hr, h5, h6, h7⟩⟩
/-- a def -/
theorem fn_ok (g : GOk P w K mg base k Γ bts fns cs) {nm ql : Str} {params : Arguments} {body : List Stmt} {scope : Scope} {dvs : List V} {kws : List (Str × V)} {N ps : List Str} {f : Addr} {fd : FuncData}
    (F : FunD K nm ql params body scope dvs kws f fd) (S : FnScope N ps scope) {fuelN : Nat} {css : List CS} {modes : List Bool} {ds : List D} (hm : modes.length = ps.length)
    (hc : cSs (cS fuelN ⟨N, scope, true, bts, fns, cs⟩) body = some css) : FnG P w K mg base CX0 (k + 1) f fd ps (spF K ⟨modes, ds, runF Γ N.length css⟩) := by
  refine fnG_of F S (fun vs H Q E h => (spF_len h).trans hm) fun cd A fs s H vs Q E hr hg h => ?_
  have ok := g.ctx (H := H) (E := E) (fs := fs) S hr hg
  exact ⟨_, k_Ss (cS_ok fuelN _ _ ok (passes_of rfl)) hc, callee_ok rfl h⟩
/-- one more def -/
theorem GOk.add (g : GOk P w K mg base k Γ bts fns cs) {nm ql : Str} {params : Arguments} {body : List Stmt} {scope : Scope} {dvs : List V} {kws : List (Str × V)} {N ps : List Str} {f : Addr} {fd : FuncData}
    (F : FunD K nm ql params body scope dvs kws f fd) (S : FnScope N ps scope) {fuelN : Nat} {css : List CS} {modes : List Bool} {ds : List D} (hm : modes.length = ps.length)
    (hc : cSs (cS fuelN ⟨N, scope, true, bts, fns, cs⟩) body = some css) {x : Str} (hx : mg x = some (.ref f))
    (hb : ∀ n, n ≤ modes.length → modes.length ≤ n + ds.length → ∃ dvs us, Vals dvs us ∧ Binds K fd ps us ∧ ∀ A, RpL K A (ds.drop (ds.length + n - modes.length)) dvs) :
    GOk P w K mg base (k + 1) (Γ ++ [⟨modes, ds, runF Γ N.length css⟩]) bts ((x, Γ.length, modes.length, ds.length) :: fns) cs where
  sys := g.sys
  bts := g.bts
  cs := g.cs
  fns := fun y t h => by
    rw [List.lookup_cons] at h
    cases e : y == x with
    | true =>
      rw [e] at h
      cases h
      have e : y = x := eq_of_beq e
      subst e
      exact ⟨_, by simp, rfl, rfl, f, fd, ps, fn_ok g F S hm hc, hx, F.kp, hb⟩
    | false =>
      rw [e] at h
      obtain ⟨fe, h1, h2, h3, f', fd', ps', h4, h5⟩ := g.fns y t h
      have hl := (List.getElem?_eq_some_iff.mp h1).1
      exact ⟨fe, by rw [List.getElem?_append_left hl]; exact h1, h2, h3, f', fd', ps', h4.up (Nat.le_succ k), h5⟩
/-- how the arguments of a def without defaults bind -/
theorem binds0 {nm ql : Str} {params : Arguments} {body : List Stmt} {scope : Scope} {kws : List (Str × V)} {ps : List Str} {f : Addr} {fd : FuncData} (F : FunD K nm ql params body scope [] kws f fd) {m : Nat} (hm : m = ps.length)
    (h : ∀ (kV doc pm : Value) (an : Option Addr) (cdv ct : Value) (us : List Value), us.length = ps.length → bindArgs (PySem.W.fnOf nm ql params body scope .none kV doc pm an cdv ct) ⟨us, []⟩ = pure (ps.zip us)) :
    ∀ n, n ≤ m → m ≤ n + ([] : List D).length → ∃ dvs us, Vals dvs us ∧ Binds K fd ps us ∧ ∀ A, RpL K A (([] : List D).drop (([] : List D).length + n - m)) dvs := fun n _ _ =>
  ⟨[], [], .nil, F.bindsN h, fun A => by simp [RpL]⟩
end
/-- a law's own promise, from what the evaluator answers -/
theorem spLaw {K : PySem.W.Frag} {H : Hp} {a : Addr} {ns : List Int} {sem : List Arg → FRes} (hS : LsH K H a (ns.map V.int)) (only : Only H) (h : sem [.d (.lst (ns.map .int))] = .ok (.d (.bl true)) []) :
    spF K ⟨[false], [], sem⟩ [.ref a] H (fun v _ => v = .bl true) fun _ _ _ => False := by
  have intsR : ∀ {A : RdA} (ns : List Int), RpL K A (ns.map D.int) (ns.map V.int) := by
    intro A ns
    induction ns with
    | nil => simp [RpL]
    | cons n ns ih => exact RpL.cons (by simp [Rp]) ih
  refine ⟨rfl, fun _ => False, [.d (.lst (ns.map .int))], ⟨rfl, fun i c e => ?_, fun i j b b' p h1 => ?_, fun a z => z.elim⟩, _, _, h, fun v H' rel st rr => ?_⟩
  · cases i with
    | succ i => simp at e
    | zero =>
      simp [argCell] at e
      subst e
      refine ⟨.ref a, rfl, ?_⟩
      simp only [Rp]
      refine ⟨a, ns.map V.int, rfl, hS.imp (fun r => ⟨?_, fun z => z, r⟩) id, intsR ns⟩
      rintro ⟨j, b, h1, _⟩
      cases j with
      | zero => simp [obAt, argCell, Cell.ob] at h1
      | succ j => simp [obAt] at h1
  · cases i with
    | zero => simp [obAt, argCell, Cell.ob] at h1
    | succ i => simp [obAt] at h1
  · simpa [RO.toR, RR, Rp] using rr
end Fx

set_option Elab.async false
set_option linter.all false
set_option maxRecDepth 100000
set_option maxHeartbeats 0
/-! the program, def by def (printed by fx_gen.py) -/
namespace K28
open PySem PySem.Spec PyProof.Rows L2 Fx
def tx (i : Nat) : Stmt := PySem.Challenge.pw_scanbars_k28_contrasts_of_rows.main.body.getD i (.Pass ⟨0, 0, 0, 0⟩)
def bts : List Str := ["len", "abs", "max", "min", "all", "int", "list", "repr", "range", "zip", "enumerate", "isinstance", "bool"]
def cons : List (Str × D) := [("MOST_ROW", (.int 2000))]
-- is_integer
def N0 : List Str := ["value", "least", "most"]
def c0 : List CS := [(.ifs (.or (.not (.isinst (.var 0) .int)) (.isinst (.var 0) .bool)) [(.ret (.cst (.bl false)))] []),
  (.ret (.and (.or (.cmp .isN (.var 1) (.cst .non)) (.cmp .ge (.var 0) (.var 1))) (.or (.cmp .isN (.var 2) (.cst .non)) (.cmp .le (.var 0) (.var 2)))))]
def m0 : List Bool := [false, false, false]
def d0 : List D := [.non, .non]
def f0 : List (Str × Nat × Nat × Nat) := []
def G0 : FT := []
theorem s0 : FnScope N0 ["value", "least", "most"] (defScope (tx 5)) := ⟨by decide +kernel, by decide +kernel, by decide +kernel, by decide +kernel, by decide +kernel, by decide +kernel, by decide +kernel⟩
theorem k0 : cSs (cS 60 ⟨N0, defScope (tx 5), true, bts, f0, cons⟩) (defBody (tx 5)) = some c0 := by kernel_rfl
-- divisor
def N1 : List Str := ["one", "other"]
def c1 : List CS := [(.whl (.cmp .ne (.var 1) (.cst (.int 0))) [(.par [(.nm 0), (.nm 1)] [(.var 1), (.bin .mod (.var 0) (.var 1))])]),
  (.ret (.var 0))]
def m1 : List Bool := [false, false]
def d1 : List D := []
def f1 : List (Str × Nat × Nat × Nat) := ("is_integer", 0, 3, 2) :: f0
def G1 : FT := G0 ++ [⟨m0, d0, runF G0 N0.length c0⟩]
theorem s1 : FnScope N1 ["one", "other"] (defScope (tx 6)) := ⟨by decide +kernel, by decide +kernel, by decide +kernel, by decide +kernel, by decide +kernel, by decide +kernel, by decide +kernel⟩
theorem k1 : cSs (cS 60 ⟨N1, defScope (tx 6), true, bts, f1, cons⟩) (defBody (tx 6)) = some c1 := by kernel_rfl
-- lowest
def N2 : List Str := ["top", "bottom", "common"]
def c2 : List CS := [(.asg (.nm 2) (.call 1 [(.var 0), (.var 1)])),
  (.ret (.tup [(.bin .fdiv (.var 0) (.var 2)), (.bin .fdiv (.var 1) (.var 2))]))]
def m2 : List Bool := [false, false]
def d2 : List D := []
def f2 : List (Str × Nat × Nat × Nat) := ("divisor", 1, 2, 0) :: f1
def G2 : FT := G1 ++ [⟨m1, d1, runF G1 N1.length c1⟩]
theorem s2 : FnScope N2 ["top", "bottom"] (defScope (tx 7)) := ⟨by decide +kernel, by decide +kernel, by decide +kernel, by decide +kernel, by decide +kernel, by decide +kernel, by decide +kernel⟩
theorem k2 : cSs (cS 60 ⟨N2, defScope (tx 7), true, bts, f2, cons⟩) (defBody (tx 7)) = some c2 := by kernel_rfl
-- require_row
def N3 : List Str := ["value", "item"]
def c3 : List CS := [(.ifs (.or (.not (.isinst (.var 0) .list)) (.not (.chain .le .le (.cst (.int 1)) (.blt .len [(.var 0)]) (.cst (.int 2000))))) [.never] []),
  (.ifs (.not (.blt .all [(.lc (.call 0 [(.var 1), (.cst (.int 1)), (.cst (.int 4))]) (.nm 1) (.e (.var 0)) none [1])])) [.never] [])]
def m3 : List Bool := [false]
def d3 : List D := []
def f3 : List (Str × Nat × Nat × Nat) := ("lowest", 2, 2, 0) :: f2
def G3 : FT := G2 ++ [⟨m2, d2, runF G2 N2.length c2⟩]
theorem s3 : FnScope N3 ["value"] (defScope (tx 8)) := ⟨by decide +kernel, by decide +kernel, by decide +kernel, by decide +kernel, by decide +kernel, by decide +kernel, by decide +kernel⟩
theorem k3 : cSs (cS 60 ⟨N3, defScope (tx 8), true, bts, f3, cons⟩) (defBody (tx 8)) = some c3 := by kernel_rfl
-- is_above
def N4 : List Str := ["one", "other"]
def c4 : List CS := [(.ret (.cmp .gt (.bin .mul (.ix (.var 0) (.cst (.int 0))) (.ix (.var 1) (.cst (.int 1)))) (.bin .mul (.ix (.var 1) (.cst (.int 0))) (.ix (.var 0) (.cst (.int 1))))))]
def m4 : List Bool := [false, false]
def d4 : List D := []
def f4 : List (Str × Nat × Nat × Nat) := ("require_row", 3, 1, 0) :: f3
def G4 : FT := G3 ++ [⟨m3, d3, runF G3 N3.length c3⟩]
theorem s4 : FnScope N4 ["one", "other"] (defScope (tx 9)) := ⟨by decide +kernel, by decide +kernel, by decide +kernel, by decide +kernel, by decide +kernel, by decide +kernel, by decide +kernel⟩
theorem k4 : cSs (cS 60 ⟨N4, defScope (tx 9), true, bts, f4, cons⟩) (defBody (tx 9)) = some c4 := by kernel_rfl
-- step_of
def N5 : List Str := ["one", "other"]
def c5 : List CS := [(.ret (.call 2 [(.blt .max [(.var 0), (.var 1)]), (.blt .min [(.var 0), (.var 1)])]))]
def m5 : List Bool := [false, false]
def d5 : List D := []
def f5 : List (Str × Nat × Nat × Nat) := ("is_above", 4, 2, 0) :: f4
def G5 : FT := G4 ++ [⟨m4, d4, runF G4 N4.length c4⟩]
theorem s5 : FnScope N5 ["one", "other"] (defScope (tx 10)) := ⟨by decide +kernel, by decide +kernel, by decide +kernel, by decide +kernel, by decide +kernel, by decide +kernel, by decide +kernel⟩
theorem k5 : cSs (cS 60 ⟨N5, defScope (tx 10), true, bts, f5, cons⟩) (defBody (tx 10)) = some c5 := by kernel_rfl
-- greatest_step
def N6 : List Str := ["rows", "found", "one", "other", "later", "more", "step"]
def c6 : List CS := [(.asg (.nm 1) (.tup [(.cst (.int 1)), (.cst (.int 1))])),
  (.fors (.tup [(.tup [(.nm 2), (.nm 3)]), (.tup [(.nm 4), (.nm 5)])]) (.zip [(.var 0), (.sl (.var 0) (some (.cst (.int 1))) none)]) [(.asg (.nm 6) (.call 5 [(.bin .mul (.var 4) (.var 3)), (.bin .mul (.var 2) (.var 5))])), (.ifs (.call 4 [(.var 6), (.var 1)]) [(.asg (.nm 1) (.var 6))] [])]),
  (.ret (.var 1))]
def m6 : List Bool := [false]
def d6 : List D := []
def f6 : List (Str × Nat × Nat × Nat) := ("step_of", 5, 2, 0) :: f5
def G6 : FT := G5 ++ [⟨m5, d5, runF G5 N5.length c5⟩]
theorem s6 : FnScope N6 ["rows"] (defScope (tx 11)) := ⟨by decide +kernel, by decide +kernel, by decide +kernel, by decide +kernel, by decide +kernel, by decide +kernel, by decide +kernel⟩
theorem k6 : cSs (cS 60 ⟨N6, defScope (tx 11), true, bts, f6, cons⟩) (defBody (tx 11)) = some c6 := by kernel_rfl
-- contrast_of
def N7 : List Str := ["one", "other"]
def c7 : List CS := [(.ret (.ite (.cmp .eq (.blt .len [(.var 0)]) (.blt .len [(.var 1)])) (.call 6 [(.col [(.var 0), (.var 1)])]) (.cst .non)))]
def m7 : List Bool := [false, false]
def d7 : List D := []
def f7 : List (Str × Nat × Nat × Nat) := ("greatest_step", 6, 1, 0) :: f6
def G7 : FT := G6 ++ [⟨m6, d6, runF G6 N6.length c6⟩]
theorem s7 : FnScope N7 ["one", "other"] (defScope (tx 13)) := ⟨by decide +kernel, by decide +kernel, by decide +kernel, by decide +kernel, by decide +kernel, by decide +kernel, by decide +kernel⟩
theorem k7 : cSs (cS 60 ⟨N7, defScope (tx 13), true, bts, f7, cons⟩) (defBody (tx 13)) = some c7 := by kernel_rfl
-- contrast
def N8 : List Str := ["one", "other"]
def c8 : List CS := [(.expr (.call 3 [(.var 0)])),
  (.expr (.call 3 [(.var 1)])),
  (.ifs (.cmp .ne (.blt .len [(.var 0)]) (.blt .len [(.var 1)])) [.never] []),
  (.ret (.call 7 [(.var 0), (.var 1)]))]
def m8 : List Bool := [false, false]
def d8 : List D := []
def f8 : List (Str × Nat × Nat × Nat) := ("contrast_of", 7, 2, 0) :: f7
def G8 : FT := G7 ++ [⟨m7, d7, runF G7 N7.length c7⟩]
theorem s8 : FnScope N8 ["one", "other"] (defScope (tx 14)) := ⟨by decide +kernel, by decide +kernel, by decide +kernel, by decide +kernel, by decide +kernel, by decide +kernel, by decide +kernel⟩
theorem k8 : cSs (cS 60 ⟨N8, defScope (tx 14), true, bts, f8, cons⟩) (defBody (tx 14)) = some c8 := by kernel_rfl
-- _law_reel
def N9 : List Str := ["script", "index", "cell", "mixed", "spot", "other"]
def c9 : List CS := [(.par [(.nm 2), (.nm 3)] [(.ite (.cmp .lt (.var 1) (.blt .len [(.var 0)])) (.ix (.var 0) (.var 1)) (.cst (.int 0))), (.bin .add (.cst (.int 26459)) (.bin .mul (.cst (.int 7)) (.var 1)))]),
  (.fors (.tup [(.nm 4), (.nm 5)]) (.enum [(.sl (.var 0) none (some (.cst (.int 9))))]) [(.asg (.nm 3) (.bin .mod (.blt .int [(.bin .add (.bin .add (.bin .mul (.var 3) (.cst (.int 9650131))) (.bin .mod (.blt .int [(.var 5)]) (.bin .add (.bin .pow (.cst (.int 10)) (.cst (.int 42))) (.cst (.int 63))))) (.var 4))]) (.bin .add (.bin .pow (.cst (.int 10)) (.cst (.int 42))) (.cst (.int 17)))))]),
  (.asg (.nm 3) (.bin .mod (.blt .int [(.bin .add (.bin .mul (.var 3) (.cst (.int 7368787))) (.bin .mod (.blt .int [(.var 2)]) (.bin .add (.bin .pow (.cst (.int 10)) (.cst (.int 42))) (.cst (.int 63)))))]) (.bin .add (.bin .pow (.cst (.int 10)) (.cst (.int 42))) (.cst (.int 17))))),
  (.ret (.lst [(.blt .max [(.cst (.int 0)), (.bin .sub (.blt .abs [(.blt .int [(.var 2)])]) (.bin .pow (.cst (.int 10)) (.cst (.int 18))))]), (.var 3), (.cst (.int 0))]))]
def m9 : List Bool := [false, false]
def d9 : List D := []
def f9 : List (Str × Nat × Nat × Nat) := ("contrast", 8, 2, 0) :: f8
def G9 : FT := G8 ++ [⟨m8, d8, runF G8 N8.length c8⟩]
theorem s9 : FnScope N9 ["script", "index"] (defScope (tx 16)) := ⟨by decide +kernel, by decide +kernel, by decide +kernel, by decide +kernel, by decide +kernel, by decide +kernel, by decide +kernel⟩
theorem k9 : cSs (cS 60 ⟨N9, defScope (tx 16), true, bts, f9, cons⟩) (defBody (tx 16)) = some c9 := by kernel_rfl
-- _law_spin
def N10 : List Str := ["reel", "size", "digit", "wide"]
def c10 : List CS := [(.ifs (.cmp .gt (.ix (.var 0) (.cst (.int 0))) (.cst (.int 0))) [(.asg (.nm 2) (.bin .mod (.blt .int [(.ix (.var 0) (.cst (.int 0)))]) (.var 1))), (.set 0 (.cst (.int 0)) (.bin .fdiv (.ix (.var 0) (.cst (.int 0))) (.var 1))), (.ret (.var 2))] []),
  (.set 0 (.cst (.int 2)) (.bin .add (.ix (.var 0) (.cst (.int 2))) (.cst (.int 1)))),
  (.asg (.nm 3) (.bin .mod (.blt .int [(.bin .pow (.bin .add (.ix (.var 0) (.cst (.int 1))) (.bin .mul (.cst (.int 67867979)) (.ix (.var 0) (.cst (.int 2))))) (.cst (.int 3)))]) (.bin .add (.bin .pow (.cst (.int 10)) (.cst (.int 44))) (.cst (.int 31))))),
  (.asg (.nm 3) (.bin .mod (.blt .int [(.bin .pow (.bin .add (.var 3) (.bin .mul (.cst (.int 32452867)) (.ix (.var 0) (.cst (.int 2))))) (.cst (.int 5)))]) (.bin .add (.bin .pow (.cst (.int 10)) (.cst (.int 41))) (.cst (.int 39))))),
  (.ret (.bin .mod (.blt .int [(.bin .fdiv (.var 3) (.cst (.int 131071)))]) (.var 1)))]
def m10 : List Bool := [true, false]
def d10 : List D := []
def f10 : List (Str × Nat × Nat × Nat) := ("_law_reel", 9, 2, 0) :: f9
def G10 : FT := G9 ++ [⟨m9, d9, runF G9 N9.length c9⟩]
theorem s10 : FnScope N10 ["reel", "size"] (defScope (tx 17)) := ⟨by decide +kernel, by decide +kernel, by decide +kernel, by decide +kernel, by decide +kernel, by decide +kernel, by decide +kernel⟩
theorem k10 : cSs (cS 60 ⟨N10, defScope (tx 17), true, bts, f10, cons⟩) (defBody (tx 17)) = some c10 := by kernel_rfl
-- _law_ratio
def N11 : List Str := ["top", "bottom", "one", "other"]
def c11 : List CS := [(.par [(.nm 2), (.nm 3)] [(.var 0), (.var 1)]),
  (.whl (.cmp .gt (.var 3) (.cst (.int 0))) [(.par [(.nm 2), (.nm 3)] [(.var 3), (.bin .mod (.blt .int [(.var 2)]) (.var 3))])]),
  (.ret (.tup [(.bin .fdiv (.var 0) (.var 2)), (.bin .fdiv (.var 1) (.var 2))]))]
def m11 : List Bool := [false, false]
def d11 : List D := []
def f11 : List (Str × Nat × Nat × Nat) := ("_law_spin", 10, 2, 0) :: f10
def G11 : FT := G10 ++ [⟨m10, d10, runF G10 N10.length c10⟩]
theorem s11 : FnScope N11 ["top", "bottom"] (defScope (tx 18)) := ⟨by decide +kernel, by decide +kernel, by decide +kernel, by decide +kernel, by decide +kernel, by decide +kernel, by decide +kernel⟩
theorem k11 : cSs (cS 60 ⟨N11, defScope (tx 18), true, bts, f11, cons⟩) (defBody (tx 18)) = some c11 := by kernel_rfl
-- _law_step
def N12 : List Str := ["one", "other"]
def c12 : List CS := [(.ret (.call 11 [(.blt .max [(.var 0), (.var 1)]), (.blt .min [(.var 0), (.var 1)])]))]
def m12 : List Bool := [false, false]
def d12 : List D := []
def f12 : List (Str × Nat × Nat × Nat) := ("_law_ratio", 11, 2, 0) :: f11
def G12 : FT := G11 ++ [⟨m11, d11, runF G11 N11.length c11⟩]
theorem s12 : FnScope N12 ["one", "other"] (defScope (tx 19)) := ⟨by decide +kernel, by decide +kernel, by decide +kernel, by decide +kernel, by decide +kernel, by decide +kernel, by decide +kernel⟩
theorem k12 : cSs (cS 60 ⟨N12, defScope (tx 19), true, bts, f12, cons⟩) (defBody (tx 19)) = some c12 := by kernel_rfl
-- _law_above
def N13 : List Str := ["one", "other"]
def c13 : List CS := [(.ret (.cmp .gt (.bin .mul (.ix (.var 0) (.cst (.int 0))) (.ix (.var 1) (.cst (.int 1)))) (.bin .mul (.ix (.var 1) (.cst (.int 0))) (.ix (.var 0) (.cst (.int 1))))))]
def m13 : List Bool := [false, false]
def d13 : List D := []
def f13 : List (Str × Nat × Nat × Nat) := ("_law_step", 12, 2, 0) :: f12
def G13 : FT := G12 ++ [⟨m12, d12, runF G12 N12.length c12⟩]
theorem s13 : FnScope N13 ["one", "other"] (defScope (tx 20)) := ⟨by decide +kernel, by decide +kernel, by decide +kernel, by decide +kernel, by decide +kernel, by decide +kernel, by decide +kernel⟩
theorem k13 : cSs (cS 60 ⟨N13, defScope (tx 20), true, bts, f13, cons⟩) (defBody (tx 20)) = some c13 := by kernel_rfl
-- _law_greatest
def N14 : List Str := ["rows", "found", "one", "other", "later", "more", "step"]
def c14 : List CS := [(.asg (.nm 1) (.tup [(.cst (.int 1)), (.cst (.int 1))])),
  (.fors (.tup [(.tup [(.nm 2), (.nm 3)]), (.tup [(.nm 4), (.nm 5)])]) (.zip [(.var 0), (.sl (.var 0) (some (.cst (.int 1))) none)]) [(.asg (.nm 6) (.call 12 [(.bin .mul (.var 4) (.var 3)), (.bin .mul (.var 2) (.var 5))])), (.ifs (.call 13 [(.var 6), (.var 1)]) [(.asg (.nm 1) (.var 6))] [])]),
  (.ret (.var 1))]
def m14 : List Bool := [false]
def d14 : List D := []
def f14 : List (Str × Nat × Nat × Nat) := ("_law_above", 13, 2, 0) :: f13
def G14 : FT := G13 ++ [⟨m13, d13, runF G13 N13.length c13⟩]
theorem s14 : FnScope N14 ["rows"] (defScope (tx 21)) := ⟨by decide +kernel, by decide +kernel, by decide +kernel, by decide +kernel, by decide +kernel, by decide +kernel, by decide +kernel⟩
theorem k14 : cSs (cS 60 ⟨N14, defScope (tx 21), true, bts, f14, cons⟩) (defBody (tx 21)) = some c14 := by kernel_rfl
-- _law_lists
def N15 : List Str := ["reel", "size", "one", "way", "other", "turn", "width"]
def c15 : List CS := [(.asg (.nm 2) (.lc (.bin .add (.cst (.int 1)) (.call 10 [(.var 0), (.cst (.int 4))])) (.nm 5) (.range [(.var 1)]) none [5])),
  (.asg (.nm 3) (.call 10 [(.var 0), (.cst (.int 4))])),
  (.asg (.nm 4) (.ite (.cmp .eq (.var 3) (.cst (.int 0))) (.lc (.bin .add (.cst (.int 1)) (.call 10 [(.var 0), (.cst (.int 4))])) (.nm 5) (.range [(.var 1)]) none [5]) (.blt .list [(.var 2)]))),
  (.ifs (.cmp .eq (.var 3) (.cst (.int 1))) [(.set 4 (.call 10 [(.var 0), (.var 1)]) (.bin .add (.cst (.int 1)) (.call 10 [(.var 0), (.cst (.int 4))])))] []),
  (.ifs (.cmp .eq (.var 3) (.cst (.int 2))) [(.asg (.nm 2) (.lc (.bin .add (.cst (.int 1)) (.bin .fdiv (.var 6) (.cst (.int 3)))) (.nm 6) (.e (.var 4)) none [6])), (.asg (.nm 4) (.lc (.bin .mul (.cst (.int 2)) (.var 6)) (.nm 6) (.e (.var 2)) none [6]))] []),
  (.ret (.tup [(.var 2), (.var 4)]))]
def m15 : List Bool := [true, false]
def d15 : List D := []
def f15 : List (Str × Nat × Nat × Nat) := ("_law_greatest", 14, 1, 0) :: f14
def G15 : FT := G14 ++ [⟨m14, d14, runF G14 N14.length c14⟩]
theorem s15 : FnScope N15 ["reel", "size"] (defScope (tx 22)) := ⟨by decide +kernel, by decide +kernel, by decide +kernel, by decide +kernel, by decide +kernel, by decide +kernel, by decide +kernel⟩
theorem k15 : cSs (cS 60 ⟨N15, defScope (tx 22), true, bts, f15, cons⟩) (defBody (tx 22)) = some c15 := by kernel_rfl
-- _law_right
def N16 : List Str := ["one", "other", "kept", "due", "told"]
def c16 : List CS := [(.par [(.nm 2), (.nm 3)] [(.blt .repr [(.lst [(.var 0), (.var 1)])]), (.call 14 [(.col [(.var 0), (.var 1)])])]),
  (.asg (.nm 4) (.lst [(.call 8 [(.var 0), (.var 1)]), (.call 8 [(.var 1), (.var 0)]), (.call 8 [(.rev (.var 0)), (.rev (.var 1))])])),
  (.ifs (.or (.cmp .ne (.blt .repr [(.var 4)]) (.blt .repr [(.bin .mul (.lst [(.var 3)]) (.cst (.int 3)))])) (.or (.cmp .ne (.call 8 [(.var 0), (.var 0)]) (.tup [(.cst (.int 1)), (.cst (.int 1))])) (.cmp .ne (.call 8 [(.sl (.var 0) none (some (.cst (.int 1)))), (.sl (.var 1) none (some (.cst (.int 1))))]) (.tup [(.cst (.int 1)), (.cst (.int 1))])))) [(.ret (.cst (.bl false)))] []),
  (.ret (.cmp .eq (.blt .repr [(.lst [(.var 0), (.var 1)])]) (.var 2)))]
def m16 : List Bool := [false, false]
def d16 : List D := []
def f16 : List (Str × Nat × Nat × Nat) := ("_law_lists", 15, 2, 0) :: f15
def G16 : FT := G15 ++ [⟨m15, d15, runF G15 N15.length c15⟩]
theorem s16 : FnScope N16 ["one", "other"] (defScope (tx 23)) := ⟨by decide +kernel, by decide +kernel, by decide +kernel, by decide +kernel, by decide +kernel, by decide +kernel, by decide +kernel⟩
theorem k16 : cSs (cS 60 ⟨N16, defScope (tx 23), true, bts, f16, cons⟩) (defBody (tx 23)) = some c16 := by kernel_rfl
-- law
def N17 : List Str := ["script", "index", "reel", "turn", "one", "other", "size", "at", "told"]
def c17 : List CS := [(.fors (.nm 1) (.range [(.blt .max [(.cst (.int 1)), (.blt .min [(.cst (.int 3)), (.blt .len [(.var 0)])])])]) [(.asg (.nm 2) (.call 9 [(.var 0), (.var 1)])), (.fors (.nm 3) (.range [(.cst (.int 12))]) [(.asg (.tup [(.nm 4), (.nm 5)]) (.call 15 [(.var 2), (.bin .add (.cst (.int 1)) (.call 10 [(.var 2), (.ix (.lst [(.cst (.int 2)), (.cst (.int 6)), (.cst (.int 12)), (.cst (.int 300))]) (.call 10 [(.var 2), (.cst (.int 4))]))]))])), (.ifs (.not (.call 16 [(.var 4), (.var 5)])) [(.ret (.cst (.bl false)))] [])])]),
  (.asg (.nm 2) (.call 9 [(.var 0), (.cst (.int 0))])),
  (.fors (.nm 6) (.e (.tup [(.cst (.int 1000)), (.cst (.int 2000))])) [(.par [(.nm 4), (.nm 5)] [(.bin .mul (.lst [(.cst (.int 1)), (.cst (.int 2)), (.cst (.int 3)), (.cst (.int 4))]) (.bin .fdiv (.var 6) (.cst (.int 4)))), (.bin .add (.bin .mul (.lst [(.cst (.int 2)), (.cst (.int 4)), (.cst (.int 3)), (.cst (.int 4))]) (.bin .sub (.bin .fdiv (.var 6) (.cst (.int 4))) (.cst (.int 1)))) (.lst [(.cst (.int 2)), (.cst (.int 4)), (.cst (.int 3)), (.cst (.int 1))]))]), (.ifs (.or (.cmp .ne (.call 8 [(.var 4), (.var 5)]) (.tup [(.cst (.int 4)), (.cst (.int 1))])) (.cmp .ne (.call 8 [(.var 5), (.var 4)]) (.tup [(.cst (.int 4)), (.cst (.int 1))]))) [(.ret (.cst (.bl false)))] [])]),
  (.asg (.nm 7) (.call 10 [(.var 2), (.cst (.int 300))])),
  (.asg (.nm 4) (.bin .add (.bin .add (.bin .mul (.lst [(.cst (.int 1))]) (.var 7)) (.lst [(.cst (.int 3))])) (.bin .mul (.lst [(.cst (.int 1))]) (.bin .sub (.cst (.int 300)) (.var 7))))),
  (.ifs (.or (.cmp .ne (.call 8 [(.var 4), (.bin .mul (.lst [(.cst (.int 1))]) (.cst (.int 301)))]) (.tup [(.cst (.int 3)), (.cst (.int 1))])) (.or (.cmp .ne (.call 8 [(.var 4), (.bin .mul (.lst [(.cst (.int 2))]) (.cst (.int 301)))]) (.tup [(.cst (.int 3)), (.cst (.int 1))])) (.cmp .ne (.call 8 [(.lst [(.cst (.int 1))]), (.lst [(.cst (.int 4))])]) (.tup [(.cst (.int 1)), (.cst (.int 1))])))) [(.ret (.cst (.bl false)))] []),
  (.asg (.nm 8) (.lst [(.call 8 [(.lst [(.cst (.int 1)), (.cst (.int 1)), (.cst (.int 2)), (.cst (.int 1)), (.cst (.int 1)), (.cst (.int 2)), (.cst (.int 1))]), (.lst [(.cst (.int 1)), (.cst (.int 1)), (.cst (.int 3)), (.cst (.int 2)), (.cst (.int 2)), (.cst (.int 3)), (.cst (.int 1))])]), (.call 8 [(.lst [(.cst (.int 1)), (.cst (.int 4))]), (.lst [(.cst (.int 4)), (.cst (.int 1))])]), (.call 8 [(.lst [(.cst (.int 1)), (.cst (.int 4))]), (.lst [(.cst (.int 1)), (.cst (.int 3))])])])),
  (.ret (.cmp .eq (.var 8) (.lst [(.tup [(.cst (.int 3)), (.cst (.int 2))]), (.tup [(.cst (.int 16)), (.cst (.int 1))]), (.tup [(.cst (.int 4)), (.cst (.int 3))])])))]
def m17 : List Bool := [false]
def d17 : List D := []
def f17 : List (Str × Nat × Nat × Nat) := ("_law_right", 16, 2, 0) :: f16
def G17 : FT := G16 ++ [⟨m16, d16, runF G16 N16.length c16⟩]
theorem s17 : FnScope N17 ["script"] (defScope (tx 24)) := ⟨by decide +kernel, by decide +kernel, by decide +kernel, by decide +kernel, by decide +kernel, by decide +kernel, by decide +kernel⟩
theorem k17 : cSs (cS 60 ⟨N17, defScope (tx 24), true, bts, f17, cons⟩) (defBody (tx 24)) = some c17 := by kernel_rfl
/-! what the top has written -/
abbrev FnP (K : PySem.W.Frag) (x : Str) (i : Nat) (dvs : List V) (f : Addr) (fd : FuncData) : Prop := FunD K x x (defArgs (tx i)) (defBody (tx i)) (defScope (tx i)) dvs [] f fd
section
variable {P : Program} {w : World} {K : PySem.W.Frag} {mg : Str → Option Value} {base : Heap}
theorem b0 {f : Addr} {fd : FuncData} (F : FnP K "is_integer" 5 [V.non, V.non] f fd) : ∀ n, n ≤ m0.length → m0.length ≤ n + d0.length → ∃ dvs us, Vals dvs us ∧ Binds K fd ["value", "least", "most"] us ∧ ∀ A, RpL K A (d0.drop (d0.length + n - m0.length)) dvs := by
  intro n h1 h2
  have h1 : n ≤ 3 := h1
  have h2 : 3 ≤ n + 2 := h2
  have hn : n = 1 ∨ n = 2 ∨ n = 3 := by omega
  rcases hn with rfl | rfl | rfl
  · obtain ⟨us, h3, h4⟩ := F.binds1 (ps := ["value", "least", "most"]) 1 0 (by simp) rfl fun _ _ _ _ _ _ _ us its hl hi => match us, its, hl, hi with | [_], [_, _], _, _ => ⟨_, rfl, rfl⟩
    exact ⟨_, us, h3, h4, fun A => by simp [d0, m0, RpL, Rp]⟩
  · obtain ⟨us, h3, h4⟩ := F.binds1 (ps := ["value", "least", "most"]) 2 1 (by simp) rfl fun _ _ _ _ _ _ _ us its hl hi => match us, its, hl, hi with | [_, _], [_, _], _, _ => ⟨_, rfl, rfl⟩
    exact ⟨_, us, h3, h4, fun A => by simp [d0, m0, RpL, Rp]⟩
  · obtain ⟨us, h3, h4⟩ := F.binds1 (ps := ["value", "least", "most"]) 3 2 (by simp) rfl fun _ _ _ _ _ _ _ us its hl hi => match us, its, hl, hi with | [_, _, _], [_, _], _, _ => ⟨_, rfl, rfl⟩
    exact ⟨_, us, h3, h4, fun A => by simp [d0, m0, RpL, Rp]⟩
theorem b1 {f : Addr} {fd : FuncData} (F : FnP K "divisor" 6 [] f fd) : ∀ n, n ≤ m1.length → m1.length ≤ n + d1.length → ∃ dvs us, Vals dvs us ∧ Binds K fd ["one", "other"] us ∧ ∀ A, RpL K A (d1.drop (d1.length + n - m1.length)) dvs := by
  exact binds0 F rfl fun _ _ _ _ _ _ us hl => match us, hl with | [_, _], _ => rfl
theorem b2 {f : Addr} {fd : FuncData} (F : FnP K "lowest" 7 [] f fd) : ∀ n, n ≤ m2.length → m2.length ≤ n + d2.length → ∃ dvs us, Vals dvs us ∧ Binds K fd ["top", "bottom"] us ∧ ∀ A, RpL K A (d2.drop (d2.length + n - m2.length)) dvs := by
  exact binds0 F rfl fun _ _ _ _ _ _ us hl => match us, hl with | [_, _], _ => rfl
theorem b3 {f : Addr} {fd : FuncData} (F : FnP K "require_row" 8 [] f fd) : ∀ n, n ≤ m3.length → m3.length ≤ n + d3.length → ∃ dvs us, Vals dvs us ∧ Binds K fd ["value"] us ∧ ∀ A, RpL K A (d3.drop (d3.length + n - m3.length)) dvs := by
  exact binds0 F rfl fun _ _ _ _ _ _ us hl => match us, hl with | [_], _ => rfl
theorem b4 {f : Addr} {fd : FuncData} (F : FnP K "is_above" 9 [] f fd) : ∀ n, n ≤ m4.length → m4.length ≤ n + d4.length → ∃ dvs us, Vals dvs us ∧ Binds K fd ["one", "other"] us ∧ ∀ A, RpL K A (d4.drop (d4.length + n - m4.length)) dvs := by
  exact binds0 F rfl fun _ _ _ _ _ _ us hl => match us, hl with | [_, _], _ => rfl
theorem b5 {f : Addr} {fd : FuncData} (F : FnP K "step_of" 10 [] f fd) : ∀ n, n ≤ m5.length → m5.length ≤ n + d5.length → ∃ dvs us, Vals dvs us ∧ Binds K fd ["one", "other"] us ∧ ∀ A, RpL K A (d5.drop (d5.length + n - m5.length)) dvs := by
  exact binds0 F rfl fun _ _ _ _ _ _ us hl => match us, hl with | [_, _], _ => rfl
theorem b6 {f : Addr} {fd : FuncData} (F : FnP K "greatest_step" 11 [] f fd) : ∀ n, n ≤ m6.length → m6.length ≤ n + d6.length → ∃ dvs us, Vals dvs us ∧ Binds K fd ["rows"] us ∧ ∀ A, RpL K A (d6.drop (d6.length + n - m6.length)) dvs := by
  exact binds0 F rfl fun _ _ _ _ _ _ us hl => match us, hl with | [_], _ => rfl
theorem b7 {f : Addr} {fd : FuncData} (F : FnP K "contrast_of" 13 [] f fd) : ∀ n, n ≤ m7.length → m7.length ≤ n + d7.length → ∃ dvs us, Vals dvs us ∧ Binds K fd ["one", "other"] us ∧ ∀ A, RpL K A (d7.drop (d7.length + n - m7.length)) dvs := by
  exact binds0 F rfl fun _ _ _ _ _ _ us hl => match us, hl with | [_, _], _ => rfl
theorem b8 {f : Addr} {fd : FuncData} (F : FnP K "contrast" 14 [] f fd) : ∀ n, n ≤ m8.length → m8.length ≤ n + d8.length → ∃ dvs us, Vals dvs us ∧ Binds K fd ["one", "other"] us ∧ ∀ A, RpL K A (d8.drop (d8.length + n - m8.length)) dvs := by
  exact binds0 F rfl fun _ _ _ _ _ _ us hl => match us, hl with | [_, _], _ => rfl
theorem b9 {f : Addr} {fd : FuncData} (F : FnP K "_law_reel" 16 [] f fd) : ∀ n, n ≤ m9.length → m9.length ≤ n + d9.length → ∃ dvs us, Vals dvs us ∧ Binds K fd ["script", "index"] us ∧ ∀ A, RpL K A (d9.drop (d9.length + n - m9.length)) dvs := by
  exact binds0 F rfl fun _ _ _ _ _ _ us hl => match us, hl with | [_, _], _ => rfl
theorem b10 {f : Addr} {fd : FuncData} (F : FnP K "_law_spin" 17 [] f fd) : ∀ n, n ≤ m10.length → m10.length ≤ n + d10.length → ∃ dvs us, Vals dvs us ∧ Binds K fd ["reel", "size"] us ∧ ∀ A, RpL K A (d10.drop (d10.length + n - m10.length)) dvs := by
  exact binds0 F rfl fun _ _ _ _ _ _ us hl => match us, hl with | [_, _], _ => rfl
theorem b11 {f : Addr} {fd : FuncData} (F : FnP K "_law_ratio" 18 [] f fd) : ∀ n, n ≤ m11.length → m11.length ≤ n + d11.length → ∃ dvs us, Vals dvs us ∧ Binds K fd ["top", "bottom"] us ∧ ∀ A, RpL K A (d11.drop (d11.length + n - m11.length)) dvs := by
  exact binds0 F rfl fun _ _ _ _ _ _ us hl => match us, hl with | [_, _], _ => rfl
theorem b12 {f : Addr} {fd : FuncData} (F : FnP K "_law_step" 19 [] f fd) : ∀ n, n ≤ m12.length → m12.length ≤ n + d12.length → ∃ dvs us, Vals dvs us ∧ Binds K fd ["one", "other"] us ∧ ∀ A, RpL K A (d12.drop (d12.length + n - m12.length)) dvs := by
  exact binds0 F rfl fun _ _ _ _ _ _ us hl => match us, hl with | [_, _], _ => rfl
theorem b13 {f : Addr} {fd : FuncData} (F : FnP K "_law_above" 20 [] f fd) : ∀ n, n ≤ m13.length → m13.length ≤ n + d13.length → ∃ dvs us, Vals dvs us ∧ Binds K fd ["one", "other"] us ∧ ∀ A, RpL K A (d13.drop (d13.length + n - m13.length)) dvs := by
  exact binds0 F rfl fun _ _ _ _ _ _ us hl => match us, hl with | [_, _], _ => rfl
theorem b14 {f : Addr} {fd : FuncData} (F : FnP K "_law_greatest" 21 [] f fd) : ∀ n, n ≤ m14.length → m14.length ≤ n + d14.length → ∃ dvs us, Vals dvs us ∧ Binds K fd ["rows"] us ∧ ∀ A, RpL K A (d14.drop (d14.length + n - m14.length)) dvs := by
  exact binds0 F rfl fun _ _ _ _ _ _ us hl => match us, hl with | [_], _ => rfl
theorem b15 {f : Addr} {fd : FuncData} (F : FnP K "_law_lists" 22 [] f fd) : ∀ n, n ≤ m15.length → m15.length ≤ n + d15.length → ∃ dvs us, Vals dvs us ∧ Binds K fd ["reel", "size"] us ∧ ∀ A, RpL K A (d15.drop (d15.length + n - m15.length)) dvs := by
  exact binds0 F rfl fun _ _ _ _ _ _ us hl => match us, hl with | [_, _], _ => rfl
theorem b16 {f : Addr} {fd : FuncData} (F : FnP K "_law_right" 23 [] f fd) : ∀ n, n ≤ m16.length → m16.length ≤ n + d16.length → ∃ dvs us, Vals dvs us ∧ Binds K fd ["one", "other"] us ∧ ∀ A, RpL K A (d16.drop (d16.length + n - m16.length)) dvs := by
  exact binds0 F rfl fun _ _ _ _ _ _ us hl => match us, hl with | [_, _], _ => rfl
theorem b17 {f : Addr} {fd : FuncData} (F : FnP K "law" 24 [] f fd) : ∀ n, n ≤ m17.length → m17.length ≤ n + d17.length → ∃ dvs us, Vals dvs us ∧ Binds K fd ["script"] us ∧ ∀ A, RpL K A (d17.drop (d17.length + n - m17.length)) dvs := by
  exact binds0 F rfl fun _ _ _ _ _ _ us hl => match us, hl with | [_], _ => rfl
theorem all_ok (sys : SysOk base) (bt : ∀ x ∈ bts, mg x = none) (cs : ∀ x d, cons.lookup x = some d → ∃ u v, mg x = some u ∧ RelV v u ∧ ∀ A, Rp K A d v)
    {a0 : Addr} {e0 : FuncData} {a1 : Addr} {e1 : FuncData} {a2 : Addr} {e2 : FuncData} {a3 : Addr} {e3 : FuncData} {a4 : Addr} {e4 : FuncData} {a5 : Addr} {e5 : FuncData} {a6 : Addr} {e6 : FuncData} {a7 : Addr} {e7 : FuncData} {a8 : Addr} {e8 : FuncData} {a9 : Addr} {e9 : FuncData} {a10 : Addr} {e10 : FuncData} {a11 : Addr} {e11 : FuncData} {a12 : Addr} {e12 : FuncData} {a13 : Addr} {e13 : FuncData} {a14 : Addr} {e14 : FuncData} {a15 : Addr} {e15 : FuncData} {a16 : Addr} {e16 : FuncData} {a17 : Addr} {e17 : FuncData}
    (F0 : FnP K "is_integer" 5 [V.non, V.non] a0 e0) (h0 : mg "is_integer" = some (.ref a0))
    (F1 : FnP K "divisor" 6 [] a1 e1) (h1 : mg "divisor" = some (.ref a1))
    (F2 : FnP K "lowest" 7 [] a2 e2) (h2 : mg "lowest" = some (.ref a2))
    (F3 : FnP K "require_row" 8 [] a3 e3) (h3 : mg "require_row" = some (.ref a3))
    (F4 : FnP K "is_above" 9 [] a4 e4) (h4 : mg "is_above" = some (.ref a4))
    (F5 : FnP K "step_of" 10 [] a5 e5) (h5 : mg "step_of" = some (.ref a5))
    (F6 : FnP K "greatest_step" 11 [] a6 e6) (h6 : mg "greatest_step" = some (.ref a6))
    (F7 : FnP K "contrast_of" 13 [] a7 e7) (h7 : mg "contrast_of" = some (.ref a7))
    (F8 : FnP K "contrast" 14 [] a8 e8) (h8 : mg "contrast" = some (.ref a8))
    (F9 : FnP K "_law_reel" 16 [] a9 e9) (h9 : mg "_law_reel" = some (.ref a9))
    (F10 : FnP K "_law_spin" 17 [] a10 e10) (h10 : mg "_law_spin" = some (.ref a10))
    (F11 : FnP K "_law_ratio" 18 [] a11 e11) (h11 : mg "_law_ratio" = some (.ref a11))
    (F12 : FnP K "_law_step" 19 [] a12 e12) (h12 : mg "_law_step" = some (.ref a12))
    (F13 : FnP K "_law_above" 20 [] a13 e13) (h13 : mg "_law_above" = some (.ref a13))
    (F14 : FnP K "_law_greatest" 21 [] a14 e14) (h14 : mg "_law_greatest" = some (.ref a14))
    (F15 : FnP K "_law_lists" 22 [] a15 e15) (h15 : mg "_law_lists" = some (.ref a15))
    (F16 : FnP K "_law_right" 23 [] a16 e16) (h16 : mg "_law_right" = some (.ref a16))
    (F17 : FnP K "law" 24 [] a17 e17) (h17 : mg "law" = some (.ref a17))
    : FnG P w K mg base CX0 18 a17 e17 ["script"] (spF K ⟨m17, d17, runF G17 N17.length c17⟩) := by
  have g0 : GOk P w K mg base 0 G0 bts f0 cons := ⟨sys, bt, cs, fun x t h => by cases h⟩
  have g1 : GOk P w K mg base 1 G1 bts f1 cons := g0.add F0 s0 rfl k0 h0 (b0 F0)
  have g2 : GOk P w K mg base 2 G2 bts f2 cons := g1.add F1 s1 rfl k1 h1 (b1 F1)
  have g3 : GOk P w K mg base 3 G3 bts f3 cons := g2.add F2 s2 rfl k2 h2 (b2 F2)
  have g4 : GOk P w K mg base 4 G4 bts f4 cons := g3.add F3 s3 rfl k3 h3 (b3 F3)
  have g5 : GOk P w K mg base 5 G5 bts f5 cons := g4.add F4 s4 rfl k4 h4 (b4 F4)
  have g6 : GOk P w K mg base 6 G6 bts f6 cons := g5.add F5 s5 rfl k5 h5 (b5 F5)
  have g7 : GOk P w K mg base 7 G7 bts f7 cons := g6.add F6 s6 rfl k6 h6 (b6 F6)
  have g8 : GOk P w K mg base 8 G8 bts f8 cons := g7.add F7 s7 rfl k7 h7 (b7 F7)
  have g9 : GOk P w K mg base 9 G9 bts f9 cons := g8.add F8 s8 rfl k8 h8 (b8 F8)
  have g10 : GOk P w K mg base 10 G10 bts f10 cons := g9.add F9 s9 rfl k9 h9 (b9 F9)
  have g11 : GOk P w K mg base 11 G11 bts f11 cons := g10.add F10 s10 rfl k10 h10 (b10 F10)
  have g12 : GOk P w K mg base 12 G12 bts f12 cons := g11.add F11 s11 rfl k11 h11 (b11 F11)
  have g13 : GOk P w K mg base 13 G13 bts f13 cons := g12.add F12 s12 rfl k12 h12 (b12 F12)
  have g14 : GOk P w K mg base 14 G14 bts f14 cons := g13.add F13 s13 rfl k13 h13 (b13 F13)
  have g15 : GOk P w K mg base 15 G15 bts f15 cons := g14.add F14 s14 rfl k14 h14 (b14 F14)
  have g16 : GOk P w K mg base 16 G16 bts f16 cons := g15.add F15 s15 rfl k15 h15 (b15 F15)
  have g17 : GOk P w K mg base 17 G17 bts f17 cons := g16.add F16 s16 rfl k16 h16 (b16 F16)
  exact fn_ok g17 F17 s17 rfl k17
end
def fn : List He.DefD := [⟨("is_integer", none), "is_integer", "is_integer", defArgs (tx 5), defBody (tx 5), defScope (tx 5), [.non, .non], []⟩,
  ⟨("divisor", none), "divisor", "divisor", defArgs (tx 6), defBody (tx 6), defScope (tx 6), [], []⟩,
  ⟨("lowest", none), "lowest", "lowest", defArgs (tx 7), defBody (tx 7), defScope (tx 7), [], []⟩,
  ⟨("require_row", none), "require_row", "require_row", defArgs (tx 8), defBody (tx 8), defScope (tx 8), [], []⟩,
  ⟨("is_above", none), "is_above", "is_above", defArgs (tx 9), defBody (tx 9), defScope (tx 9), [], []⟩,
  ⟨("step_of", none), "step_of", "step_of", defArgs (tx 10), defBody (tx 10), defScope (tx 10), [], []⟩,
  ⟨("greatest_step", none), "greatest_step", "greatest_step", defArgs (tx 11), defBody (tx 11), defScope (tx 11), [], []⟩,
  ⟨("contrast_of", none), "contrast_of", "contrast_of", defArgs (tx 13), defBody (tx 13), defScope (tx 13), [], []⟩,
  ⟨("contrast", none), "contrast", "contrast", defArgs (tx 14), defBody (tx 14), defScope (tx 14), [], []⟩,
  ⟨("_law_reel", none), "_law_reel", "_law_reel", defArgs (tx 16), defBody (tx 16), defScope (tx 16), [], []⟩,
  ⟨("_law_spin", none), "_law_spin", "_law_spin", defArgs (tx 17), defBody (tx 17), defScope (tx 17), [], []⟩,
  ⟨("_law_ratio", none), "_law_ratio", "_law_ratio", defArgs (tx 18), defBody (tx 18), defScope (tx 18), [], []⟩,
  ⟨("_law_step", none), "_law_step", "_law_step", defArgs (tx 19), defBody (tx 19), defScope (tx 19), [], []⟩,
  ⟨("_law_above", none), "_law_above", "_law_above", defArgs (tx 20), defBody (tx 20), defScope (tx 20), [], []⟩,
  ⟨("_law_greatest", none), "_law_greatest", "_law_greatest", defArgs (tx 21), defBody (tx 21), defScope (tx 21), [], []⟩,
  ⟨("_law_lists", none), "_law_lists", "_law_lists", defArgs (tx 22), defBody (tx 22), defScope (tx 22), [], []⟩,
  ⟨("_law_right", none), "_law_right", "_law_right", defArgs (tx 23), defBody (tx 23), defScope (tx 23), [], []⟩,
  ⟨("law", none), "law", "law", defArgs (tx 24), defBody (tx 24), defScope (tx 24), [], []⟩]
def fa : List He.Fa := [.glo "is_integer", .glo "divisor", .glo "lowest", .glo "require_row", .glo "is_above", .glo "step_of", .glo "greatest_step", .glo "contrast_of", .glo "contrast", .glo "_law_reel", .glo "_law_spin", .glo "_law_ratio", .glo "_law_step", .glo "_law_above", .glo "_law_greatest", .glo "_law_lists", .glo "_law_right", .glo "law", .free "len", .free "abs", .free "max", .free "min", .free "all", .free "int", .free "list", .free "repr", .free "range", .free "zip", .free "enumerate", .free "isinstance", .free "bool", .int "MOST_ROW" (2000)]
abbrev R : PySem.W.OpenRow := PySem.W.OpenLaw.row PySem.Challenge.rw_scanbars_k28_contrasts_of_rows
abbrev hk : PySem.W.Hook := He.hookD 4 fa fn
def ob (s : PySem.W.SharedT) : He.AlD := He.obsDG 4 fa fn (HandSHeadRun.getT s)
theorem ob_eq (s : PySem.W.SharedT) : ob s = hk.obs s.abs := He.obsDG_eq (HandSHeadRun.getT_eq s)
def loose : List Str := ["ScanError", "InvalidRow", "MOST_ROW", "is_integer", "divisor", "lowest", "require_row", "is_above", "step_of", "greatest_step", "contrast_of", "contrast", "_law_reel", "_law_spin", "_law_ratio", "_law_step", "_law_above", "_law_greatest", "_law_lists", "_law_right"]
theorem run (w : World) : HandSHeadRun.RunEq R (PySem.W.view R.prog [24]) hk ob 6000 loose w := by
  intro os
  kernel_rfl
theorem facts {P : Program} {w : World} {K : PySem.W.Frag} {h : Heap} {mg : Str → Option Value} {f : Addr} (X : K.In h) (G : h.Ns mainGlobals mg) (hfa : mg ("law" : Str) = some (.ref f)) (c : He.SaysD fa fn K) :
    ∃ fd : FuncData, (∀ (s : Shared) (v : Value), BindsTo s fd ⟨[v], []⟩ [("script", v)]) ∧ ∀ base : Heap, K.In base → base.Ns mainGlobals mg → SysOk base → FnG P w K mg base CX0 18 f fd ["script"] (spF K ⟨m17, d17, runF G17 N17.length c17⟩) := by
  obtain ⟨e0, F0⟩ := c.def_ 0
  have h0 := He.glo_ok X G (c.fact 0 (f := .glo "is_integer") rfl)
  obtain ⟨e1, F1⟩ := c.def_ 1
  have h1 := He.glo_ok X G (c.fact 1 (f := .glo "divisor") rfl)
  obtain ⟨e2, F2⟩ := c.def_ 2
  have h2 := He.glo_ok X G (c.fact 2 (f := .glo "lowest") rfl)
  obtain ⟨e3, F3⟩ := c.def_ 3
  have h3 := He.glo_ok X G (c.fact 3 (f := .glo "require_row") rfl)
  obtain ⟨e4, F4⟩ := c.def_ 4
  have h4 := He.glo_ok X G (c.fact 4 (f := .glo "is_above") rfl)
  obtain ⟨e5, F5⟩ := c.def_ 5
  have h5 := He.glo_ok X G (c.fact 5 (f := .glo "step_of") rfl)
  obtain ⟨e6, F6⟩ := c.def_ 6
  have h6 := He.glo_ok X G (c.fact 6 (f := .glo "greatest_step") rfl)
  obtain ⟨e7, F7⟩ := c.def_ 7
  have h7 := He.glo_ok X G (c.fact 7 (f := .glo "contrast_of") rfl)
  obtain ⟨e8, F8⟩ := c.def_ 8
  have h8 := He.glo_ok X G (c.fact 8 (f := .glo "contrast") rfl)
  obtain ⟨e9, F9⟩ := c.def_ 9
  have h9 := He.glo_ok X G (c.fact 9 (f := .glo "_law_reel") rfl)
  obtain ⟨e10, F10⟩ := c.def_ 10
  have h10 := He.glo_ok X G (c.fact 10 (f := .glo "_law_spin") rfl)
  obtain ⟨e11, F11⟩ := c.def_ 11
  have h11 := He.glo_ok X G (c.fact 11 (f := .glo "_law_ratio") rfl)
  obtain ⟨e12, F12⟩ := c.def_ 12
  have h12 := He.glo_ok X G (c.fact 12 (f := .glo "_law_step") rfl)
  obtain ⟨e13, F13⟩ := c.def_ 13
  have h13 := He.glo_ok X G (c.fact 13 (f := .glo "_law_above") rfl)
  obtain ⟨e14, F14⟩ := c.def_ 14
  have h14 := He.glo_ok X G (c.fact 14 (f := .glo "_law_greatest") rfl)
  obtain ⟨e15, F15⟩ := c.def_ 15
  have h15 := He.glo_ok X G (c.fact 15 (f := .glo "_law_lists") rfl)
  obtain ⟨e16, F16⟩ := c.def_ 16
  have h16 := He.glo_ok X G (c.fact 16 (f := .glo "_law_right") rfl)
  obtain ⟨e17, F17⟩ := c.def_ 17
  have h17 := He.glo_ok X G (c.fact 17 (f := .glo "law") rfl)
  have e := hfa.symm.trans h17
  cases e
  have b := FunD.bindsA (ps := ["script"]) F17 fun _ _ _ _ _ _ us hl => match us, hl with | [_], _ => rfl
  refine ⟨e17, fun s v => b s [v] rfl, fun base _ _ sys => all_ok sys (fun x hx => ?_) (fun x d hx => ?_) F0 h0 F1 h1 F2 h2 F3 h3 F4 h4 F5 h5 F6 h6 F7 h7 F8 h8 F9 h9 F10 h10 F11 h11 F12 h12 F13 h13 F14 h14 F15 h15 F16 h16 F17 h17⟩
  · simp only [bts, List.mem_cons, List.not_mem_nil, or_false] at hx
    rcases hx with rfl | rfl | rfl | rfl | rfl | rfl | rfl | rfl | rfl | rfl | rfl | rfl | rfl
    · exact He.free_ok X G (c.fact 18 (f := .free "len") rfl)
    · exact He.free_ok X G (c.fact 19 (f := .free "abs") rfl)
    · exact He.free_ok X G (c.fact 20 (f := .free "max") rfl)
    · exact He.free_ok X G (c.fact 21 (f := .free "min") rfl)
    · exact He.free_ok X G (c.fact 22 (f := .free "all") rfl)
    · exact He.free_ok X G (c.fact 23 (f := .free "int") rfl)
    · exact He.free_ok X G (c.fact 24 (f := .free "list") rfl)
    · exact He.free_ok X G (c.fact 25 (f := .free "repr") rfl)
    · exact He.free_ok X G (c.fact 26 (f := .free "range") rfl)
    · exact He.free_ok X G (c.fact 27 (f := .free "zip") rfl)
    · exact He.free_ok X G (c.fact 28 (f := .free "enumerate") rfl)
    · exact He.free_ok X G (c.fact 29 (f := .free "isinstance") rfl)
    · exact He.free_ok X G (c.fact 30 (f := .free "bool") rfl)
  · simp only [cons, List.lookup_cons, List.lookup_nil] at hx
    split at hx
    · rename_i ex
      have ex := eq_of_beq ex
      subst ex
      cases hx
      obtain ⟨t, ht⟩ := He.int_ok X G (c.fact 31 (f := .int "MOST_ROW" (2000)) rfl)
      exact ⟨_, V.int (2000), ht, ⟨t, rfl⟩, fun A => by simp [Rp]⟩
    cases hx
end K28
/-! the claim: left is what the evaluator answers -/
open PySem PySem.W PySem.Calls PyProof.Rows in
theorem K28.holds (ans : ∀ ns : List Int, ns.length ≤ 63 → Fx.runF K28.G17 K28.N17.length K28.c17 [.d (.lst (ns.map .int))] = .ok (.d (.bl true)) []) : PySem.Challenge.rw_scanbars_k28_contrasts_of_rows.Holds := by
  w_on; o_law
  refine HandSHeadRun.head_any (r := OpenLaw.row PySem.Challenge.rw_scanbars_k28_contrasts_of_rows) (q := view (OpenLaw.row PySem.Challenge.rw_scanbars_k28_contrasts_of_rows).prog [24]) (H := K28.hk) (ob := K28.ob) (M := 6000) (loose := K28.loose) (d := HandSHeadRun.topDef (OpenLaw.row PySem.Challenge.rw_scanbars_k28_contrasts_of_rows).prog 24) (kwd := []) K28.ob_eq
    (by kernel_rfl) (fun s => by kernel_rfl) K28.run (by kernel_rfl) (by kernel_rfl) (by kernel_rfl) (by rfl) (by first | assumption | decide +kernel) (by decide +kernel) ⟨rfl, rfl, rfl, rfl, rfl, by decide +kernel⟩ ?hw ?hc
  case hw => w_witness2
  case hc =>
    refine Fx.walkG (l := PySem.Challenge.rw_scanbars_k28_contrasts_of_rows) (n := 63) (k := 18) (x := "script") (CX := fun _ => L2.CX0) rfl (by decide) (by kernel_rfl) ⟨rfl, by decide, by decide⟩ (by kernel_rfl) ?F (fun _ _ _ _ _ z => z)
    intro w mg fa h Y G hmg0
    obtain ⟨K, KX, c⟩ := Y
    have hmg : mg ("law" : PySem.Str) = some (.ref fa) := by
      have e : (HandSHeadRun.topDef (OpenLaw.row PySem.Challenge.rw_scanbars_k28_contrasts_of_rows).prog 24).name = ("law" : PySem.Str) := by kernel_rfl
      rw [← e]
      exact hmg0
    obtain ⟨fd, hb, hF⟩ := K28.facts (P := (PySem.Challenge.rw_scanbars_k28_contrasts_of_rows).prog) (w := w) KX G hmg c
    exact ⟨K, fd, _, KX, hb, fun H a ns hl ho hS => Fx.spLaw hS ho (ans ns hl), hF⟩

set_option Elab.async false
set_option linter.all false
set_option maxRecDepth 100000
/-! Fx21: running bodies step by step. -/
namespace Fx
section
variable {Γ : FT} {env env1 env2 : Cells}
theorem run_nil : evSs Γ [] env = .ok .next env := by rw [evSs]
theorem run_cons {s : CS} {ss : List CS} {r : Res Fl} (h : evS Γ s env = .ok .next env1) (t : evSs Γ ss env1 = r) : evSs Γ (s :: ss) env = r := by
  rw [evSs, h]; exact t
theorem run_ret {s : CS} {ss : List CS} {r : R} (h : evS Γ s env = .ok (.ret r) env1) : evSs Γ (s :: ss) env = .ok (.ret r) env1 := by
  rw [evSs, h]; rfl
theorem whl_eq {c : CE} {b : List CS} : evS Γ (.whl c b) env = whlRun (ev Γ c).t (evSs Γ b) fuel env := by rw [evS]
theorem for_eq {t : Tg} {it : Fx.It} {b : List CS} {xs : List D} (h : evI Γ it env = .ok xs env1) : evS Γ (.fors t it b) env = forRun t (evSs Γ b) xs env1 := by
  rw [evS, h]; rfl
theorem if_true {c : CE} {a b : List CS} {r : Res Fl} (h : (ev Γ c).t env = .ok true env1) (k : evSs Γ a env1 = r) : evS Γ (.ifs c a b) env = r := by
  rw [evS]
  show ((ev Γ c).t env).bind _ = r
  rw [h]
  exact k
theorem if_false {c : CE} {a b : List CS} {r : Res Fl} (h : (ev Γ c).t env = .ok false env1) (k : evSs Γ b env1 = r) : evS Γ (.ifs c a b) env = r := by
  rw [evS]
  show ((ev Γ c).t env).bind _ = r
  rw [h]
  exact k
theorem ret_eq {e : CE} {r : R} (h : (ev Γ e).v env = .ok r env1) : evS Γ (.ret e) env = .ok (.ret r) env1 := by
  rw [evS]
  show ((ev Γ e).v env).bind _ = _
  rw [h]
  rfl
theorem runF_of {n : Nat} {body : List CS} {as : List Arg} {fl : Fl} {r : R} {ro : RO} {ios : List Ob} (h1 : evSs Γ body (as.map argCell ++ List.replicate (n - as.length) .none) = .ok fl env)
    (h2 : retR fl = some r) (h3 : outF env r = some ro) (h4 : ioOf env as 0 = some ios) : runF Γ n body as = .ok ro ios := by
  unfold runF
  rw [h1]
  cases fl with
  | next =>
    cases h2
    cases h3
    simp only [h4]
  | ret r' =>
    cases h2
    cases r with
    | d x => cases h3; simp only [h4]
    | new b => cases h3; simp only [h4]
    | own i =>
      simp only [outF] at h3
      cases e : env[i]? with
      | none => rw [e] at h3; cases h3
      | some c =>
        rw [e] at h3
        cases c with
        | none => cases h3
        | io b => cases h3
        | o b => cases h3; simp only [e, h4]
        | d x => cases h3; simp only [e, h4]
  | brk => cases h2
  | cnt => cases h2
theorem asg_eq {t : Tg} {ce : CE} {r : R} (h : (ev Γ ce).v env = .ok r env1) (k : asgR t r env1 = some env2) : evS Γ (.asg t ce) env = .ok .next env2 := by
  rw [evS]
  show ((ev Γ ce).v env).bind _ = _
  rw [h]
  simp only [Res.bind, k]
/-- the turns of a for, one by one -/
theorem for_nil {t : Tg} {body : Cells → Res Fl} : forRun t body [] env = .ok .next env := rfl
theorem for_cons {t : Tg} {body : Cells → Res Fl} {x : D} {xs : List D} {r : Res Fl} (h : asgD t x env = some env1) (hb : body env1 = .ok .next env2) (k : forRun t body xs env2 = r) : forRun t body (x :: xs) env = r := by
  unfold forRun
  rw [h]
  show (body env1).bind _ = r
  rw [hb]
  exact k
theorem ite_ev {c a b : CE} : ev Γ (.ite c a b) = .of (doIte (ev Γ c).t (ev Γ a).v (ev Γ b).v) := by rw [ev]
theorem call_ev {f : Nat} {es : List CE} : ev Γ (.call f es) = .of (doCall Γ f (evEs Γ es)) := by rw [ev]
theorem lc_ev {el : CE} {t : Tg} {it : Fx.It} {c : Option CE} {own : List Nat} : ev Γ (.lc el t it c own) = .of (doLc (ev Γ el).v t (evI Γ it) (evC Γ c) own) := by rw [ev]
theorem cmp_ev {o : Cop} {a b : CE} : ev Γ (.cmp o a b) = .of (do2 (fun x y => (cmpD o x y).map fun b => .d (.bl b)) (ev Γ a).v (ev Γ b).v) := by rw [ev]
theorem or_ev {a b : CE} : ev Γ (.or a b) = ⟨doOr (ev Γ a).v (ev Γ b).v, toOr (ev Γ a).t (ev Γ b).t⟩ := by rw [ev]
theorem not_ev {a : CE} : ev Γ (.not a) = ⟨doNot (ev Γ a).v, toNot (ev Γ a).t⟩ := by rw [ev]
theorem blt_ev {b : Blt} {es : List CE} : ev Γ (.blt b es) = .of (doBlt b (evEs Γ es)) := by rw [ev]
theorem lst_ev {es : List CE} : ev Γ (.lst es) = .of (doSeq (fun xs => .new (.lst xs)) (evEs Γ es)) := by rw [ev]
theorem tup_ev {es : List CE} : ev Γ (.tup es) = .of (doSeq (fun xs => .d (.tup xs)) (evEs Γ es)) := by rw [ev]
theorem of_v (f : Cells → Res R) : (E2.of f).v = f := rfl
theorem of_t (f : Cells → Res R) : (E2.of f).t env = (f env).bind fun x env1 => match x.get env1 with
    | some d => ofO env1 (truD d)
    | none => .bad := rfl
theorem evT_eq (Γ : FT) (e : CE) : evT Γ e = (ev Γ e).t := rfl
theorem evE_eq (Γ : FT) (e : CE) : evE Γ e = (ev Γ e).v := rfl
end
end Fx

set_option Elab.async false
set_option linter.all false
set_option maxRecDepth 100000
set_option maxHeartbeats 1000000
namespace K28
open PySem Fx
/-! ### greatest common divisors -/
theorem loop1 (Γ : FT) : ∀ (n a b : Nat), b < n → whlRun (ev Γ (.cmp .ne (.var 1) (.cst (.int 0)))).t (evSs Γ [(.par [(.nm 0), (.nm 1)] [(.var 1), (.bin .mod (.var 0) (.var 1))])]) n [.d (.int a), .d (.int b)]
    = .ok .next [.d (.int (Nat.gcd a b : Nat)), .d (.int 0)] := by
  intro n
  induction n with
  | zero => intro a b h; omega
  | succ n ih =>
    intro a b h
    unfold whlRun
    by_cases hb : b = 0
    · subst hb
      simp [walkOf, evSs, evS, ev, evE, evT, evE_eq, evT_eq, evEs, evO, evC, evI, E2.of, do2, do1, doCall, doBlt, doInt, doSl, doSeq, doIte, doNot, doAnd, doOr, toNot, toAnd, toOr, doCol, doItN, doIt1, doRange, Res.bind, doVar, R.get, ofO, ixRO, ixD, L2.atI, L2.ixN, RO.toR, binD, bltD, cmpD, isNonD, ioOf, argCell, callF, preArgs, frz, frzs, gets, ioIdx, toArgs, setObs, noOwn, asgRs, asgR, asgD, asgDs, Fx.cellOf, truD, tyD, obAt, Cell.ob, Ob.toD, putOb, setD, itemsOf, flatD, eqD]
    · have hp : 0 < b := Nat.pos_of_ne_zero hb
      have e : ((a : Int) % (b : Int)) = ((a % b : Nat) : Int) := by simp
      have h0 : ((b : Int) == 0) = false := by simp [hb]
      simp [walkOf, evSs, evS, ev, evE, evT, evE_eq, evT_eq, evEs, evO, evC, evI, E2.of, do2, do1, doCall, doBlt, doInt, doSl, doSeq, doIte, doNot, doAnd, doOr, toNot, toAnd, toOr, doCol, doItN, doIt1, doRange, Res.bind, doVar, R.get, ofO, ixRO, ixD, L2.atI, L2.ixN, RO.toR, binD, bltD, cmpD, isNonD, ioOf, argCell, callF, preArgs, frz, frzs, gets, ioIdx, toArgs, setObs, noOwn, asgRs, asgR, asgD, asgDs, Fx.cellOf, truD, tyD, obAt, Cell.ob, Ob.toD, putOb, setD, itemsOf, flatD, eqD, h0, hp]
      have := ih b (a % b) (by have := Nat.mod_lt a hp; omega)
      rw [Nat.gcd_comm b, ← Nat.gcd_rec] at this
      rw [Nat.gcd_comm]
      exact this
theorem loop11 (Γ : FT) (u v : Cell) : ∀ (n a b : Nat), b < n → whlRun (ev Γ (.cmp .gt (.var 3) (.cst (.int 0)))).t (evSs Γ [(.par [(.nm 2), (.nm 3)] [(.var 3), (.bin .mod (.blt .int [(.var 2)]) (.var 3))])]) n [u, v, .d (.int a), .d (.int b)]
    = .ok .next [u, v, .d (.int (Nat.gcd a b : Nat)), .d (.int 0)] := by
  intro n
  induction n with
  | zero => intro a b h; omega
  | succ n ih =>
    intro a b h
    unfold whlRun
    by_cases hb : b = 0
    · subst hb
      simp [walkOf, evSs, evS, ev, evE, evT, evE_eq, evT_eq, evEs, evO, evC, evI, E2.of, do2, do1, doCall, doBlt, doInt, doSl, doSeq, doIte, doNot, doAnd, doOr, toNot, toAnd, toOr, doCol, doItN, doIt1, doRange, Res.bind, doVar, R.get, ofO, ixRO, ixD, L2.atI, L2.ixN, RO.toR, binD, bltD, cmpD, isNonD, ioOf, argCell, callF, preArgs, frz, frzs, gets, ioIdx, toArgs, setObs, noOwn, asgRs, asgR, asgD, asgDs, Fx.cellOf, truD, tyD, obAt, Cell.ob, Ob.toD, putOb, setD, itemsOf]
    · have hp : 0 < b := Nat.pos_of_ne_zero hb
      have e : ((a : Int) % (b : Int)) = ((a % b : Nat) : Int) := by simp
      simp [walkOf, evSs, evS, ev, evE, evT, evE_eq, evT_eq, evEs, evO, evC, evI, E2.of, do2, do1, doCall, doBlt, doInt, doSl, doSeq, doIte, doNot, doAnd, doOr, toNot, toAnd, toOr, doCol, doItN, doIt1, doRange, Res.bind, doVar, R.get, ofO, ixRO, ixD, L2.atI, L2.ixN, RO.toR, binD, bltD, cmpD, isNonD, ioOf, argCell, callF, preArgs, frz, frzs, gets, ioIdx, toArgs, setObs, noOwn, asgRs, asgR, asgD, asgDs, Fx.cellOf, truD, tyD, obAt, Cell.ob, Ob.toD, putOb, setD, itemsOf, hp]
      have := ih b (a % b) (by have := Nat.mod_lt a hp; omega)
      rw [Nat.gcd_comm b, ← Nat.gcd_rec] at this
      rw [Nat.gcd_comm]
      exact this
theorem fuel_big {n : Nat} (h : n ≤ 1000000) : n < fuel := by
  have : 1000000 < fuel := by decide +kernel
  omega
theorem gcd_bits {a b : Nat} (h : a ≤ 1000000) (hb : b ≤ 1000000) (hp : 0 < b) : 0 < Nat.gcd a b ∧ bits ((Nat.gcd a b : Nat) : Int) < 9000 := by
  have h1 : Nat.gcd a b ≤ b := Nat.gcd_le_right a hp
  refine ⟨Nat.gcd_pos_of_pos_right a hp, ?_⟩
  unfold bits
  have : ((Nat.gcd a b : Nat) : Int).natAbs.log2 ≤ (Nat.gcd a b) := by rw [Int.natAbs_natCast]; exact Nat.log2_le_self _
  have : (Nat.gcd a b).log2 < 20 + 1 := by
    by_cases z : Nat.gcd a b = 0
    · rw [z]; decide
    · rw [Nat.log2_lt z]; omega
  rw [Int.natAbs_natCast]
  omega
/-- divisor -/
theorem t1 {a b : Nat} (hb : b ≤ 1000000) : runF G1 N1.length c1 [.d (.int a), .d (.int b)] = .ok (.d (.int (Nat.gcd a b : Nat))) [] := by
  have h := loop1 G1 fuel a b (fuel_big hb)
  have e : evSs G1 c1 [.d (.int a), .d (.int b)] = .ok (.ret (.d (.int (Nat.gcd a b : Nat)))) [.d (.int (Nat.gcd a b : Nat)), .d (.int 0)] := by
    unfold c1
    rw [evSs, evS, h]
    simp [walkOf, evSs, evS, ev, evE, evT, evE_eq, evT_eq, evEs, evO, evC, evI, E2.of, do2, do1, doCall, doBlt, doInt, doSl, doSeq, doIte, doNot, doAnd, doOr, toNot, toAnd, toOr, doCol, doItN, doIt1, doRange, Res.bind, doVar, R.get, ofO, ixRO, ixD, L2.atI, L2.ixN, RO.toR, binD, bltD, cmpD, isNonD, ioOf, argCell, callF, preArgs, frz, frzs, gets, ioIdx, toArgs, setObs, noOwn, asgRs, asgR, asgD, asgDs, Fx.cellOf, truD, tyD, obAt, Cell.ob, Ob.toD, putOb, setD, itemsOf]
  unfold runF
  have z : (List.map argCell [Arg.d (.int a), Arg.d (.int b)] ++ List.replicate (N1.length - [Arg.d (D.int a), Arg.d (D.int b)].length) Cell.none) = [.d (.int a), .d (.int b)] := rfl
  rw [z, e]
  rfl
theorem g2_1 : G2[1]? = some ⟨m1, d1, runF G1 N1.length c1⟩ := rfl
/-- lowest -/
theorem t2 {a b : Nat} (ha : a ≤ 1000000) (hb : b ≤ 1000000) (hp : 0 < b) : runF G2 N2.length c2 [.d (.int a), .d (.int b)] = .ok (.d (.tup [.int (a / Nat.gcd a b : Nat), .int (b / Nat.gcd a b : Nat)])) [] := by
  obtain ⟨g1, g2⟩ := gcd_bits ha hb hp
  have g1' : (0 : Int) < (Nat.gcd a b : Nat) := by exact_mod_cast g1
  unfold runF
  simp [walkOf, evSs, evS, ev, evE, evT, evE_eq, evT_eq, evEs, evO, evC, evI, E2.of, do2, do1, doCall, doBlt, doInt, doSl, doSeq, doIte, doNot, doAnd, doOr, toNot, toAnd, toOr, doCol, doItN, doIt1, doRange, Res.bind, doVar, R.get, ofO, ixRO, ixD, L2.atI, L2.ixN, RO.toR, binD, bltD, cmpD, isNonD, ioOf, argCell, callF, preArgs, frz, frzs, gets, ioIdx, toArgs, setObs, noOwn, asgRs, asgR, asgD, asgDs, Fx.cellOf, truD, tyD, obAt, Cell.ob, Ob.toD, putOb, setD, itemsOf, c2, N2, g2_1, m1, d1, t1 hb, g1, g2, lim]
/-- _law_ratio -/
theorem t11 {a b : Nat} (ha : a ≤ 1000000) (hb : b ≤ 1000000) (hp : 0 < b) : runF G11 N11.length c11 [.d (.int a), .d (.int b)] = .ok (.d (.tup [.int (a / Nat.gcd a b : Nat), .int (b / Nat.gcd a b : Nat)])) [] := by
  obtain ⟨g1, g2⟩ := gcd_bits ha hb hp
  refine runF_of (env := [.d (.int a), .d (.int b), .d (.int (Nat.gcd a b : Nat)), .d (.int 0)]) (fl := .ret (.d (.tup [.int (a / Nat.gcd a b : Nat), .int (b / Nat.gcd a b : Nat)])))
    (run_cons (env1 := [.d (.int a), .d (.int b), .d (.int a), .d (.int b)]) (by simp [walkOf, evSs, evS, ev, evE, evT, evE_eq, evT_eq, evEs, evO, evC, evI, E2.of, do2, do1, doCall, doBlt, doInt, doSl, doSeq, doIte, doNot, doAnd, doOr, toNot, toAnd, toOr, doCol, doItN, doIt1, doRange, Res.bind, doVar, R.get, ofO, ixRO, ixD, L2.atI, L2.ixN, RO.toR, binD, bltD, cmpD, isNonD, ioOf, argCell, callF, preArgs, frz, frzs, gets, ioIdx, toArgs, setObs, noOwn, asgRs, asgR, asgD, asgDs, Fx.cellOf, truD, tyD, obAt, Cell.ob, Ob.toD, putOb, setD, itemsOf, N11]) (run_cons (whl_eq.trans (loop11 G11 _ _ fuel a b (fuel_big hb))) (run_ret (by simp [walkOf, evSs, evS, ev, evE, evT, evE_eq, evT_eq, evEs, evO, evC, evI, E2.of, do2, do1, doCall, doBlt, doInt, doSl, doSeq, doIte, doNot, doAnd, doOr, toNot, toAnd, toOr, doCol, doItN, doIt1, doRange, Res.bind, doVar, R.get, ofO, ixRO, ixD, L2.atI, L2.ixN, RO.toR, binD, bltD, cmpD, isNonD, ioOf, argCell, callF, preArgs, frz, frzs, gets, ioIdx, toArgs, setObs, noOwn, asgRs, asgR, asgD, asgDs, Fx.cellOf, truD, tyD, obAt, Cell.ob, Ob.toD, putOb, setD, itemsOf, g1, g2, lim])))) rfl rfl rfl
end K28

set_option Elab.async false
set_option linter.all false
set_option maxRecDepth 100000
set_option maxHeartbeats 2000000
namespace K28
open PySem Fx
/-! ### steps, the greatest step -/
def low (a b : Nat) : Nat × Nat := (a / Nat.gcd a b, b / Nat.gcd a b)
def step (a b : Nat) : Nat × Nat := low (max a b) (min a b)
def above (p q : Nat × Nat) : Bool := decide (q.1 * p.2 < p.1 * q.2)
def pr (p : Nat × Nat) : D := .tup [.int p.1, .int p.2]
def great : Nat × Nat → List (Nat × Nat) → Nat × Nat
  | f, x :: y :: r => great (if above (step (y.1 * x.2) (x.1 * y.2)) f then step (y.1 * x.2) (x.1 * y.2) else f) (y :: r)
  | f, _ => f
theorem bits_le {n k : Nat} (h : n < 2 ^ k) : bits (n : Int) ≤ k := by
  unfold bits
  rw [Int.natAbs_natCast]
  by_cases z : n = 0
  · subst z; simp
  · have := (Nat.log2_lt z).mpr h
    omega
theorem mul_ok {m n : Nat} (h : m ≤ 1000000) (k : n ≤ 1000000) : bits (m : Int) + bits (n : Int) ≤ lim := by
  have := bits_le (n := m) (k := 20) (by omega)
  have := bits_le (n := n) (k := 20) (by omega)
  have : lim = 1000000 := rfl
  omega
theorem t4 {p q : Nat × Nat} (h1 : p.1 ≤ 1000000) (h2 : p.2 ≤ 1000000) (h3 : q.1 ≤ 1000000) (h4 : q.2 ≤ 1000000) : runF G4 N4.length c4 [.d (pr p), .d (pr q)] = .ok (.d (.bl (above p q))) [] := by
  have e : decide ((q.1 : Int) * (p.2 : Int) < (p.1 : Int) * (q.2 : Int)) = above p q := by
    unfold above
    rw [← Int.natCast_mul, ← Int.natCast_mul]
    simp only [Int.ofNat_lt]
  unfold runF
  simp [walkOf, evSs, evS, ev, evE, evT, evE_eq, evT_eq, evEs, evO, evC, evI, E2.of, do2, do1, doCall, doBlt, doInt, doSl, doSeq, doIte, doNot, doAnd, doOr, toNot, toAnd, toOr, doCol, doItN, doIt1, doRange, Res.bind, doVar, R.get, ofO, ixRO, ixD, L2.atI, L2.ixN, RO.toR, binD, bltD, cmpD, isNonD, ioOf, argCell, callF, preArgs, frz, frzs, gets, ioIdx, toArgs, setObs, noOwn, asgRs, asgR, asgD, asgDs, Fx.cellOf, truD, tyD, obAt, Cell.ob, Ob.toD, putOb, setD, itemsOf, c4, N4, pr, mul_ok h1 h4, mul_ok h3 h2]
  exact e
theorem t13 {p q : Nat × Nat} (h1 : p.1 ≤ 1000000) (h2 : p.2 ≤ 1000000) (h3 : q.1 ≤ 1000000) (h4 : q.2 ≤ 1000000) : runF G13 N13.length c13 [.d (pr p), .d (pr q)] = .ok (.d (.bl (above p q))) [] := by
  have e : decide ((q.1 : Int) * (p.2 : Int) < (p.1 : Int) * (q.2 : Int)) = above p q := by
    unfold above
    rw [← Int.natCast_mul, ← Int.natCast_mul]
    simp only [Int.ofNat_lt]
  unfold runF
  simp [walkOf, evSs, evS, ev, evE, evT, evE_eq, evT_eq, evEs, evO, evC, evI, E2.of, do2, do1, doCall, doBlt, doInt, doSl, doSeq, doIte, doNot, doAnd, doOr, toNot, toAnd, toOr, doCol, doItN, doIt1, doRange, Res.bind, doVar, R.get, ofO, ixRO, ixD, L2.atI, L2.ixN, RO.toR, binD, bltD, cmpD, isNonD, ioOf, argCell, callF, preArgs, frz, frzs, gets, ioIdx, toArgs, setObs, noOwn, asgRs, asgR, asgD, asgDs, Fx.cellOf, truD, tyD, obAt, Cell.ob, Ob.toD, putOb, setD, itemsOf, c13, N13, pr, mul_ok h1 h4, mul_ok h3 h2]
  exact e
theorem g5_2 : G5[2]? = some ⟨m2, d2, runF G2 N2.length c2⟩ := rfl
theorem g12_11 : G12[11]? = some ⟨m11, d11, runF G11 N11.length c11⟩ := rfl
theorem mx {a b : Nat} : (if (b : Int) > (a : Int) then (b : Int) else (a : Int)) = ((max a b : Nat) : Int) := by
  split <;> omega
theorem mn {a b : Nat} : (if (b : Int) < (a : Int) then (b : Int) else (a : Int)) = ((min a b : Nat) : Int) := by
  split <;> omega
theorem t5 {a b : Nat} (ha : a ≤ 1000000) (hb : b ≤ 1000000) (h0 : 0 < a) (h1 : 0 < b) : runF G5 N5.length c5 [.d (.int a), .d (.int b)] = .ok (.d (pr (step a b))) [] := by
  have h := t2 (a := max a b) (b := min a b) (by omega) (by omega) (by omega)
  have e : evSs G5 c5 [.d (.int a), .d (.int b)] = .ok (.ret (.d (pr (step a b)))) [.d (.int a), .d (.int b)] := by
    refine run_ret (ret_eq ?_)
    simp only [walkOf, evSs, evS, ev, evE, evT, evE_eq, evT_eq, evEs, evO, evC, evI, E2.of, do2, do1, doCall, doBlt, doInt, doSl, doSeq, doIte, doNot, doAnd, doOr, toNot, toAnd, toOr, doCol, doItN, doIt1, doRange, Res.bind, doVar, R.get, ofO, ixRO, ixD, L2.atI, L2.ixN, RO.toR, binD, bltD, cmpD, isNonD, ioOf, argCell, callF, preArgs, frz, frzs, gets, ioIdx, toArgs, setObs, noOwn, asgRs, asgR, asgD, asgDs, Fx.cellOf, truD, tyD, obAt, Cell.ob, Ob.toD, putOb, setD, itemsOf, bltD, mx, mn, Option.map, List.getElem?_cons_zero, List.getElem?_cons_succ, g5_2, m2, d2, List.append_nil, List.drop_nil, List.map_nil, h]
    rfl
  exact runF_of (n := N5.length) e rfl rfl rfl
theorem t12 {a b : Nat} (ha : a ≤ 1000000) (hb : b ≤ 1000000) (h0 : 0 < a) (h1 : 0 < b) : runF G12 N12.length c12 [.d (.int a), .d (.int b)] = .ok (.d (pr (step a b))) [] := by
  have h := t11 (a := max a b) (b := min a b) (by omega) (by omega) (by omega)
  have e : evSs G12 c12 [.d (.int a), .d (.int b)] = .ok (.ret (.d (pr (step a b)))) [.d (.int a), .d (.int b)] := by
    refine run_ret (ret_eq ?_)
    simp only [walkOf, evSs, evS, ev, evE, evT, evE_eq, evT_eq, evEs, evO, evC, evI, E2.of, do2, do1, doCall, doBlt, doInt, doSl, doSeq, doIte, doNot, doAnd, doOr, toNot, toAnd, toOr, doCol, doItN, doIt1, doRange, Res.bind, doVar, R.get, ofO, ixRO, ixD, L2.atI, L2.ixN, RO.toR, binD, bltD, cmpD, isNonD, ioOf, argCell, callF, preArgs, frz, frzs, gets, ioIdx, toArgs, setObs, noOwn, asgRs, asgR, asgD, asgDs, Fx.cellOf, truD, tyD, obAt, Cell.ob, Ob.toD, putOb, setD, itemsOf, bltD, mx, mn, Option.map, List.getElem?_cons_zero, List.getElem?_cons_succ, g12_11, m11, d11, List.append_nil, List.drop_nil, List.map_nil, h]
    rfl
  exact runF_of (n := N12.length) e rfl rfl rfl
end K28

set_option Elab.async false
set_option linter.all false
set_option maxRecDepth 100000
set_option maxHeartbeats 2000000
namespace K28
open PySem Fx
/-- a cell that may be written -/
def Free (c : Cell) : Prop := c = .none ∨ ∃ x, c = .d x
theorem Free.n : Free .none := .inl rfl
theorem Free.d {x : D} : Free (.d x) := .inr ⟨x, rfl⟩
/-- small pairs -/
def Sm (p : Nat × Nat) : Prop := 0 < p.1 ∧ p.1 ≤ 4 ∧ 0 < p.2 ∧ p.2 ≤ 4
def Md (p : Nat × Nat) : Prop := p.1 ≤ 16 ∧ p.2 ≤ 16
theorem step_md {a b : Nat} (ha : a ≤ 16) (hb : b ≤ 16) : Md (step a b) := by
  unfold step low Md
  exact ⟨Nat.le_trans (Nat.div_le_self _ _) (by omega), Nat.le_trans (Nat.div_le_self _ _) (by omega)⟩
theorem prod_ok {m n : Nat} (h : 0 < m ∧ m ≤ 4) (k : 0 < n ∧ n ≤ 4) : 0 < m * n ∧ m * n ≤ 16 := by
  refine ⟨Nat.mul_pos h.1 k.1, ?_⟩
  have := Nat.mul_le_mul h.2 k.2
  omega
abbrev tg6 : Tg := .tup [(.tup [(.nm 2), (.nm 3)]), (.tup [(.nm 4), (.nm 5)])]
abbrev y6 : List CS := [(.asg (.nm 6) (.call 5 [(.bin .mul (.var 4) (.var 3)), (.bin .mul (.var 2) (.var 5))])), (.ifs (.call 4 [(.var 6), (.var 1)]) [(.asg (.nm 1) (.var 6))] [])]
abbrev y14 : List CS := [(.asg (.nm 6) (.call 12 [(.bin .mul (.var 4) (.var 3)), (.bin .mul (.var 2) (.var 5))])), (.ifs (.call 13 [(.var 6), (.var 1)]) [(.asg (.nm 1) (.var 6))] [])]
theorem tg_ok {L f : D} {a b c d e : Cell} (x y : Nat × Nat) (ha : Free a) (hb : Free b) (hc : Free c) (hd : Free d) :
    asgD tg6 (.tup [pr x, pr y]) [.d L, .d f, a, b, c, d, e] = some [.d L, .d f, .d (.int x.1), .d (.int x.2), .d (.int y.1), .d (.int y.2), e] := by
  rcases ha with rfl | ⟨_, rfl⟩ <;> rcases hb with rfl | ⟨_, rfl⟩ <;> rcases hc with rfl | ⟨_, rfl⟩ <;> rcases hd with rfl | ⟨_, rfl⟩ <;> simp [asgD, asgDs, pr]
theorem g6_5 : G6[5]? = some ⟨m5, d5, runF G5 N5.length c5⟩ := rfl
theorem g6_4 : G6[4]? = some ⟨m4, d4, runF G4 N4.length c4⟩ := rfl
theorem g14_12 : G14[12]? = some ⟨m12, d12, runF G12 N12.length c12⟩ := rfl
theorem g14_13 : G14[13]? = some ⟨m13, d13, runF G13 N13.length c13⟩ := rfl
theorem body6 {L : D} {f : Nat × Nat} {e : Cell} {x y : Nat × Nat} (he : Free e) (hf : Md f) (hx : Sm x) (hy : Sm y) :
    evSs G6 y6 [.d L, .d (pr f), .d (.int x.1), .d (.int x.2), .d (.int y.1), .d (.int y.2), e] = .ok .next
      [.d L, .d (pr (if above (step (y.1 * x.2) (x.1 * y.2)) f then step (y.1 * x.2) (x.1 * y.2) else f)), .d (.int x.1), .d (.int x.2), .d (.int y.1), .d (.int y.2), .d (pr (step (y.1 * x.2) (x.1 * y.2)))] := by
  obtain ⟨p1, p2⟩ := prod_ok (m := y.1) (n := x.2) ⟨hy.1, hy.2.1⟩ ⟨hx.2.2.1, hx.2.2.2⟩
  obtain ⟨p3, p4⟩ := prod_ok (m := x.1) (n := y.2) ⟨hx.1, hx.2.1⟩ ⟨hy.2.2.1, hy.2.2.2⟩
  have h5 := t5 (a := y.1 * x.2) (b := x.1 * y.2) (by omega) (by omega) p1 p3
  rw [Int.natCast_mul, Int.natCast_mul] at h5
  have md := step_md (a := y.1 * x.2) (b := x.1 * y.2) p2 p4
  have h4 := t4 (p := step (y.1 * x.2) (x.1 * y.2)) (q := f) (by have := md.1; omega) (by have := md.2; omega) (by have := hf.1; omega) (by have := hf.2; omega)
  have q1 := mul_ok (m := y.1) (n := x.2) (by have := hy.2.1; omega) (by have := hx.2.2.2; omega)
  have q2 := mul_ok (m := x.1) (n := y.2) (by have := hx.2.1; omega) (by have := hy.2.2.2; omega)
  generalize step (y.1 * x.2) (x.1 * y.2) = st at h5 h4 md
  refine run_cons (env1 := [.d L, .d (pr f), .d (.int x.1), .d (.int x.2), .d (.int y.1), .d (.int y.2), .d (pr st)]) ?_ ?_
  · rcases he with rfl | ⟨_, rfl⟩ <;> simp [walkOf, evSs, evS, ev, evE, evT, evE_eq, evT_eq, evEs, evO, evC, evI, E2.of, do2, do1, doCall, doBlt, doInt, doSl, doSeq, doIte, doNot, doAnd, doOr, toNot, toAnd, toOr, doCol, doItN, doIt1, doRange, Res.bind, doVar, R.get, ofO, ixRO, ixD, L2.atI, L2.ixN, RO.toR, binD, bltD, cmpD, isNonD, ioOf, argCell, callF, preArgs, frz, frzs, gets, ioIdx, toArgs, setObs, noOwn, asgRs, asgR, asgD, asgDs, Fx.cellOf, truD, tyD, obAt, Cell.ob, Ob.toD, putOb, setD, itemsOf, g6_5, m5, d5, q1, q2, h5]
  · cases hab : above st f with
    | true =>
      rw [hab] at h4
      exact run_cons (if_true (env1 := [.d L, .d (pr f), .d (.int x.1), .d (.int x.2), .d (.int y.1), .d (.int y.2), .d (pr st)]) (by simp [walkOf, evSs, evS, ev, evE, evT, evE_eq, evT_eq, evEs, evO, evC, evI, E2.of, do2, do1, doCall, doBlt, doInt, doSl, doSeq, doIte, doNot, doAnd, doOr, toNot, toAnd, toOr, doCol, doItN, doIt1, doRange, Res.bind, doVar, R.get, ofO, ixRO, ixD, L2.atI, L2.ixN, RO.toR, binD, bltD, cmpD, isNonD, ioOf, argCell, callF, preArgs, frz, frzs, gets, ioIdx, toArgs, setObs, noOwn, asgRs, asgR, asgD, asgDs, Fx.cellOf, truD, tyD, obAt, Cell.ob, Ob.toD, putOb, setD, itemsOf, g6_4, m4, d4, h4]) (run_cons (by simp [walkOf, evSs, evS, ev, evE, evT, evE_eq, evT_eq, evEs, evO, evC, evI, E2.of, do2, do1, doCall, doBlt, doInt, doSl, doSeq, doIte, doNot, doAnd, doOr, toNot, toAnd, toOr, doCol, doItN, doIt1, doRange, Res.bind, doVar, R.get, ofO, ixRO, ixD, L2.atI, L2.ixN, RO.toR, binD, bltD, cmpD, isNonD, ioOf, argCell, callF, preArgs, frz, frzs, gets, ioIdx, toArgs, setObs, noOwn, asgRs, asgR, asgD, asgDs, Fx.cellOf, truD, tyD, obAt, Cell.ob, Ob.toD, putOb, setD, itemsOf]) run_nil)) run_nil
    | false =>
      rw [hab] at h4
      exact run_cons (if_false (env1 := [.d L, .d (pr f), .d (.int x.1), .d (.int x.2), .d (.int y.1), .d (.int y.2), .d (pr st)]) (by simp [walkOf, evSs, evS, ev, evE, evT, evE_eq, evT_eq, evEs, evO, evC, evI, E2.of, do2, do1, doCall, doBlt, doInt, doSl, doSeq, doIte, doNot, doAnd, doOr, toNot, toAnd, toOr, doCol, doItN, doIt1, doRange, Res.bind, doVar, R.get, ofO, ixRO, ixD, L2.atI, L2.ixN, RO.toR, binD, bltD, cmpD, isNonD, ioOf, argCell, callF, preArgs, frz, frzs, gets, ioIdx, toArgs, setObs, noOwn, asgRs, asgR, asgD, asgDs, Fx.cellOf, truD, tyD, obAt, Cell.ob, Ob.toD, putOb, setD, itemsOf, g6_4, m4, d4, h4]) run_nil) run_nil
theorem body14 {L : D} {f : Nat × Nat} {e : Cell} {x y : Nat × Nat} (he : Free e) (hf : Md f) (hx : Sm x) (hy : Sm y) :
    evSs G14 y14 [.d L, .d (pr f), .d (.int x.1), .d (.int x.2), .d (.int y.1), .d (.int y.2), e] = .ok .next
      [.d L, .d (pr (if above (step (y.1 * x.2) (x.1 * y.2)) f then step (y.1 * x.2) (x.1 * y.2) else f)), .d (.int x.1), .d (.int x.2), .d (.int y.1), .d (.int y.2), .d (pr (step (y.1 * x.2) (x.1 * y.2)))] := by
  obtain ⟨p1, p2⟩ := prod_ok (m := y.1) (n := x.2) ⟨hy.1, hy.2.1⟩ ⟨hx.2.2.1, hx.2.2.2⟩
  obtain ⟨p3, p4⟩ := prod_ok (m := x.1) (n := y.2) ⟨hx.1, hx.2.1⟩ ⟨hy.2.2.1, hy.2.2.2⟩
  have h5 := t12 (a := y.1 * x.2) (b := x.1 * y.2) (by omega) (by omega) p1 p3
  rw [Int.natCast_mul, Int.natCast_mul] at h5
  have md := step_md (a := y.1 * x.2) (b := x.1 * y.2) p2 p4
  have h4 := t13 (p := step (y.1 * x.2) (x.1 * y.2)) (q := f) (by have := md.1; omega) (by have := md.2; omega) (by have := hf.1; omega) (by have := hf.2; omega)
  have q1 := mul_ok (m := y.1) (n := x.2) (by have := hy.2.1; omega) (by have := hx.2.2.2; omega)
  have q2 := mul_ok (m := x.1) (n := y.2) (by have := hx.2.1; omega) (by have := hy.2.2.2; omega)
  generalize step (y.1 * x.2) (x.1 * y.2) = st at h5 h4 md
  refine run_cons (env1 := [.d L, .d (pr f), .d (.int x.1), .d (.int x.2), .d (.int y.1), .d (.int y.2), .d (pr st)]) ?_ ?_
  · rcases he with rfl | ⟨_, rfl⟩ <;> simp [walkOf, evSs, evS, ev, evE, evT, evE_eq, evT_eq, evEs, evO, evC, evI, E2.of, do2, do1, doCall, doBlt, doInt, doSl, doSeq, doIte, doNot, doAnd, doOr, toNot, toAnd, toOr, doCol, doItN, doIt1, doRange, Res.bind, doVar, R.get, ofO, ixRO, ixD, L2.atI, L2.ixN, RO.toR, binD, bltD, cmpD, isNonD, ioOf, argCell, callF, preArgs, frz, frzs, gets, ioIdx, toArgs, setObs, noOwn, asgRs, asgR, asgD, asgDs, Fx.cellOf, truD, tyD, obAt, Cell.ob, Ob.toD, putOb, setD, itemsOf, g14_12, m12, d12, q1, q2, h5]
  · cases hab : above st f with
    | true =>
      rw [hab] at h4
      exact run_cons (if_true (env1 := [.d L, .d (pr f), .d (.int x.1), .d (.int x.2), .d (.int y.1), .d (.int y.2), .d (pr st)]) (by simp [walkOf, evSs, evS, ev, evE, evT, evE_eq, evT_eq, evEs, evO, evC, evI, E2.of, do2, do1, doCall, doBlt, doInt, doSl, doSeq, doIte, doNot, doAnd, doOr, toNot, toAnd, toOr, doCol, doItN, doIt1, doRange, Res.bind, doVar, R.get, ofO, ixRO, ixD, L2.atI, L2.ixN, RO.toR, binD, bltD, cmpD, isNonD, ioOf, argCell, callF, preArgs, frz, frzs, gets, ioIdx, toArgs, setObs, noOwn, asgRs, asgR, asgD, asgDs, Fx.cellOf, truD, tyD, obAt, Cell.ob, Ob.toD, putOb, setD, itemsOf, g14_13, m13, d13, h4]) (run_cons (by simp [walkOf, evSs, evS, ev, evE, evT, evE_eq, evT_eq, evEs, evO, evC, evI, E2.of, do2, do1, doCall, doBlt, doInt, doSl, doSeq, doIte, doNot, doAnd, doOr, toNot, toAnd, toOr, doCol, doItN, doIt1, doRange, Res.bind, doVar, R.get, ofO, ixRO, ixD, L2.atI, L2.ixN, RO.toR, binD, bltD, cmpD, isNonD, ioOf, argCell, callF, preArgs, frz, frzs, gets, ioIdx, toArgs, setObs, noOwn, asgRs, asgR, asgD, asgDs, Fx.cellOf, truD, tyD, obAt, Cell.ob, Ob.toD, putOb, setD, itemsOf]) run_nil)) run_nil
    | false =>
      rw [hab] at h4
      exact run_cons (if_false (env1 := [.d L, .d (pr f), .d (.int x.1), .d (.int x.2), .d (.int y.1), .d (.int y.2), .d (pr st)]) (by simp [walkOf, evSs, evS, ev, evE, evT, evE_eq, evT_eq, evEs, evO, evC, evI, E2.of, do2, do1, doCall, doBlt, doInt, doSl, doSeq, doIte, doNot, doAnd, doOr, toNot, toAnd, toOr, doCol, doItN, doIt1, doRange, Res.bind, doVar, R.get, ofO, ixRO, ixD, L2.atI, L2.ixN, RO.toR, binD, bltD, cmpD, isNonD, ioOf, argCell, callF, preArgs, frz, frzs, gets, ioIdx, toArgs, setObs, noOwn, asgRs, asgR, asgD, asgDs, Fx.cellOf, truD, tyD, obAt, Cell.ob, Ob.toD, putOb, setD, itemsOf, g14_13, m13, d13, h4]) run_nil) run_nil
theorem loop6 {L : D} (body : Cells → Res Fl)
    (hb : ∀ {f : Nat × Nat} {e : Cell} {x y : Nat × Nat}, Free e → Md f → Sm x → Sm y → body [.d L, .d (pr f), .d (.int x.1), .d (.int x.2), .d (.int y.1), .d (.int y.2), e] = .ok .next
      [.d L, .d (pr (if above (step (y.1 * x.2) (x.1 * y.2)) f then step (y.1 * x.2) (x.1 * y.2) else f)), .d (.int x.1), .d (.int x.2), .d (.int y.1), .d (.int y.2), .d (pr (step (y.1 * x.2) (x.1 * y.2)))]) :
    ∀ (rows : List (Nat × Nat)) (f : Nat × Nat) (a b c d e : Cell), Free a → Free b → Free c → Free d → Free e → (∀ p ∈ rows, Sm p) → Md f →
      Md (great f rows) ∧ ∃ a' b' c' d' e', forRun tg6 body (zipL (rows.map pr) ((rows.drop 1).map pr)) [.d L, .d (pr f), a, b, c, d, e] = .ok .next [.d L, .d (pr (great f rows)), a', b', c', d', e']
  | [], f, a, b, c, d, e, _, _, _, _, _, _, hf => ⟨hf, a, b, c, d, e, rfl⟩
  | [x], f, a, b, c, d, e, _, _, _, _, _, _, hf => ⟨hf, a, b, c, d, e, rfl⟩
  | x :: y :: r, f, a, b, c, d, e, ha, hb', hc, hd, he, hs, hf => by
    have hx := hs x (by simp)
    have hy := hs y (by simp)
    have md : Md (if above (step (y.1 * x.2) (x.1 * y.2)) f then step (y.1 * x.2) (x.1 * y.2) else f) := by
      split
      · obtain ⟨_, p2⟩ := prod_ok (m := y.1) (n := x.2) ⟨hy.1, hy.2.1⟩ ⟨hx.2.2.1, hx.2.2.2⟩
        obtain ⟨_, p4⟩ := prod_ok (m := x.1) (n := y.2) ⟨hx.1, hx.2.1⟩ ⟨hy.2.2.1, hy.2.2.2⟩
        exact step_md p2 p4
      · exact hf
    obtain ⟨m2, a', b', c', d', e', ih⟩ := loop6 body hb (y :: r) _ (.d (.int x.1)) (.d (.int x.2)) (.d (.int y.1)) (.d (.int y.2)) (.d (pr (step (y.1 * x.2) (x.1 * y.2)))) .d .d .d .d .d (fun p hp => hs p (List.mem_cons_of_mem _ hp)) md
    exact ⟨m2, a', b', c', d', e', for_cons (tg_ok x y ha hb' hc hd) (hb he hf hx hy) ih⟩
theorem cut1 {α : Type} (xs : List α) : cutG xs (some 1) none = xs.drop 1 := by
  unfold cutG
  rw [show HT.sIx xs.length 0 (some 1) = min 1 xs.length from HT.sIx_nat xs.length 0 1, HT.sIx_none]
  cases xs with
  | nil => rfl
  | cons x r =>
    rw [show min 1 (x :: r).length = 1 by rw [List.length_cons]; omega]
    exact List.take_of_length_le (by simp)
/-- greatest_step -/
theorem t6 {rows : List (Nat × Nat)} (hs : ∀ p ∈ rows, Sm p) : runF G6 N6.length c6 [.d (.lst (rows.map pr))] = .ok (.d (pr (great (1, 1) rows))) [] := by
  obtain ⟨_, a', b', c', d', e', h⟩ := loop6 (L := .lst (rows.map pr)) (evSs G6 y6) body6 rows (1, 1) .none .none .none .none .none .n .n .n .n .n hs ⟨by decide, by decide⟩
  have e : evI G6 (.zip [(.var 0), (.sl (.var 0) (some (.cst (.int 1))) none)]) [.d (.lst (rows.map pr)), .d (pr (1, 1)), .none, .none, .none, .none, .none]
      = .ok (zipL (rows.map pr) ((rows.drop 1).map pr)) [.d (.lst (rows.map pr)), .d (pr (1, 1)), .none, .none, .none, .none, .none] := by
    simp [walkOf, evSs, evS, ev, evE, evT, evE_eq, evT_eq, evEs, evO, evC, evI, E2.of, do2, do1, doCall, doBlt, doInt, doSl, doSeq, doIte, doNot, doAnd, doOr, toNot, toAnd, toOr, doCol, doItN, doIt1, doRange, Res.bind, doVar, R.get, ofO, ixRO, ixD, L2.atI, L2.ixN, RO.toR, binD, bltD, cmpD, isNonD, ioOf, argCell, callF, preArgs, frz, frzs, gets, ioIdx, toArgs, setObs, noOwn, asgRs, asgR, asgD, asgDs, Fx.cellOf, truD, tyD, obAt, Cell.ob, Ob.toD, putOb, setD, itemsOf, slD, cut1, zipD]
  exact runF_of (env := [.d (.lst (rows.map pr)), .d (pr (great (1, 1) rows)), a', b', c', d', e']) (fl := .ret (.d (pr (great (1, 1) rows))))
    (run_cons (env1 := [.d (.lst (rows.map pr)), .d (pr (1, 1)), .none, .none, .none, .none, .none]) (by simp [walkOf, evSs, evS, ev, evE, evT, evE_eq, evT_eq, evEs, evO, evC, evI, E2.of, do2, do1, doCall, doBlt, doInt, doSl, doSeq, doIte, doNot, doAnd, doOr, toNot, toAnd, toOr, doCol, doItN, doIt1, doRange, Res.bind, doVar, R.get, ofO, ixRO, ixD, L2.atI, L2.ixN, RO.toR, binD, bltD, cmpD, isNonD, ioOf, argCell, callF, preArgs, frz, frzs, gets, ioIdx, toArgs, setObs, noOwn, asgRs, asgR, asgD, asgDs, Fx.cellOf, truD, tyD, obAt, Cell.ob, Ob.toD, putOb, setD, itemsOf, N6, pr, lim]) (run_cons ((for_eq e).trans h) (run_ret (by simp [walkOf, evSs, evS, ev, evE, evT, evE_eq, evT_eq, evEs, evO, evC, evI, E2.of, do2, do1, doCall, doBlt, doInt, doSl, doSeq, doIte, doNot, doAnd, doOr, toNot, toAnd, toOr, doCol, doItN, doIt1, doRange, Res.bind, doVar, R.get, ofO, ixRO, ixD, L2.atI, L2.ixN, RO.toR, binD, bltD, cmpD, isNonD, ioOf, argCell, callF, preArgs, frz, frzs, gets, ioIdx, toArgs, setObs, noOwn, asgRs, asgR, asgD, asgDs, Fx.cellOf, truD, tyD, obAt, Cell.ob, Ob.toD, putOb, setD, itemsOf])))) rfl rfl rfl
theorem t14 {rows : List (Nat × Nat)} (hs : ∀ p ∈ rows, Sm p) : runF G14 N14.length c14 [.d (.lst (rows.map pr))] = .ok (.d (pr (great (1, 1) rows))) [] := by
  obtain ⟨_, a', b', c', d', e', h⟩ := loop6 (L := .lst (rows.map pr)) (evSs G14 y14) body14 rows (1, 1) .none .none .none .none .none .n .n .n .n .n hs ⟨by decide, by decide⟩
  have e : evI G14 (.zip [(.var 0), (.sl (.var 0) (some (.cst (.int 1))) none)]) [.d (.lst (rows.map pr)), .d (pr (1, 1)), .none, .none, .none, .none, .none]
      = .ok (zipL (rows.map pr) ((rows.drop 1).map pr)) [.d (.lst (rows.map pr)), .d (pr (1, 1)), .none, .none, .none, .none, .none] := by
    simp [walkOf, evSs, evS, ev, evE, evT, evE_eq, evT_eq, evEs, evO, evC, evI, E2.of, do2, do1, doCall, doBlt, doInt, doSl, doSeq, doIte, doNot, doAnd, doOr, toNot, toAnd, toOr, doCol, doItN, doIt1, doRange, Res.bind, doVar, R.get, ofO, ixRO, ixD, L2.atI, L2.ixN, RO.toR, binD, bltD, cmpD, isNonD, ioOf, argCell, callF, preArgs, frz, frzs, gets, ioIdx, toArgs, setObs, noOwn, asgRs, asgR, asgD, asgDs, Fx.cellOf, truD, tyD, obAt, Cell.ob, Ob.toD, putOb, setD, itemsOf, slD, cut1, zipD]
  exact runF_of (env := [.d (.lst (rows.map pr)), .d (pr (great (1, 1) rows)), a', b', c', d', e']) (fl := .ret (.d (pr (great (1, 1) rows))))
    (run_cons (env1 := [.d (.lst (rows.map pr)), .d (pr (1, 1)), .none, .none, .none, .none, .none]) (by simp [walkOf, evSs, evS, ev, evE, evT, evE_eq, evT_eq, evEs, evO, evC, evI, E2.of, do2, do1, doCall, doBlt, doInt, doSl, doSeq, doIte, doNot, doAnd, doOr, toNot, toAnd, toOr, doCol, doItN, doIt1, doRange, Res.bind, doVar, R.get, ofO, ixRO, ixD, L2.atI, L2.ixN, RO.toR, binD, bltD, cmpD, isNonD, ioOf, argCell, callF, preArgs, frz, frzs, gets, ioIdx, toArgs, setObs, noOwn, asgRs, asgR, asgD, asgDs, Fx.cellOf, truD, tyD, obAt, Cell.ob, Ob.toD, putOb, setD, itemsOf, N14, pr, lim]) (run_cons ((for_eq e).trans h) (run_ret (by simp [walkOf, evSs, evS, ev, evE, evT, evE_eq, evT_eq, evEs, evO, evC, evI, E2.of, do2, do1, doCall, doBlt, doInt, doSl, doSeq, doIte, doNot, doAnd, doOr, toNot, toAnd, toOr, doCol, doItN, doIt1, doRange, Res.bind, doVar, R.get, ofO, ixRO, ixD, L2.atI, L2.ixN, RO.toR, binD, bltD, cmpD, isNonD, ioOf, argCell, callF, preArgs, frz, frzs, gets, ioIdx, toArgs, setObs, noOwn, asgRs, asgR, asgD, asgDs, Fx.cellOf, truD, tyD, obAt, Cell.ob, Ob.toD, putOb, setD, itemsOf])))) rfl rfl rfl
theorem great_md {rows : List (Nat × Nat)} (hs : ∀ p ∈ rows, Sm p) : Md (great (1, 1) rows) :=
  (loop6 (L := .lst (rows.map pr)) (evSs G6 y6) body6 rows (1, 1) .none .none .none .none .none .n .n .n .n .n hs ⟨by decide, by decide⟩).1
end K28

set_option Elab.async false
set_option linter.all false
set_option maxRecDepth 100000
set_option maxHeartbeats 2000000
namespace K28
open PySem Fx
/-- a row as data -/
def wd (n : Nat) : D := .int n
def L (a : List Nat) : D := .lst (a.map wd)
def Row (a : List Nat) : Prop := 1 ≤ a.length ∧ a.length ≤ 2000 ∧ ∀ n ∈ a, 1 ≤ n ∧ n ≤ 4
theorem t0 {n : Nat} (h1 : 1 ≤ n) (h2 : n ≤ 4) : runF G0 N0.length c0 [.d (wd n), .d (.int 1), .d (.int 4)] = .ok (.d (.bl true)) [] := by
  have e1 : decide ((1 : Int) ≤ (n : Int)) = true := by simp; omega
  have e2 : decide ((n : Int) ≤ (4 : Int)) = true := by simp; omega
  have g1 : (1 : Int) ≤ (n : Int) := by omega
  have g2 : (n : Int) ≤ 4 := by omega
  unfold runF
  simp [walkOf, evSs, evS, ev, evE, evT, evE_eq, evT_eq, evEs, evO, evC, evI, E2.of, do2, do1, doCall, doBlt, doInt, doSl, doSeq, doIte, doNot, doAnd, doOr, toNot, toAnd, toOr, doCol, doItN, doIt1, doRange, Res.bind, doVar, R.get, ofO, ixRO, ixD, L2.atI, L2.ixN, RO.toR, binD, bltD, cmpD, isNonD, ioOf, argCell, callF, preArgs, frz, frzs, gets, ioIdx, toArgs, setObs, noOwn, asgRs, asgR, asgD, asgDs, Fx.cellOf, truD, tyD, obAt, Cell.ob, Ob.toD, putOb, setD, itemsOf, c0, N0, wd, h1, g1, g2]
theorem g3_0 : G3[0]? = some ⟨m0, d0, runF G0 N0.length c0⟩ := rfl
abbrev el3 : CE := .call 0 [(.var 1), (.cst (.int 1)), (.cst (.int 4))]
theorem el_ok {Z : D} {n : Nat} (h1 : 1 ≤ n) (h2 : n ≤ 4) : (ev G3 el3).v [.d Z, .d (wd n)] = .ok (.d (.bl true)) [.d Z, .d (wd n)] := by
  have h := t0 h1 h2
  simp only [wd] at h
  simp [walkOf, evSs, evS, ev, evE, evT, evE_eq, evT_eq, evEs, evO, evC, evI, E2.of, do2, do1, doCall, doBlt, doInt, doSl, doSeq, doIte, doNot, doAnd, doOr, toNot, toAnd, toOr, doCol, doItN, doIt1, doRange, Res.bind, doVar, R.get, ofO, ixRO, ixD, L2.atI, L2.ixN, RO.toR, binD, bltD, cmpD, isNonD, ioOf, argCell, callF, preArgs, frz, frzs, gets, ioIdx, toArgs, setObs, noOwn, asgRs, asgR, asgD, asgDs, Fx.cellOf, truD, tyD, obAt, Cell.ob, Ob.toD, putOb, setD, itemsOf, g3_0, m0, d0, wd, h]
theorem all3 {Z : D} : ∀ (a : List Nat) (acc : List D) (c : Cell), Free c → (∀ n ∈ a, 1 ≤ n ∧ n ≤ 4) → acc.length + a.length ≤ 2000 →
    ∃ c', Free c' ∧ lcRun [1] (.nm 1) (evC G3 none) (ev G3 el3).v (a.map wd) acc [.d Z, c] = .ok (acc ++ List.replicate a.length (.bl true)) [.d Z, c']
  | [], acc, c, hc, _, _ => ⟨c, hc, by simp [lcRun]⟩
  | n :: a, acc, c, hc, hs, hl => by
    obtain ⟨h1, h2⟩ := hs n (by simp)
    obtain ⟨c', hc', ih⟩ := all3 a (acc ++ [.bl true]) (.d (wd n)) .d (fun m hm => hs m (List.mem_cons_of_mem _ hm)) (by simp at hl ⊢; omega)
    refine ⟨c', hc', ?_⟩
    have hlim : acc.length < lim := by
      have : lim = 1000000 := rfl
      simp at hl
      omega
    have e : asgD (.nm 1) (wd n) (wipeC [.d Z, c] [1]) = some [.d Z, .d (wd n)] := by
      rcases hc with rfl | ⟨_, rfl⟩ <;> simp [wipeC, asgD]
    rw [List.map_cons, lcRun, e]
    have ec : evC G3 none [.d Z, .d (wd n)] = .ok true [.d Z, .d (wd n)] := by rw [evC]
    simp only [ec, Res.bind, el_ok h1 h2, frz, _root_.if_true]
    rw [if_pos ⟨hlim, by simp [isOb, obAt, Cell.ob]⟩, ih]
    simp [List.replicate_succ]
theorem bls_rep : ∀ n : Nat, asBls (List.replicate n (D.bl true)) = some (List.replicate n true)
  | 0 => rfl
  | n + 1 => by rw [List.replicate_succ, asBls, bls_rep n]; rfl
theorem all_rep (n : Nat) : (List.replicate n true).all id = true := by
  rw [List.all_replicate]; simp
/-- require_row -/
theorem t3 {a : List Nat} (h : Row a) : runF G3 N3.length c3 [.d (L a)] = .ok (.d .non) [] := by
  obtain ⟨h1, h2, h3⟩ := h
  obtain ⟨c', hc', hl⟩ := all3 (Z := L a) a [] .none .n h3 (by simpa using h2)
  have g1 : (1 : Int) ≤ ((a.length : Nat) : Int) := by omega
  have g2 : ((a.length : Nat) : Int) ≤ 2000 := by omega
  have e2 : evS G3 (.ifs (.not (.blt .all [(.lc el3 (.nm 1) (.e (.var 0)) none [1])])) [.never] []) [.d (L a), .none] = .ok .next [.d (L a), .none] := by
    refine if_false (env1 := [.d (L a), .none]) ?_ run_nil
    have e : (ev G3 (.lc el3 (.nm 1) (.e (.var 0)) none [1])).v [.d (L a), .none] = .ok (.new (.lst (List.replicate a.length (.bl true)))) [.d (L a), .none] := by
      rw [ev, of_v]
      unfold doLc
      have ei : evI G3 (.e (.var 0)) [.d (L a), .none] = .ok (a.map wd) [.d (L a), .none] := by simp [walkOf, evSs, evS, ev, evE, evT, evE_eq, evT_eq, evEs, evO, evC, evI, E2.of, do2, do1, doCall, doBlt, doInt, doSl, doSeq, doIte, doNot, doAnd, doOr, toNot, toAnd, toOr, doCol, doItN, doIt1, doRange, Res.bind, doVar, R.get, ofO, ixRO, ixD, L2.atI, L2.ixN, RO.toR, binD, bltD, cmpD, isNonD, ioOf, argCell, callF, preArgs, frz, frzs, gets, ioIdx, toArgs, setObs, noOwn, asgRs, asgR, asgD, asgDs, Fx.cellOf, truD, tyD, obAt, Cell.ob, Ob.toD, putOb, setD, itemsOf, L]
      rw [ei]
      simp only [Res.bind]
      rw [if_neg (by simp [isOb, obAt, Cell.ob]), hl]
      simp [Res.bind, restC]
    have e3 : (ev G3 (.blt .all [(.lc el3 (.nm 1) (.e (.var 0)) none [1])])).t [.d (L a), .none] = .ok true [.d (L a), .none] := by
      rw [ev, of_t]
      unfold doBlt
      rw [evEs, e]
      simp only [Res.bind, evEs, gets, R.get, Ob.toD, bltD, bls_rep, Option.map, all_rep, RO.toR, ofO, truD]
    have e4 : ev G3 (.not (.blt .all [(.lc el3 (.nm 1) (.e (.var 0)) none [1])])) = ⟨doNot (ev G3 (.blt .all [(.lc el3 (.nm 1) (.e (.var 0)) none [1])])).v, toNot (ev G3 (.blt .all [(.lc el3 (.nm 1) (.e (.var 0)) none [1])])).t⟩ := by rw [ev]
    rw [e4]
    show toNot _ _ = _
    unfold toNot
    rw [e3]
    rfl
  refine runF_of (env := [.d (L a), .none]) (fl := .next) (run_cons (env1 := [.d (L a), .none]) (if_false (env1 := [.d (L a), .none]) ?_ run_nil) (run_cons e2 run_nil)) rfl rfl rfl
  simp [walkOf, evSs, evS, ev, evE, evT, evE_eq, evT_eq, evEs, evO, evC, evI, E2.of, do2, do1, doCall, doBlt, doInt, doSl, doSeq, doIte, doNot, doAnd, doOr, toNot, toAnd, toOr, doCol, doItN, doIt1, doRange, Res.bind, doVar, R.get, ofO, ixRO, ixD, L2.atI, L2.ixN, RO.toR, binD, bltD, cmpD, isNonD, ioOf, argCell, callF, preArgs, frz, frzs, gets, ioIdx, toArgs, setObs, noOwn, asgRs, asgR, asgD, asgDs, Fx.cellOf, truD, tyD, obAt, Cell.ob, Ob.toD, putOb, setD, itemsOf, N3, L, doChain, g1, g2]
theorem zip_pr : ∀ (a b : List Nat), zipL (a.map wd) (b.map wd) = (a.zip b).map pr
  | [], b => by cases b <;> rfl
  | x :: a, [] => rfl
  | x :: a, y :: b => by
    simp only [List.map_cons, zipL, List.zip_cons_cons, zip_pr a b]
    rfl
theorem zip_sm {a b : List Nat} (ha : ∀ n ∈ a, 1 ≤ n ∧ n ≤ 4) (hb : ∀ n ∈ b, 1 ≤ n ∧ n ≤ 4) : ∀ p ∈ a.zip b, Sm p := by
  rintro ⟨x, y⟩ hp
  obtain ⟨h1, h2⟩ := List.of_mem_zip hp
  exact ⟨(ha x h1).1, (ha x h1).2, (hb y h2).1, (hb y h2).2⟩
def con (a b : List Nat) : Nat × Nat := great (1, 1) (a.zip b)
theorem g7_6 : G7[6]? = some ⟨m6, d6, runF G6 N6.length c6⟩ := rfl
theorem colz {Γ : FT} {i j : CE} {env : Cells} {a b : List Nat} (hi : (ev Γ i).v env = .ok (.d (L a)) env) (hj : (ev Γ j).v env = .ok (.d (L b)) env) (hl : a.length ≤ 2000) :
    (ev Γ (.col [i, j])).v env = .ok (.new (.lst ((a.zip b).map pr))) env := by
  have e : ev Γ (.col [i, j]) = .of (doCol (doItN zipD2 (evEs Γ [i, j]))) := by rw [ev]
  rw [e, of_v]
  have hlen : ((a.zip b).map pr).length ≤ lim := by
    have : lim = 1000000 := rfl
    rw [List.length_map, List.length_zip]
    omega
  unfold doCol doItN
  rw [evEs, hi]
  simp only [Res.bind]
  rw [evEs, hj]
  simp only [Res.bind, evEs, frzs, frz, L, zipD2, zip_pr, ofO]
  rw [if_pos hlen]
/-- contrast_of -/
theorem t7 {a b : List Nat} (ha : Row a) (hb : Row b) (hl : a.length = b.length) : runF G7 N7.length c7 [.d (L a), .d (L b)] = .ok (.d (pr (con a b))) [] := by
  have h := t6 (zip_sm ha.2.2 hb.2.2)
  have ez := colz (Γ := G7) (a := a) (b := b) (i := .var 0) (j := .var 1) (env := [.d (L a), .d (L b)]) (by simp [walkOf, evSs, evS, ev, evE, evT, evE_eq, evT_eq, evEs, evO, evC, evI, E2.of, do2, do1, doCall, doBlt, doInt, doSl, doSeq, doIte, doNot, doAnd, doOr, toNot, toAnd, toOr, doCol, doItN, doIt1, doRange, Res.bind, doVar, R.get, ofO, ixRO, ixD, L2.atI, L2.ixN, RO.toR, binD, bltD, cmpD, isNonD, ioOf, argCell, callF, preArgs, frz, frzs, gets, ioIdx, toArgs, setObs, noOwn, asgRs, asgR, asgD, asgDs, Fx.cellOf, truD, tyD, obAt, Cell.ob, Ob.toD, putOb, setD, itemsOf]) (by simp [walkOf, evSs, evS, ev, evE, evT, evE_eq, evT_eq, evEs, evO, evC, evI, E2.of, do2, do1, doCall, doBlt, doInt, doSl, doSeq, doIte, doNot, doAnd, doOr, toNot, toAnd, toOr, doCol, doItN, doIt1, doRange, Res.bind, doVar, R.get, ofO, ixRO, ixD, L2.atI, L2.ixN, RO.toR, binD, bltD, cmpD, isNonD, ioOf, argCell, callF, preArgs, frz, frzs, gets, ioIdx, toArgs, setObs, noOwn, asgRs, asgR, asgD, asgDs, Fx.cellOf, truD, tyD, obAt, Cell.ob, Ob.toD, putOb, setD, itemsOf]) ha.2.1
  refine runF_of (env := [.d (L a), .d (L b)]) (fl := .ret (.d (pr (con a b)))) (run_ret (ret_eq ?_)) rfl rfl rfl
  rw [ite_ev, of_v]
  have ec : (ev G7 (.cmp .eq (.blt .len [(.var 0)]) (.blt .len [(.var 1)]))).t ([Arg.d (L a), Arg.d (L b)].map argCell ++ List.replicate (N7.length - [Arg.d (L a), Arg.d (L b)].length) .none) = .ok true [.d (L a), .d (L b)] := by
    simp [walkOf, evSs, evS, ev, evE, evT, evE_eq, evT_eq, evEs, evO, evC, evI, E2.of, do2, do1, doCall, doBlt, doInt, doSl, doSeq, doIte, doNot, doAnd, doOr, toNot, toAnd, toOr, doCol, doItN, doIt1, doRange, Res.bind, doVar, R.get, ofO, ixRO, ixD, L2.atI, L2.ixN, RO.toR, binD, bltD, cmpD, isNonD, ioOf, argCell, callF, preArgs, frz, frzs, gets, ioIdx, toArgs, setObs, noOwn, asgRs, asgR, asgD, asgDs, Fx.cellOf, truD, tyD, obAt, Cell.ob, Ob.toD, putOb, setD, itemsOf, N7, L, hl, flatD, eqD]
  unfold doIte
  rw [ec]
  show (ev G7 (.call 6 [(.col [(.var 0), (.var 1)])])).v [.d (L a), .d (L b)] = _
  have ee : ev G7 (.call 6 [(.col [(.var 0), (.var 1)])]) = .of (doCall G7 6 (evEs G7 [(.col [(.var 0), (.var 1)])])) := by rw [ev]
  rw [ee, of_v]
  unfold doCall
  rw [evEs, ez]
  simp only [Res.bind, evEs]
  unfold callF
  simp only [g7_6, m6, d6, List.drop_nil, List.map_nil, List.append_nil, preArgs, frz, Ob.toD, ioIdx, List.nodup_nil, _root_.if_true, toArgs, h, setObs, RO.toR]
  rfl
theorem g8_3 : G8[3]? = some ⟨m3, d3, runF G3 N3.length c3⟩ := rfl
theorem g8_7 : G8[7]? = some ⟨m7, d7, runF G7 N7.length c7⟩ := rfl
/-- contrast -/
theorem t8 {a b : List Nat} (ha : Row a) (hb : Row b) (hl : a.length = b.length) : runF G8 N8.length c8 [.d (L a), .d (L b)] = .ok (.d (pr (con a b))) [] := by
  have h1 := t3 ha
  have h2 := t3 hb
  have h3 := t7 ha hb hl
  refine runF_of (env := [.d (L a), .d (L b)]) (fl := .ret (.d (pr (con a b)))) (run_cons (env1 := [.d (L a), .d (L b)]) ?_ (run_cons (env1 := [.d (L a), .d (L b)]) ?_
    (run_cons (env1 := [.d (L a), .d (L b)]) (if_false (env1 := [.d (L a), .d (L b)]) ?_ run_nil) (run_ret (ret_eq ?_))))) rfl rfl rfl
  · simp [walkOf, evSs, evS, ev, evE, evT, evE_eq, evT_eq, evEs, evO, evC, evI, E2.of, do2, do1, doCall, doBlt, doInt, doSl, doSeq, doIte, doNot, doAnd, doOr, toNot, toAnd, toOr, doCol, doItN, doIt1, doRange, Res.bind, doVar, R.get, ofO, ixRO, ixD, L2.atI, L2.ixN, RO.toR, binD, bltD, cmpD, isNonD, ioOf, argCell, callF, preArgs, frz, frzs, gets, ioIdx, toArgs, setObs, noOwn, asgRs, asgR, asgD, asgDs, Fx.cellOf, truD, tyD, obAt, Cell.ob, Ob.toD, putOb, setD, itemsOf, N8, g8_3, m3, d3, h1]
  · simp [walkOf, evSs, evS, ev, evE, evT, evE_eq, evT_eq, evEs, evO, evC, evI, E2.of, do2, do1, doCall, doBlt, doInt, doSl, doSeq, doIte, doNot, doAnd, doOr, toNot, toAnd, toOr, doCol, doItN, doIt1, doRange, Res.bind, doVar, R.get, ofO, ixRO, ixD, L2.atI, L2.ixN, RO.toR, binD, bltD, cmpD, isNonD, ioOf, argCell, callF, preArgs, frz, frzs, gets, ioIdx, toArgs, setObs, noOwn, asgRs, asgR, asgD, asgDs, Fx.cellOf, truD, tyD, obAt, Cell.ob, Ob.toD, putOb, setD, itemsOf, g8_3, m3, d3, h2]
  · simp [walkOf, evSs, evS, ev, evE, evT, evE_eq, evT_eq, evEs, evO, evC, evI, E2.of, do2, do1, doCall, doBlt, doInt, doSl, doSeq, doIte, doNot, doAnd, doOr, toNot, toAnd, toOr, doCol, doItN, doIt1, doRange, Res.bind, doVar, R.get, ofO, ixRO, ixD, L2.atI, L2.ixN, RO.toR, binD, bltD, cmpD, isNonD, ioOf, argCell, callF, preArgs, frz, frzs, gets, ioIdx, toArgs, setObs, noOwn, asgRs, asgR, asgD, asgDs, Fx.cellOf, truD, tyD, obAt, Cell.ob, Ob.toD, putOb, setD, itemsOf, L, hl, flatD, eqD]
  · simp [walkOf, evSs, evS, ev, evE, evT, evE_eq, evT_eq, evEs, evO, evC, evI, E2.of, do2, do1, doCall, doBlt, doInt, doSl, doSeq, doIte, doNot, doAnd, doOr, toNot, toAnd, toOr, doCol, doItN, doIt1, doRange, Res.bind, doVar, R.get, ofO, ixRO, ixD, L2.atI, L2.ixN, RO.toR, binD, bltD, cmpD, isNonD, ioOf, argCell, callF, preArgs, frz, frzs, gets, ioIdx, toArgs, setObs, noOwn, asgRs, asgR, asgD, asgDs, Fx.cellOf, truD, tyD, obAt, Cell.ob, Ob.toD, putOb, setD, itemsOf, g8_7, m7, d7, h3]
end K28

set_option Elab.async false
set_option linter.all false
set_option maxRecDepth 100000
set_option maxHeartbeats 4000000
namespace K28
open PySem Fx
theorem bits_int {x : Int} {n : Nat} (h0 : 0 ≤ x) (h : x < 2 ^ n) : bits x ≤ n := by
  obtain ⟨k, rfl⟩ := Int.eq_ofNat_of_zero_le h0
  exact bits_le (by exact_mod_cast h)
/-- the law's own reel -/
def Rl (a m k : Int) : Ob := .lst [.int a, .int m, .int k]
def Mx (m : Int) : Prop := 0 ≤ m ∧ m < 10 ^ 42 + 17
theorem mx_mod (x : Int) : Mx (x % (10 ^ 42 + 17)) := ⟨Int.emod_nonneg _ (by decide), Int.emod_lt_of_pos _ (by decide)⟩
theorem mx_bits {m : Int} (h : Mx m) : bits m ≤ 140 := bits_int h.1 (Int.lt_of_lt_of_le h.2 (by decide))
theorem lim_eq : lim = 1000000 := rfl
theorem bt10 : bits 10 = 3 := by decide
abbrev tg9 : Tg := .tup [(.nm 4), (.nm 5)]
abbrev y9 : List CS := [(.asg (.nm 3) (.bin .mod (.blt .int [(.bin .add (.bin .add (.bin .mul (.var 3) (.cst (.int 9650131))) (.bin .mod (.blt .int [(.var 5)]) (.bin .add (.bin .pow (.cst (.int 10)) (.cst (.int 42))) (.cst (.int 63))))) (.var 4))]) (.bin .add (.bin .pow (.cst (.int 10)) (.cst (.int 42))) (.cst (.int 17)))))]
theorem body9 {S I C : D} {m i x : Int} (hm : Mx m) : ∃ m', Mx m' ∧ evSs G9 y9 [.d S, .d I, .d C, .d (.int m), .d (.int i), .d (.int x)] = .ok .next [.d S, .d I, .d C, .d (.int m'), .d (.int i), .d (.int x)] := by
  have h1 : bits m + bits 9650131 ≤ lim := by
    have := mx_bits hm
    have : bits 9650131 ≤ 30 := by decide
    rw [lim_eq]; omega
  have h2 : (bits 10 + 1) * 42 ≤ lim := by rw [bt10, lim_eq]; decide
  refine ⟨_, mx_mod (m * 9650131 + x % (10 ^ 42 + 63) + i), run_cons ?_ run_nil⟩
  simp [walkOf, evSs, evS, ev, evE, evT, evE_eq, evT_eq, evEs, evO, evC, evI, E2.of, do2, do1, doCall, doBlt, doInt, doSl, doSeq, doIte, doNot, doAnd, doOr, toNot, toAnd, toOr, doCol, doItN, doIt1, doRange, Res.bind, doVar, R.get, ofO, ixRO, ixD, L2.atI, L2.ixN, RO.toR, binD, bltD, cmpD, isNonD, ioOf, argCell, callF, preArgs, frz, frzs, gets, ioIdx, toArgs, setObs, noOwn, asgRs, asgR, asgD, asgDs, Fx.cellOf, truD, tyD, obAt, Cell.ob, Ob.toD, putOb, setD, itemsOf, h1, h2]
theorem loop9 {S I C : D} : ∀ (xs : List Int) (n : Nat) (m : Int) (c d : Cell), Free c → Free d → Mx m →
    ∃ m' c' d', Free c' ∧ Free d' ∧ Mx m' ∧ forRun tg9 (evSs G9 y9) (enumL n (xs.map .int)) [.d S, .d I, .d C, .d (.int m), c, d] = .ok .next [.d S, .d I, .d C, .d (.int m'), c', d']
  | [], n, m, c, d, hc, hd, hm => ⟨m, c, d, hc, hd, hm, rfl⟩
  | x :: xs, n, m, c, d, hc, hd, hm => by
    obtain ⟨m1, h1, e1⟩ := body9 (S := S) (I := I) (C := C) (i := n) (x := x) hm
    obtain ⟨m', c', d', hc', hd', hm', ih⟩ := loop9 xs (n + 1) m1 (.d (.int n)) (.d (.int x)) .d .d h1
    refine ⟨m', c', d', hc', hd', hm', for_cons (env1 := [.d S, .d I, .d C, .d (.int m), .d (.int n), .d (.int x)]) ?_ e1 ih⟩
    rcases hc with rfl | ⟨_, rfl⟩ <;> rcases hd with rfl | ⟨_, rfl⟩ <;> simp [asgD, asgDs]
theorem cut9 (ns : List Int) : cutG (ns.map D.int) none (some 9) = (ns.take 9).map D.int := by
  unfold cutG
  rw [show HT.sIx (ns.map D.int).length (ns.map D.int).length (some 9) = min 9 (ns.map D.int).length from HT.sIx_nat _ _ 9, HT.sIx_none]
  simp only [List.drop_zero, Nat.sub_zero, List.length_map]
  rw [← List.map_take]
  congr 1
  rw [List.take_eq_take_iff]
  omega
theorem max0 (x : Int) : 0 ≤ if x > 0 then x else 0 := by split <;> omega
/-- _law_reel -/
theorem t9 {ns : List Int} {i : Nat} (hl : ns.length ≤ 63) (hi : i ≤ 100) : ∃ a m, 0 ≤ a ∧ Mx m ∧ runF G9 N9.length c9 [.d (.lst (ns.map .int)), .d (.int i)] = .ok (.new (Rl a m 0)) [] := by
  let S : D := .lst (ns.map .int)
  have hb7 : bits 7 + bits (i : Int) ≤ lim := by
    have := bits_le (n := i) (k := 10) (by omega)
    have : bits 7 ≤ 3 := by decide
    rw [lim_eq]; omega
  -- the cell
  obtain ⟨cl, e1⟩ : ∃ cl : Int, evS G9 (.par [(.nm 2), (.nm 3)] [(.ite (.cmp .lt (.var 1) (.blt .len [(.var 0)])) (.ix (.var 0) (.var 1)) (.cst (.int 0))), (.bin .add (.cst (.int 26459)) (.bin .mul (.cst (.int 7)) (.var 1)))])
      [.d S, .d (.int i), .none, .none, .none, .none] = .ok .next [.d S, .d (.int i), .d (.int cl), .d (.int (26459 + 7 * (i : Int))), .none, .none] := by
    by_cases h : i < ns.length
    · refine ⟨ns[i], ?_⟩
      have h' : ((i : Nat) : Int) < ((ns.length : Nat) : Int) := by exact_mod_cast h
      simp [walkOf, evSs, evS, ev, evE, evT, evE_eq, evT_eq, evEs, evO, evC, evI, E2.of, do2, do1, doCall, doBlt, doInt, doSl, doSeq, doIte, doNot, doAnd, doOr, toNot, toAnd, toOr, doCol, doItN, doIt1, doRange, Res.bind, doVar, R.get, ofO, ixRO, ixD, L2.atI, L2.ixN, RO.toR, binD, bltD, cmpD, isNonD, ioOf, argCell, callF, preArgs, frz, frzs, gets, ioIdx, toArgs, setObs, noOwn, asgRs, asgR, asgD, asgDs, Fx.cellOf, truD, tyD, obAt, Cell.ob, Ob.toD, putOb, setD, itemsOf, S, h', hb7, h]
    · refine ⟨0, ?_⟩
      have h' : ¬ ((i : Nat) : Int) < ((ns.length : Nat) : Int) := by exact_mod_cast h
      simp [walkOf, evSs, evS, ev, evE, evT, evE_eq, evT_eq, evEs, evO, evC, evI, E2.of, do2, do1, doCall, doBlt, doInt, doSl, doSeq, doIte, doNot, doAnd, doOr, toNot, toAnd, toOr, doCol, doItN, doIt1, doRange, Res.bind, doVar, R.get, ofO, ixRO, ixD, L2.atI, L2.ixN, RO.toR, binD, bltD, cmpD, isNonD, ioOf, argCell, callF, preArgs, frz, frzs, gets, ioIdx, toArgs, setObs, noOwn, asgRs, asgR, asgD, asgDs, Fx.cellOf, truD, tyD, obAt, Cell.ob, Ob.toD, putOb, setD, itemsOf, S, h', hb7]
  have hm0 : Mx (26459 + 7 * (i : Int)) := ⟨by omega, by have : (10 : Int) ^ 42 + 17 > 1000000 := by decide
                                                         omega⟩
  obtain ⟨m1, c', d', hc', hd', hm1, e2⟩ := loop9 (S := S) (I := .int i) (C := .int cl) (ns.take 9) 0 _ .none .none .n .n hm0
  have ei : evI G9 (.enum [(.sl (.var 0) none (some (.cst (.int 9))))]) [.d S, .d (.int i), .d (.int cl), .d (.int (26459 + 7 * (i : Int))), .none, .none]
      = .ok (enumL 0 ((ns.take 9).map .int)) [.d S, .d (.int i), .d (.int cl), .d (.int (26459 + 7 * (i : Int))), .none, .none] := by
    simp [walkOf, evSs, evS, ev, evE, evT, evE_eq, evT_eq, evEs, evO, evC, evI, E2.of, do2, do1, doCall, doBlt, doInt, doSl, doSeq, doIte, doNot, doAnd, doOr, toNot, toAnd, toOr, doCol, doItN, doIt1, doRange, Res.bind, doVar, R.get, ofO, ixRO, ixD, L2.atI, L2.ixN, RO.toR, binD, bltD, cmpD, isNonD, ioOf, argCell, callF, preArgs, frz, frzs, gets, ioIdx, toArgs, setObs, noOwn, asgRs, asgR, asgD, asgDs, Fx.cellOf, truD, tyD, obAt, Cell.ob, Ob.toD, putOb, setD, itemsOf, S, slD, enumD]
    rw [cut9, List.map_take]
  have h1 : bits m1 + bits 7368787 ≤ lim := by
    have := mx_bits hm1
    have : bits 7368787 ≤ 30 := by decide
    rw [lim_eq]; omega
  have h2 : (bits 10 + 1) * 42 ≤ lim := by rw [bt10, lim_eq]; decide
  have h3 : (bits 10 + 1) * 18 ≤ lim := by rw [bt10, lim_eq]; decide
  let m2 : Int := (m1 * 7368787 + cl % (10 ^ 42 + 63)) % (10 ^ 42 + 17)
  have e3 : evS G9 (.asg (.nm 3) (.bin .mod (.blt .int [(.bin .add (.bin .mul (.var 3) (.cst (.int 7368787))) (.bin .mod (.blt .int [(.var 2)]) (.bin .add (.bin .pow (.cst (.int 10)) (.cst (.int 42))) (.cst (.int 63)))))]) (.bin .add (.bin .pow (.cst (.int 10)) (.cst (.int 42))) (.cst (.int 17)))))
      [.d S, .d (.int i), .d (.int cl), .d (.int m1), c', d'] = .ok .next [.d S, .d (.int i), .d (.int cl), .d (.int m2), c', d'] := by
    simp [walkOf, evSs, evS, ev, evE, evT, evE_eq, evT_eq, evEs, evO, evC, evI, E2.of, do2, do1, doCall, doBlt, doInt, doSl, doSeq, doIte, doNot, doAnd, doOr, toNot, toAnd, toOr, doCol, doItN, doIt1, doRange, Res.bind, doVar, R.get, ofO, ixRO, ixD, L2.atI, L2.ixN, RO.toR, binD, bltD, cmpD, isNonD, ioOf, argCell, callF, preArgs, frz, frzs, gets, ioIdx, toArgs, setObs, noOwn, asgRs, asgR, asgD, asgDs, Fx.cellOf, truD, tyD, obAt, Cell.ob, Ob.toD, putOb, setD, itemsOf, h1, h2, m2]
  let a : Int := if (if cl < 0 then -cl else cl) - 10 ^ 18 > 0 then (if cl < 0 then -cl else cl) - 10 ^ 18 else 0
  have ha : 0 ≤ a := max0 _
  have e4 : (ev G9 (.lst [(.blt .max [(.cst (.int 0)), (.bin .sub (.blt .abs [(.blt .int [(.var 2)])]) (.bin .pow (.cst (.int 10)) (.cst (.int 18))))]), (.var 3), (.cst (.int 0))])).v
      [.d S, .d (.int i), .d (.int cl), .d (.int m2), c', d'] = .ok (.new (Rl a m2 0)) [.d S, .d (.int i), .d (.int cl), .d (.int m2), c', d'] := by
    simp only [walkOf, evSs, evS, ev, evE, evT, evE_eq, evT_eq, evEs, evO, evC, evI, E2.of, do2, do1, doCall, doBlt, doInt, doSl, doSeq, doIte, doNot, doAnd, doOr, toNot, toAnd, toOr, doCol, doItN, doIt1, doRange, Res.bind, doVar, R.get, ofO, ixRO, ixD, L2.atI, L2.ixN, RO.toR, binD, bltD, cmpD, isNonD, ioOf, argCell, callF, preArgs, frz, frzs, gets, ioIdx, toArgs, setObs, noOwn, asgRs, asgR, asgD, asgDs, Fx.cellOf, truD, tyD, obAt, Cell.ob, Ob.toD, putOb, setD, itemsOf, List.getElem?_cons_zero, List.getElem?_cons_succ, Option.map, h3]
    have l3 : [D.int a, D.int m2, D.int 0].length ≤ lim := by show 3 ≤ lim; rw [lim_eq]; decide
    have z18 : (0 : Int) ≤ 18 := by decide
    simp only [z18, true_and, show (18 : Int).toNat = 18 from rfl, h3, _root_.if_true]
    rfl
  exact ⟨a, m2, ha, mx_mod _, runF_of (fl := .ret (.new (Rl a m2 0))) (run_cons e1 (run_cons ((for_eq ei).trans e2) (run_cons e3 (run_ret (ret_eq e4))))) rfl rfl rfl⟩
end K28

set_option Elab.async false
set_option linter.all false
set_option maxRecDepth 100000
set_option maxHeartbeats 4000000
namespace K28
open PySem Fx
/-- a reel in use -/
structure Re (a m k K : Int) : Prop where
  a0 : 0 ≤ a
  mx : Mx m
  k0 : 0 ≤ k
  kK : k ≤ K
theorem Re.up {a m k K K' : Int} (h : Re a m k K) (l : K ≤ K') : Re a m k K' := ⟨h.a0, h.mx, h.k0, Int.le_trans h.kK l⟩
abbrev sp1 : CS := .ifs (.cmp .gt (.ix (.var 0) (.cst (.int 0))) (.cst (.int 0))) [(.asg (.nm 2) (.bin .mod (.blt .int [(.ix (.var 0) (.cst (.int 0)))]) (.var 1))), (.set 0 (.cst (.int 0)) (.bin .fdiv (.ix (.var 0) (.cst (.int 0))) (.var 1))), (.ret (.var 2))] []
/-- _law_spin -/
theorem t10 {a m k K z : Int} (h : Re a m k K) (hK : K ≤ 900000) (hz : 1 ≤ z) (hz2 : z ≤ 1000000) :
    ∃ r a' k', 0 ≤ r ∧ r < z ∧ Re a' m k' (K + 1) ∧ runF G10 N10.length c10 [.io (Rl a m k), .d (.int z)] = .ok (.d (.int r)) [Rl a' m k'] := by
  have hz0 : (0 : Int) < z := by omega
  have bz : bits z < 9000 := by
    have := bits_int (x := z) (n := 20) (by omega) (by omega)
    omega
  by_cases ha : 0 < a
  · refine ⟨a % z, a / z, k, Int.emod_nonneg _ (by omega), Int.emod_lt_of_pos _ hz0, ⟨Int.ediv_nonneg h.a0 (by omega), h.mx, h.k0, by have := h.kK; omega⟩, ?_⟩
    refine runF_of (env := [.io (Rl (a / z) m k), .d (.int z), .d (.int (a % z)), .none]) (fl := .ret (.d (.int (a % z)))) ?_ rfl rfl rfl
    have e : evS G10 sp1 [.io (Rl a m k), .d (.int z), .none, .none] = .ok (.ret (.d (.int (a % z)))) [.io (Rl (a / z) m k), .d (.int z), .d (.int (a % z)), .none] := by
      refine if_true (env1 := [.io (Rl a m k), .d (.int z), .none, .none]) (by simp [walkOf, evSs, evS, ev, evE, evT, evE_eq, evT_eq, evEs, evO, evC, evI, E2.of, do2, do1, doCall, doBlt, doInt, doSl, doSeq, doIte, doNot, doAnd, doOr, toNot, toAnd, toOr, doCol, doItN, doIt1, doRange, Res.bind, doVar, R.get, ofO, ixRO, ixD, L2.atI, L2.ixN, RO.toR, binD, bltD, cmpD, isNonD, ioOf, argCell, callF, preArgs, frz, frzs, gets, ioIdx, toArgs, setObs, noOwn, asgRs, asgR, asgD, asgDs, Fx.cellOf, truD, tyD, obAt, Cell.ob, Ob.toD, putOb, setD, itemsOf, Rl, ha]) (run_cons (env1 := [.io (Rl a m k), .d (.int z), .d (.int (a % z)), .none]) (by simp [walkOf, evSs, evS, ev, evE, evT, evE_eq, evT_eq, evEs, evO, evC, evI, E2.of, do2, do1, doCall, doBlt, doInt, doSl, doSeq, doIte, doNot, doAnd, doOr, toNot, toAnd, toOr, doCol, doItN, doIt1, doRange, Res.bind, doVar, R.get, ofO, ixRO, ixD, L2.atI, L2.ixN, RO.toR, binD, bltD, cmpD, isNonD, ioOf, argCell, callF, preArgs, frz, frzs, gets, ioIdx, toArgs, setObs, noOwn, asgRs, asgR, asgD, asgDs, Fx.cellOf, truD, tyD, obAt, Cell.ob, Ob.toD, putOb, setD, itemsOf, Rl, hz0])
        (run_cons (env1 := [.io (Rl (a / z) m k), .d (.int z), .d (.int (a % z)), .none]) (by simp [walkOf, evSs, evS, ev, evE, evT, evE_eq, evT_eq, evEs, evO, evC, evI, E2.of, do2, do1, doCall, doBlt, doInt, doSl, doSeq, doIte, doNot, doAnd, doOr, toNot, toAnd, toOr, doCol, doItN, doIt1, doRange, Res.bind, doVar, R.get, ofO, ixRO, ixD, L2.atI, L2.ixN, RO.toR, binD, bltD, cmpD, isNonD, ioOf, argCell, callF, preArgs, frz, frzs, gets, ioIdx, toArgs, setObs, noOwn, asgRs, asgR, asgD, asgDs, Fx.cellOf, truD, tyD, obAt, Cell.ob, Ob.toD, putOb, setD, itemsOf, Rl, hz0, bz]) (run_ret (by simp [walkOf, evSs, evS, ev, evE, evT, evE_eq, evT_eq, evEs, evO, evC, evI, E2.of, do2, do1, doCall, doBlt, doInt, doSl, doSeq, doIte, doNot, doAnd, doOr, toNot, toAnd, toOr, doCol, doItN, doIt1, doRange, Res.bind, doVar, R.get, ofO, ixRO, ixD, L2.atI, L2.ixN, RO.toR, binD, bltD, cmpD, isNonD, ioOf, argCell, callF, preArgs, frz, frzs, gets, ioIdx, toArgs, setObs, noOwn, asgRs, asgR, asgD, asgDs, Fx.cellOf, truD, tyD, obAt, Cell.ob, Ob.toD, putOb, setD, itemsOf]))))
    exact run_ret e
  · have k1 : (0 : Int) ≤ k + 1 := by have := h.k0; omega
    have k2 : k + 1 ≤ 1000000 := by have := h.kK; omega
    have q1 : bits 67867979 + bits (k + 1) ≤ lim := by
      have := bits_int (x := k + 1) (n := 20) k1 (by omega)
      have : bits 67867979 ≤ 30 := by decide
      rw [lim_eq]; omega
    have q2 : bits 32452867 + bits (k + 1) ≤ lim := by
      have := bits_int (x := k + 1) (n := 20) k1 (by omega)
      have : bits 32452867 ≤ 30 := by decide
      rw [lim_eq]; omega
    have m0 := h.mx
    have p42 : (10 : Int) ^ 42 + 17 < 2 ^ 140 := by decide
    have p44 : (10 : Int) ^ 44 + 31 < 2 ^ 150 := by decide
    have q3 : (bits (m + 67867979 * (k + 1)) + 1) * 3 ≤ lim := by
      have u1 : (2 : Int) ^ 140 + 2 ^ 100 < 2 ^ 150 := by decide
      have u2 : (67867979 * 1000000 : Int) < 2 ^ 100 := by decide
      have u3 := m0.2
      have u4 := m0.1
      have := bits_int (x := m + 67867979 * (k + 1)) (n := 150) (by omega) (by omega)
      rw [lim_eq]; omega
    have q10 : (bits 10 + 1) * 44 ≤ lim ∧ (bits 10 + 1) * 41 ≤ lim := by rw [bt10, lim_eq]; decide
    let w1 : Int := (m + 67867979 * (k + 1)) ^ 3 % (10 ^ 44 + 31)
    have w10 : 0 ≤ w1 := Int.emod_nonneg _ (by decide)
    have w11 : w1 < 10 ^ 44 + 31 := Int.emod_lt_of_pos _ (by decide)
    have q4 : (bits (w1 + 32452867 * (k + 1)) + 1) * 5 ≤ lim := by
      have u1 : (2 : Int) ^ 150 + 2 ^ 100 < 2 ^ 160 := by decide
      have u2 : (32452867 * 1000000 : Int) < 2 ^ 100 := by decide
      have := bits_int (x := w1 + 32452867 * (k + 1)) (n := 160) (by omega) (by omega)
      rw [lim_eq]; omega
    let w2 : Int := (w1 + 32452867 * (k + 1)) ^ 5 % (10 ^ 41 + 39)
    have b13 : bits 131071 < 9000 := by decide
    refine ⟨w2 / 131071 % z, a, k + 1, Int.emod_nonneg _ (by omega), Int.emod_lt_of_pos _ hz0, ⟨h.a0, h.mx, k1, by have := h.kK; omega⟩, ?_⟩
    have e1 : evS G10 sp1 [.io (Rl a m k), .d (.int z), .none, .none] = .ok .next [.io (Rl a m k), .d (.int z), .none, .none] := if_false (env1 := [.io (Rl a m k), .d (.int z), .none, .none]) (by simp [walkOf, evSs, evS, ev, evE, evT, evE_eq, evT_eq, evEs, evO, evC, evI, E2.of, do2, do1, doCall, doBlt, doInt, doSl, doSeq, doIte, doNot, doAnd, doOr, toNot, toAnd, toOr, doCol, doItN, doIt1, doRange, Res.bind, doVar, R.get, ofO, ixRO, ixD, L2.atI, L2.ixN, RO.toR, binD, bltD, cmpD, isNonD, ioOf, argCell, callF, preArgs, frz, frzs, gets, ioIdx, toArgs, setObs, noOwn, asgRs, asgR, asgD, asgDs, Fx.cellOf, truD, tyD, obAt, Cell.ob, Ob.toD, putOb, setD, itemsOf, Rl, ha]) run_nil
    have e2 : evS G10 (.set 0 (.cst (.int 2)) (.bin .add (.ix (.var 0) (.cst (.int 2))) (.cst (.int 1)))) [.io (Rl a m k), .d (.int z), .none, .none] = .ok .next [.io (Rl a m (k + 1)), .d (.int z), .none, .none] := by simp [walkOf, evSs, evS, ev, evE, evT, evE_eq, evT_eq, evEs, evO, evC, evI, E2.of, do2, do1, doCall, doBlt, doInt, doSl, doSeq, doIte, doNot, doAnd, doOr, toNot, toAnd, toOr, doCol, doItN, doIt1, doRange, Res.bind, doVar, R.get, ofO, ixRO, ixD, L2.atI, L2.ixN, RO.toR, binD, bltD, cmpD, isNonD, ioOf, argCell, callF, preArgs, frz, frzs, gets, ioIdx, toArgs, setObs, noOwn, asgRs, asgR, asgD, asgDs, Fx.cellOf, truD, tyD, obAt, Cell.ob, Ob.toD, putOb, setD, itemsOf, Rl]
    have e3 : evS G10 (.asg (.nm 3) (.bin .mod (.blt .int [(.bin .pow (.bin .add (.ix (.var 0) (.cst (.int 1))) (.bin .mul (.cst (.int 67867979)) (.ix (.var 0) (.cst (.int 2))))) (.cst (.int 3)))]) (.bin .add (.bin .pow (.cst (.int 10)) (.cst (.int 44))) (.cst (.int 31)))))
        [.io (Rl a m (k + 1)), .d (.int z), .none, .none] = .ok .next [.io (Rl a m (k + 1)), .d (.int z), .none, .d (.int w1)] := by simp [walkOf, evSs, evS, ev, evE, evT, evE_eq, evT_eq, evEs, evO, evC, evI, E2.of, do2, do1, doCall, doBlt, doInt, doSl, doSeq, doIte, doNot, doAnd, doOr, toNot, toAnd, toOr, doCol, doItN, doIt1, doRange, Res.bind, doVar, R.get, ofO, ixRO, ixD, L2.atI, L2.ixN, RO.toR, binD, bltD, cmpD, isNonD, ioOf, argCell, callF, preArgs, frz, frzs, gets, ioIdx, toArgs, setObs, noOwn, asgRs, asgR, asgD, asgDs, Fx.cellOf, truD, tyD, obAt, Cell.ob, Ob.toD, putOb, setD, itemsOf, Rl, q1, q3, q10.1, w1]
    have e4 : evS G10 (.asg (.nm 3) (.bin .mod (.blt .int [(.bin .pow (.bin .add (.var 3) (.bin .mul (.cst (.int 32452867)) (.ix (.var 0) (.cst (.int 2))))) (.cst (.int 5)))]) (.bin .add (.bin .pow (.cst (.int 10)) (.cst (.int 41))) (.cst (.int 39)))))
        [.io (Rl a m (k + 1)), .d (.int z), .none, .d (.int w1)] = .ok .next [.io (Rl a m (k + 1)), .d (.int z), .none, .d (.int w2)] := by
      simp [walkOf, evSs, evS, ev, evE, evT, evE_eq, evT_eq, evEs, evO, evC, evI, E2.of, do2, do1, doCall, doBlt, doInt, doSl, doSeq, doIte, doNot, doAnd, doOr, toNot, toAnd, toOr, doCol, doItN, doIt1, doRange, Res.bind, doVar, R.get, ofO, ixRO, ixD, L2.atI, L2.ixN, RO.toR, binD, bltD, cmpD, isNonD, ioOf, argCell, callF, preArgs, frz, frzs, gets, ioIdx, toArgs, setObs, noOwn, asgRs, asgR, asgD, asgDs, Fx.cellOf, truD, tyD, obAt, Cell.ob, Ob.toD, putOb, setD, itemsOf, Rl, q2, q4, q10.2, w2]
    refine runF_of (env := [.io (Rl a m (k + 1)), .d (.int z), .none, .d (.int w2)]) (fl := .ret (.d (.int (w2 / 131071 % z)))) (run_cons e1 (run_cons e2 (run_cons e3 (run_cons e4 (run_ret (ret_eq ?_)))))) rfl rfl rfl
    generalize w2 = w
    simp [walkOf, evSs, evS, ev, evE, evT, evE_eq, evT_eq, evEs, evO, evC, evI, E2.of, do2, do1, doCall, doBlt, doInt, doSl, doSeq, doIte, doNot, doAnd, doOr, toNot, toAnd, toOr, doCol, doItN, doIt1, doRange, Res.bind, doVar, R.get, ofO, ixRO, ixD, L2.atI, L2.ixN, RO.toR, binD, bltD, cmpD, isNonD, ioOf, argCell, callF, preArgs, frz, frzs, gets, ioIdx, toArgs, setObs, noOwn, asgRs, asgR, asgD, asgDs, Fx.cellOf, truD, tyD, obAt, Cell.ob, Ob.toD, putOb, setD, itemsOf, hz0, b13]
end K28

set_option Elab.async false
set_option linter.all false
set_option maxRecDepth 100000
set_option maxHeartbeats 4000000
namespace K28
open PySem Fx
theorem g15_10 : G15[10]? = some ⟨m10, d10, runF G10 N10.length c10⟩ := rfl
abbrev elS : CE := .bin .add (.cst (.int 1)) (.call 10 [(.var 0), (.cst (.int 4))])
/-- a spin of four -/
theorem elS_ok {a m k K : Int} (h : Re a m k K) (hK : K ≤ 900000) (Z : D) (x2 x3 x4 x5 x6 : Cell) : ∃ w a' k', 1 ≤ w ∧ w ≤ 4 ∧ Re a' m k' (K + 1) ∧
    (ev G15 elS).v [.io (Rl a m k), .d Z, x2, x3, x4, x5, x6] = .ok (.d (wd w)) [.io (Rl a' m k'), .d Z, x2, x3, x4, x5, x6] := by
  obtain ⟨r, a', k', h0, h1, h2, e⟩ := t10 (z := 4) h hK (by decide) (by decide)
  refine ⟨1 + r.toNat, a', k', by omega, by omega, h2, ?_⟩
  have ew : ((1 + r.toNat : Nat) : Int) = 1 + r := by omega
  simp only [Rl] at e
  simp [walkOf, evSs, evS, ev, evE, evT, evE_eq, evT_eq, evEs, evO, evC, evI, E2.of, do2, do1, doCall, doBlt, doInt, doSl, doSeq, doIte, doNot, doAnd, doOr, toNot, toAnd, toOr, doCol, doItN, doIt1, doRange, Res.bind, doVar, R.get, ofO, ixRO, ixD, L2.atI, L2.ixN, RO.toR, binD, bltD, cmpD, isNonD, ioOf, argCell, callF, preArgs, frz, frzs, gets, ioIdx, toArgs, setObs, noOwn, asgRs, asgR, asgD, asgDs, Fx.cellOf, truD, tyD, obAt, Cell.ob, Ob.toD, putOb, setD, itemsOf, g15_10, m10, d10, Rl, e, wd]
  omega
theorem lcS (Z : D) (x2 x3 x4 x6 : Cell) : ∀ (ts : List D) (acc : List D) (a m k K : Int) (x5 : Cell), Free x5 → Re a m k K → K + ts.length ≤ 900000 → acc.length + ts.length ≤ 2000 →
    ∃ (ws : List Nat) (a' k' : Int) (x5' : Cell), Re a' m k' (K + ts.length) ∧ Free x5' ∧ ws.length = ts.length ∧ (∀ w ∈ ws, 1 ≤ w ∧ w ≤ 4) ∧
      lcRun [5] (.nm 5) (evC G15 none) (ev G15 elS).v ts acc [.io (Rl a m k), .d Z, x2, x3, x4, x5, x6] = .ok (acc ++ ws.map wd) [.io (Rl a' m k'), .d Z, x2, x3, x4, x5', x6]
  | [], acc, a, m, k, K, x5, hx, h, _, _ => ⟨[], a, k, x5, by simpa using h, hx, rfl, (by simp), by simp [lcRun]⟩
  | t :: ts, acc, a, m, k, K, x5, hx, h, hK, hl => by
    simp only [List.length_cons] at hK hl
    obtain ⟨w, a1, k1, w1, w2, h1, e⟩ := elS_ok (Z := Z) h (by omega) x2 x3 x4 (.d t) x6
    obtain ⟨ws, a', k', x5', h2, hx', l, hw, ih⟩ := lcS Z x2 x3 x4 x6 ts (acc ++ [wd w]) a1 m k1 (K + 1) (.d t) .d h1 (by omega) (by simp; omega)
    refine ⟨w :: ws, a', k', x5', h2.up (by simp; omega), hx', by simp [l], ?_, ?_⟩
    · intro v hv
      rcases List.mem_cons.mp hv with rfl | hv
      · exact ⟨w1, w2⟩
      · exact hw v hv
    have hlim : acc.length < lim := by rw [lim_eq]; omega
    have ea : asgD (.nm 5) t (wipeC [.io (Rl a m k), .d Z, x2, x3, x4, x5, x6] [5]) = some [.io (Rl a m k), .d Z, x2, x3, x4, .d t, x6] := by
      simp [wipeC, asgD]
    have ec : evC G15 none [.io (Rl a m k), .d Z, x2, x3, x4, .d t, x6] = .ok true [.io (Rl a m k), .d Z, x2, x3, x4, .d t, x6] := by rw [evC]
    rw [lcRun, ea]
    simp only [ec, Res.bind, e, frz, _root_.if_true]
    rw [if_pos ⟨hlim, by simp [isOb, obAt, Cell.ob]⟩, ih]
    simp
/-- [1 + spin(reel, 4) for turn in range(size)] -/
theorem lcS_v {s : Nat} (x2 x3 x4 x5 x6 : Cell) {a m k K : Int} (h5 : Free x5) (h : Re a m k K) (hs : s ≤ 2000) (hK : K + s ≤ 900000) : ∃ (ws : List Nat) (a' k' : Int), Re a' m k' (K + s) ∧ ws.length = s ∧ (∀ w ∈ ws, 1 ≤ w ∧ w ≤ 4) ∧
    (ev G15 (.lc elS (.nm 5) (.range [(.var 1)]) none [5])).v [.io (Rl a m k), .d (.int s), x2, x3, x4, x5, x6] = .ok (.new (.lst (ws.map wd))) [.io (Rl a' m k'), .d (.int s), x2, x3, x4, x5, x6] := by
  obtain ⟨ws, a', k', x5', h1, hx, hl, hw, e⟩ := lcS (.int s) x2 x3 x4 x6 (rangeL 0 s 1) [] a m k K x5 h5 h (by rw [range_len]; exact hK) (by rw [range_len]; simpa using hs)
  rw [range_len] at h1 hl
  refine ⟨ws, a', k', h1, hl, hw, ?_⟩
  have ei : evI G15 (.range [(.var 1)]) [.io (Rl a m k), .d (.int s), x2, x3, x4, x5, x6] = .ok (rangeL 0 s 1) [.io (Rl a m k), .d (.int s), x2, x3, x4, x5, x6] := by
    have : s ≤ lim := by rw [lim_eq]; omega
    simp [walkOf, evSs, evS, ev, evE, evT, evE_eq, evT_eq, evEs, evO, evC, evI, E2.of, do2, do1, doCall, doBlt, doInt, doSl, doSeq, doIte, doNot, doAnd, doOr, toNot, toAnd, toOr, doCol, doItN, doIt1, doRange, Res.bind, doVar, R.get, ofO, ixRO, ixD, L2.atI, L2.ixN, RO.toR, binD, bltD, cmpD, isNonD, ioOf, argCell, callF, preArgs, frz, frzs, gets, ioIdx, toArgs, setObs, noOwn, asgRs, asgR, asgD, asgDs, Fx.cellOf, truD, tyD, obAt, Cell.ob, Ob.toD, putOb, setD, itemsOf, rangeD, this]
  rw [lc_ev, of_v]
  unfold doLc
  rw [ei]
  simp only [Res.bind]
  have no : ¬ ([5].any (isOb [.io (Rl a m k), .d (.int s), x2, x3, x4, x5, x6])) = true := by
    rcases h5 with rfl | ⟨_, rfl⟩ <;> simp [isOb, obAt, Cell.ob]
  rw [if_neg no, e]
  simp [restC]
/-- a comprehension over widths -/
theorem lcW {el : CE} {f : Nat → Nat} (c0 c1 c2 c3 c4 c5 : Cell) (hel : ∀ n, 1 ≤ n → n ≤ 4 → (ev G15 el).v [c0, c1, c2, c3, c4, c5, .d (wd n)] = .ok (.d (wd (f n))) [c0, c1, c2, c3, c4, c5, .d (wd n)]) :
    ∀ (ws : List Nat) (acc : List D) (x6 : Cell), (∀ w ∈ ws, 1 ≤ w ∧ w ≤ 4) → acc.length + ws.length ≤ 2000 →
      ∃ x6', lcRun [6] (.nm 6) (evC G15 none) (ev G15 el).v (ws.map wd) acc [c0, c1, c2, c3, c4, c5, x6] = .ok (acc ++ (ws.map f).map wd) [c0, c1, c2, c3, c4, c5, x6']
  | [], acc, x6, _, _ => ⟨x6, by simp [lcRun]⟩
  | n :: ws, acc, x6, hw, hl => by
    obtain ⟨h1, h2⟩ := hw n (by simp)
    obtain ⟨x6', ih⟩ := lcW c0 c1 c2 c3 c4 c5 hel ws (acc ++ [wd (f n)]) (.d (wd n)) (fun v hv => hw v (List.mem_cons_of_mem _ hv)) (by simp at hl ⊢; omega)
    refine ⟨x6', ?_⟩
    have hlim : acc.length < lim := by rw [lim_eq]; simp at hl; omega
    have ea : asgD (.nm 6) (wd n) (wipeC [c0, c1, c2, c3, c4, c5, x6] [6]) = some [c0, c1, c2, c3, c4, c5, .d (wd n)] := by simp [wipeC, asgD]
    have ec : evC G15 none [c0, c1, c2, c3, c4, c5, .d (wd n)] = .ok true [c0, c1, c2, c3, c4, c5, .d (wd n)] := by rw [evC]
    rw [List.map_cons, lcRun, ea]
    simp only [ec, Res.bind, hel n h1 h2, frz, _root_.if_true]
    rw [if_pos ⟨hlim, by simp [isOb, obAt, Cell.ob]⟩, ih]
    simp
end K28

set_option Elab.async false
set_option linter.all false
set_option maxRecDepth 100000
set_option maxHeartbeats 4000000
namespace K28
open PySem Fx
def Lb (a : List Nat) : Ob := .lst (a.map wd)
def Sml (a : List Nat) : Prop := ∀ w ∈ a, 1 ≤ w ∧ w ≤ 4
abbrev st4 : CS := .ifs (.cmp .eq (.var 3) (.cst (.int 1))) [(.set 4 (.call 10 [(.var 0), (.var 1)]) (.bin .add (.cst (.int 1)) (.call 10 [(.var 0), (.cst (.int 4))])))] []
abbrev st5 : CS := .ifs (.cmp .eq (.var 3) (.cst (.int 2))) [(.asg (.nm 2) (.lc (.bin .add (.cst (.int 1)) (.bin .fdiv (.var 6) (.cst (.int 3)))) (.nm 6) (.e (.var 4)) none [6])), (.asg (.nm 4) (.lc (.bin .mul (.cst (.int 2)) (.var 6)) (.nm 6) (.e (.var 2)) none [6]))] []
abbrev stR : CS := .ret (.tup [(.var 2), (.var 4)])
theorem ret15 {x0 x1 x3 x5 x6 : Cell} {one os : List Nat} {c2 c4 : Cell} (h2 : c2 = .o (Lb one) ∨ c2 = .d (L one)) (h4 : c4 = .o (Lb os) ∨ c4 = .d (L os)) :
    evSs G15 [stR] [x0, x1, c2, x3, c4, x5, x6] = .ok (.ret (.d (.tup [L one, L os]))) [x0, x1, .d (L one), x3, .d (L os), x5, x6] := by
  refine run_ret (ret_eq ?_)
  have l2 : [L one, L os].length ≤ lim := by show 2 ≤ lim; rw [lim_eq]; decide
  have l2' : 2 ≤ lim := l2
  rcases h2 with rfl | rfl <;> rcases h4 with rfl | rfl <;> simp [walkOf, evSs, evS, ev, evE, evT, evE_eq, evT_eq, evEs, evO, evC, evI, E2.of, do2, do1, doCall, doBlt, doInt, doSl, doSeq, doIte, doNot, doAnd, doOr, toNot, toAnd, toOr, doCol, doItN, doIt1, doRange, Res.bind, doVar, R.get, ofO, ixRO, ixD, L2.atI, L2.ixN, RO.toR, binD, bltD, cmpD, isNonD, ioOf, argCell, callF, preArgs, frz, frzs, gets, ioIdx, toArgs, setObs, noOwn, asgRs, asgR, asgD, asgDs, Fx.cellOf, truD, tyD, obAt, Cell.ob, Ob.toD, putOb, setD, itemsOf, Lb, L, l2']
theorem test_r {j : Int} {r : Int} {env : Cells} (h : env[3]? = some (.d (.int r))) : (ev G15 (.cmp .eq (.var 3) (.cst (.int j)))).t env = .ok (r == j) env := by
  simp [walkOf, evSs, evS, ev, evE, evT, evE_eq, evT_eq, evEs, evO, evC, evI, E2.of, do2, do1, doCall, doBlt, doInt, doSl, doSeq, doIte, doNot, doAnd, doOr, toNot, toAnd, toOr, doCol, doItN, doIt1, doRange, Res.bind, doVar, R.get, ofO, ixRO, ixD, L2.atI, L2.ixN, RO.toR, binD, bltD, cmpD, isNonD, ioOf, argCell, callF, preArgs, frz, frzs, gets, ioIdx, toArgs, setObs, noOwn, asgRs, asgR, asgD, asgDs, Fx.cellOf, truD, tyD, obAt, Cell.ob, Ob.toD, putOb, setD, itemsOf, h, flatD, eqD]
theorem test_eq {x0 x1 x2 x4 x5 x6 : Cell} {r j : Int} {b : Bool} (hb : (r == j) = b) :
    (ev G15 (.cmp .eq (.var 3) (.cst (.int j)))).t [x0, x1, x2, .d (.int r), x4, x5, x6] = .ok b [x0, x1, x2, .d (.int r), x4, x5, x6] := (test_r rfl).trans (by rw [hb])
theorem sml_set {os : List Nat} {i w : Nat} (h : Sml os) (hw : 1 ≤ w ∧ w ≤ 4) : Sml (os.set i w) := by
  intro v hv
  rcases List.mem_or_eq_of_mem_set hv with hv | rfl
  · exact h v hv
  · exact hw
/-- the end of _law_lists -/
theorem tail15 {a m k K : Int} {s : Nat} {one os : List Nat} {r : Int} (h : Re a m k K) (hs1 : 1 ≤ s) (hs : s ≤ 2000) (hK : K + 5 ≤ 900000) (h1 : one.length = s) (h2 : os.length = s) (g1 : Sml one) (g2 : Sml os) :
    ∃ (one' os' : List Nat) (a' k' : Int) (c2 c3 c4 c5 c6 : Cell), one'.length = s ∧ os'.length = s ∧ Sml one' ∧ Sml os' ∧ Re a' m k' (K + 2) ∧
      evSs G15 [st4, st5, stR] [.io (Rl a m k), .d (.int s), .o (Lb one), .d (.int r), .o (Lb os), .none, .none] = .ok (.ret (.d (.tup [L one', L os']))) [.io (Rl a' m k'), .d (.int s), c2, c3, c4, c5, c6] := by
  by_cases r1 : r = 1
  · subst r1
    obtain ⟨w, a1, k1, w1, w2, e1, ew⟩ := elS_ok (Z := .int s) h (by omega) (.o (Lb one)) (.d (.int 1)) (.o (Lb os)) .none .none
    obtain ⟨i, a2, k2, i0, i1, e2, ei⟩ := t10 (z := (s : Int)) e1 (by omega) (by omega) (by omega)
    obtain ⟨j, rfl⟩ := Int.eq_ofNat_of_zero_le i0
    have hj : j < s := by omega
    refine ⟨one, os.set j w, a2, k2, _, _, _, _, _, h1, by simp [h2], g1, sml_set g2 ⟨w1, w2⟩, e2.up (by omega), run_cons (env1 := [.io (Rl a2 m k2), .d (.int s), .o (Lb one), .d (.int 1), .o (Lb (os.set j w)), .none, .none]) (if_true (test_eq (r := 1) (j := 1) (by decide)) (run_cons ?_ run_nil)) (run_cons (if_false (test_eq (r := 1) (j := 2) (by decide)) run_nil) (ret15 (.inl rfl) (.inl rfl)))⟩
    have ew' : (ev G15 (.bin .add (.cst (.int 1)) (.call 10 [(.var 0), (.cst (.int 4))]))).v [.io (Rl a m k), .d (.int s), .o (Lb one), .d (.int 1), .o (Lb os), .none, .none] = .ok (.d (wd w)) [.io (Rl a1 m k1), .d (.int s), .o (Lb one), .d (.int 1), .o (Lb os), .none, .none] := ew
    have ej : (ev G15 (.call 10 [(.var 0), (.var 1)])).v [.io (Rl a1 m k1), .d (.int s), .o (Lb one), .d (.int 1), .o (Lb os), .none, .none] = .ok (.d (.int j)) [.io (Rl a2 m k2), .d (.int s), .o (Lb one), .d (.int 1), .o (Lb os), .none, .none] := by
      simp only [Rl] at ei
      simp [walkOf, evSs, evS, ev, evE, evT, evE_eq, evT_eq, evEs, evO, evC, evI, E2.of, do2, do1, doCall, doBlt, doInt, doSl, doSeq, doIte, doNot, doAnd, doOr, toNot, toAnd, toOr, doCol, doItN, doIt1, doRange, Res.bind, doVar, R.get, ofO, ixRO, ixD, L2.atI, L2.ixN, RO.toR, binD, bltD, cmpD, isNonD, ioOf, argCell, callF, preArgs, frz, frzs, gets, ioIdx, toArgs, setObs, noOwn, asgRs, asgR, asgD, asgDs, Fx.cellOf, truD, tyD, obAt, Cell.ob, Ob.toD, putOb, setD, itemsOf, g15_10, m10, d10, Rl, ei]
    have hset : (os.map wd).set j (wd w) = (os.set j w).map wd := by rw [List.map_set]
    have hix : L2.ixN (os.map wd).length (j : Int) = some j := by
      unfold L2.ixN
      rw [if_pos (by omega), if_pos (by rw [List.length_map, h2]; omega)]
      simp
    rw [evS]
    show ((ev G15 _).v _).bind _ = _
    rw [ew']
    simp only [Res.bind, frz]
    rw [if_pos (by simp [obAt, Cell.ob])]
    show ((ev G15 _).v _).bind _ = _
    rw [ej]
    simp only [Res.bind, R.get, obAt, List.getElem?_cons_succ, List.getElem?_cons_zero, Option.bind, Cell.ob, Lb, setD, hix, Option.map, hset, putOb, List.set_cons_succ, List.set_cons_zero]
  · by_cases r2 : r = 2
    · subst r2
      have f1 : ∀ n, 1 ≤ n → n ≤ 4 → (ev G15 (.bin .add (.cst (.int 1)) (.bin .fdiv (.var 6) (.cst (.int 3))))).v [.io (Rl a m k), .d (.int s), .o (Lb one), .d (.int 2), .d (L os), .none, .d (wd n)]
          = .ok (.d (wd (1 + n / 3))) [.io (Rl a m k), .d (.int s), .o (Lb one), .d (.int 2), .d (L os), .none, .d (wd n)] := by
        intro n _ _
        have b3 : bits 3 < 9000 := by decide
        have : ((1 + n / 3 : Nat) : Int) = 1 + (n : Int) / 3 := by omega
        simp [walkOf, evSs, evS, ev, evE, evT, evE_eq, evT_eq, evEs, evO, evC, evI, E2.of, do2, do1, doCall, doBlt, doInt, doSl, doSeq, doIte, doNot, doAnd, doOr, toNot, toAnd, toOr, doCol, doItN, doIt1, doRange, Res.bind, doVar, R.get, ofO, ixRO, ixD, L2.atI, L2.ixN, RO.toR, binD, bltD, cmpD, isNonD, ioOf, argCell, callF, preArgs, frz, frzs, gets, ioIdx, toArgs, setObs, noOwn, asgRs, asgR, asgD, asgDs, Fx.cellOf, truD, tyD, obAt, Cell.ob, Ob.toD, putOb, setD, itemsOf, wd, b3]
      obtain ⟨c6, q1⟩ := lcW (.io (Rl a m k)) (.d (.int s)) (.o (Lb one)) (.d (.int 2)) (.d (L os)) .none f1 os [] .none g2 (by simpa [h2] using hs)
      let one' := os.map fun n => 1 + n / 3
      have g1' : Sml one' := by
        intro v hv
        obtain ⟨n, hn, rfl⟩ := List.mem_map.mp hv
        have := g2 n hn
        omega
      have p1 : evS G15 (.asg (.nm 2) (.lc (.bin .add (.cst (.int 1)) (.bin .fdiv (.var 6) (.cst (.int 3)))) (.nm 6) (.e (.var 4)) none [6])) [.io (Rl a m k), .d (.int s), .o (Lb one), .d (.int 2), .o (Lb os), .none, .none]
          = .ok .next [.io (Rl a m k), .d (.int s), .o (Lb one'), .d (.int 2), .d (L os), .none, .none] := by
        refine asg_eq (env1 := [.io (Rl a m k), .d (.int s), .o (Lb one), .d (.int 2), .d (L os), .none, .none]) (r := .new (Lb one')) ?_ (by simp [asgR, Fx.cellOf])
        rw [lc_ev, of_v]
        unfold doLc
        have ei : evI G15 (.e (.var 4)) [.io (Rl a m k), .d (.int s), .o (Lb one), .d (.int 2), .o (Lb os), .none, .none] = .ok (os.map wd) [.io (Rl a m k), .d (.int s), .o (Lb one), .d (.int 2), .d (L os), .none, .none] := by simp [walkOf, evSs, evS, ev, evE, evT, evE_eq, evT_eq, evEs, evO, evC, evI, E2.of, do2, do1, doCall, doBlt, doInt, doSl, doSeq, doIte, doNot, doAnd, doOr, toNot, toAnd, toOr, doCol, doItN, doIt1, doRange, Res.bind, doVar, R.get, ofO, ixRO, ixD, L2.atI, L2.ixN, RO.toR, binD, bltD, cmpD, isNonD, ioOf, argCell, callF, preArgs, frz, frzs, gets, ioIdx, toArgs, setObs, noOwn, asgRs, asgR, asgD, asgDs, Fx.cellOf, truD, tyD, obAt, Cell.ob, Ob.toD, putOb, setD, itemsOf, Lb, L]
        rw [ei]
        simp only [Res.bind]
        rw [if_neg (by simp [isOb, obAt, Cell.ob]), q1]
        simp [restC, Lb, one']
      have f2 : ∀ n, 1 ≤ n → n ≤ 4 → (ev G15 (.bin .mul (.cst (.int 2)) (.var 6))).v [.io (Rl a m k), .d (.int s), .d (L one'), .d (.int 2), .d (L os), .none, .d (wd n)]
          = .ok (.d (wd (2 * n))) [.io (Rl a m k), .d (.int s), .d (L one'), .d (.int 2), .d (L os), .none, .d (wd n)] := by
        intro n _ _
        have := mul_ok (m := 2) (n := n) (by omega) (by omega)
        have b2 : bits 2 + bits (n : Int) ≤ lim := this
        simp [walkOf, evSs, evS, ev, evE, evT, evE_eq, evT_eq, evEs, evO, evC, evI, E2.of, do2, do1, doCall, doBlt, doInt, doSl, doSeq, doIte, doNot, doAnd, doOr, toNot, toAnd, toOr, doCol, doItN, doIt1, doRange, Res.bind, doVar, R.get, ofO, ixRO, ixD, L2.atI, L2.ixN, RO.toR, binD, bltD, cmpD, isNonD, ioOf, argCell, callF, preArgs, frz, frzs, gets, ioIdx, toArgs, setObs, noOwn, asgRs, asgR, asgD, asgDs, Fx.cellOf, truD, tyD, obAt, Cell.ob, Ob.toD, putOb, setD, itemsOf, wd, b2]
      obtain ⟨c6', q2⟩ := lcW (.io (Rl a m k)) (.d (.int s)) (.d (L one')) (.d (.int 2)) (.d (L os)) .none f2 one' [] .none g1' (by simpa [one', h2] using hs)
      let os' := one'.map fun n => 2 * n
      have g2' : Sml os' := by
        intro v hv
        obtain ⟨n, hn, rfl⟩ := List.mem_map.mp hv
        obtain ⟨n', hn', rfl⟩ := List.mem_map.mp hn
        have := g2 n' hn'
        omega
      have p2 : evS G15 (.asg (.nm 4) (.lc (.bin .mul (.cst (.int 2)) (.var 6)) (.nm 6) (.e (.var 2)) none [6])) [.io (Rl a m k), .d (.int s), .o (Lb one'), .d (.int 2), .d (L os), .none, .none]
          = .ok .next [.io (Rl a m k), .d (.int s), .d (L one'), .d (.int 2), .o (Lb os'), .none, .none] := by
        refine asg_eq (env1 := [.io (Rl a m k), .d (.int s), .d (L one'), .d (.int 2), .d (L os), .none, .none]) (r := .new (Lb os')) ?_ (by simp [asgR, Fx.cellOf])
        rw [lc_ev, of_v]
        unfold doLc
        have ei : evI G15 (.e (.var 2)) [.io (Rl a m k), .d (.int s), .o (Lb one'), .d (.int 2), .d (L os), .none, .none] = .ok (one'.map wd) [.io (Rl a m k), .d (.int s), .d (L one'), .d (.int 2), .d (L os), .none, .none] := by simp [walkOf, evSs, evS, ev, evE, evT, evE_eq, evT_eq, evEs, evO, evC, evI, E2.of, do2, do1, doCall, doBlt, doInt, doSl, doSeq, doIte, doNot, doAnd, doOr, toNot, toAnd, toOr, doCol, doItN, doIt1, doRange, Res.bind, doVar, R.get, ofO, ixRO, ixD, L2.atI, L2.ixN, RO.toR, binD, bltD, cmpD, isNonD, ioOf, argCell, callF, preArgs, frz, frzs, gets, ioIdx, toArgs, setObs, noOwn, asgRs, asgR, asgD, asgDs, Fx.cellOf, truD, tyD, obAt, Cell.ob, Ob.toD, putOb, setD, itemsOf, Lb, L]
        rw [ei]
        simp only [Res.bind]
        rw [if_neg (by simp [isOb, obAt, Cell.ob]), q2]
        simp [restC, Lb, os']
      exact ⟨one', os', a, k, _, _, _, _, _, by simp [one', h2], by simp [os', one', h2], g1', g2', h.up (by omega), run_cons (if_false (test_eq (r := 2) (j := 1) (by decide)) run_nil)
        (run_cons (if_true (test_eq (r := 2) (j := 2) (by decide)) (run_cons p1 (run_cons p2 run_nil))) (ret15 (.inr rfl) (.inl rfl)))⟩
    · have t1 : (r == 1) = false := by simp [r1]
      have t2 : (r == 2) = false := by simp [r2]
      exact ⟨one, os, a, k, _, _, _, _, _, h1, h2, g1, g2, h.up (by omega), run_cons (if_false (test_eq t1) run_nil) (run_cons (if_false (test_eq t2) run_nil) (ret15 (.inl rfl) (.inl rfl)))⟩
/-- _law_lists -/
theorem t15 {a m k K : Int} {s : Nat} (h : Re a m k K) (hs1 : 1 ≤ s) (hs : s ≤ 2000) (hK : K + 2 * s + 10 ≤ 900000) : ∃ (one os : List Nat) (a' k' : Int), one.length = s ∧ os.length = s ∧ Sml one ∧ Sml os ∧ Re a' m k' (K + 2 * s + 10) ∧
    runF G15 N15.length c15 [.io (Rl a m k), .d (.int s)] = .ok (.d (.tup [L one, L os])) [Rl a' m k'] := by
  obtain ⟨one, a1, k1, e1, l1, w1, p1⟩ := lcS_v (s := s) .none .none .none .none .none .n h hs (by omega)
  obtain ⟨r, a2, k2, r0, r4, e2, q2⟩ := t10 (z := 4) e1 (by omega) (by decide) (by decide)
  have s1' : evS G15 (.asg (.nm 2) (.lc elS (.nm 5) (.range [(.var 1)]) none [5])) [.io (Rl a m k), .d (.int s), .none, .none, .none, .none, .none] = .ok .next [.io (Rl a1 m k1), .d (.int s), .o (Lb one), .none, .none, .none, .none] :=
    asg_eq p1 (by simp [asgR, Fx.cellOf, Lb])
  have s2' : evS G15 (.asg (.nm 3) (.call 10 [(.var 0), (.cst (.int 4))])) [.io (Rl a1 m k1), .d (.int s), .o (Lb one), .none, .none, .none, .none] = .ok .next [.io (Rl a2 m k2), .d (.int s), .o (Lb one), .d (.int r), .none, .none, .none] := by
    simp only [Rl] at q2
    simp [walkOf, evSs, evS, ev, evE, evT, evE_eq, evT_eq, evEs, evO, evC, evI, E2.of, do2, do1, doCall, doBlt, doInt, doSl, doSeq, doIte, doNot, doAnd, doOr, toNot, toAnd, toOr, doCol, doItN, doIt1, doRange, Res.bind, doVar, R.get, ofO, ixRO, ixD, L2.atI, L2.ixN, RO.toR, binD, bltD, cmpD, isNonD, ioOf, argCell, callF, preArgs, frz, frzs, gets, ioIdx, toArgs, setObs, noOwn, asgRs, asgR, asgD, asgDs, Fx.cellOf, truD, tyD, obAt, Cell.ob, Ob.toD, putOb, setD, itemsOf, g15_10, m10, d10, Rl, q2]
  obtain ⟨os, a3, k3, l3, w3, e3, s3'⟩ : ∃ (os : List Nat) (a3 k3 : Int), os.length = s ∧ Sml os ∧ Re a3 m k3 (K + 2 * s + 5) ∧
      evS G15 (.asg (.nm 4) (.ite (.cmp .eq (.var 3) (.cst (.int 0))) (.lc elS (.nm 5) (.range [(.var 1)]) none [5]) (.blt .list [(.var 2)]))) [.io (Rl a2 m k2), .d (.int s), .o (Lb one), .d (.int r), .none, .none, .none]
        = .ok .next [.io (Rl a3 m k3), .d (.int s), .o (Lb one), .d (.int r), .o (Lb os), .none, .none] := by
    by_cases r00 : r = 0
    · subst r00
      obtain ⟨os, a3, k3, e3, l3, w3, p3⟩ := lcS_v (s := s) (.o (Lb one)) (.d (.int 0)) .none .none .none .n e2 hs (by omega)
      refine ⟨os, a3, k3, l3, w3, e3.up (by omega), asg_eq (r := .new (Lb os)) (env1 := [.io (Rl a3 m k3), .d (.int s), .o (Lb one), .d (.int 0), .none, .none, .none]) ?_ (by simp [asgR, Fx.cellOf])⟩
      rw [ite_ev, of_v]
      unfold doIte
      rw [test_eq (r := 0) (j := 0) (b := true) rfl]
      exact p3
    · refine ⟨one, a2, k2, l1, w1, e2.up (by omega), asg_eq (r := .new (Lb one)) (env1 := [.io (Rl a2 m k2), .d (.int s), .o (Lb one), .d (.int r), .none, .none, .none]) ?_ (by simp [asgR, Fx.cellOf])⟩
      have t0 : (r == 0) = false := by simp [r00]
      rw [ite_ev, of_v]
      unfold doIte
      rw [test_eq t0]
      show (ev G15 (.blt .list [(.var 2)])).v _ = _
      simp [walkOf, evSs, evS, ev, evE, evT, evE_eq, evT_eq, evEs, evO, evC, evI, E2.of, do2, do1, doCall, doBlt, doInt, doSl, doSeq, doIte, doNot, doAnd, doOr, toNot, toAnd, toOr, doCol, doItN, doIt1, doRange, Res.bind, doVar, R.get, ofO, ixRO, ixD, L2.atI, L2.ixN, RO.toR, binD, bltD, cmpD, isNonD, ioOf, argCell, callF, preArgs, frz, frzs, gets, ioIdx, toArgs, setObs, noOwn, asgRs, asgR, asgD, asgDs, Fx.cellOf, truD, tyD, obAt, Cell.ob, Ob.toD, putOb, setD, itemsOf, Lb]
  obtain ⟨one', os', a', k', c2, c3, c4, c5, c6, z1, z2, z3, z4, z5, z6⟩ := tail15 (r := r) e3 hs1 hs (by omega) l1 l3 w1 w3
  exact ⟨one', os', a', k', z1, z2, z3, z4, z5.up (by omega), runF_of (run_cons s1' (run_cons s2' (run_cons s3' z6))) rfl rfl rfl⟩
end K28

set_option Elab.async false
set_option linter.all false
set_option maxRecDepth 100000
set_option maxHeartbeats 4000000
namespace K28
open PySem Fx
/-! ### the text of small rows -/
def Tx (d : D) : Prop := (toPy d).showable = true ∧ (toPy d).shown.length ≤ lim ∧ (toPy d).depth ≤ 40
/-- data made of small numbers -/
def Fin1 (d : PyData) : Prop := d.showable = true ∧ d.leavesShort 13 = true
theorem fin_int {n : Nat} (h : n ≤ 16) : Fin1 (.int n) ∧ (PyData.int n).weight ≤ 5 ∧ (PyData.int n).depth = 0 := by
  have h2 : Nat.log2 n < 6 := by
    by_cases z : n = 0
    · subst z; decide
    · exact (Nat.log2_lt z).mpr (by omega)
  have e : (n : Int).natAbs = n := Int.natAbs_natCast n
  have h3 : (PyData.shown (.int (n : Int))).length ≤ 13 := PyData.shown_int_le (by rw [e]; omega)
  refine ⟨⟨?_, ?_⟩, ?_, ?_⟩
  · simp only [PyData.showable, decide_eq_true_eq, e]; omega
  · simp only [PyData.leavesShort, decide_eq_true_eq]; exact h3
  · simp only [PyData.weight, e]
    by_cases z : n = 0
    · subst z; simp
    · have h4 : Nat.log2 n < 5 := (Nat.log2_lt z).mpr (by omega)
      split <;> omega
  · simp only [PyData.depth]
theorem fin_ints : ∀ (a : List Nat), (∀ n ∈ a, n ≤ 16) → PyData.showableAll (toPys (a.map wd)) = true ∧ PyData.leavesShortAll 13 (toPys (a.map wd)) = true ∧ PyData.weightAll (toPys (a.map wd)) ≤ 6 * a.length ∧ PyData.depthAll (toPys (a.map wd)) = 0
  | [], _ => by simp [toPys, PyData.showableAll, PyData.leavesShortAll, PyData.weightAll, PyData.depthAll]
  | n :: r, h => by
    obtain ⟨⟨h1, h2⟩, h3, h4⟩ := fin_int (h n (by simp))
    obtain ⟨g1, g2, g3, g4⟩ := fin_ints r fun m hm => h m (List.mem_cons_of_mem _ hm)
    simp only [List.map_cons, toPys, wd, toPy, PyData.showableAll, PyData.leavesShortAll, PyData.weightAll, PyData.depthAll, h1, h2, h4, List.length_cons]
    rw [g1, g2, g4]
    refine ⟨rfl, rfl, ?_, rfl⟩
    omega
theorem tx_of {d : D} {W : Nat} (h1 : (toPy d).showable = true) (h2 : (toPy d).leavesShort 13 = true) (h3 : (toPy d).weight ≤ W) (hW : W ≤ 50000) (h4 : (toPy d).depth ≤ 40) : Tx d := by
  have h := PyData.shown_le 13 (by decide) (toPy d) h2
  refine ⟨h1, ?_, h4⟩
  rw [lim_eq]
  omega
theorem tx_two {a b : List Nat} (ha : a.length ≤ 2000) (hb : b.length ≤ 2000) (ga : ∀ n ∈ a, n ≤ 16) (gb : ∀ n ∈ b, n ≤ 16) : Tx (.lst [L a, L b]) := by
  obtain ⟨a1, a2, a3, a4⟩ := fin_ints a ga
  obtain ⟨b1, b2, b3, b4⟩ := fin_ints b gb
  refine tx_of (W := 6 * a.length + 6 * b.length + 2) ?_ ?_ ?_ (by omega) ?_
  · simp only [toPy, toPys, L, PyData.showable, PyData.showableAll, a1, b1]; rfl
  · simp only [toPy, toPys, L, PyData.leavesShort, PyData.leavesShortAll, a2, b2]; rfl
  · simp only [toPy, toPys, L, PyData.weight, PyData.weightAll]; omega
  · simp only [toPy, toPys, L, PyData.depth, PyData.depthAll, a4, b4]; decide
theorem fin_pr {p : Nat × Nat} (h : Md p) : (toPy (pr p)).showable = true ∧ (toPy (pr p)).leavesShort 13 = true ∧ (toPy (pr p)).weight ≤ 12 ∧ (toPy (pr p)).depth = 1 := by
  obtain ⟨⟨h1, h2⟩, h3, h4⟩ := fin_int h.1
  obtain ⟨⟨g1, g2⟩, g3, g4⟩ := fin_int h.2
  simp only [pr, toPy, toPys, PyData.showable, PyData.showableAll, PyData.leavesShort, PyData.leavesShortAll, PyData.weight, PyData.weightAll, PyData.depth, PyData.depthAll]
  simp only [PyData.showable, PyData.leavesShort, PyData.weight] at h1 h2 h3 g1 g2 g3
  rw [h1, h2, g1, g2]
  refine ⟨rfl, rfl, ?_, rfl⟩
  omega
theorem tx_prs {p q r : Nat × Nat} (hp : Md p) (hq : Md q) (hr : Md r) : Tx (.lst [pr p, pr q, pr r]) := by
  obtain ⟨a1, a2, a3, a4⟩ := fin_pr hp
  obtain ⟨b1, b2, b3, b4⟩ := fin_pr hq
  obtain ⟨c1, c2, c3, c4⟩ := fin_pr hr
  refine tx_of (W := 39) ?_ ?_ ?_ (by omega) ?_
  · simp only [toPy, toPys, PyData.showable, PyData.showableAll, a1, b1, c1]; rfl
  · simp only [toPy, toPys, PyData.leavesShort, PyData.leavesShortAll, a2, b2, c2]; rfl
  · simp only [toPy, toPys, PyData.weight, PyData.weightAll]; omega
  · simp only [toPy, toPys, PyData.depth, PyData.depthAll, a4, b4, c4]; decide
theorem repr_ok {d : D} (h : Tx d) : bltD .repr [d] = some (.d (.str (toPy d).shown.cps.toList)) := by
  unfold bltD
  exact if_pos h
end K28

set_option Elab.async false
set_option linter.all false
set_option maxRecDepth 100000
set_option maxHeartbeats 4000000
namespace K28
open PySem Fx
/-! ### the greatest step does not hang on the order -/
def Lw (p : Nat × Nat) : Prop := 0 < p.1 ∧ 0 < p.2 ∧ Nat.gcd p.1 p.2 = 1
theorem step_lw {a b : Nat} (ha : 0 < a) (hb : 0 < b) : Lw (step a b) := by
  unfold step low
  have hg : 0 < Nat.gcd (max a b) (min a b) := Nat.gcd_pos_of_pos_left _ (by omega)
  refine ⟨Nat.div_pos (Nat.le_of_dvd (by omega) (Nat.gcd_dvd_left _ _)) hg, Nat.div_pos (Nat.le_of_dvd (by omega) (Nat.gcd_dvd_right _ _)) hg, ?_⟩
  show Nat.gcd (max a b / Nat.gcd (max a b) (min a b)) (min a b / Nat.gcd (max a b) (min a b)) = 1
  rw [Nat.gcd_div (Nat.gcd_dvd_left _ _) (Nat.gcd_dvd_right _ _), Nat.div_self hg]
theorem step_comm (a b : Nat) : step a b = step b a := by
  unfold step
  rw [Nat.max_comm, Nat.min_comm]
theorem lw_eq {x y : Nat × Nat} (hx : Lw x) (hy : Lw y) (h : x.1 * y.2 = y.1 * x.2) : x = y := by
  have d1 : x.1 ∣ y.1 := Nat.Coprime.dvd_of_dvd_mul_right (k := x.1) (n := x.2) (m := y.1) hx.2.2 ⟨y.2, h.symm⟩
  have d2 : y.1 ∣ x.1 := Nat.Coprime.dvd_of_dvd_mul_right (k := y.1) (n := y.2) (m := x.1) hy.2.2 ⟨x.2, h⟩
  have e := Nat.dvd_antisymm d1 d2
  rw [← e] at h
  have e2 := Nat.eq_of_mul_eq_mul_left hx.1 h
  exact Prod.ext e e2.symm
theorem ab_tr {x y z : Nat × Nat} (hx : Lw x) (h1 : above y x = true) (h2 : above x z = true) : above y z = true := by
  unfold above at *
  simp only [decide_eq_true_eq] at *
  have hz : 0 < z.2 := by
    rcases Nat.eq_zero_or_pos z.2 with h | h
    · rw [h] at h2; simp at h2
    · exact h
  have q1 : x.1 * y.2 * z.2 < y.1 * x.2 * z.2 := Nat.mul_lt_mul_of_pos_right h1 hz
  have q2 : z.1 * x.2 * y.2 ≤ x.1 * z.2 * y.2 := Nat.mul_le_mul_right _ (Nat.le_of_lt h2)
  have e1 : z.1 * x.2 * y.2 = z.1 * y.2 * x.2 := Nat.mul_right_comm _ _ _
  have e2 : y.1 * x.2 * z.2 = y.1 * z.2 * x.2 := Nat.mul_right_comm _ _ _
  have e3 : x.1 * y.2 * z.2 = x.1 * z.2 * y.2 := Nat.mul_right_comm _ _ _
  have q3 : z.1 * y.2 * x.2 < y.1 * z.2 * x.2 := by omega
  exact Nat.lt_of_mul_lt_mul_right q3
def op (z x : Nat × Nat) : Nat × Nat := if above x z then x else z
theorem op_comm {x y : Nat × Nat} (hx : Lw x) (hy : Lw y) (z : Nat × Nat) : op (op z x) y = op (op z y) x := by
  unfold op
  cases h1 : above x z with
  | true =>
    cases h2 : above y z with
    | true =>
      simp only [_root_.if_true]
      cases h3 : above y x with
      | true =>
        cases h4 : above x y with
        | true =>
          unfold above at h3 h4
          simp only [decide_eq_true_eq] at h3 h4
          omega
        | false => simp
      | false =>
        cases h4 : above x y with
        | true => simp
        | false =>
          unfold above at h3 h4
          simp only [decide_eq_false_iff_not] at h3 h4
          simp [lw_eq hx hy (by omega)]
    | false =>
      cases h3 : above y x with
      | true => rw [ab_tr hx h3 h1] at h2; exact nomatch h2
      | false => simp [h1, h3]
  | false =>
    cases h2 : above y z with
    | true =>
      cases h3 : above x y with
      | true => rw [ab_tr hy h3 h2] at h1; exact nomatch h1
      | false => simp [h2, h3]
    | false => simp [h1, h2]
def stp (x y : Nat × Nat) : Nat × Nat := step (y.1 * x.2) (x.1 * y.2)
def stps : List (Nat × Nat) → List (Nat × Nat)
  | x :: y :: r => stp x y :: stps (y :: r)
  | _ => []
theorem great_fold : ∀ (rows : List (Nat × Nat)) (f : Nat × Nat), great f rows = (stps rows).foldl op f
  | [], f => rfl
  | [x], f => rfl
  | x :: y :: r, f => by
    show great (op f (stp x y)) (y :: r) = _
    rw [great_fold (y :: r)]
    rfl
theorem stp_comm (x y : Nat × Nat) : stp x y = stp y x := by
  unfold stp
  rw [step_comm]
def Ps (p : Nat × Nat) : Prop := 0 < p.1 ∧ 0 < p.2
theorem stp_lw {x y : Nat × Nat} (hx : Ps x) (hy : Ps y) : Lw (stp x y) := step_lw (Nat.mul_pos hy.1 hx.2) (Nat.mul_pos hx.1 hy.2)
theorem stps_lw : ∀ (rows : List (Nat × Nat)), (∀ p ∈ rows, Ps p) → ∀ s ∈ stps rows, Lw s
  | [], _, s, hs => nomatch hs
  | [x], _, s, hs => nomatch hs
  | x :: y :: r, h, s, hs => by
    rcases List.mem_cons.mp hs with rfl | hs
    · exact stp_lw (h x (by simp)) (h y (by simp))
    · exact stps_lw (y :: r) (fun p hp => h p (List.mem_cons_of_mem _ hp)) s hs
theorem stps_snoc : ∀ (l : List (Nat × Nat)) (x y : Nat × Nat), stps (l ++ [x, y]) = stps (l ++ [x]) ++ [stp x y]
  | [], x, y => rfl
  | [a], x, y => rfl
  | a :: b :: r, x, y => by
    show stp a b :: stps (b :: r ++ [x, y]) = stp a b :: (stps (b :: r ++ [x])) ++ [stp x y]
    rw [stps_snoc (b :: r) x y]
    rfl
theorem stps_rev : ∀ rows : List (Nat × Nat), stps rows.reverse = (stps rows).reverse
  | [] => rfl
  | [x] => rfl
  | x :: y :: r => by
    have ih := stps_rev (y :: r)
    rw [List.reverse_cons] at ih
    rw [List.reverse_cons, List.reverse_cons, List.append_assoc]
    show stps (r.reverse ++ [y, x]) = (stp x y :: stps (y :: r)).reverse
    rw [stps_snoc, ih, List.reverse_cons, stp_comm]
theorem great_rev {rows : List (Nat × Nat)} (h : ∀ p ∈ rows, Ps p) (f : Nat × Nat) : great f rows.reverse = great f rows := by
  rw [great_fold, great_fold, stps_rev]
  exact (List.reverse_perm (stps rows)).foldl_eq' (fun x hx y hy z => op_comm (stps_lw rows h x (List.mem_reverse.mp hx)) (stps_lw rows h y (List.mem_reverse.mp hy)) z) f
def sw (p : Nat × Nat) : Nat × Nat := (p.2, p.1)
theorem stp_sw (x y : Nat × Nat) : stp (sw x) (sw y) = stp x y := by
  unfold stp sw
  show step (y.2 * x.1) (x.2 * y.1) = step (y.1 * x.2) (x.1 * y.2)
  rw [step_comm, Nat.mul_comm x.2, Nat.mul_comm y.2]
theorem stps_sw : ∀ rows : List (Nat × Nat), stps (rows.map sw) = stps rows
  | [] => rfl
  | [x] => rfl
  | x :: y :: r => by
    have ih := stps_sw (y :: r)
    show stp (sw x) (sw y) :: stps ((y :: r).map sw) = stp x y :: stps (y :: r)
    rw [ih, stp_sw]
theorem zip_sw : ∀ a b : List Nat, b.zip a = (a.zip b).map sw
  | [], b => by cases b <;> rfl
  | x :: a, [] => rfl
  | x :: a, y :: b => by
    show (y, x) :: b.zip a = (y, x) :: (a.zip b).map sw
    rw [zip_sw a b]
theorem con_comm (a b : List Nat) : con b a = con a b := by
  unfold con
  rw [zip_sw a b, great_fold, great_fold, stps_sw]
theorem con_rev {a b : List Nat} (ha : Row a) (hb : Row b) (hl : a.length = b.length) : con a.reverse b.reverse = con a b := by
  unfold con
  have e : a.reverse.zip b.reverse = (a.zip b).reverse := by
    unfold List.zip
    exact (List.reverse_zipWith hl).symm
  rw [e]
  refine great_rev (fun p hp => ?_) _
  obtain ⟨h1, h2⟩ := List.of_mem_zip (a := p.1) (b := p.2) hp
  exact ⟨by have := ha.2.2 _ h1; omega, by have := hb.2.2 _ h2; omega⟩
theorem great_diag : ∀ (a : List Nat), (∀ n ∈ a, 1 ≤ n ∧ n ≤ 4) → great (1, 1) (a.zip a) = (1, 1)
  | [], _ => rfl
  | [x], _ => rfl
  | x :: y :: r, h => by
    have hx := h x (by simp)
    have hy := h y (by simp)
    have e : step (y * x) (x * y) = (1, 1) := by
      have p : 0 < x * y := Nat.mul_pos hx.1 hy.1
      rw [Nat.mul_comm y x]
      unfold step low
      rw [Nat.max_self, Nat.min_self, Nat.gcd_self, Nat.div_self p]
    have ih := great_diag (y :: r) fun n hn => h n (List.mem_cons_of_mem _ hn)
    show great (if above (step (y * x) (x * y)) (1, 1) then step (y * x) (x * y) else (1, 1)) ((y :: r).zip (y :: r)) = _
    rw [e]
    exact ih
theorem con_self {a : List Nat} (ha : Row a) : con a a = (1, 1) := great_diag a ha.2.2
theorem con_one (a b : List Nat) : con (a.take 1) (b.take 1) = (1, 1) := by
  cases a <;> cases b <;> rfl
theorem con_md {a b : List Nat} (ha : Row a) (hb : Row b) : Md (con a b) := great_md (zip_sm ha.2.2 hb.2.2)
end K28

set_option Elab.async false
set_option linter.all false
set_option maxRecDepth 100000
set_option maxHeartbeats 4000000
namespace K28
open PySem Fx
/-! ### _law_right -/
def txt (d : D) : D := .str (toPy d).shown.cps.toList
theorem reprV {Γ : FT} {e : CE} {env : Cells} {r : Fx.R} {d : D} (h : (ev Γ e).v env = .ok r env) (hg : r.get env = some d) (ht : Tx d) : (ev Γ (.blt .repr [e])).v env = .ok (.d (txt d)) env := by
  rw [blt_ev, of_v]
  unfold doBlt
  rw [evEs, h]
  simp only [Res.bind, evEs, gets, hg, repr_ok ht, Option.map, RO.toR, ofO]
  rfl
theorem cmpV {Γ : FT} {o : Cop} {e f : CE} {env : Cells} {r q : Fx.R} {x y : D} {b : Bool} (h : (ev Γ e).v env = .ok r env) (k : (ev Γ f).v env = .ok q env) (hx : r.get env = some x) (hy : q.get env = some y)
    (hb : cmpD o x y = some b) : (ev Γ (.cmp o e f)).v env = .ok (.d (.bl b)) env := by
  rw [cmp_ev, of_v]
  unfold do2
  rw [h]
  simp only [Res.bind, k, hx, hy, hb, Option.map, RO.toR, ofO]
theorem tOf {Γ : FT} {e : CE} {env : Cells} {b : Bool} {f : Cells → Res Fx.R} (he : ev Γ e = .of f) (h : (ev Γ e).v env = .ok (.d (.bl b)) env) : (ev Γ e).t env = .ok b env := by
  rw [he] at h ⊢
  rw [of_v] at h
  rw [of_t, h]
  rfl
theorem cmpT {Γ : FT} {o : Cop} {e f : CE} {env : Cells} {r q : Fx.R} {x y : D} {b : Bool} (h : (ev Γ e).v env = .ok r env) (k : (ev Γ f).v env = .ok q env) (hx : r.get env = some x) (hy : q.get env = some y)
    (hb : cmpD o x y = some b) : (ev Γ (.cmp o e f)).t env = .ok b env := tOf cmp_ev (cmpV h k hx hy hb)
theorem orF {Γ : FT} {e f : CE} {env : Cells} (h : (ev Γ e).t env = .ok false env) (k : (ev Γ f).t env = .ok false env) : (ev Γ (.or e f)).t env = .ok false env := by
  rw [or_ev]
  show toOr _ _ _ = _
  unfold toOr
  rw [h]
  exact k
theorem con8 {Γ : FT} (hg : Γ[8]? = some ⟨m8, d8, runF G8 N8.length c8⟩) {e1 e2 : CE} {env : Cells} {r1 r2 : Fx.R} {a b : List Nat} (k1 : (ev Γ e1).v env = .ok r1 env) (k2 : (ev Γ e2).v env = .ok r2 env)
    (h1 : frz env r1 = some (L a, env)) (h2 : frz env r2 = some (L b, env)) (ha : Row a) (hb : Row b) (hl : a.length = b.length) :
    (ev Γ (.call 8 [e1, e2])).v env = .ok (.d (pr (con a b))) env := by
  have h := t8 ha hb hl
  rw [call_ev, of_v]
  unfold doCall
  rw [evEs, k1]
  simp only [Res.bind]
  rw [evEs, k2]
  simp only [Res.bind, evEs]
  unfold callF
  simp only [hg, m8, d8, List.drop_nil, List.map_nil, List.append_nil, preArgs, h1, h2, ioIdx, List.nodup_nil, _root_.if_true, toArgs, h, setObs, RO.toR]
theorem g16_8 : G16[8]? = some ⟨m8, d8, runF G8 N8.length c8⟩ := rfl
theorem g16_14 : G16[14]? = some ⟨m14, d14, runF G14 N14.length c14⟩ := rfl
theorem g17_8 : G17[8]? = some ⟨m8, d8, runF G8 N8.length c8⟩ := rfl
theorem row_rev {a : List Nat} (h : Row a) : Row a.reverse := ⟨by simp [h.1], by simp [h.2.1], fun n hn => h.2.2 n (List.mem_reverse.mp hn)⟩
theorem row_one {a : List Nat} (h : Row a) : Row (a.take 1) := ⟨by have := h.1; rw [List.length_take]; omega, by have := h.2.1; rw [List.length_take]; omega, fun n hn => h.2.2 n (List.mem_of_mem_take hn)⟩
theorem cut01 {α : Type} (xs : List α) : cutG xs none (some 1) = xs.take 1 := by
  unfold cutG
  rw [show HT.sIx xs.length xs.length (some 1) = min 1 xs.length from HT.sIx_nat xs.length _ 1, HT.sIx_none]
  cases xs with
  | nil => rfl
  | cons x r => rw [show min 1 (x :: r).length = 1 by rw [List.length_cons]; omega]; rfl
theorem cmp_txt_eq (d : D) : cmpD .eq (txt d) (txt d) = some true := by simp [cmpD, txt]
theorem cmp_txt_ne (d : D) : cmpD .ne (txt d) (txt d) = some false := by simp [cmpD, txt]
theorem cmp_pr_ne (p : Nat × Nat) : cmpD .ne (pr p) (pr p) = some false := by simp [cmpD, pr, flatD, flatDs, eqD, eqDs]
theorem t16 {a b : List Nat} (ha : Row a) (hb : Row b) (hl : a.length = b.length) : runF G16 N16.length c16 [.d (L a), .d (L b)] = .ok (.d (.bl true)) [] := by
  have l3 : ∀ k, k ≤ 3 → k ≤ lim := by intro k h; rw [lim_eq]; omega
  -- common expressions
  have v0 : ∀ c2 c3 c4, (ev G16 (.var 0)).v [.d (L a), .d (L b), c2, c3, c4] = .ok (.d (L a)) [.d (L a), .d (L b), c2, c3, c4] := by intro _ _ _; simp [walkOf, evSs, evS, ev, evE, evT, evE_eq, evT_eq, evEs, evO, evC, evI, E2.of, do2, do1, doCall, doBlt, doInt, doSl, doSeq, doIte, doNot, doAnd, doOr, toNot, toAnd, toOr, doCol, doItN, doIt1, doRange, Res.bind, doVar, R.get, ofO, ixRO, ixD, L2.atI, L2.ixN, RO.toR, binD, bltD, cmpD, isNonD, ioOf, argCell, callF, preArgs, frz, frzs, gets, ioIdx, toArgs, setObs, noOwn, asgRs, asgR, asgD, asgDs, Fx.cellOf, truD, tyD, obAt, Cell.ob, Ob.toD, putOb, setD, itemsOf]
  have v1 : ∀ c2 c3 c4, (ev G16 (.var 1)).v [.d (L a), .d (L b), c2, c3, c4] = .ok (.d (L b)) [.d (L a), .d (L b), c2, c3, c4] := by intro _ _ _; simp [walkOf, evSs, evS, ev, evE, evT, evE_eq, evT_eq, evEs, evO, evC, evI, E2.of, do2, do1, doCall, doBlt, doInt, doSl, doSeq, doIte, doNot, doAnd, doOr, toNot, toAnd, toOr, doCol, doItN, doIt1, doRange, Res.bind, doVar, R.get, ofO, ixRO, ixD, L2.atI, L2.ixN, RO.toR, binD, bltD, cmpD, isNonD, ioOf, argCell, callF, preArgs, frz, frzs, gets, ioIdx, toArgs, setObs, noOwn, asgRs, asgR, asgD, asgDs, Fx.cellOf, truD, tyD, obAt, Cell.ob, Ob.toD, putOb, setD, itemsOf]
  have rv0 : ∀ c2 c3 c4, (ev G16 (.rev (.var 0))).v [.d (L a), .d (L b), c2, c3, c4] = .ok (.new (.lst (a.map wd).reverse)) [.d (L a), .d (L b), c2, c3, c4] := by intro _ _ _; simp [walkOf, evSs, evS, ev, evE, evT, evE_eq, evT_eq, evEs, evO, evC, evI, E2.of, do2, do1, doCall, doBlt, doInt, doSl, doSeq, doIte, doNot, doAnd, doOr, toNot, toAnd, toOr, doCol, doItN, doIt1, doRange, Res.bind, doVar, R.get, ofO, ixRO, ixD, L2.atI, L2.ixN, RO.toR, binD, bltD, cmpD, isNonD, ioOf, argCell, callF, preArgs, frz, frzs, gets, ioIdx, toArgs, setObs, noOwn, asgRs, asgR, asgD, asgDs, Fx.cellOf, truD, tyD, obAt, Cell.ob, Ob.toD, putOb, setD, itemsOf, L, revD]
  have rv1 : ∀ c2 c3 c4, (ev G16 (.rev (.var 1))).v [.d (L a), .d (L b), c2, c3, c4] = .ok (.new (.lst (b.map wd).reverse)) [.d (L a), .d (L b), c2, c3, c4] := by intro _ _ _; simp [walkOf, evSs, evS, ev, evE, evT, evE_eq, evT_eq, evEs, evO, evC, evI, E2.of, do2, do1, doCall, doBlt, doInt, doSl, doSeq, doIte, doNot, doAnd, doOr, toNot, toAnd, toOr, doCol, doItN, doIt1, doRange, Res.bind, doVar, R.get, ofO, ixRO, ixD, L2.atI, L2.ixN, RO.toR, binD, bltD, cmpD, isNonD, ioOf, argCell, callF, preArgs, frz, frzs, gets, ioIdx, toArgs, setObs, noOwn, asgRs, asgR, asgD, asgDs, Fx.cellOf, truD, tyD, obAt, Cell.ob, Ob.toD, putOb, setD, itemsOf, L, revD]
  have s0 : ∀ c2 c3 c4, (ev G16 (.sl (.var 0) none (some (.cst (.int 1))))).v [.d (L a), .d (L b), c2, c3, c4] = .ok (.new (.lst ((a.map wd).take 1))) [.d (L a), .d (L b), c2, c3, c4] := by intro _ _ _; simp [walkOf, evSs, evS, ev, evE, evT, evE_eq, evT_eq, evEs, evO, evC, evI, E2.of, do2, do1, doCall, doBlt, doInt, doSl, doSeq, doIte, doNot, doAnd, doOr, toNot, toAnd, toOr, doCol, doItN, doIt1, doRange, Res.bind, doVar, R.get, ofO, ixRO, ixD, L2.atI, L2.ixN, RO.toR, binD, bltD, cmpD, isNonD, ioOf, argCell, callF, preArgs, frz, frzs, gets, ioIdx, toArgs, setObs, noOwn, asgRs, asgR, asgD, asgDs, Fx.cellOf, truD, tyD, obAt, Cell.ob, Ob.toD, putOb, setD, itemsOf, L, slD, cut01]
  have s1 : ∀ c2 c3 c4, (ev G16 (.sl (.var 1) none (some (.cst (.int 1))))).v [.d (L a), .d (L b), c2, c3, c4] = .ok (.new (.lst ((b.map wd).take 1))) [.d (L a), .d (L b), c2, c3, c4] := by intro _ _ _; simp [walkOf, evSs, evS, ev, evE, evT, evE_eq, evT_eq, evEs, evO, evC, evI, E2.of, do2, do1, doCall, doBlt, doInt, doSl, doSeq, doIte, doNot, doAnd, doOr, toNot, toAnd, toOr, doCol, doItN, doIt1, doRange, Res.bind, doVar, R.get, ofO, ixRO, ixD, L2.atI, L2.ixN, RO.toR, binD, bltD, cmpD, isNonD, ioOf, argCell, callF, preArgs, frz, frzs, gets, ioIdx, toArgs, setObs, noOwn, asgRs, asgR, asgD, asgDs, Fx.cellOf, truD, tyD, obAt, Cell.ob, Ob.toD, putOb, setD, itemsOf, L, slD, cut01]
  have tw : Tx (.lst [L a, L b]) := tx_two ha.2.1 hb.2.1 (fun n hn => by have := ha.2.2 n hn; omega) (fun n hn => by have := hb.2.2 n hn; omega)
  have lv : ∀ c2 c3 c4, (ev G16 (.lst [.var 0, .var 1])).v [.d (L a), .d (L b), c2, c3, c4] = .ok (.new (.lst [L a, L b])) [.d (L a), .d (L b), c2, c3, c4] := by
    intro _ _ _
    have := l3 2 (by omega)
    simp [walkOf, evSs, evS, ev, evE, evT, evE_eq, evT_eq, evEs, evO, evC, evI, E2.of, do2, do1, doCall, doBlt, doInt, doSl, doSeq, doIte, doNot, doAnd, doOr, toNot, toAnd, toOr, doCol, doItN, doIt1, doRange, Res.bind, doVar, R.get, ofO, ixRO, ixD, L2.atI, L2.ixN, RO.toR, binD, bltD, cmpD, isNonD, ioOf, argCell, callF, preArgs, frz, frzs, gets, ioIdx, toArgs, setObs, noOwn, asgRs, asgR, asgD, asgDs, Fx.cellOf, truD, tyD, obAt, Cell.ob, Ob.toD, putOb, setD, itemsOf, this]
  have rp : ∀ c2 c3 c4, (ev G16 (.blt .repr [.lst [.var 0, .var 1]])).v [.d (L a), .d (L b), c2, c3, c4] = .ok (.d (txt (.lst [L a, L b]))) [.d (L a), .d (L b), c2, c3, c4] := fun _ _ _ => reprV (lv _ _ _) rfl tw
  let c := con a b
  have mc : Md c := con_md ha hb
  have k14 : (ev G16 (.call 14 [.col [.var 0, .var 1]])).v [.d (L a), .d (L b), .none, .none, .none] = .ok (.d (pr c)) [.d (L a), .d (L b), .none, .none, .none] := by
    have h := t14 (zip_sm ha.2.2 hb.2.2)
    rw [call_ev, of_v]
    unfold doCall
    rw [evEs, colz (v0 _ _ _) (v1 _ _ _) ha.2.1]
    simp only [Res.bind, evEs]
    unfold callF
    simp only [g16_14, m14, d14, List.drop_nil, List.map_nil, List.append_nil, preArgs, frz, Ob.toD, ioIdx, List.nodup_nil, _root_.if_true, toArgs, h, setObs, RO.toR]
    rfl
  have q1 : evS G16 (.par [.nm 2, .nm 3] [.blt .repr [.lst [.var 0, .var 1]], .call 14 [.col [.var 0, .var 1]]]) [.d (L a), .d (L b), .none, .none, .none]
      = .ok .next [.d (L a), .d (L b), .d (txt (.lst [L a, L b])), .d (pr c), .none] := by
    rw [evS, evEs, rp]
    simp only [Res.bind]
    rw [evEs, k14]
    simp [Res.bind, evEs, noOwn, asgRs, asgR, Fx.cellOf]
  have ka : (ev G16 (.call 8 [.var 0, .var 1])).v [.d (L a), .d (L b), .d (txt (.lst [L a, L b])), .d (pr c), .none] = .ok (.d (pr c)) [.d (L a), .d (L b), .d (txt (.lst [L a, L b])), .d (pr c), .none] :=
    con8 g16_8 (v0 _ _ _) (v1 _ _ _) rfl rfl ha hb hl
  have kb : (ev G16 (.call 8 [.var 1, .var 0])).v [.d (L a), .d (L b), .d (txt (.lst [L a, L b])), .d (pr c), .none] = .ok (.d (pr c)) [.d (L a), .d (L b), .d (txt (.lst [L a, L b])), .d (pr c), .none] := by
    have := con8 g16_8 (v1 (.d (txt (.lst [L a, L b]))) (.d (pr c)) .none) (v0 _ _ _) rfl rfl hb ha hl.symm
    rwa [con_comm] at this
  have kc : (ev G16 (.call 8 [.rev (.var 0), .rev (.var 1)])).v [.d (L a), .d (L b), .d (txt (.lst [L a, L b])), .d (pr c), .none] = .ok (.d (pr c)) [.d (L a), .d (L b), .d (txt (.lst [L a, L b])), .d (pr c), .none] := by
    have := con8 (a := a.reverse) (b := b.reverse) g16_8 (rv0 (.d (txt (.lst [L a, L b]))) (.d (pr c)) .none) (rv1 _ _ _) (by simp [frz, Ob.toD, L]) (by simp [frz, Ob.toD, L]) (row_rev ha) (row_rev hb) (by simp [hl])
    rwa [con_rev ha hb hl] at this
  have q2 : evS G16 (.asg (.nm 4) (.lst [.call 8 [.var 0, .var 1], .call 8 [.var 1, .var 0], .call 8 [.rev (.var 0), .rev (.var 1)]])) [.d (L a), .d (L b), .d (txt (.lst [L a, L b])), .d (pr c), .none]
      = .ok .next [.d (L a), .d (L b), .d (txt (.lst [L a, L b])), .d (pr c), .o (.lst [pr c, pr c, pr c])] := by
    refine asg_eq (r := .new (.lst [pr c, pr c, pr c])) (env1 := [.d (L a), .d (L b), .d (txt (.lst [L a, L b])), .d (pr c), .none]) ?_ (by simp [asgR, Fx.cellOf])
    have := l3 3 (by omega)
    rw [lst_ev, of_v]
    unfold doSeq
    rw [evEs, ka]
    simp only [Res.bind]
    rw [evEs, kb]
    simp only [Res.bind]
    rw [evEs, kc]
    simp [Res.bind, evEs, frzs, frz, this]
  have ro : (ev G16 (.blt .repr [.var 4])).v [.d (L a), .d (L b), .d (txt (.lst [L a, L b])), .d (pr c), .o (.lst [pr c, pr c, pr c])] = .ok (.d (txt (.lst [pr c, pr c, pr c]))) [.d (L a), .d (L b), .d (txt (.lst [L a, L b])), .d (pr c), .o (.lst [pr c, pr c, pr c])] :=
    reprV (r := .own 4) (by simp [walkOf, evSs, evS, ev, evE, evT, evE_eq, evT_eq, evEs, evO, evC, evI, E2.of, do2, do1, doCall, doBlt, doInt, doSl, doSeq, doIte, doNot, doAnd, doOr, toNot, toAnd, toOr, doCol, doItN, doIt1, doRange, Res.bind, doVar, R.get, ofO, ixRO, ixD, L2.atI, L2.ixN, RO.toR, binD, bltD, cmpD, isNonD, ioOf, argCell, callF, preArgs, frz, frzs, gets, ioIdx, toArgs, setObs, noOwn, asgRs, asgR, asgD, asgDs, Fx.cellOf, truD, tyD, obAt, Cell.ob, Ob.toD, putOb, setD, itemsOf]) rfl (tx_prs mc mc mc)
  have rm : (ev G16 (.blt .repr [.bin .mul (.lst [.var 3]) (.cst (.int 3))])).v [.d (L a), .d (L b), .d (txt (.lst [L a, L b])), .d (pr c), .o (.lst [pr c, pr c, pr c])] = .ok (.d (txt (.lst [pr c, pr c, pr c]))) [.d (L a), .d (L b), .d (txt (.lst [L a, L b])), .d (pr c), .o (.lst [pr c, pr c, pr c])] := by
    refine reprV (r := .new (.lst [pr c, pr c, pr c])) ?_ rfl (tx_prs mc mc mc)
    have g1 := l3 1 (by omega)
    have g3 := l3 3 (by omega)
    simp [walkOf, evSs, evS, ev, evE, evT, evE_eq, evT_eq, evEs, evO, evC, evI, E2.of, do2, do1, doCall, doBlt, doInt, doSl, doSeq, doIte, doNot, doAnd, doOr, toNot, toAnd, toOr, doCol, doItN, doIt1, doRange, Res.bind, doVar, R.get, ofO, ixRO, ixD, L2.atI, L2.ixN, RO.toR, binD, bltD, cmpD, isNonD, ioOf, argCell, callF, preArgs, frz, frzs, gets, ioIdx, toArgs, setObs, noOwn, asgRs, asgR, asgD, asgDs, Fx.cellOf, truD, tyD, obAt, Cell.ob, Ob.toD, putOb, setD, itemsOf, g1, g3]
  have p11 : ∀ env : Cells, (ev G16 (.tup [.cst (.int 1), .cst (.int 1)])).v env = .ok (.d (pr (1, 1))) env := by
    intro env
    have g2 := l3 2 (by omega)
    simp [walkOf, evSs, evS, ev, evE, evT, evE_eq, evT_eq, evEs, evO, evC, evI, E2.of, do2, do1, doCall, doBlt, doInt, doSl, doSeq, doIte, doNot, doAnd, doOr, toNot, toAnd, toOr, doCol, doItN, doIt1, doRange, Res.bind, doVar, R.get, ofO, ixRO, ixD, L2.atI, L2.ixN, RO.toR, binD, bltD, cmpD, isNonD, ioOf, argCell, callF, preArgs, frz, frzs, gets, ioIdx, toArgs, setObs, noOwn, asgRs, asgR, asgD, asgDs, Fx.cellOf, truD, tyD, obAt, Cell.ob, Ob.toD, putOb, setD, itemsOf, g2, pr]
  have q3 : ∀ ss, evS G16 (.ifs (.or (.cmp .ne (.blt .repr [.var 4]) (.blt .repr [.bin .mul (.lst [.var 3]) (.cst (.int 3))])) (.or (.cmp .ne (.call 8 [.var 0, .var 0]) (.tup [.cst (.int 1), .cst (.int 1)]))
      (.cmp .ne (.call 8 [.sl (.var 0) none (some (.cst (.int 1))), .sl (.var 1) none (some (.cst (.int 1)))]) (.tup [.cst (.int 1), .cst (.int 1)])))) ss []) [.d (L a), .d (L b), .d (txt (.lst [L a, L b])), .d (pr c), .o (.lst [pr c, pr c, pr c])]
      = .ok .next [.d (L a), .d (L b), .d (txt (.lst [L a, L b])), .d (pr c), .o (.lst [pr c, pr c, pr c])] := by
    intro ss
    have k1 := con8 g16_8 (v0 (.d (txt (.lst [L a, L b]))) (.d (pr c)) (.o (.lst [pr c, pr c, pr c]))) (v0 _ _ _) rfl rfl ha ha rfl
    rw [con_self ha] at k1
    have k2 := con8 (a := a.take 1) (b := b.take 1) g16_8 (s0 (.d (txt (.lst [L a, L b]))) (.d (pr c)) (.o (.lst [pr c, pr c, pr c]))) (s1 _ _ _) (by simp [frz, Ob.toD, L]) (by simp [frz, Ob.toD, L]) (row_one ha) (row_one hb) (by simp [hl])
    rw [con_one] at k2
    exact if_false (orF (cmpT ro rm rfl rfl (cmp_txt_ne _)) (orF (cmpT k1 (p11 _) rfl rfl (cmp_pr_ne _)) (cmpT k2 (p11 _) rfl rfl (cmp_pr_ne _)))) run_nil
  have v2 : (ev G16 (.var 2)).v [.d (L a), .d (L b), .d (txt (.lst [L a, L b])), .d (pr c), .o (.lst [pr c, pr c, pr c])] = .ok (.d (txt (.lst [L a, L b]))) [.d (L a), .d (L b), .d (txt (.lst [L a, L b])), .d (pr c), .o (.lst [pr c, pr c, pr c])] := by simp [walkOf, evSs, evS, ev, evE, evT, evE_eq, evT_eq, evEs, evO, evC, evI, E2.of, do2, do1, doCall, doBlt, doInt, doSl, doSeq, doIte, doNot, doAnd, doOr, toNot, toAnd, toOr, doCol, doItN, doIt1, doRange, Res.bind, doVar, R.get, ofO, ixRO, ixD, L2.atI, L2.ixN, RO.toR, binD, bltD, cmpD, isNonD, ioOf, argCell, callF, preArgs, frz, frzs, gets, ioIdx, toArgs, setObs, noOwn, asgRs, asgR, asgD, asgDs, Fx.cellOf, truD, tyD, obAt, Cell.ob, Ob.toD, putOb, setD, itemsOf]
  have q4 := ret_eq (cmpV (rp (.d (txt (.lst [L a, L b]))) (.d (pr c)) (.o (.lst [pr c, pr c, pr c]))) v2 rfl rfl (cmp_txt_eq _))
  exact runF_of (run_cons q1 (run_cons q2 (run_cons (q3 _) (run_ret q4)))) rfl rfl rfl
end K28

set_option Elab.async false
set_option linter.all false
set_option maxRecDepth 100000
set_option maxHeartbeats 4000000
namespace K28
open PySem Fx
/-! ### the law: the drawn rows -/
theorem g17_10 : G17[10]? = some ⟨m10, d10, runF G10 N10.length c10⟩ := rfl
theorem g17_9 : G17[9]? = some ⟨m9, d9, runF G9 N9.length c9⟩ := rfl
theorem g17_15 : G17[15]? = some ⟨m15, d15, runF G15 N15.length c15⟩ := rfl
theorem g17_16 : G17[16]? = some ⟨m16, d16, runF G16 N16.length c16⟩ := rfl
abbrev E17 (S : D) (I : Cell) (b : Ob) (c3 c4 c5 c6 c7 c8 : Cell) : Cells := [.d S, I, .o b, c3, c4, c5, c6, c7, c8]
theorem var2 {S : D} {I : Cell} {b : Ob} {c3 c4 c5 c6 c7 c8 : Cell} : (ev G17 (.var 2)).v (E17 S I b c3 c4 c5 c6 c7 c8) = .ok (.own 2) (E17 S I b c3 c4 c5 c6 c7 c8) := by simp [walkOf, evSs, evS, ev, evE, evT, evE_eq, evT_eq, evEs, evO, evC, evI, E2.of, do2, do1, doCall, doBlt, doInt, doSl, doSeq, doIte, doNot, doAnd, doOr, toNot, toAnd, toOr, doCol, doItN, doIt1, doRange, Res.bind, doVar, R.get, ofO, ixRO, ixD, L2.atI, L2.ixN, RO.toR, binD, bltD, cmpD, isNonD, ioOf, argCell, callF, preArgs, frz, frzs, gets, ioIdx, toArgs, setObs, noOwn, asgRs, asgR, asgD, asgDs, Fx.cellOf, truD, tyD, obAt, Cell.ob, Ob.toD, putOb, setD, itemsOf]
theorem spin17 {S : D} {I : Cell} {b : Ob} {c3 c4 c5 c6 c7 c8 : Cell} {e : CE} {a m k K z : Int} (h : Re a m k K) (hK : K ≤ 900000) (hz : 1 ≤ z) (hz2 : z ≤ 1000000)
    (he : (ev G17 e).v (E17 S I b c3 c4 c5 c6 c7 c8) = .ok (.d (.int z)) (E17 S I (Rl a m k) c3 c4 c5 c6 c7 c8)) :
    ∃ r a' k', 0 ≤ r ∧ r < z ∧ Re a' m k' (K + 1) ∧ (ev G17 (.call 10 [.var 2, e])).v (E17 S I b c3 c4 c5 c6 c7 c8) = .ok (.d (.int r)) (E17 S I (Rl a' m k') c3 c4 c5 c6 c7 c8) := by
  obtain ⟨r, a', k', r0, r1, e1, q⟩ := t10 h hK hz hz2
  refine ⟨r, a', k', r0, r1, e1, ?_⟩
  rw [call_ev, of_v]
  unfold doCall
  rw [evEs, var2]
  simp only [Res.bind]
  rw [evEs, he]
  simp only [Res.bind, evEs]
  unfold callF
  simp only [g17_10, m10, d10, List.drop_nil, List.map_nil, List.append_nil, preArgs, frz, ioIdx]
  simp [toArgs, obAt, Cell.ob, Rl, E17]
  simp only [Rl] at q
  rw [q]
  simp [setObs, putOb, obAt, Cell.ob, RO.toR]
abbrev szE : CE := .bin .add (.cst (.int 1)) (.call 10 [.var 2, .ix (.lst [.cst (.int 2), .cst (.int 6), .cst (.int 12), .cst (.int 300)]) (.call 10 [.var 2, .cst (.int 4)])])
theorem size17 {S : D} {I : Cell} {c3 c4 c5 c6 c7 c8 : Cell} {a m k K : Int} (h : Re a m k K) (hK : K + 2 ≤ 900000) :
    ∃ (s : Nat) (a' k' : Int), 1 ≤ s ∧ s ≤ 300 ∧ Re a' m k' (K + 2) ∧ (ev G17 szE).v (E17 S I (Rl a m k) c3 c4 c5 c6 c7 c8) = .ok (.d (.int s)) (E17 S I (Rl a' m k') c3 c4 c5 c6 c7 c8) := by
  obtain ⟨r, a1, k1, r0, r4, e1, q1⟩ := spin17 (b := Rl a m k) (S := S) (I := I) (c3 := c3) (c4 := c4) (c5 := c5) (c6 := c6) (c7 := c7) (c8 := c8) (e := .cst (.int 4)) (z := 4) h (by omega) (by decide) (by decide) (by simp [walkOf, evSs, evS, ev, evE, evT, evE_eq, evT_eq, evEs, evO, evC, evI, E2.of, do2, do1, doCall, doBlt, doInt, doSl, doSeq, doIte, doNot, doAnd, doOr, toNot, toAnd, toOr, doCol, doItN, doIt1, doRange, Res.bind, doVar, R.get, ofO, ixRO, ixD, L2.atI, L2.ixN, RO.toR, binD, bltD, cmpD, isNonD, ioOf, argCell, callF, preArgs, frz, frzs, gets, ioIdx, toArgs, setObs, noOwn, asgRs, asgR, asgD, asgDs, Fx.cellOf, truD, tyD, obAt, Cell.ob, Ob.toD, putOb, setD, itemsOf])
  have l4 : 4 ≤ lim := by rw [lim_eq]; omega
  have hl : (ev G17 (.lst [.cst (.int 2), .cst (.int 6), .cst (.int 12), .cst (.int 300)])).v (E17 S I (Rl a m k) c3 c4 c5 c6 c7 c8) = .ok (.new (.lst [.int 2, .int 6, .int 12, .int 300])) (E17 S I (Rl a m k) c3 c4 c5 c6 c7 c8) := by simp [walkOf, evSs, evS, ev, evE, evT, evE_eq, evT_eq, evEs, evO, evC, evI, E2.of, do2, do1, doCall, doBlt, doInt, doSl, doSeq, doIte, doNot, doAnd, doOr, toNot, toAnd, toOr, doCol, doItN, doIt1, doRange, Res.bind, doVar, R.get, ofO, ixRO, ixD, L2.atI, L2.ixN, RO.toR, binD, bltD, cmpD, isNonD, ioOf, argCell, callF, preArgs, frz, frzs, gets, ioIdx, toArgs, setObs, noOwn, asgRs, asgR, asgD, asgDs, Fx.cellOf, truD, tyD, obAt, Cell.ob, Ob.toD, putOb, setD, itemsOf, l4]
  have hx : ∃ z : Int, 2 ≤ z ∧ z ≤ 300 ∧ (ev G17 (.ix (.lst [.cst (.int 2), .cst (.int 6), .cst (.int 12), .cst (.int 300)]) (.call 10 [.var 2, .cst (.int 4)]))).v (E17 S I (Rl a m k) c3 c4 c5 c6 c7 c8) = .ok (.d (.int z)) (E17 S I (Rl a1 m k1) c3 c4 c5 c6 c7 c8) := by
    have hr : r = 0 ∨ r = 1 ∨ r = 2 ∨ r = 3 := by omega
    have key : ∀ z : D, ixD (.lst [.int 2, .int 6, .int 12, .int 300]) (.int r) = some z → (ev G17 (.ix (.lst [.cst (.int 2), .cst (.int 6), .cst (.int 12), .cst (.int 300)]) (.call 10 [.var 2, .cst (.int 4)]))).v (E17 S I (Rl a m k) c3 c4 c5 c6 c7 c8) = .ok (.d z) (E17 S I (Rl a1 m k1) c3 c4 c5 c6 c7 c8) := by
      intro z hz
      rw [ev, of_v]
      unfold do2
      rw [hl]
      simp only [Res.bind]
      rw [q1]
      simp only [R.get, Ob.toD, ixRO, hz, Option.map, RO.toR, ofO]
    rcases hr with rfl | rfl | rfl | rfl
    · exact ⟨2, by decide, by decide, key _ rfl⟩
    · exact ⟨6, by decide, by decide, key _ rfl⟩
    · exact ⟨12, by decide, by decide, key _ rfl⟩
    · exact ⟨300, by decide, by decide, key _ rfl⟩
  obtain ⟨z, z2, z3, hx⟩ := hx
  obtain ⟨r', a2, k2, r0', r4', e2, q2⟩ := spin17 e1 (by omega) (by omega) (by omega) hx
  obtain ⟨j, rfl⟩ := Int.eq_ofNat_of_zero_le r0'
  refine ⟨1 + j, a2, k2, by omega, by omega, e2.up (by omega), ?_⟩
  rw [ev, of_v]
  unfold do2
  have hc : ∀ env : Cells, (ev G17 (.cst (.int 1))).v env = .ok (.d (.int 1)) env := by intro env; simp [walkOf, evSs, evS, ev, evE, evT, evE_eq, evT_eq, evEs, evO, evC, evI, E2.of, do2, do1, doCall, doBlt, doInt, doSl, doSeq, doIte, doNot, doAnd, doOr, toNot, toAnd, toOr, doCol, doItN, doIt1, doRange, Res.bind, doVar, R.get, ofO, ixRO, ixD, L2.atI, L2.ixN, RO.toR, binD, bltD, cmpD, isNonD, ioOf, argCell, callF, preArgs, frz, frzs, gets, ioIdx, toArgs, setObs, noOwn, asgRs, asgR, asgD, asgDs, Fx.cellOf, truD, tyD, obAt, Cell.ob, Ob.toD, putOb, setD, itemsOf]
  rw [hc]
  simp only [Res.bind]
  rw [q2]
  simp [R.get, binD, RO.toR, ofO]
def Fr3 (c : Cell) : Prop := c = .none ∨ ∃ x, c = .d x
abbrev pairS : CS := .asg (.tup [.nm 4, .nm 5]) (.call 15 [.var 2, szE])
abbrev testS : CS := .ifs (.not (.call 16 [.var 4, .var 5])) [.ret (.cst (.bl false))] []
theorem sml_row {a : List Nat} {s : Nat} (h : Sml a) (hl : a.length = s) (h1 : 1 ≤ s) (h2 : s ≤ 300) : Row a := ⟨by omega, by omega, h⟩
theorem turn17 {S : D} {I : Cell} {c3 c4 c5 c6 c7 c8 : Cell} {a m k K : Int} (h : Re a m k K) (hK : K + 700 ≤ 900000) (h4 : Free c4) (h5 : Free c5) :
    ∃ a' k' c4' c5', Re a' m k' (K + 700) ∧ Free c4' ∧ Free c5' ∧ evSs G17 [pairS, testS] (E17 S I (Rl a m k) c3 c4 c5 c6 c7 c8) = .ok .next (E17 S I (Rl a' m k') c3 c4' c5' c6 c7 c8) := by
  obtain ⟨s, a1, k1, s1, s2, e1, q1⟩ := size17 (S := S) (I := I) (c3 := c3) (c4 := c4) (c5 := c5) (c6 := c6) (c7 := c7) (c8 := c8) h (by omega)
  obtain ⟨one, os, a2, k2, l1, l2, w1, w2, e2, q2⟩ := t15 (s := s) e1 s1 (by omega) (by omega)
  have ho := sml_row w1 l1 s1 s2
  have hs := sml_row w2 l2 s1 s2
  refine ⟨a2, k2, .d (L one), .d (L os), e2.up (by omega), .d, .d, run_cons (env1 := E17 S I (Rl a2 m k2) c3 (.d (L one)) (.d (L os)) c6 c7 c8) ?_ (run_cons (if_false (env1 := E17 S I (Rl a2 m k2) c3 (.d (L one)) (.d (L os)) c6 c7 c8) ?_ run_nil) run_nil)⟩
  · refine asg_eq (r := .d (.tup [L one, L os])) (env1 := E17 S I (Rl a2 m k2) c3 c4 c5 c6 c7 c8) ?_ ?_
    · rw [call_ev, of_v]
      unfold doCall
      rw [evEs, var2]
      simp only [Res.bind]
      rw [evEs, q1]
      simp only [Res.bind, evEs]
      unfold callF
      simp only [g17_15, m15, d15, List.drop_nil, List.map_nil, List.append_nil, preArgs, frz, ioIdx]
      simp [toArgs, obAt, Cell.ob, Rl, E17]
      simp only [Rl] at q2
      rw [q2]
      simp [setObs, putOb, obAt, Cell.ob, RO.toR]
    · rcases h4 with rfl | ⟨_, rfl⟩ <;> rcases h5 with rfl | ⟨_, rfl⟩ <;> simp [asgR, frz, asgD, asgDs, E17]
  · have h16 := t16 ho hs (by rw [l1, l2])
    rw [not_ev]
    show toNot _ _ = _
    unfold toNot
    have : (ev G17 (.call 16 [.var 4, .var 5])).t (E17 S I (Rl a2 m k2) c3 (.d (L one)) (.d (L os)) c6 c7 c8) = .ok true (E17 S I (Rl a2 m k2) c3 (.d (L one)) (.d (L os)) c6 c7 c8) := by
      refine tOf call_ev ?_
      simp [walkOf, evSs, evS, ev, evE, evT, evE_eq, evT_eq, evEs, evO, evC, evI, E2.of, do2, do1, doCall, doBlt, doInt, doSl, doSeq, doIte, doNot, doAnd, doOr, toNot, toAnd, toOr, doCol, doItN, doIt1, doRange, Res.bind, doVar, R.get, ofO, ixRO, ixD, L2.atI, L2.ixN, RO.toR, binD, bltD, cmpD, isNonD, ioOf, argCell, callF, preArgs, frz, frzs, gets, ioIdx, toArgs, setObs, noOwn, asgRs, asgR, asgD, asgDs, Fx.cellOf, truD, tyD, obAt, Cell.ob, Ob.toD, putOb, setD, itemsOf, g17_16, m16, d16, h16]
    rw [this]
    rfl
theorem turns17 {S : D} {I : Cell} {c6 c7 c8 : Cell} {m : Int} : ∀ (xs : List D) (c3 c4 c5 : Cell) (a k K : Int), Re a m k K → K + 700 * xs.length ≤ 900000 → Free c3 → Free c4 → Free c5 →
    ∃ a' k' c3' c4' c5', Re a' m k' (K + 700 * xs.length) ∧ Free c3' ∧ Free c4' ∧ Free c5' ∧ forRun (.nm 3) (evSs G17 [pairS, testS]) xs (E17 S I (Rl a m k) c3 c4 c5 c6 c7 c8) = .ok .next (E17 S I (Rl a' m k') c3' c4' c5' c6 c7 c8)
  | [], c3, c4, c5, a, k, K, h, _, h3, h4, h5 => ⟨a, k, c3, c4, c5, h.up (by simp), h3, h4, h5, rfl⟩
  | x :: xs, c3, c4, c5, a, k, K, h, hK, h3, h4, h5 => by
    rw [List.length_cons] at hK
    obtain ⟨a1, k1, c4', c5', e1, f4, f5, q1⟩ := turn17 (S := S) (I := I) (c3 := .d x) (c6 := c6) (c7 := c7) (c8 := c8) h (by omega) h4 h5
    obtain ⟨a2, k2, c3', c4'', c5'', e2, g3, g4, g5, q2⟩ := turns17 (S := S) (I := I) (c6 := c6) (c7 := c7) (c8 := c8) xs (.d x) c4' c5' a1 k1 (K + 700) e1 (by omega) .d f4 f5
    refine ⟨a2, k2, c3', c4'', c5'', e2.up (by rw [List.length_cons]; omega), g3, g4, g5, for_cons ?_ q1 q2⟩
    rcases h3 with rfl | ⟨_, rfl⟩ <;> simp [asgD, E17]
end K28

set_option Elab.async false
set_option linter.all false
set_option maxRecDepth 100000
set_option maxHeartbeats 4000000
namespace K28
open PySem Fx
/-! ### the law: made rows -/
def PP (n : Nat) : List Nat := (List.replicate n [1, 2, 3, 4]).flatten
def QQ (n : Nat) : List Nat := (List.replicate (n - 1) [2, 4, 3, 4]).flatten ++ [2, 4, 3, 1]
def WW (t : Nat) : List Nat := (List.replicate t [1]).flatten ++ [3] ++ (List.replicate (300 - t) [1]).flatten
def OO (w : Nat) : List Nat := (List.replicate 301 [w]).flatten
instance (a : List Nat) : Decidable (Row a) := by unfold Row; infer_instance
theorem pq1 : Row (PP 250) ∧ Row (QQ 250) ∧ (PP 250).length = (QQ 250).length ∧ con (PP 250) (QQ 250) = (4, 1) ∧ con (QQ 250) (PP 250) = (4, 1) := by decide +kernel
theorem pq2 : Row (PP 500) ∧ Row (QQ 500) ∧ (PP 500).length = (QQ 500).length ∧ con (PP 500) (QQ 500) = (4, 1) ∧ con (QQ 500) (PP 500) = (4, 1) := by decide +kernel
theorem oo : Row (OO 1) ∧ Row (OO 2) := by decide +kernel
theorem ww : ∀ t, t < 300 → Row (WW t) ∧ (WW t).length = (OO 1).length ∧ (WW t).length = (OO 2).length ∧ con (WW t) (OO 1) = (3, 1) ∧ con (WW t) (OO 2) = (3, 1) := by decide +kernel
theorem r1 : Row [1, 1, 2, 1, 1, 2, 1] ∧ Row [1, 1, 3, 2, 2, 3, 1] ∧ Row [1, 4] ∧ Row [4, 1] ∧ Row [1, 3] ∧ Row [1] ∧ Row [4] := by decide +kernel
theorem r2 : con [1, 1, 2, 1, 1, 2, 1] [1, 1, 3, 2, 2, 3, 1] = (3, 2) ∧ con [1, 4] [4, 1] = (16, 1) ∧ con [1, 4] [1, 3] = (4, 3) ∧ con [1] [4] = (1, 1) := by decide +kernel
end K28

set_option Elab.async false
set_option linter.all false
set_option maxRecDepth 100000
set_option maxHeartbeats 4000000
namespace K28
open PySem Fx
/-! ### the law: its statements -/
theorem getd {env : Cells} {x : D} : R.get env (.d x) = some x := rfl
theorem getn {env : Cells} {b : Ob} : R.get env (.new b) = some b.toD := rfl
theorem con8g {Γ : FT} (hg : Γ[8]? = some ⟨m8, d8, runF G8 N8.length c8⟩) {e1 e2 : CE} {env env1 env2 env3 env4 : Cells} {r1 r2 : Fx.R} {a b : List Nat} (k1 : (ev Γ e1).v env = .ok r1 env1) (k2 : (ev Γ e2).v env1 = .ok r2 env2)
    (h1 : frz env2 r1 = some (L a, env3)) (h2 : frz env3 r2 = some (L b, env4)) (ha : Row a) (hb : Row b) (hl : a.length = b.length) :
    (ev Γ (.call 8 [e1, e2])).v env = .ok (.d (pr (con a b))) env4 := by
  have h := t8 ha hb hl
  rw [call_ev, of_v]
  unfold doCall
  rw [evEs, k1]
  simp only [Res.bind]
  rw [evEs, k2]
  simp only [Res.bind, evEs]
  unfold callF
  simp only [hg, m8, d8, List.drop_nil, List.map_nil, List.append_nil, preArgs, h1, h2, ioIdx, List.nodup_nil, _root_.if_true, toArgs, h, setObs, RO.toR]
theorem cmpG {Γ : FT} {o : Cop} {e f : CE} {env env1 env2 : Cells} {r q : Fx.R} {x y : D} {b : Bool} (h : (ev Γ e).v env = .ok r env1) (k : (ev Γ f).v env1 = .ok q env2) (hx : r.get env2 = some x) (hy : q.get env2 = some y)
    (hb : cmpD o x y = some b) : (ev Γ (.cmp o e f)).t env = .ok b env2 := by
  rw [cmp_ev, of_t]
  unfold do2
  rw [h]
  simp only [Res.bind, k, hx, hy, hb, Option.map, ofO, getd, truD]
theorem orG {Γ : FT} {e f : CE} {env env1 env2 : Cells} {b : Bool} (h : (ev Γ e).t env = .ok false env1) (k : (ev Γ f).t env1 = .ok b env2) : (ev Γ (.or e f)).t env = .ok b env2 := by
  rw [or_ev]
  show toOr _ _ _ = _
  unfold toOr
  rw [h]
  exact k
theorem mulL {Γ : FT} {e f : CE} {env : Cells} {r : Fx.R} {xs : List Nat} {k : Nat} (h : (ev Γ e).v env = .ok r env) (hx : r.get env = some (L xs)) (hf : (ev Γ f).v env = .ok (.d (.int k)) env) (h1 : xs.length ≤ 10) (h2 : k ≤ 1000) :
    (ev Γ (.bin .mul e f)).v env = .ok (.new (.lst ((List.replicate k xs).flatten.map wd))) env := by
  have e1 : (List.replicate k (xs.map wd)).flatten = (List.replicate k xs).flatten.map wd := by rw [List.map_flatten, List.map_replicate]
  have g : (xs.map wd).length * (k : Int).toNat ≤ lim ∧ (k : Int).natAbs ≤ lim := by
    have : xs.length * k ≤ 10 * 1000 := Nat.mul_le_mul h1 h2
    rw [lim_eq, List.length_map, Int.toNat_natCast, Int.natAbs_natCast]
    omega
  rw [ev, of_v]
  unfold do2
  have hb : binD .mul (L xs) (.int k) = some (.new (.lst ((List.replicate k xs).flatten.map wd))) := by
    unfold L
    simp only [binD]
    rw [if_pos g, Int.toNat_natCast, e1]
  rw [h]
  simp only [Res.bind, hf, hx, getd, hb, Option.map, RO.toR, ofO]
theorem addL {Γ : FT} {e f : CE} {env : Cells} {xs ys : List Nat} (h : (ev Γ e).v env = .ok (.new (.lst (xs.map wd))) env) (hf : (ev Γ f).v env = .ok (.new (.lst (ys.map wd))) env) (h1 : xs.length + ys.length ≤ 10000) :
    (ev Γ (.bin .add e f)).v env = .ok (.new (.lst ((xs ++ ys).map wd))) env := by
  have g : (xs.map wd).length + (ys.map wd).length ≤ lim := by
    rw [lim_eq, List.length_map, List.length_map]
    omega
  rw [ev, of_v]
  unfold do2
  have hb : binD .add (.lst (xs.map wd)) (.lst (ys.map wd)) = some (.new (.lst ((xs ++ ys).map wd))) := by
    simp only [binD]
    rw [if_pos g, List.map_append]
  rw [h]
  simp only [Res.bind, hf, getn, Ob.toD, hb, Option.map, RO.toR, ofO]
theorem lmk {k : Nat} (h : k ≤ 1000) : k ≤ lim := by rw [lim_eq]; omega
abbrev four : CE → CE → CE → CE → CE := fun a b c d => .lst [a, b, c, d]
theorem lit1 {env : Cells} (n : Nat) : (ev G17 (.lst [.cst (.int (n : Int))])).v env = .ok (.new (.lst ([n].map wd))) env := by
  have := lmk (k := 1) (by omega)
  simp [walkOf, evSs, evS, ev, evE, evT, evE_eq, evT_eq, evEs, evO, evC, evI, E2.of, do2, do1, doCall, doBlt, doInt, doSl, doSeq, doIte, doNot, doAnd, doOr, toNot, toAnd, toOr, doCol, doItN, doIt1, doRange, Res.bind, doVar, R.get, ofO, ixRO, ixD, L2.atI, L2.ixN, RO.toR, binD, bltD, cmpD, isNonD, ioOf, argCell, callF, preArgs, frz, frzs, gets, ioIdx, toArgs, setObs, noOwn, asgRs, asgR, asgD, asgDs, Fx.cellOf, truD, tyD, obAt, Cell.ob, Ob.toD, putOb, setD, itemsOf, this, wd]
theorem pairT {env : Cells} (p q : Nat) : (ev G17 (.tup [.cst (.int (p : Int)), .cst (.int (q : Int))])).v env = .ok (.d (pr (p, q))) env := by
  have := lmk (k := 2) (by omega)
  simp [walkOf, evSs, evS, ev, evE, evT, evE_eq, evT_eq, evEs, evO, evC, evI, E2.of, do2, do1, doCall, doBlt, doInt, doSl, doSeq, doIte, doNot, doAnd, doOr, toNot, toAnd, toOr, doCol, doItN, doIt1, doRange, Res.bind, doVar, R.get, ofO, ixRO, ixD, L2.atI, L2.ixN, RO.toR, binD, bltD, cmpD, isNonD, ioOf, argCell, callF, preArgs, frz, frzs, gets, ioIdx, toArgs, setObs, noOwn, asgRs, asgR, asgD, asgDs, Fx.cellOf, truD, tyD, obAt, Cell.ob, Ob.toD, putOb, setD, itemsOf, this, pr]
theorem lit2 {env : Cells} (n m : Nat) : (ev G17 (.lst [.cst (.int (n : Int)), .cst (.int (m : Int))])).v env = .ok (.new (.lst ([n, m].map wd))) env := by
  have := lmk (k := 2) (by omega)
  simp [walkOf, evSs, evS, ev, evE, evT, evE_eq, evT_eq, evEs, evO, evC, evI, E2.of, do2, do1, doCall, doBlt, doInt, doSl, doSeq, doIte, doNot, doAnd, doOr, toNot, toAnd, toOr, doCol, doItN, doIt1, doRange, Res.bind, doVar, R.get, ofO, ixRO, ixD, L2.atI, L2.ixN, RO.toR, binD, bltD, cmpD, isNonD, ioOf, argCell, callF, preArgs, frz, frzs, gets, ioIdx, toArgs, setObs, noOwn, asgRs, asgR, asgD, asgDs, Fx.cellOf, truD, tyD, obAt, Cell.ob, Ob.toD, putOb, setD, itemsOf, this, wd]
theorem lit4 {env : Cells} (n m k j : Nat) : (ev G17 (.lst [.cst (.int (n : Int)), .cst (.int (m : Int)), .cst (.int (k : Int)), .cst (.int (j : Int))])).v env = .ok (.new (.lst ([n, m, k, j].map wd))) env := by
  have := lmk (k := 4) (by omega)
  simp [walkOf, evSs, evS, ev, evE, evT, evE_eq, evT_eq, evEs, evO, evC, evI, E2.of, do2, do1, doCall, doBlt, doInt, doSl, doSeq, doIte, doNot, doAnd, doOr, toNot, toAnd, toOr, doCol, doItN, doIt1, doRange, Res.bind, doVar, R.get, ofO, ixRO, ixD, L2.atI, L2.ixN, RO.toR, binD, bltD, cmpD, isNonD, ioOf, argCell, callF, preArgs, frz, frzs, gets, ioIdx, toArgs, setObs, noOwn, asgRs, asgR, asgD, asgDs, Fx.cellOf, truD, tyD, obAt, Cell.ob, Ob.toD, putOb, setD, itemsOf, this, wd]
theorem lit7 {env : Cells} (n m k j p q r : Nat) : (ev G17 (.lst [.cst (.int (n : Int)), .cst (.int (m : Int)), .cst (.int (k : Int)), .cst (.int (j : Int)), .cst (.int (p : Int)), .cst (.int (q : Int)), .cst (.int (r : Int))])).v env = .ok (.new (.lst ([n, m, k, j, p, q, r].map wd))) env := by
  have := lmk (k := 7) (by omega)
  simp [walkOf, evSs, evS, ev, evE, evT, evE_eq, evT_eq, evEs, evO, evC, evI, E2.of, do2, do1, doCall, doBlt, doInt, doSl, doSeq, doIte, doNot, doAnd, doOr, toNot, toAnd, toOr, doCol, doItN, doIt1, doRange, Res.bind, doVar, R.get, ofO, ixRO, ixD, L2.atI, L2.ixN, RO.toR, binD, bltD, cmpD, isNonD, ioOf, argCell, callF, preArgs, frz, frzs, gets, ioIdx, toArgs, setObs, noOwn, asgRs, asgR, asgD, asgDs, Fx.cellOf, truD, tyD, obAt, Cell.ob, Ob.toD, putOb, setD, itemsOf, this, wd]
abbrev parS : CS := .par [(.nm 4), (.nm 5)] [(.bin .mul (.lst [(.cst (.int 1)), (.cst (.int 2)), (.cst (.int 3)), (.cst (.int 4))]) (.bin .fdiv (.var 6) (.cst (.int 4)))), (.bin .add (.bin .mul (.lst [(.cst (.int 2)), (.cst (.int 4)), (.cst (.int 3)), (.cst (.int 4))]) (.bin .sub (.bin .fdiv (.var 6) (.cst (.int 4))) (.cst (.int 1)))) (.lst [(.cst (.int 2)), (.cst (.int 4)), (.cst (.int 3)), (.cst (.int 1))]))]
abbrev ifsS : CS := .ifs (.or (.cmp .ne (.call 8 [(.var 4), (.var 5)]) (.tup [(.cst (.int 4)), (.cst (.int 1))])) (.cmp .ne (.call 8 [(.var 5), (.var 4)]) (.tup [(.cst (.int 4)), (.cst (.int 1))]))) [(.ret (.cst (.bl false)))] []
theorem size_turn {S : D} {I : Cell} {b : Ob} {c3 c4 c5 : Cell} {n : Nat} (hn : 1 ≤ n) (hn2 : n ≤ 600) (h4 : Free c4) (h5 : Free c5)
    (F : Row (PP n) ∧ Row (QQ n) ∧ (PP n).length = (QQ n).length ∧ con (PP n) (QQ n) = (4, 1) ∧ con (QQ n) (PP n) = (4, 1)) :
    evSs G17 [parS, ifsS] (E17 S I b c3 c4 c5 (.d (.int ((4 * n : Nat) : Int))) .none .none) = .ok .next (E17 S I b c3 (.d (L (PP n))) (.d (L (QQ n))) (.d (.int ((4 * n : Nat) : Int))) .none .none) := by
  obtain ⟨f1, f2, f3, f4, f5⟩ := F
  have b4 : bits 4 < 9000 := by decide
  have hd : (ev G17 (.bin .fdiv (.var 6) (.cst (.int 4)))).v (E17 S I b c3 c4 c5 (.d (.int ((4 * n : Nat) : Int))) .none .none) = .ok (.d (.int (n : Int))) (E17 S I b c3 c4 c5 (.d (.int ((4 * n : Nat) : Int))) .none .none) := by
    have : ((4 * n : Nat) : Int) / 4 = n := by omega
    rw [ev, of_v]
    unfold do2
    have hv : (ev G17 (.var 6)).v (E17 S I b c3 c4 c5 (.d (.int ((4 * n : Nat) : Int))) .none .none) = .ok (.d (.int ((4 * n : Nat) : Int))) (E17 S I b c3 c4 c5 (.d (.int ((4 * n : Nat) : Int))) .none .none) := by simp [walkOf, evSs, evS, ev, evE, evT, evE_eq, evT_eq, evEs, evO, evC, evI, E2.of, do2, do1, doCall, doBlt, doInt, doSl, doSeq, doIte, doNot, doAnd, doOr, toNot, toAnd, toOr, doCol, doItN, doIt1, doRange, Res.bind, doVar, R.get, ofO, ixRO, ixD, L2.atI, L2.ixN, RO.toR, binD, bltD, cmpD, isNonD, ioOf, argCell, callF, preArgs, frz, frzs, gets, ioIdx, toArgs, setObs, noOwn, asgRs, asgR, asgD, asgDs, Fx.cellOf, truD, tyD, obAt, Cell.ob, Ob.toD, putOb, setD, itemsOf]
    have hc : ∀ env : Cells, (ev G17 (.cst (.int 4))).v env = .ok (.d (.int 4)) env := by intro env; simp [walkOf, evSs, evS, ev, evE, evT, evE_eq, evT_eq, evEs, evO, evC, evI, E2.of, do2, do1, doCall, doBlt, doInt, doSl, doSeq, doIte, doNot, doAnd, doOr, toNot, toAnd, toOr, doCol, doItN, doIt1, doRange, Res.bind, doVar, R.get, ofO, ixRO, ixD, L2.atI, L2.ixN, RO.toR, binD, bltD, cmpD, isNonD, ioOf, argCell, callF, preArgs, frz, frzs, gets, ioIdx, toArgs, setObs, noOwn, asgRs, asgR, asgD, asgDs, Fx.cellOf, truD, tyD, obAt, Cell.ob, Ob.toD, putOb, setD, itemsOf]
    rw [hv]
    simp only [Res.bind, hc, R.get, binD]
    rw [if_pos ⟨by decide, b4⟩, this]
    rfl
  have hs : (ev G17 (.bin .sub (.bin .fdiv (.var 6) (.cst (.int 4))) (.cst (.int 1)))).v (E17 S I b c3 c4 c5 (.d (.int ((4 * n : Nat) : Int))) .none .none) = .ok (.d (.int ((n - 1 : Nat) : Int))) (E17 S I b c3 c4 c5 (.d (.int ((4 * n : Nat) : Int))) .none .none) := by
    have : (n : Int) - 1 = ((n - 1 : Nat) : Int) := by omega
    rw [ev, of_v]
    unfold do2
    have hc : ∀ env : Cells, (ev G17 (.cst (.int 1))).v env = .ok (.d (.int 1)) env := by intro env; simp [walkOf, evSs, evS, ev, evE, evT, evE_eq, evT_eq, evEs, evO, evC, evI, E2.of, do2, do1, doCall, doBlt, doInt, doSl, doSeq, doIte, doNot, doAnd, doOr, toNot, toAnd, toOr, doCol, doItN, doIt1, doRange, Res.bind, doVar, R.get, ofO, ixRO, ixD, L2.atI, L2.ixN, RO.toR, binD, bltD, cmpD, isNonD, ioOf, argCell, callF, preArgs, frz, frzs, gets, ioIdx, toArgs, setObs, noOwn, asgRs, asgR, asgD, asgDs, Fx.cellOf, truD, tyD, obAt, Cell.ob, Ob.toD, putOb, setD, itemsOf]
    rw [hd]
    simp only [Res.bind, hc, R.get, binD, this]
    rfl
  have p1 := mulL (lit4 (env := E17 S I b c3 c4 c5 (.d (.int ((4 * n : Nat) : Int))) .none .none) 1 2 3 4) rfl hd (by decide) (by omega)
  have p2 := addL (mulL (lit4 (env := E17 S I b c3 c4 c5 (.d (.int ((4 * n : Nat) : Int))) .none .none) 2 4 3 4) rfl hs (by decide) (by omega)) (lit4 2 4 3 1) (by
    have := f2.2.1
    unfold QQ at this
    rw [List.length_append] at this
    omega)
  have q1 : evS G17 parS (E17 S I b c3 c4 c5 (.d (.int ((4 * n : Nat) : Int))) .none .none) = .ok .next (E17 S I b c3 (.o (.lst ((PP n).map wd))) (.o (.lst ((QQ n).map wd))) (.d (.int ((4 * n : Nat) : Int))) .none .none) := by
    have p1' : (ev G17 (.bin .mul (.lst [(.cst (.int 1)), (.cst (.int 2)), (.cst (.int 3)), (.cst (.int 4))]) (.bin .fdiv (.var 6) (.cst (.int 4))))).v (E17 S I b c3 c4 c5 (.d (.int ((4 * n : Nat) : Int))) .none .none) = .ok (.new (.lst ((PP n).map wd))) (E17 S I b c3 c4 c5 (.d (.int ((4 * n : Nat) : Int))) .none .none) := p1
    have p2' : (ev G17 (.bin .add (.bin .mul (.lst [(.cst (.int 2)), (.cst (.int 4)), (.cst (.int 3)), (.cst (.int 4))]) (.bin .sub (.bin .fdiv (.var 6) (.cst (.int 4))) (.cst (.int 1)))) (.lst [(.cst (.int 2)), (.cst (.int 4)), (.cst (.int 3)), (.cst (.int 1))]))).v (E17 S I b c3 c4 c5 (.d (.int ((4 * n : Nat) : Int))) .none .none) = .ok (.new (.lst ((QQ n).map wd))) (E17 S I b c3 c4 c5 (.d (.int ((4 * n : Nat) : Int))) .none .none) := p2
    rw [evS, evEs, p1']
    simp only [Res.bind]
    rw [evEs, p2']
    rcases h4 with rfl | ⟨_, rfl⟩ <;> rcases h5 with rfl | ⟨_, rfl⟩ <;> simp [Res.bind, evEs, noOwn, asgRs, asgR, Fx.cellOf, E17]
  have k1 : (ev G17 (.call 8 [.var 4, .var 5])).v (E17 S I b c3 (.o (.lst ((PP n).map wd))) (.o (.lst ((QQ n).map wd))) (.d (.int ((4 * n : Nat) : Int))) .none .none) = .ok (.d (pr (4, 1))) (E17 S I b c3 (.d (L (PP n))) (.d (L (QQ n))) (.d (.int ((4 * n : Nat) : Int))) .none .none) := by
    have := con8g (Γ := G17) g17_8 (e1 := .var 4) (e2 := .var 5) (env := E17 S I b c3 (.o (.lst ((PP n).map wd))) (.o (.lst ((QQ n).map wd))) (.d (.int ((4 * n : Nat) : Int))) .none .none) (r1 := .own 4) (r2 := .own 5) (by simp [walkOf, evSs, evS, ev, evE, evT, evE_eq, evT_eq, evEs, evO, evC, evI, E2.of, do2, do1, doCall, doBlt, doInt, doSl, doSeq, doIte, doNot, doAnd, doOr, toNot, toAnd, toOr, doCol, doItN, doIt1, doRange, Res.bind, doVar, R.get, ofO, ixRO, ixD, L2.atI, L2.ixN, RO.toR, binD, bltD, cmpD, isNonD, ioOf, argCell, callF, preArgs, frz, frzs, gets, ioIdx, toArgs, setObs, noOwn, asgRs, asgR, asgD, asgDs, Fx.cellOf, truD, tyD, obAt, Cell.ob, Ob.toD, putOb, setD, itemsOf] <;> rfl) (by simp [walkOf, evSs, evS, ev, evE, evT, evE_eq, evT_eq, evEs, evO, evC, evI, E2.of, do2, do1, doCall, doBlt, doInt, doSl, doSeq, doIte, doNot, doAnd, doOr, toNot, toAnd, toOr, doCol, doItN, doIt1, doRange, Res.bind, doVar, R.get, ofO, ixRO, ixD, L2.atI, L2.ixN, RO.toR, binD, bltD, cmpD, isNonD, ioOf, argCell, callF, preArgs, frz, frzs, gets, ioIdx, toArgs, setObs, noOwn, asgRs, asgR, asgD, asgDs, Fx.cellOf, truD, tyD, obAt, Cell.ob, Ob.toD, putOb, setD, itemsOf] <;> rfl) rfl rfl f1 f2 f3
    rwa [f4] at this
  have k2 : (ev G17 (.call 8 [.var 5, .var 4])).v (E17 S I b c3 (.d (L (PP n))) (.d (L (QQ n))) (.d (.int ((4 * n : Nat) : Int))) .none .none) = .ok (.d (pr (4, 1))) (E17 S I b c3 (.d (L (PP n))) (.d (L (QQ n))) (.d (.int ((4 * n : Nat) : Int))) .none .none) := by
    have := con8g (Γ := G17) g17_8 (e1 := .var 5) (e2 := .var 4) (env := E17 S I b c3 (.d (L (PP n))) (.d (L (QQ n))) (.d (.int ((4 * n : Nat) : Int))) .none .none) (r1 := .d (L (QQ n))) (r2 := .d (L (PP n))) (by simp [walkOf, evSs, evS, ev, evE, evT, evE_eq, evT_eq, evEs, evO, evC, evI, E2.of, do2, do1, doCall, doBlt, doInt, doSl, doSeq, doIte, doNot, doAnd, doOr, toNot, toAnd, toOr, doCol, doItN, doIt1, doRange, Res.bind, doVar, R.get, ofO, ixRO, ixD, L2.atI, L2.ixN, RO.toR, binD, bltD, cmpD, isNonD, ioOf, argCell, callF, preArgs, frz, frzs, gets, ioIdx, toArgs, setObs, noOwn, asgRs, asgR, asgD, asgDs, Fx.cellOf, truD, tyD, obAt, Cell.ob, Ob.toD, putOb, setD, itemsOf] <;> rfl) (by simp [walkOf, evSs, evS, ev, evE, evT, evE_eq, evT_eq, evEs, evO, evC, evI, E2.of, do2, do1, doCall, doBlt, doInt, doSl, doSeq, doIte, doNot, doAnd, doOr, toNot, toAnd, toOr, doCol, doItN, doIt1, doRange, Res.bind, doVar, R.get, ofO, ixRO, ixD, L2.atI, L2.ixN, RO.toR, binD, bltD, cmpD, isNonD, ioOf, argCell, callF, preArgs, frz, frzs, gets, ioIdx, toArgs, setObs, noOwn, asgRs, asgR, asgD, asgDs, Fx.cellOf, truD, tyD, obAt, Cell.ob, Ob.toD, putOb, setD, itemsOf] <;> rfl) rfl rfl f2 f1 f3.symm
    rwa [f5] at this
  exact run_cons q1 (run_cons (if_false (orG (cmpG k1 (pairT 4 1) rfl rfl (cmp_pr_ne _)) (cmpG k2 (pairT 4 1) rfl rfl (cmp_pr_ne _))) run_nil) run_nil)
end K28

set_option Elab.async false
set_option linter.all false
set_option maxRecDepth 100000
set_option maxHeartbeats 4000000
namespace K28
open PySem Fx
/-! ### the law whole -/
def Ob0 (c : Cell) : Prop := c = .none ∨ ∃ b, c = .o b
abbrev E0 (S : D) (c1 c2 c3 c4 c5 : Cell) : Cells := [.d S, c1, c2, c3, c4, c5, .none, .none, .none]
abbrev loopS : CS := .fors (.nm 3) (.range [(.cst (.int 12))]) [pairS, testS]
theorem reel17 {ns : List Int} {c2 c3 c4 c5 : Cell} {i : Nat} (hl : ns.length ≤ 63) (hi : i ≤ 100) (h2 : Ob0 c2) (h3 : Free c3) (h4 : Free c4) (h5 : Free c5) :
    ∃ b c3' c4' c5', Free c3' ∧ Free c4' ∧ Free c5' ∧ evSs G17 [.asg (.nm 2) (.call 9 [.var 0, .var 1]), loopS] (E0 (.lst (ns.map .int)) (.d (.int (i : Int))) c2 c3 c4 c5) = .ok .next (E0 (.lst (ns.map .int)) (.d (.int (i : Int))) (.o b) c3' c4' c5') := by
  obtain ⟨a, m, a0, hm, q⟩ := t9 hl hi
  have hr : Re a m 0 0 := ⟨a0, hm, by omega, by omega⟩
  have ei : evI G17 (.range [(.cst (.int 12))]) (E0 (.lst (ns.map .int)) (.d (.int (i : Int))) (.o (Rl a m 0)) c3 c4 c5) = .ok (rangeL 0 12 1) (E0 (.lst (ns.map .int)) (.d (.int (i : Int))) (.o (Rl a m 0)) c3 c4 c5) := by
    have := lmk (k := 12) (by omega)
    simp [walkOf, evSs, evS, ev, evE, evT, evE_eq, evT_eq, evEs, evO, evC, evI, E2.of, do2, do1, doCall, doBlt, doInt, doSl, doSeq, doIte, doNot, doAnd, doOr, toNot, toAnd, toOr, doCol, doItN, doIt1, doRange, Res.bind, doVar, R.get, ofO, ixRO, ixD, L2.atI, L2.ixN, RO.toR, binD, bltD, cmpD, isNonD, ioOf, argCell, callF, preArgs, frz, frzs, gets, ioIdx, toArgs, setObs, noOwn, asgRs, asgR, asgD, asgDs, Fx.cellOf, truD, tyD, obAt, Cell.ob, Ob.toD, putOb, setD, itemsOf, rangeD, this]
  obtain ⟨a1, k1, c3', c4', c5', e1, f3, f4, f5, q1⟩ := turns17 (S := .lst (ns.map .int)) (I := .d (.int (i : Int))) (c6 := .none) (c7 := .none) (c8 := .none) (rangeL 0 12 1) c3 c4 c5 a 0 0 hr (by simp [rangeL]) h3 h4 h5
  refine ⟨Rl a1 m k1, c3', c4', c5', f3, f4, f5, run_cons (env1 := E0 (.lst (ns.map .int)) (.d (.int (i : Int))) (.o (Rl a m 0)) c3 c4 c5) ?_ (run_cons ((for_eq ei).trans q1) run_nil)⟩
  refine asg_eq (r := .new (Rl a m 0)) (env1 := E0 (.lst (ns.map .int)) (.d (.int (i : Int))) c2 c3 c4 c5) ?_ ?_
  · simp [walkOf, evSs, evS, ev, evE, evT, evE_eq, evT_eq, evEs, evO, evC, evI, E2.of, do2, do1, doCall, doBlt, doInt, doSl, doSeq, doIte, doNot, doAnd, doOr, toNot, toAnd, toOr, doCol, doItN, doIt1, doRange, Res.bind, doVar, R.get, ofO, ixRO, ixD, L2.atI, L2.ixN, RO.toR, binD, bltD, cmpD, isNonD, ioOf, argCell, callF, preArgs, frz, frzs, gets, ioIdx, toArgs, setObs, noOwn, asgRs, asgR, asgD, asgDs, Fx.cellOf, truD, tyD, obAt, Cell.ob, Ob.toD, putOb, setD, itemsOf, g17_9, m9, d9, q]
  · rcases h2 with rfl | ⟨_, rfl⟩ <;> simp [asgR, Fx.cellOf]
theorem reels17 {ns : List Int} (hl : ns.length ≤ 63) : ∀ (is : List Nat) (c1 c2 c3 c4 c5 : Cell), (∀ i ∈ is, i ≤ 100) → Free c1 → Ob0 c2 → Free c3 → Free c4 → Free c5 →
    ∃ c1' c2' c3' c4' c5', Free c1' ∧ Ob0 c2' ∧ Free c3' ∧ Free c4' ∧ Free c5' ∧ forRun (.nm 1) (evSs G17 [.asg (.nm 2) (.call 9 [.var 0, .var 1]), loopS]) (is.map fun (i : Nat) => D.int (0 + (i : Int) * 1)) (E0 (.lst (ns.map .int)) c1 c2 c3 c4 c5)
      = .ok .next (E0 (.lst (ns.map .int)) c1' c2' c3' c4' c5')
  | [], c1, c2, c3, c4, c5, _, h1, h2, h3, h4, h5 => ⟨c1, c2, c3, c4, c5, h1, h2, h3, h4, h5, rfl⟩
  | i :: is, c1, c2, c3, c4, c5, h, h1, h2, h3, h4, h5 => by
    obtain ⟨b, c3', c4', c5', f3, f4, f5, q1⟩ := reel17 (ns := ns) (i := i) hl (h i (by simp)) h2 h3 h4 h5
    obtain ⟨d1, d2, d3, d4, d5, g1, g2, g3, g4, g5, q2⟩ := reels17 hl is (.d (.int (i : Int))) (.o b) c3' c4' c5' (fun j hj => h j (List.mem_cons_of_mem _ hj)) .d (.inr ⟨b, rfl⟩) f3 f4 f5
    refine ⟨d1, d2, d3, d4, d5, g1, g2, g3, g4, g5, for_cons (env1 := E0 (.lst (ns.map .int)) (.d (.int (i : Int))) c2 c3 c4 c5) ?_ q1 q2⟩
    rcases h1 with rfl | ⟨_, rfl⟩ <;> simp [asgD]
theorem mm (n : Nat) : (if (if (n : Int) < 3 then (n : Int) else 3) > 1 then (if (n : Int) < 3 then (n : Int) else 3) else 1) = ((max 1 (min 3 n) : Nat) : Int) := by
  split <;> split <;> omega
theorem range17 {ns : List Int} {c1 c2 c3 c4 c5 : Cell} : evI G17 (.range [(.blt .max [(.cst (.int 1)), (.blt .min [(.cst (.int 3)), (.blt .len [(.var 0)])])])]) (E0 (.lst (ns.map .int)) c1 c2 c3 c4 c5)
    = .ok ((List.range (max 1 (min 3 ns.length))).map fun (i : Nat) => D.int (0 + (i : Int) * 1)) (E0 (.lst (ns.map .int)) c1 c2 c3 c4 c5) := by
  have g := lmk (k := max 1 (min 3 ns.length)) (by omega)
  have he : (ev G17 (.blt .max [(.cst (.int 1)), (.blt .min [(.cst (.int 3)), (.blt .len [(.var 0)])])])).v (E0 (.lst (ns.map .int)) c1 c2 c3 c4 c5) = .ok (.d (.int ((max 1 (min 3 ns.length) : Nat) : Int))) (E0 (.lst (ns.map .int)) c1 c2 c3 c4 c5) := by
    simp only [walkOf, evSs, evS, ev, evE, evT, evE_eq, evT_eq, evEs, evO, evC, evI, E2.of, do2, do1, doCall, doBlt, doInt, doSl, doSeq, doIte, doNot, doAnd, doOr, toNot, toAnd, toOr, doCol, doItN, doIt1, doRange, Res.bind, doVar, R.get, ofO, ixRO, ixD, L2.atI, L2.ixN, RO.toR, binD, bltD, cmpD, isNonD, ioOf, argCell, callF, preArgs, frz, frzs, gets, ioIdx, toArgs, setObs, noOwn, asgRs, asgR, asgD, asgDs, Fx.cellOf, truD, tyD, obAt, Cell.ob, Ob.toD, putOb, setD, itemsOf, List.getElem?_cons_zero, List.length_map, mm, Option.map]
  rw [evI]
  show doRange (evEs G17 [_]) _ = _
  unfold doRange
  rw [evEs, he]
  simp only [Res.bind, evEs, gets, getd, rangeD, Int.natAbs_natCast, Int.toNat_natCast]
  rw [if_pos g]
  rfl
abbrev atS : CS := .asg (.nm 4) (.bin .add (.bin .add (.bin .mul (.lst [(.cst (.int 1))]) (.var 7)) (.lst [(.cst (.int 3))])) (.bin .mul (.lst [(.cst (.int 1))]) (.bin .sub (.cst (.int 300)) (.var 7))))
abbrev ifsW : CS := .ifs (.or (.cmp .ne (.call 8 [(.var 4), (.bin .mul (.lst [(.cst (.int 1))]) (.cst (.int 301)))]) (.tup [(.cst (.int 3)), (.cst (.int 1))])) (.or (.cmp .ne (.call 8 [(.var 4), (.bin .mul (.lst [(.cst (.int 2))]) (.cst (.int 301)))]) (.tup [(.cst (.int 3)), (.cst (.int 1))])) (.cmp .ne (.call 8 [(.lst [(.cst (.int 1))]), (.lst [(.cst (.int 4))])]) (.tup [(.cst (.int 1)), (.cst (.int 1))])))) [(.ret (.cst (.bl false)))] []
abbrev toldE : CE := .lst [(.call 8 [(.lst [(.cst (.int 1)), (.cst (.int 1)), (.cst (.int 2)), (.cst (.int 1)), (.cst (.int 1)), (.cst (.int 2)), (.cst (.int 1))]), (.lst [(.cst (.int 1)), (.cst (.int 1)), (.cst (.int 3)), (.cst (.int 2)), (.cst (.int 2)), (.cst (.int 3)), (.cst (.int 1))])]), (.call 8 [(.lst [(.cst (.int 1)), (.cst (.int 4))]), (.lst [(.cst (.int 4)), (.cst (.int 1))])]), (.call 8 [(.lst [(.cst (.int 1)), (.cst (.int 4))]), (.lst [(.cst (.int 1)), (.cst (.int 3))])])]
abbrev told : D := .lst [pr (3, 2), pr (16, 1), pr (4, 3)]
abbrev retS : CS := .ret (.cmp .eq (.var 8) (.lst [(.tup [(.cst (.int 3)), (.cst (.int 2))]), (.tup [(.cst (.int 16)), (.cst (.int 1))]), (.tup [(.cst (.int 4)), (.cst (.int 3))])]))
theorem tail17 {S : D} {I : Cell} {b : Ob} {c3 c5 c6 : Cell} {t : Nat} {y : D} (ht : t < 300) :
    ∃ env, evSs G17 [atS, ifsW, .asg (.nm 8) toldE, retS] (E17 S I b c3 (.d y) c5 c6 (.d (.int (t : Int))) .none) = .ok (.ret (.d (.bl true))) (E17 S I b c3 (.d (L (WW t))) c5 c6 (.d (.int (t : Int))) env) := by
  obtain ⟨w1, w2, w3, w4, w5⟩ := ww t ht
  obtain ⟨o1, o2⟩ := oo
  obtain ⟨s1, s2, s3, s4, s5, s6, s7⟩ := r1
  obtain ⟨u1, u2, u3, u4⟩ := r2
  have v7 : ∀ c, (ev G17 (.var 7)).v (E17 S I b c3 c c5 c6 (.d (.int (t : Int))) .none) = .ok (.d (.int (t : Int))) (E17 S I b c3 c c5 c6 (.d (.int (t : Int))) .none) := by intro c; simp [walkOf, evSs, evS, ev, evE, evT, evE_eq, evT_eq, evEs, evO, evC, evI, E2.of, do2, do1, doCall, doBlt, doInt, doSl, doSeq, doIte, doNot, doAnd, doOr, toNot, toAnd, toOr, doCol, doItN, doIt1, doRange, Res.bind, doVar, R.get, ofO, ixRO, ixD, L2.atI, L2.ixN, RO.toR, binD, bltD, cmpD, isNonD, ioOf, argCell, callF, preArgs, frz, frzs, gets, ioIdx, toArgs, setObs, noOwn, asgRs, asgR, asgD, asgDs, Fx.cellOf, truD, tyD, obAt, Cell.ob, Ob.toD, putOb, setD, itemsOf]
  have hs : (ev G17 (.bin .sub (.cst (.int 300)) (.var 7))).v (E17 S I b c3 (.d y) c5 c6 (.d (.int (t : Int))) .none) = .ok (.d (.int ((300 - t : Nat) : Int))) (E17 S I b c3 (.d y) c5 c6 (.d (.int (t : Int))) .none) := by
    have e : (300 : Int) - (t : Int) = ((300 - t : Nat) : Int) := by omega
    have hc : ∀ env : Cells, (ev G17 (.cst (.int 300))).v env = .ok (.d (.int 300)) env := by intro env; simp [walkOf, evSs, evS, ev, evE, evT, evE_eq, evT_eq, evEs, evO, evC, evI, E2.of, do2, do1, doCall, doBlt, doInt, doSl, doSeq, doIte, doNot, doAnd, doOr, toNot, toAnd, toOr, doCol, doItN, doIt1, doRange, Res.bind, doVar, R.get, ofO, ixRO, ixD, L2.atI, L2.ixN, RO.toR, binD, bltD, cmpD, isNonD, ioOf, argCell, callF, preArgs, frz, frzs, gets, ioIdx, toArgs, setObs, noOwn, asgRs, asgR, asgD, asgDs, Fx.cellOf, truD, tyD, obAt, Cell.ob, Ob.toD, putOb, setD, itemsOf]
    rw [ev, of_v]
    unfold do2
    rw [hc]
    simp only [Res.bind, v7, getd, binD, e]
    rfl
  have wl := w1.2.1
  have wl' : (WW t).length = (List.replicate t [1]).flatten.length + [3].length + (List.replicate (300 - t) [1]).flatten.length := by
    unfold WW
    rw [List.length_append, List.length_append]
  have p := addL (addL (mulL (lit1 1) rfl (v7 (.d y)) (by decide) (by omega)) (lit1 3) (by omega)) (mulL (lit1 1) rfl hs (by decide) (by omega)) (by rw [List.length_append]; omega)
  have q1 : evS G17 atS (E17 S I b c3 (.d y) c5 c6 (.d (.int (t : Int))) .none) = .ok .next (E17 S I b c3 (.o (.lst ((WW t).map wd))) c5 c6 (.d (.int (t : Int))) .none) := asg_eq p (by simp [asgR, Fx.cellOf, E17, WW])
  have hc301 : ∀ env : Cells, (ev G17 (.cst (.int 301))).v env = .ok (.d (.int ((301 : Nat) : Int))) env := by intro env; simp [walkOf, evSs, evS, ev, evE, evT, evE_eq, evT_eq, evEs, evO, evC, evI, E2.of, do2, do1, doCall, doBlt, doInt, doSl, doSeq, doIte, doNot, doAnd, doOr, toNot, toAnd, toOr, doCol, doItN, doIt1, doRange, Res.bind, doVar, R.get, ofO, ixRO, ixD, L2.atI, L2.ixN, RO.toR, binD, bltD, cmpD, isNonD, ioOf, argCell, callF, preArgs, frz, frzs, gets, ioIdx, toArgs, setObs, noOwn, asgRs, asgR, asgD, asgDs, Fx.cellOf, truD, tyD, obAt, Cell.ob, Ob.toD, putOb, setD, itemsOf]
  have k1 : (ev G17 (.call 8 [(.var 4), (.bin .mul (.lst [(.cst (.int 1))]) (.cst (.int 301)))])).v (E17 S I b c3 (.o (.lst ((WW t).map wd))) c5 c6 (.d (.int (t : Int))) .none) = .ok (.d (pr (3, 1))) (E17 S I b c3 (.d (L (WW t))) c5 c6 (.d (.int (t : Int))) .none) := by
    have := con8g (Γ := G17) g17_8 (e1 := .var 4) (env := E17 S I b c3 (.o (.lst ((WW t).map wd))) c5 c6 (.d (.int (t : Int))) .none) (r1 := .own 4) (by simp [walkOf, evSs, evS, ev, evE, evT, evE_eq, evT_eq, evEs, evO, evC, evI, E2.of, do2, do1, doCall, doBlt, doInt, doSl, doSeq, doIte, doNot, doAnd, doOr, toNot, toAnd, toOr, doCol, doItN, doIt1, doRange, Res.bind, doVar, R.get, ofO, ixRO, ixD, L2.atI, L2.ixN, RO.toR, binD, bltD, cmpD, isNonD, ioOf, argCell, callF, preArgs, frz, frzs, gets, ioIdx, toArgs, setObs, noOwn, asgRs, asgR, asgD, asgDs, Fx.cellOf, truD, tyD, obAt, Cell.ob, Ob.toD, putOb, setD, itemsOf] <;> rfl) (mulL (lit1 1) rfl (hc301 _) (by decide) (by decide)) rfl rfl w1 o1 w2
    rw [show (List.replicate 301 [1]).flatten = OO 1 from rfl, w4] at this
    exact this
  have k2 : (ev G17 (.call 8 [(.var 4), (.bin .mul (.lst [(.cst (.int 2))]) (.cst (.int 301)))])).v (E17 S I b c3 (.d (L (WW t))) c5 c6 (.d (.int (t : Int))) .none) = .ok (.d (pr (3, 1))) (E17 S I b c3 (.d (L (WW t))) c5 c6 (.d (.int (t : Int))) .none) := by
    have := con8g (Γ := G17) g17_8 (e1 := .var 4) (env := E17 S I b c3 (.d (L (WW t))) c5 c6 (.d (.int (t : Int))) .none) (r1 := .d (L (WW t))) (by simp [walkOf, evSs, evS, ev, evE, evT, evE_eq, evT_eq, evEs, evO, evC, evI, E2.of, do2, do1, doCall, doBlt, doInt, doSl, doSeq, doIte, doNot, doAnd, doOr, toNot, toAnd, toOr, doCol, doItN, doIt1, doRange, Res.bind, doVar, R.get, ofO, ixRO, ixD, L2.atI, L2.ixN, RO.toR, binD, bltD, cmpD, isNonD, ioOf, argCell, callF, preArgs, frz, frzs, gets, ioIdx, toArgs, setObs, noOwn, asgRs, asgR, asgD, asgDs, Fx.cellOf, truD, tyD, obAt, Cell.ob, Ob.toD, putOb, setD, itemsOf] <;> rfl) (mulL (lit1 2) rfl (hc301 _) (by decide) (by decide)) rfl rfl w1 o2 w3
    rw [show (List.replicate 301 [2]).flatten = OO 2 from rfl, w5] at this
    exact this
  have k3 : ∀ env : Cells, (ev G17 (.call 8 [(.lst [(.cst (.int 1))]), (.lst [(.cst (.int 4))])])).v env = .ok (.d (pr (1, 1))) env := by
    intro env
    have := con8g (Γ := G17) g17_8 (lit1 (env := env) 1) (lit1 4) rfl rfl s6 s7 rfl
    rw [u4] at this
    exact this
  have q2 : evS G17 ifsW (E17 S I b c3 (.o (.lst ((WW t).map wd))) c5 c6 (.d (.int (t : Int))) .none) = .ok .next (E17 S I b c3 (.d (L (WW t))) c5 c6 (.d (.int (t : Int))) .none) :=
    if_false (orG (cmpG k1 (pairT 3 1) rfl rfl (cmp_pr_ne _)) (orG (cmpG k2 (pairT 3 1) rfl rfl (cmp_pr_ne _)) (cmpG (k3 _) (pairT 1 1) rfl rfl (cmp_pr_ne _)))) run_nil
  have j1 : ∀ env : Cells, (ev G17 toldE).v env = .ok (.new (.lst [pr (3, 2), pr (16, 1), pr (4, 3)])) env := by
    intro env
    have z1 := con8g (Γ := G17) g17_8 (lit7 (env := env) 1 1 2 1 1 2 1) (lit7 1 1 3 2 2 3 1) rfl rfl s1 s2 rfl
    have z2 := con8g (Γ := G17) g17_8 (lit2 (env := env) 1 4) (lit2 4 1) rfl rfl s3 s4 rfl
    have z3 := con8g (Γ := G17) g17_8 (lit2 (env := env) 1 4) (lit2 1 3) rfl rfl s3 s5 rfl
    rw [u1] at z1
    rw [u2] at z2
    rw [u3] at z3
    have z1' : (ev G17 (.call 8 [(.lst [(.cst (.int 1)), (.cst (.int 1)), (.cst (.int 2)), (.cst (.int 1)), (.cst (.int 1)), (.cst (.int 2)), (.cst (.int 1))]), (.lst [(.cst (.int 1)), (.cst (.int 1)), (.cst (.int 3)), (.cst (.int 2)), (.cst (.int 2)), (.cst (.int 3)), (.cst (.int 1))])])).v env = .ok (.d (pr (3, 2))) env := z1
    have z2' : (ev G17 (.call 8 [(.lst [(.cst (.int 1)), (.cst (.int 4))]), (.lst [(.cst (.int 4)), (.cst (.int 1))])])).v env = .ok (.d (pr (16, 1))) env := z2
    have z3' : (ev G17 (.call 8 [(.lst [(.cst (.int 1)), (.cst (.int 4))]), (.lst [(.cst (.int 1)), (.cst (.int 3))])])).v env = .ok (.d (pr (4, 3))) env := z3
    have := lmk (k := 3) (by omega)
    rw [lst_ev, of_v]
    unfold doSeq
    rw [evEs, z1']
    simp only [Res.bind]
    rw [evEs, z2']
    simp only [Res.bind]
    rw [evEs, z3']
    simp [Res.bind, evEs, frzs, frz, this]
  have q3 : evS G17 (.asg (.nm 8) toldE) (E17 S I b c3 (.d (L (WW t))) c5 c6 (.d (.int (t : Int))) .none) = .ok .next (E17 S I b c3 (.d (L (WW t))) c5 c6 (.d (.int (t : Int))) (.o (.lst [pr (3, 2), pr (16, 1), pr (4, 3)]))) :=
    asg_eq (j1 _) (by simp [asgR, Fx.cellOf, E17])
  refine ⟨.o (.lst [pr (3, 2), pr (16, 1), pr (4, 3)]), run_cons q1 (run_cons q2 (run_cons q3 (run_ret (ret_eq ?_))))⟩
  refine cmpV (r := .own 8) (q := .new (.lst [pr (3, 2), pr (16, 1), pr (4, 3)])) (x := told) (y := told) (by simp [walkOf, evSs, evS, ev, evE, evT, evE_eq, evT_eq, evEs, evO, evC, evI, E2.of, do2, do1, doCall, doBlt, doInt, doSl, doSeq, doIte, doNot, doAnd, doOr, toNot, toAnd, toOr, doCol, doItN, doIt1, doRange, Res.bind, doVar, R.get, ofO, ixRO, ixD, L2.atI, L2.ixN, RO.toR, binD, bltD, cmpD, isNonD, ioOf, argCell, callF, preArgs, frz, frzs, gets, ioIdx, toArgs, setObs, noOwn, asgRs, asgR, asgD, asgDs, Fx.cellOf, truD, tyD, obAt, Cell.ob, Ob.toD, putOb, setD, itemsOf] <;> rfl) ?_ rfl rfl ?_
  · have h3 := lmk (k := 3) (by omega)
    have h2 := lmk (k := 2) (by omega)
    simp [walkOf, evSs, evS, ev, evE, evT, evE_eq, evT_eq, evEs, evO, evC, evI, E2.of, do2, do1, doCall, doBlt, doInt, doSl, doSeq, doIte, doNot, doAnd, doOr, toNot, toAnd, toOr, doCol, doItN, doIt1, doRange, Res.bind, doVar, R.get, ofO, ixRO, ixD, L2.atI, L2.ixN, RO.toR, binD, bltD, cmpD, isNonD, ioOf, argCell, callF, preArgs, frz, frzs, gets, ioIdx, toArgs, setObs, noOwn, asgRs, asgR, asgD, asgDs, Fx.cellOf, truD, tyD, obAt, Cell.ob, Ob.toD, putOb, setD, itemsOf, h3, h2, pr]
  · simp [cmpD, told, pr, flatD, flatDs, eqD, eqDs]
theorem t17 (ns : List Int) (hl : ns.length ≤ 63) : runF G17 N17.length c17 [.d (.lst (ns.map .int))] = .ok (.d (.bl true)) [] := by
  obtain ⟨d1, d2, d3, d4, d5, g1, g2, g3, g4, g5, q1⟩ := reels17 hl (List.range (max 1 (min 3 ns.length))) .none .none .none .none .none (fun i hi => by have := List.mem_range.mp hi; omega) .n (.inl rfl) .n .n .n
  obtain ⟨a, m, a0, hm, q9⟩ := t9 (i := 0) hl (by omega)
  have hr : Re a m 0 0 := ⟨a0, hm, by omega, by omega⟩
  have q2 : evS G17 (.asg (.nm 2) (.call 9 [(.var 0), (.cst (.int 0))])) (E0 (.lst (ns.map .int)) d1 d2 d3 d4 d5) = .ok .next (E0 (.lst (ns.map .int)) d1 (.o (Rl a m 0)) d3 d4 d5) := by
    refine asg_eq (r := .new (Rl a m 0)) (env1 := E0 (.lst (ns.map .int)) d1 d2 d3 d4 d5) ?_ ?_
    · have q9' : runF G9 N9.length c9 [.d (.lst (ns.map .int)), .d (.int 0)] = .ok (.new (Rl a m 0)) [] := q9
      simp [walkOf, evSs, evS, ev, evE, evT, evE_eq, evT_eq, evEs, evO, evC, evI, E2.of, do2, do1, doCall, doBlt, doInt, doSl, doSeq, doIte, doNot, doAnd, doOr, toNot, toAnd, toOr, doCol, doItN, doIt1, doRange, Res.bind, doVar, R.get, ofO, ixRO, ixD, L2.atI, L2.ixN, RO.toR, binD, bltD, cmpD, isNonD, ioOf, argCell, callF, preArgs, frz, frzs, gets, ioIdx, toArgs, setObs, noOwn, asgRs, asgR, asgD, asgDs, Fx.cellOf, truD, tyD, obAt, Cell.ob, Ob.toD, putOb, setD, itemsOf, g17_9, m9, d9, q9']
    · rcases g2 with rfl | ⟨_, rfl⟩ <;> simp [asgR, Fx.cellOf]
  have ei : evI G17 (.e (.tup [(.cst (.int 1000)), (.cst (.int 2000))])) (E0 (.lst (ns.map .int)) d1 (.o (Rl a m 0)) d3 d4 d5) = .ok [.int 1000, .int 2000] (E0 (.lst (ns.map .int)) d1 (.o (Rl a m 0)) d3 d4 d5) := by
    have h2 := lmk (k := 2) (by omega)
    simp [walkOf, evSs, evS, ev, evE, evT, evE_eq, evT_eq, evEs, evO, evC, evI, E2.of, do2, do1, doCall, doBlt, doInt, doSl, doSeq, doIte, doNot, doAnd, doOr, toNot, toAnd, toOr, doCol, doItN, doIt1, doRange, Res.bind, doVar, R.get, ofO, ixRO, ixD, L2.atI, L2.ixN, RO.toR, binD, bltD, cmpD, isNonD, ioOf, argCell, callF, preArgs, frz, frzs, gets, ioIdx, toArgs, setObs, noOwn, asgRs, asgR, asgD, asgDs, Fx.cellOf, truD, tyD, obAt, Cell.ob, Ob.toD, putOb, setD, itemsOf, h2]
  have q3 : evS G17 (.fors (.nm 6) (.e (.tup [(.cst (.int 1000)), (.cst (.int 2000))])) [parS, ifsS]) (E0 (.lst (ns.map .int)) d1 (.o (Rl a m 0)) d3 d4 d5) = .ok .next (E17 (.lst (ns.map .int)) d1 (Rl a m 0) d3 (.d (L (PP 500))) (.d (L (QQ 500))) (.d (.int 2000)) .none .none) := by
    refine (for_eq ei).trans (for_cons (env1 := E17 (.lst (ns.map .int)) d1 (Rl a m 0) d3 d4 d5 (.d (.int 1000)) .none .none) (by simp [asgD]) (size_turn (n := 250) (by omega) (by omega) g4 g5 pq1)
      (for_cons (env1 := E17 (.lst (ns.map .int)) d1 (Rl a m 0) d3 (.d (L (PP 250))) (.d (L (QQ 250))) (.d (.int 2000)) .none .none) (by simp [asgD]) (size_turn (n := 500) (by omega) (by omega) .d .d pq2) for_nil))
  obtain ⟨r, a1, k1, r0, r3, e1, q4⟩ := spin17 (S := .lst (ns.map .int)) (I := d1) (b := Rl a m 0) (c3 := d3) (c4 := .d (L (PP 500))) (c5 := .d (L (QQ 500))) (c6 := .d (.int 2000)) (c7 := .none) (c8 := .none) (e := .cst (.int 300)) (z := 300) hr (by omega) (by decide) (by decide) (by simp [walkOf, evSs, evS, ev, evE, evT, evE_eq, evT_eq, evEs, evO, evC, evI, E2.of, do2, do1, doCall, doBlt, doInt, doSl, doSeq, doIte, doNot, doAnd, doOr, toNot, toAnd, toOr, doCol, doItN, doIt1, doRange, Res.bind, doVar, R.get, ofO, ixRO, ixD, L2.atI, L2.ixN, RO.toR, binD, bltD, cmpD, isNonD, ioOf, argCell, callF, preArgs, frz, frzs, gets, ioIdx, toArgs, setObs, noOwn, asgRs, asgR, asgD, asgDs, Fx.cellOf, truD, tyD, obAt, Cell.ob, Ob.toD, putOb, setD, itemsOf])
  obtain ⟨t, rfl⟩ := Int.eq_ofNat_of_zero_le r0
  have q5 : evS G17 (.asg (.nm 7) (.call 10 [(.var 2), (.cst (.int 300))])) (E17 (.lst (ns.map .int)) d1 (Rl a m 0) d3 (.d (L (PP 500))) (.d (L (QQ 500))) (.d (.int 2000)) .none .none) = .ok .next (E17 (.lst (ns.map .int)) d1 (Rl a1 m k1) d3 (.d (L (PP 500))) (.d (L (QQ 500))) (.d (.int 2000)) (.d (.int (t : Int))) .none) :=
    asg_eq q4 (by simp [asgR, Fx.cellOf, E17])
  obtain ⟨c8', q6⟩ := tail17 (S := .lst (ns.map .int)) (I := d1) (b := Rl a1 m k1) (c3 := d3) (c5 := .d (L (QQ 500))) (c6 := .d (.int 2000)) (t := t) (y := L (PP 500)) (by omega)
  exact runF_of (run_cons ((for_eq range17).trans q1) (run_cons q2 (run_cons q3 (run_cons q5 q6)))) rfl rfl rfl
end K28
theorem PySem.Challenge.cw_scanbars_k28_contrasts_of_rows_holds : PySem.Challenge.rw_scanbars_k28_contrasts_of_rows.Holds := by
  exact K28.holds K28.t17

