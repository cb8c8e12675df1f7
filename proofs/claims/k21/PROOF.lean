import PyProof.Rows.All
import Wide.All
import OpenK.AllK
import Wide.FinOn
import HandS.ForMost
import HandS.ForExc
import HandS.Walk
import HandS.Flow
import HandS.CallSlots
import HandS.IsInst
import HandS.TupAny
import HandS.TupMul
import HandS.TupLe
import HandS.Style
import HandS.Conv
import HandS.More
import HandS.Deep
import HandS.DictComp
import HandS.Zip
import HandS.ExcInit
import HandS.Strs
import HandS.SetKeys
import HandS.WideBits
import KE.LtData
import KE.SortData
import KE.GoesEnum
import KE.GoesMore
import HandS.Iter
import KE.LtSeq
import KE.SortCalls
import HandS.TryMany
import HandS.Dict
import PySem.Challenge.RW_untoldgames_k21_whole_pairs_of_boards
set_option Elab.async false
set_option linter.all false
set_option maxRecDepth 100000
set_option maxHeartbeats 4000000
namespace DN
open PySem PySem.Spec PyProof.Rows L2

/-! ## data -/
inductive D where
  | non | bl (b : Bool) | int (i : Int) | str (x : Str)
  | tup (xs : List D) | lst (xs : List D) | dct (ks vs : List D)
  | ins (c : Str) (vs : List D) | ref (a : Addr)

/-- classes: name to address and fields in order -/
abbrev CTab := Str → Option (Addr × List Str)
def KeyOk : Key → Prop
  | .inl _ => True
  | .inr x => x.length ≤ sizeLine ∧ PyData.strOk x = true
/-- keys that a dict may have -/
def KNd (kvs : List (Key × V)) : Prop := (kvs.map (·.1)).Nodup ∧ ∀ p ∈ kvs, KeyOk p.1
def keyD : Key → D
  | .inl i => .int i
  | .inr x => .str x

mutual
inductive Rep (K : PySem.W.Frag) (cl : CTab) (Z : Hp) : V → D → Prop
  | non : Rep K cl Z .non .non
  | bl (b : Bool) : Rep K cl Z (.bl b) (.bl b)
  | int (i : Int) : Rep K cl Z (.int i) (.int i)
  | str {x : Str} : x.length ≤ sizeLine → PyData.strOk x = true → Rep K cl Z (.str x) (.str x)
  | tup {a : Addr} {vs : List V} {ds : List D} : SqT K Z a vs → vs.length ≤ sizeLine → RepL K cl Z vs ds → Rep K cl Z (.ref a) (.tup ds)
  | lst {a : Addr} {vs : List V} {ds : List D} : Z a = some (.lst vs) → vs.length ≤ sizeLine → RepL K cl Z vs ds → Rep K cl Z (.ref a) (.lst ds)
  | dct {a : Addr} {kvs : List (Key × V)} {ks ds : List D} : Rd Z a (.dK kvs) → ks = kvs.map (fun p => keyD p.1) → KNd kvs → RepL K cl Z (kvs.map (·.2)) ds → Rep K cl Z (.ref a) (.dct ks ds)
  | ins {a C dx : Addr} {fs : List (Str × V)} {c : Str} {ds : List D} : cl c = some (C, fs.map (·.1)) → Z a = some (.ins C dx fs) → RepL K cl Z (fs.map (·.2)) ds → Rep K cl Z (.ref a) (.ins c ds)
  | ref (a : Addr) : Rep K cl Z (.ref a) (.ref a)
inductive RepL (K : PySem.W.Frag) (cl : CTab) (Z : Hp) : List V → List D → Prop
  | nil : RepL K cl Z [] []
  | cons {v : V} {vs : List V} {d : D} {ds : List D} : Rep K cl Z v d → RepL K cl Z vs ds → RepL K cl Z (v :: vs) (d :: ds)
end

def Sub (Z Z' : Hp) : Prop := ∀ a o, Z a = some o → Z' a = some o
theorem Sub.refl (Z : Hp) : Sub Z Z := fun _ _ h => h
theorem Sub.trans {A B C : Hp} (a : Sub A B) (b : Sub B C) : Sub A C := fun x o h => b x o (a x o h)
theorem Sub.upd {Z : Hp} {p : Addr} {o : HO} (h : Z p = none) : Sub Z (upd Z p o) := fun a u e => by
  rw [upd_ne (ne_of_none e h)]; exact e
def immO : HO → Bool
  | .tup _ => true
  | .ins _ _ _ => true
  | .own _ => true
  | .xd _ => true
  | .met _ _ => true
  | .rng _ _ => true
  | .tbl _ => true
  | .frz _ u => immO u
  | _ => false
/-- what cannot change is kept -/
def SubI (Z Z' : Hp) : Prop := ∀ a o, immO o = true → Z a = some o → Z' a = some o
theorem Sub.imm {Z Z' : Hp} (h : Sub Z Z') : SubI Z Z' := fun a o _ e => h a o e
theorem SubI.trans {A B C : Hp} (a : SubI A B) (b : SubI B C) : SubI A C := fun x o i h => b x o i (a x o i h)

mutual
def D.imm : D → Bool
  | .tup xs => D.immL xs
  | .lst _ => false
  | .dct _ _ => false
  | .ins _ xs => D.immL xs
  | _ => true
def D.immL : List D → Bool
  | [] => true
  | d :: ds => d.imm && D.immL ds
end

section
variable {K : PySem.W.Frag} {cl : CTab} {Z Z' : Hp}
theorem sub_rd (h : Sub Z Z') {a : Addr} {u : HO} (r : Rd Z a u) : Rd Z' a u := by
  rcases r with r | ⟨o, r⟩
  · exact .inl (h _ _ r)
  · exact .inr ⟨o, h _ _ r⟩
theorem sub_l (h : Sub Z Z') {a : Addr} {xs : List V} (r : SqL K Z a xs) : SqL K Z' a xs := by
  rcases r with r | r
  · exact .inl (sub_rd h r)
  · exact .inr r
theorem sub_t (h : Sub Z Z') {a : Addr} {xs : List V} (r : SqT K Z a xs) : SqT K Z' a xs := by
  rcases r with r | r
  · exact .inl (sub_rd h r)
  · exact .inr r
theorem subI_t (h : SubI Z Z') {a : Addr} {xs : List V} (r : SqT K Z a xs) : SqT K Z' a xs := by
  rcases r with r | r
  · refine .inl ?_
    rcases r with r | ⟨o, r⟩
    · exact .inl (h _ _ rfl r)
    · exact .inr ⟨o, h _ _ rfl r⟩
  · exact .inr r
mutual
theorem Rep.mono (h : Sub Z Z') : ∀ (d : D) {v : V}, Rep K cl Z v d → Rep K cl Z' v d
  | .non, _, r => by cases r; exact .non
  | .bl b, _, r => by cases r; exact .bl b
  | .int i, _, r => by cases r; exact .int i
  | .str x, _, r => by cases r with | str e f => exact .str e f
  | .tup ds, _, r => by cases r with | tup a e b => exact .tup (sub_t h a) e (RepL.mono h ds b)
  | .lst ds, _, r => by cases r with | lst a e b => exact .lst (h _ _ a) e (RepL.mono h ds b)
  | .dct ks ds, _, r => by cases r with | dct a e n b => exact .dct (sub_rd h a) e n (RepL.mono h ds b)
  | .ins c ds, _, r => by cases r with | ins e a b => exact .ins e (h _ _ a) (RepL.mono h ds b)
  | .ref a, _, r => by cases r; exact .ref a
theorem RepL.mono (h : Sub Z Z') : ∀ (ds : List D) {vs : List V}, RepL K cl Z vs ds → RepL K cl Z' vs ds
  | [], _, r => by cases r; exact .nil
  | d :: ds, _, r => by cases r with | cons a b => exact .cons (Rep.mono h d a) (RepL.mono h ds b)
end
mutual
theorem Rep.monoI (h : SubI Z Z') : ∀ (d : D) {v : V}, d.imm = true → Rep K cl Z v d → Rep K cl Z' v d
  | .non, _, _, r => by cases r; exact .non
  | .bl b, _, _, r => by cases r; exact .bl b
  | .int i, _, _, r => by cases r; exact .int i
  | .str x, _, _, r => by cases r with | str e f => exact .str e f
  | .tup ds, _, i, r => by cases r with | tup a e b => exact .tup (subI_t h a) e (RepL.monoI h ds (by simpa [D.imm] using i) b)
  | .lst ds, _, i, r => by simp [D.imm] at i
  | .dct ks ds, _, i, r => by simp [D.imm] at i
  | .ins c ds, _, i, r => by cases r with | ins e a b => exact .ins e (h _ _ rfl a) (RepL.monoI h ds (by simpa [D.imm] using i) b)
  | .ref a, _, _, r => by cases r; exact .ref a
theorem RepL.monoI (h : SubI Z Z') : ∀ (ds : List D) {vs : List V}, D.immL ds = true → RepL K cl Z vs ds → RepL K cl Z' vs ds
  | [], _, _, r => by cases r; exact .nil
  | d :: ds, _, i, r => by
    cases r with
    | cons a b =>
      have i2 : d.imm = true ∧ D.immL ds = true := by simpa [D.immL] using i
      exact .cons (Rep.monoI h d i2.1 a) (RepL.monoI h ds i2.2 b)
end
theorem RepL.len : ∀ {ds : List D} {vs : List V}, RepL K cl Z vs ds → vs.length = ds.length
  | [], _, r => by cases r; rfl
  | d :: ds, _, r => by cases r with | cons a b => simp [RepL.len b]
theorem RepL.get : ∀ {ds : List D} {vs : List V} {i : Nat} {d : D}, RepL K cl Z vs ds → ds[i]? = some d → ∃ v, vs[i]? = some v ∧ Rep K cl Z v d
  | [], _, _, _, r, e => by simp at e
  | d :: ds, _, 0, _, r, e => by
    cases r with | cons a b => simp at e; subst e; exact ⟨_, rfl, a⟩
  | d :: ds, _, i + 1, _, r, e => by
    cases r with | cons a b =>
      obtain ⟨v, h1, h2⟩ := RepL.get (i := i) b (by simpa using e)
      exact ⟨v, by simpa using h1, h2⟩
theorem RepL.getV : ∀ {ds : List D} {vs : List V} {i : Nat} {v : V}, RepL K cl Z vs ds → vs[i]? = some v → ∃ d, ds[i]? = some d ∧ Rep K cl Z v d
  | [], _, _, _, r, e => by cases r; simp at e
  | d :: ds, _, 0, _, r, e => by
    cases r with | cons a b => simp at e; subst e; exact ⟨_, rfl, a⟩
  | d :: ds, _, i + 1, _, r, e => by
    cases r with | cons a b =>
      obtain ⟨v, h1, h2⟩ := RepL.getV (i := i) b (by simpa using e)
      exact ⟨v, by simpa using h1, h2⟩
theorem RepL.append : ∀ {ds es : List D} {vs ws : List V}, RepL K cl Z vs ds → RepL K cl Z ws es → RepL K cl Z (vs ++ ws) (ds ++ es)
  | [], _, _, _, r, s => by cases r; exact s
  | d :: ds, _, _, _, r, s => by cases r with | cons a b => exact .cons a (RepL.append b s)
theorem RepL.take : ∀ {ds : List D} {vs : List V} (n : Nat), RepL K cl Z vs ds → RepL K cl Z (vs.take n) (ds.take n)
  | [], _, n, r => by cases r; simp; exact .nil
  | d :: ds, _, 0, r => by simp; exact .nil
  | d :: ds, _, n + 1, r => by cases r with | cons a b => simp; exact .cons a (RepL.take n b)
theorem RepL.drop : ∀ {ds : List D} {vs : List V} (n : Nat), RepL K cl Z vs ds → RepL K cl Z (vs.drop n) (ds.drop n)
  | [], _, n, r => by cases r; simp; exact .nil
  | d :: ds, _, 0, r => by simpa using r
  | d :: ds, _, n + 1, r => by cases r with | cons a b => simp; exact RepL.drop n b
theorem RepL.reverse : ∀ {ds : List D} {vs : List V}, RepL K cl Z vs ds → RepL K cl Z vs.reverse ds.reverse
  | [], _, r => by cases r; exact .nil
  | d :: ds, _, r => by cases r with | cons a b => simp; exact (RepL.reverse b).append (.cons a .nil)
theorem RepL.set {v : V} {d : D} (h : Rep K cl Z v d) : ∀ {ds : List D} {vs : List V} (n : Nat), RepL K cl Z vs ds → RepL K cl Z (vs.set n v) (ds.set n d)
  | [], _, n, r => by cases r; simp; exact .nil
  | _ :: ds, _, 0, r => by cases r with | cons a b => exact .cons h b
  | _ :: ds, _, n + 1, r => by cases r with | cons a b => exact .cons a (RepL.set h n b)
end

/-! ## the state and results -/
structure Exn where
  c : Str
  f : Option D
inductive Res (T : Type) (α : Type) where
  | ok (a : α) (s : T) | err (x : Exn) (s : T) | stuck
structure Sto where
  T : Type
  R : T → Hp → Hp → Prop
  mono : ∀ {s : T} {Z Z' C : Hp}, R s Z C → SubI Z Z' → R s Z' C
abbrev M (B : Sto) (α : Type) := B.T → Res B.T α
variable {B : Sto}
@[inline] def M.bind {α β : Type} (m : M B α) (k : α → M B β) : M B β := fun s => match m s with
  | .ok a s' => k a s'
  | .err x s' => .err x s'
  | .stuck => .stuck
@[inline] def M.pure {α : Type} (a : α) : M B α := fun s => .ok a s
instance : Monad (M B) where
  pure := M.pure
  bind := M.bind
/-- a value that may be missing -/
def lift {α : Type} : Option α → M B α
  | some a => M.pure a
  | none => fun _ => .stuck
def guardM {α : Type} (b : Bool) (m : M B α) : M B α := if b = true then m else fun _ => .stuck

structure Wd (B : Sto) (md : Bool) (Z C H : Hp) (s : B.T) : Prop where
  zh : Sub Z H
  ch : Sub C H
  dj : ∀ a, C a ≠ none → Z a = none
  sr : B.R s Z C
  zd : md = true → ∀ (a : Addr) (kvs : List (Key × V)), Z a = some (.dK kvs) → True
structure Nx (Z C H Z' C' H' : Hp) : Prop where
  zz : Sub Z Z'
  hh : ∀ a o, H a = some o → C a = none → H' a = some o
  zf : ∀ a, Z' a ≠ none → Z a ≠ none ∨ H a = none
  cf : ∀ a, C' a ≠ none → C a ≠ none ∨ H a = none
  cp : ∀ a, C a ≠ none → C' a ≠ none
  zd : ∀ (a : Addr) (kvs : List (Key × V)), Z' a = some (.dK kvs) → True
theorem Nx.refl (Z C H : Hp) : Nx Z C H Z C H := ⟨fun _ _ h => h, fun _ _ h _ => h, fun _ h => .inl h, fun _ h => .inl h, fun _ h => h, fun _ _ h => trivial⟩
theorem ne_some {α : Type} {x : Option α} (h : x ≠ none) : ∃ o, x = some o := by
  cases x with
  | none => exact absurd rfl h
  | some o => exact ⟨o, rfl⟩
theorem some_ne {α : Type} {x : Option α} {o : α} (h : x = some o) : x ≠ none := by rw [h]; exact fun z => nomatch z
theorem Nx.trans {Z C H Z1 C1 H1 Z2 C2 H2 : Hp} (a : Nx Z C H Z1 C1 H1) (w0 : Sub C H) (w1 : Sub C1 H1) (b : Nx Z1 C1 H1 Z2 C2 H2) : Nx Z C H Z2 C2 H2 := by
  have back : ∀ x, H1 x = none → H x = none := fun x e => by
    cases q : H x with
    | none => rfl
    | some o =>
      cases c : C x with
      | none => rw [a.hh x o q c] at e; cases e
      | some u =>
        obtain ⟨u1, e1⟩ := ne_some (a.cp x (some_ne c))
        rw [w1 x u1 e1] at e; cases e
  refine ⟨a.zz.trans b.zz, fun x o e c => ?_, fun x e => ?_, fun x e => ?_, fun x e => b.cp x (a.cp x e), fun _ _ _ => trivial⟩
  · refine b.hh x o (a.hh x o e c) ?_
    cases q : C1 x with
    | none => rfl
    | some u =>
      rcases a.cf x (some_ne q) with z | z
      · exact absurd c z
      · rw [e] at z; cases z
  · rcases b.zf x e with z | z
    · exact a.zf x z
    · exact .inr (back x z)
  · rcases b.cf x e with z | z
    · exact a.cf x z
    · exact .inr (back x z)
end DN
set_option Elab.async false
set_option linter.all false
set_option maxRecDepth 100000
set_option maxHeartbeats 4000000
namespace DN
open PySem PySem.Spec PyProof.Rows L2
variable {B : Sto}

/-! ## what a reading tells -/
abbrev Env := List (Option D)
structure EnvR (K : PySem.W.Frag) (cl : CTab) (Z : Hp) (ρ : Env) (σ : L2.St) : Prop where
  len : ρ.length = σ.length
  get : ∀ (i : Nat) (d : D), ρ[i]? = some (some d) → ∃ v, σ[i]? = some (some v) ∧ Rep K cl Z v d
theorem EnvR.mono {K : PySem.W.Frag} {cl : CTab} {Z Z' : Hp} {ρ : Env} {σ : L2.St} (h : Sub Z Z') (e : EnvR K cl Z ρ σ) : EnvR K cl Z' ρ σ := ⟨e.len, fun i d q =>
  let ⟨v, a, b⟩ := e.get i d q
  ⟨v, a, b.mono h d⟩⟩
/-- an exception in the world's terms -/
def ExR (K : PySem.W.Frag) (cl : CTab) (Z : Hp) (x : Exn) (c : Value) (dx : Option Addr) (H : Hp) : Prop :=
  ∃ C fs, cl x.c = some (C, fs) ∧ c = .ref C ∧ match x.f with
    | none => dx = none ∧ fs = []
    | some d => ∃ f v a, fs = [f] ∧ dx = some a ∧ H a = some (.xd [(f, v)]) ∧ d.imm = true ∧ Rep K cl Z v d
section
variable {υ α β : Type}
/-- behind a piece of code that gives r from (Z, C, H) -/
def Post (K : PySem.W.Frag) (cl : CTab) (md : Bool) (Rp : Hp → υ → α → Prop) (W : WX) (σ : L2.St) (Z C H : Hp) (r : Res B.T α) (Q : υ → Hp → Prop) : Prop :=
  match r with
  | .ok a s => ∀ v Z' C' H', Wd B md Z' C' H' s → Nx Z C H Z' C' H' → Rp Z' v a → Q v H'
  | .err x s => ∀ c dx Z' C' H', Wd B md Z' C' H' s → Nx Z C H Z' C' H' → ExR K cl Z' x c dx H' → W c dx σ H'
  | .stuck => False
/-- the reading of a piece that means f -/
def tG (K : PySem.W.Frag) (cl : CTab) (B : Sto) (md : Bool) (Rp : Hp → υ → α → Prop) (W : WX) (f : Env → M B α) : L2.St → Hp → (υ → Hp → Prop) → Prop := fun σ H Q =>
  ∃ Z C s ρ, Wd B md Z C H s ∧ EnvR K cl Z ρ σ ∧ Post K cl md Rp W σ Z C H (f ρ s) Q
variable {K : PySem.W.Frag} {cl : CTab} {md : Bool} {Rp : Hp → υ → α → Prop} {W : WX} {σ : L2.St} {Z C H Z1 C1 H1 : Hp}
theorem Post.step {r : Res B.T α} {Q : υ → Hp → Prop} (n : Nx Z C H Z1 C1 H1) (c0 : Sub C H) (c1 : Sub C1 H1) (h : Post K cl md Rp W σ Z C H r Q) : Post K cl md Rp W σ Z1 C1 H1 r Q := by
  cases r with
  | ok a s => exact fun v Z' C' H' w m => h v Z' C' H' w (n.trans c0 c1 m)
  | err x s => exact fun c dx Z' C' H' w m => h c dx Z' C' H' w (n.trans c0 c1 m)
  | stuck => exact h
/-- one piece, then another -/
theorem Post.seq {υ2 β : Type} {Rq : Hp → υ2 → β → Prop} {m : M B α} {k : α → M B β} {s : B.T} {Q : υ2 → Hp → Prop} {Q1 : υ → Hp → Prop} (c0 : Sub C H) (h : Post K cl md Rq W σ Z C H (M.bind m k s) Q)
    (hk : ∀ a s1 v Z1 C1 H1, Wd B md Z1 C1 H1 s1 → Nx Z C H Z1 C1 H1 → Rp Z1 v a → Post K cl md Rq W σ Z1 C1 H1 (k a s1) Q → Q1 v H1) : Post K cl md Rp W σ Z C H (m s) Q1 := by
  unfold M.bind at h
  cases e : m s with
  | ok a s1 =>
    rw [e] at h
    exact fun v Z1 C1 H1 w n r => hk a s1 v Z1 C1 H1 w n r (Post.step n c0 w.ch h)
  | err x s1 =>
    rw [e] at h
    exact h
  | stuck =>
    rw [e] at h
    exact h
theorem Post.imp {r : Res B.T α} {Q Q' : υ → Hp → Prop} (h : Post K cl md Rp W σ Z C H r Q) (q : ∀ v H', Q v H' → Q' v H') : Post K cl md Rp W σ Z C H r Q' := by
  cases r with
  | ok a s => exact fun v Z' C' H' w m p => q _ _ (h v Z' C' H' w m p)
  | err x s => exact h
  | stuck => exact h
end
theorem PE.weak {X : Cx} {e : Expr} {t t' : TE} (h : PE X e t) (w : ∀ σ H Q, t' σ H Q → t σ H Q) : PE X e t' := ⟨fun pins s σ H Q I q => h.run pins s σ H Q I (w σ H Q q)⟩
theorem PT.weak {X : Cx} {e : Expr} {t t' : TT} (h : PT X e t) (w : ∀ σ H Q, t' σ H Q → t σ H Q) : PT X e t' := ⟨fun pins s σ H Q I q => h.run pins s σ H Q I (w σ H Q q)⟩
theorem PA.weak {X : Cx} {e : List Expr} {t t' : TA} (h : PA X e t) (w : ∀ σ H Q, t' σ H Q → t σ H Q) : PA X e t' := ⟨fun p pins s σ H Q I q => h.run p pins s σ H Q I (w σ H Q q)⟩
theorem PO.weak {X : Cx} {e : Option Expr} {t t' : TO} (h : PO X e t) (w : ∀ σ H Q, t' σ H Q → t σ H Q) : PO X e t' := ⟨fun pins s σ H Q I q => h.run pins s σ H Q I (w σ H Q q)⟩

abbrev RpD (K : PySem.W.Frag) (cl : CTab) : Hp → V → D → Prop := fun Z v d => Rep K cl Z v d
abbrev RpL (K : PySem.W.Frag) (cl : CTab) : Hp → List V → List D → Prop := fun Z v d => RepL K cl Z v d
abbrev RpA (K : PySem.W.Frag) (cl : CTab) (n : Nat) : Hp → List V → List D → Prop := fun Z v d => RepL K cl Z v d ∧ d.length = n
abbrev RpE {α : Type} : Hp → α → α → Prop := fun _ v d => v = d
section
variable (cl : CTab) (B : Sto) (md : Bool) (W : WX) (X : Cx)
def DE (e : Expr) (f : Env → M B D) : Prop := PE X e (tG X.K cl B md (RpD X.K cl) W f)
def DA (es : List Expr) (f : Env → M B (List D)) : Prop := PA X es (tG X.K cl B md (RpA X.K cl es.length) W f)
def DT (e : Expr) (f : Env → M B Bool) : Prop := PT X e (tG X.K cl B md RpE W f)
def DO (e : Option Expr) (f : Env → M B (Option Int)) : Prop := PO X e (tG X.K cl B md RpE W f)
end

/-! ## what grows -/
structure Al (Z H Z' H' : Hp) : Prop where
  zz : Sub Z Z'
  hh : Sub H H'
  zh : Sub Z' H'
  zf : ∀ a, Z' a ≠ none → Z a ≠ none ∨ H a = none
  zd : ∀ (a : Addr) (kvs : List (Key × V)), Z' a = some (.dK kvs) → True
section
variable {Z C H Z' H' Z2 H2 : Hp} {md : Bool} {s : B.T}
theorem Al.refl (h : Sub Z H) : Al Z H Z H := ⟨.refl _, .refl _, h, fun _ e => .inl e, fun _ _ _ => trivial⟩
theorem Al.wd (w : Wd B md Z C H s) (a : Al Z H Z' H') : Wd B md Z' C H' s := by
  refine ⟨a.zh, w.ch.trans a.hh, fun x e => ?_, B.mono w.sr a.zz.imm, fun _ _ _ _ => trivial⟩
  cases q : Z' x with
  | none => rfl
  | some o =>
    rcases a.zf x (some_ne q) with z | z
    · exact absurd (w.dj x e) z
    · obtain ⟨u, hu⟩ := ne_some e
      rw [w.ch x u hu] at z; cases z
theorem Al.nx (a : Al Z H Z' H') : Nx Z C H Z' C H' := ⟨a.zz, fun x o e _ => a.hh x o e, a.zf, fun _ e => .inl e, fun _ e => e, a.zd⟩
theorem Al.trans (a : Al Z H Z' H') (b : Al Z' H' Z2 H2) : Al Z H Z2 H2 := by
  refine ⟨a.zz.trans b.zz, a.hh.trans b.hh, b.zh, fun x e => ?_, fun _ _ _ => trivial⟩
  rcases b.zf x e with z | z
  · exact a.zf x z
  · refine .inr ?_
    cases q : H x with
    | none => rfl
    | some o => rw [a.hh x o q] at z; cases z
theorem none_of_sub {p : Addr} (h : Sub Z H) (e : H p = none) : Z p = none := by
  cases q : Z p with
  | none => rfl
  | some o => rw [h p o q] at e; cases e
theorem Al.new {p : Addr} {o : HO} (h : Sub Z H) (e : H p = none) (nd : ∀ kvs, o ≠ .dK kvs) : Al Z H (upd Z p o) (upd H p o) := by
  have zp := none_of_sub h e
  refine ⟨Sub.upd zp, Sub.upd e, fun x u q => ?_, fun x q => ?_, fun x kvs q => ?_⟩
  · by_cases hx : x = p
    · subst hx; rw [upd_same] at q ⊢; exact q
    · rw [upd_ne hx] at q ⊢; exact h x u q
  · by_cases hx : x = p
    · subst hx; exact .inr e
    · rw [upd_ne hx] at q; exact .inl q
  · trivial
end

/-! ## values by operations -/
section
variable (K : PySem.W.Frag) (cl : CTab)
def OpV (r : R2) (g : D → D → Option D) : Prop := ∀ (Z H : Hp) (x y : V) (dx dy d : D) (Q : VK), Sub Z H → Rep K cl Z x dx → Rep K cl Z y dy → g dx dy = some d →
  (∀ v Z' H', Al Z H Z' H' → Rep K cl Z' v d → Q v H') → r x y H Q
def UnV (r : V → Hp → VK → Prop) (g : D → Option D) : Prop := ∀ (Z H : Hp) (x : V) (dx d : D) (Q : VK), Sub Z H → Rep K cl Z x dx → g dx = some d →
  (∀ v Z' H', Al Z H Z' H' → Rep K cl Z' v d → Q v H') → r x H Q
def CallV (r : List V → Hp → VK → Prop) (g : List D → Option D) : Prop := ∀ (Z H : Hp) (xs : List V) (dxs : List D) (d : D) (Q : VK), Sub Z H → RepL K cl Z xs dxs → g dxs = some d →
  (∀ v Z' H', Al Z H Z' H' → Rep K cl Z' v d → Q v H') → r xs H Q
end
section
variable {K : PySem.W.Frag} {cl : CTab} {md : Bool} {W : WX} {X : Cx}
theorem post_lift {σ : L2.St} {Z C H : Hp} {o : Option D} {s : B.T} {Q : VK} (w : Wd B md Z C H s) (h : Post K cl md (RpD K cl) W σ Z C H (lift (B := B) o s) Q) :
    ∃ d, o = some d ∧ ∀ v Z' H', Al Z H Z' H' → Rep K cl Z' v d → Q v H' := by
  cases o with
  | none => exact False.elim h
  | some d => exact ⟨d, rfl, fun v Z' H' a r => h v Z' C H' (a.wd w) a.nx r⟩
theorem de_op {op : Operator} {r : R2} {g : D → D → Option D} {a b : Expr} {f1 f2 : Env → M B D} {pos : Pos} (ho : OpR X (binaryOp op) r) (hr : OpV X.K cl r g) (ha : DE cl B md W X a f1) (hb : DE cl B md W X b f2) :
    DE cl B md W X (.BinOp a op b pos) fun ρ => M.bind (f1 ρ) fun x => M.bind (f2 ρ) fun y => lift (g x y) := by
  refine PE.weak (pe_op ho ha hb) fun σ H Q ⟨Z, C, s, ρ, w, e, p⟩ => ?_
  refine ⟨Z, C, s, ρ, w, e, Post.seq w.ch p fun dx s1 x Z1 C1 H1 w1 n1 r1 p1 => ?_⟩
  refine ⟨Z1, C1, s1, ρ, w1, e.mono n1.zz, Post.seq w1.ch p1 fun dy s2 y Z2 C2 H2 w2 n2 r2 p2 => ?_⟩
  obtain ⟨d, hd, q⟩ := post_lift w2 p2
  exact hr Z2 H2 x y dx dy d Q w2.zh (r1.mono n2.zz) r2 hd q
theorem de_cmp {op : CmpOp} {r : R2} {g : D → D → Option D} {a b : Expr} {f1 f2 : Env → M B D} {pos : Pos} (ho : OpR X (compareOp op) r) (hr : OpV X.K cl r g) (hm : behindInMarks op b = false) (ha : DE cl B md W X a f1) (hb : DE cl B md W X b f2) :
    DE cl B md W X (.Compare a [op] [b] pos) fun ρ => M.bind (f1 ρ) fun x => M.bind (f2 ρ) fun y => lift (g x y) := by
  refine PE.weak (pe_cmpR ho ha hb hm) fun σ H Q ⟨Z, C, s, ρ, w, e, p⟩ => ?_
  refine ⟨Z, C, s, ρ, w, e, Post.seq w.ch p fun dx s1 x Z1 C1 H1 w1 n1 r1 p1 => ?_⟩
  refine ⟨Z1, C1, s1, ρ, w1, e.mono n1.zz, Post.seq w1.ch p1 fun dy s2 y Z2 C2 H2 w2 n2 r2 p2 => ?_⟩
  obtain ⟨d, hd, q⟩ := post_lift w2 p2
  exact hr Z2 H2 x y dx dy d Q w2.zh (r1.mono n2.zz) r2 hd q
theorem de_un {op : UnaryOp} {r : V → Hp → VK → Prop} {g : D → Option D} {a : Expr} {f1 : Env → M B D} {pos : Pos} (ho : UnR X (unaryOp op) r) (hr : UnV X.K cl r g) (ha : DE cl B md W X a f1) :
    DE cl B md W X (.UnaryOp op a pos) fun ρ => M.bind (f1 ρ) fun x => lift (g x) := by
  refine PE.weak (pe_un ho ha) fun σ H Q ⟨Z, C, s, ρ, w, e, p⟩ => ?_
  refine ⟨Z, C, s, ρ, w, e, Post.seq w.ch p fun dx s1 x Z1 C1 H1 w1 n1 r1 p1 => ?_⟩
  obtain ⟨d, hd, q⟩ := post_lift w1 p1
  exact hr Z1 H1 x dx d Q w1.zh r1 hd q
/-! names, constants -/
def eVar (i : Nat) : Env → M B D := fun ρ => lift ((ρ[i]?).bind id)
theorem post_pure {σ : L2.St} {Z C H : Hp} {d : D} {s : B.T} {Q : VK} {v : V} (w : Wd B md Z C H s) (h : Post K cl md (RpD K cl) W σ Z C H ((M.pure d : M B D) s) Q) (r : Rep K cl Z v d) : Q v H := h v Z C H w (.refl ..) r
theorem de_var {i : Nat} {x : Str} {pos : Pos} (h : PE X (.Name x pos) (tVar i)) : DE cl B md W X (.Name x pos) (eVar i) := by
  refine PE.weak h fun σ H Q ⟨Z, C, s, ρ, w, e, p⟩ => ?_
  obtain ⟨d, hd, q⟩ := post_lift w p
  obtain ⟨v, h1, h2⟩ := e.get i d (by
    cases q : ρ[i]? with
    | none => rw [q] at hd; cases hd
    | some o =>
      rw [q] at hd
      have : o = some d := hd
      rw [this])
  exact ⟨v, h1, q v Z H (.refl w.zh) h2⟩
def eC (d : D) : Env → M B D := fun _ => M.pure d
theorem de_c {e : Expr} {v : V} {d : D} (h : PE X e (tC v)) (r : ∀ Z, Rep X.K cl Z v d) : DE cl B md W X e (eC d) :=
  PE.weak h fun σ H Q ⟨Z, C, s, ρ, w, e, p⟩ => post_pure w p (r Z)
/-! arguments -/
theorem da_nil : DA cl B md W X [] (fun _ => M.pure []) :=
  PA.weak pa_nil fun σ H Q ⟨Z, C, s, ρ, w, e, p⟩ => p [] Z C H w (.refl ..) ⟨.nil, rfl⟩
theorem da_cons {e : Expr} {es : List Expr} {f : Env → M B D} {g : Env → M B (List D)} (h : DE cl B md W X e f) (t : DA cl B md W X es g) (hs : starEach (e :: es) X.env = (false, eval e X.env) :: starEach es X.env := by rfl) :
    DA cl B md W X (e :: es) fun ρ => M.bind (f ρ) fun x => M.bind (g ρ) fun xs => M.pure (x :: xs) := by
  refine PA.weak (pa_cons h t hs) fun σ H Q ⟨Z, C, s, ρ, w, e, p⟩ => ?_
  refine ⟨Z, C, s, ρ, w, e, Post.seq w.ch p fun dx s1 x Z1 C1 H1 w1 n1 r1 p1 => ?_⟩
  refine ⟨Z1, C1, s1, ρ, w1, e.mono n1.zz, Post.seq w1.ch p1 fun dy s2 y Z2 C2 H2 w2 n2 r2 p2 => ?_⟩
  exact p2 (x :: y) Z2 C2 H2 w2 (.refl ..) ⟨.cons (r1.mono n2.zz) r2.1, by rw [List.length_cons, r2.2]; rfl⟩
/-! displays -/
theorem de_tup {es : List Expr} {x1} {pos : Pos} {f : Env → M B (List D)} (h : DA cl B md W X es f) (hn : es.length ≤ 1000 := by decide) :
    DE cl B md W X (.Tuple es x1 pos) fun ρ => M.bind (f ρ) fun xs => M.pure (.tup xs) := by
  refine PE.weak (pe_tup h) fun σ H Q ⟨Z, C, s, ρ, w, e, p⟩ => ?_
  refine ⟨Z, C, s, ρ, w, e, Post.seq w.ch p fun ds s1 xs Z1 C1 H1 w1 n1 r1 p1 => ?_⟩
  have hlen : xs.length ≤ sizeLine := by
    rw [r1.1.len, r1.2, sizeLine_eq]; omega
  refine ⟨hlen, fun q hq => ?_⟩
  have al : Al Z1 H1 (upd Z1 q (.tup xs)) (upd H1 q (.tup xs)) := .new w1.zh hq (fun _ z => nomatch z)
  exact p1 (.ref q) _ C1 _ (al.wd w1) al.nx (.tup (SqT.of upd_same) hlen (r1.1.mono al.zz))
end
end DN
set_option Elab.async false
set_option linter.all false
set_option maxRecDepth 100000
set_option maxHeartbeats 4000000
namespace DN
open PySem PySem.Spec PyProof.Rows L2

/-! ## plain data, as the library's -/
mutual
def D.py : D → PyData
  | .non => .none
  | .bl b => .bool b
  | .int i => .int i
  | .str x => .str x
  | .tup xs => .tuple (D.pyL xs)
  | .lst xs => .list (D.pyL xs)
  | _ => .dict []
def D.pyL : List D → List PyData
  | [] => []
  | d :: ds => d.py :: D.pyL ds
end
mutual
/-- no dict, no instance, no bare address in it -/
def D.plain : D → Bool
  | .tup xs => D.plainL xs
  | .lst xs => D.plainL xs
  | .dct _ _ => false
  | .ins _ _ => false
  | .ref _ => false
  | _ => true
def D.plainL : List D → Bool
  | [] => true
  | d :: ds => d.plain && D.plainL ds
end
section
variable {K : PySem.W.Frag} {cl : CTab} {Z H : Hp}
mutual
theorem Rep.dp (h : Sub Z H) : ∀ (d : D) {v : V}, d.plain = true → Rep K cl Z v d → Dp K H v d.py ∧ d.py.canLay0 = true
  | .non, _, _, r => by cases r; exact ⟨.non, by simp [D.py, PyData.canLay0]⟩
  | .bl b, _, _, r => by cases r; exact ⟨.bl b, by simp [D.py, PyData.canLay0]⟩
  | .int i, _, _, r => by cases r; exact ⟨.int i, by simp [D.py, PyData.canLay0]⟩
  | .str x, _, _, r => by cases r with | str e f => exact ⟨.str x, by simpa [D.py, PyData.canLay0] using f⟩
  | .tup ds, _, p, r => by
    cases r with
    | tup a e b =>
      obtain ⟨h1, h2⟩ := RepL.dp h ds (by simpa [D.plain] using p) b
      exact ⟨.tup (sub_t h a) h1, by simpa [D.py, PyData.canLay0] using h2⟩
  | .lst ds, _, p, r => by
    cases r with
    | lst a e b =>
      obtain ⟨h1, h2⟩ := RepL.dp h ds (by simpa [D.plain] using p) b
      exact ⟨.lst (SqL.of (h _ _ a)) h1, by simpa [D.py, PyData.canLay0] using h2⟩
  | .dct ks ds, _, p, r => by simp [D.plain] at p
  | .ins c ds, _, p, r => by simp [D.plain] at p
  | .ref a, _, p, r => by simp [D.plain] at p
theorem RepL.dp (h : Sub Z H) : ∀ (ds : List D) {vs : List V}, D.plainL ds = true → RepL K cl Z vs ds → DpAll K H vs (D.pyL ds) ∧ PyData.canLayAll0 (D.pyL ds) = true
  | [], _, _, r => by cases r; exact ⟨.nil, by simp [D.pyL, PyData.canLayAll0]⟩
  | d :: ds, _, p, r => by
    have p2 : d.plain = true ∧ D.plainL ds = true := by simpa [D.plainL] using p
    cases r with
    | cons a b =>
      obtain ⟨h1, h2⟩ := Rep.dp h d p2.1 a
      obtain ⟨h3, h4⟩ := RepL.dp h ds p2.2 b
      exact ⟨.cons h1 h3, by simp [D.pyL, PyData.canLayAll0, h2, h4]⟩
end
end
/-- can be compared by the library's rules -/
def D.okc (d : D) : Bool := d.plain && decide (d.py.depth ≤ 60)
theorem okc_shaped {K : PySem.W.Frag} {cl : CTab} {Z H : Hp} {d : D} {v : V} (h : Sub Z H) (o : d.okc = true) (r : Rep K cl Z v d) : Dp K H v d.py ∧ SeqAt.shaped d.py = true ∧ d.py.canLay0 = true ∧ d.py.depth ≤ 60 := by
  unfold D.okc at o
  rw [Bool.and_eq_true] at o
  obtain ⟨h1, h2⟩ := r.dp h d o.1
  have h3 : d.py.depth ≤ 60 := of_decide_eq_true o.2
  refine ⟨h1, ?_, h2, h3⟩
  unfold SeqAt.shaped
  rw [h2, decide_eq_true (by omega)]
  rfl

/-! ## operators -/
def ofLe (n m : Nat) : Bool := decide (n ≤ m)
def addD : D → D → Option D
  | .int i, .int j => some (.int (i + j))
  | .str x, .str y => if x.length + y.length ≤ sizeLine then some (.str (x ++ y)) else none
  | .tup xs, .tup ys => if xs.length + ys.length ≤ sizeLine then some (.tup (xs ++ ys)) else none
  | .lst xs, .lst ys => if xs.length + ys.length ≤ sizeLine then some (.lst (xs ++ ys)) else none
  | _, _ => none
def subD : D → D → Option D
  | .int i, .int j => some (.int (i - j))
  | _, _ => none
def mulI : D → D → Option D
  | .int i, .int j => if (-(2 ^ 64) < i ∧ i < 2 ^ 64) ∨ (-(2 ^ 64) < j ∧ j < 2 ^ 64) then some (.int (i * j)) else none
  | _, _ => none
def modD : D → D → Option D
  | .int i, .int j => if 0 < j then some (.int (i % j)) else none
  | _, _ => none
def fdivD : D → D → Option D
  | .int i, .int j => if 0 < j ∧ j < 1073741824 then some (.int (i / j)) else none
  | _, _ => none
def powD : D → D → Option D
  | .int i, .int j => if 0 ≤ j ∧ j ≤ 1000000 ∧ i.natAbs < 2 ^ 64 then some (.int (i ^ j.toNat)) else none
  | _, _ => none
def shlD : D → D → Option D
  | .int i, .int j => if 0 ≤ j ∧ j ≤ 1000000 ∧ i.natAbs < 2 ^ 64 then some (.int (i * 2 ^ j.toNat)) else none
  | _, _ => none
def shrD : D → D → Option D
  | .int i, .int j => if 0 ≤ j then some (.int (i / 2 ^ j.toNat)) else none
  | _, _ => none
def andD : D → D → Option D
  | .int i, .int j => some (.int (Builtin.bitAnd i j))
  | _, _ => none
def orD : D → D → Option D
  | .int i, .int j => some (.int (Builtin.bitOr i j))
  | _, _ => none
def negD : D → Option D
  | .int i => some (.int (-i))
  | _ => none
def invD : D → Option D
  | .int i => some (.int (Builtin.bitNot i))
  | _ => none
def eqD (x y : D) : Option D := if x.okc && y.okc then some (.bl (PyData.eqv x.py y.py)) else none
def neD (x y : D) : Option D := if x.okc && y.okc then some (.bl (!PyData.eqv x.py y.py)) else none
def D.isNon : D → Bool
  | .non => true
  | _ => false
/-- x is None -/
def isN (x y : D) : Option D := if y.isNon = true then some (.bl x.isNon) else none
def isNotN (x y : D) : Option D := if y.isNon = true then some (.bl (!x.isNon)) else none
def isBl (x y : D) : Option D := match x, y with
  | .bl a, .bl b => some (.bl (decide (a = b)))
  | _, _ => none
def isNotBl (x y : D) : Option D := match x, y with
  | .bl a, .bl b => some (.bl (!decide (a = b)))
  | _, _ => none
def ltDT (x y : D) : Option D := if x.okc && y.okc && PySem.W.alike x.py y.py && !x.isNon then some (.bl (PySem.W.dataLt x.py y.py)) else none
def ltI : D → D → Option D
  | .int i, .int j => some (.bl (decide (i < j)))
  | _, _ => none
def leI : D → D → Option D
  | .int i, .int j => some (.bl (decide (i ≤ j)))
  | _, _ => none
def gtI : D → D → Option D
  | .int i, .int j => some (.bl (decide (j < i)))
  | _, _ => none
def geI : D → D → Option D
  | .int i, .int j => some (.bl (decide (j ≤ i)))
  | _, _ => none
def strLt (x y : Str) : Bool := decide (x.cps.toList < y.cps.toList)
/-- x in y -/
def inSeq (x : D) (ys : List D) : Option Bool := if x.okc && (D.lst ys).okc then some ((D.pyL ys).any fun z => PyData.eqv z x.py) else none
def inD : D → D → Option D
  | x, .tup ys => (inSeq x ys).map .bl
  | x, .lst ys => (inSeq x ys).map .bl
  | .str x, .str y => some (.bl (!(Builtin.Str.occurrences y x 0 y.length 1).isEmpty))
  | _, _ => none
def notInD : D → D → Option D
  | x, .tup ys => (inSeq x ys).map fun b => .bl (!b)
  | x, .lst ys => (inSeq x ys).map fun b => .bl (!b)
  | .str x, .str y => some (.bl (!(!(Builtin.Str.occurrences y x 0 y.length 1).isEmpty)))
  | _, _ => none

theorem strOk_app {x y : Str} (h1 : PyData.strOk x = true) (h2 : PyData.strOk y = true) : PyData.strOk (x ++ y) = true := by
  unfold PyData.strOk at *
  show (x.cps ++ y.cps).all _ = true
  rw [Array.all_append, h1, h2]
  rfl
theorem len_app (x y : Str) : (x ++ y).length = x.length + y.length := by
  show (x.cps ++ y.cps).size = x.cps.size + y.cps.size
  exact Array.size_append
section
variable {K : PySem.W.Frag} {cl : CTab} {X : Cx}
theorem OpV.or {r r' : R2} {g : D → D → Option D} (h : ∀ (Z H : Hp) (x y : V) (dx dy d : D) (Q : VK), Sub Z H → Rep K cl Z x dx → Rep K cl Z y dy → g dx dy = some d →
  (∀ v Z' H', Al Z H Z' H' → Rep K cl Z' v d → Q v H') → r x y H Q ∨ r' x y H Q) : OpV K cl (fun x y H Q => r x y H Q ∨ r' x y H Q) g := h
/-- two ints -/
theorem ov_int {C : Int → Int → Prop} {f : Int → Int → Int} {g : D → D → Option D} (hg : ∀ x y d, g x y = some d → ∃ i j, x = .int i ∧ y = .int j ∧ C i j ∧ d = .int (f i j)) : OpV K cl (rI C fun i j => .int (f i j)) g := by
  intro Z H x y dx dy d Q h rx ry e q
  obtain ⟨i, j, rfl, rfl, c, rfl⟩ := hg dx dy d e
  cases rx; cases ry
  exact ⟨i, j, rfl, rfl, c, q _ Z H (.refl h) (.int _)⟩
theorem ov_int0 {f : Int → Int → Int} {g : D → D → Option D} (hg : ∀ x y d, g x y = some d → ∃ i j, x = .int i ∧ y = .int j ∧ d = .int (f i j)) : OpV K cl (rI0 fun i j => .int (f i j)) g := by
  intro Z H x y dx dy d Q h rx ry e q
  obtain ⟨i, j, rfl, rfl, rfl⟩ := hg dx dy d e
  cases rx; cases ry
  exact ⟨i, j, rfl, rfl, q _ Z H (.refl h) (.int _)⟩
theorem ov_bl0 {f : Int → Int → Bool} {g : D → D → Option D} (hg : ∀ x y d, g x y = some d → ∃ i j, x = .int i ∧ y = .int j ∧ d = .bl (f i j)) : OpV K cl (rI0 fun i j => .bl (f i j)) g := by
  intro Z H x y dx dy d Q h rx ry e q
  obtain ⟨i, j, rfl, rfl, rfl⟩ := hg dx dy d e
  cases rx; cases ry
  exact ⟨i, j, rfl, rfl, q _ Z H (.refl h) (.bl _)⟩
theorem v_sub : OpV K cl (rI0 fun i j => .int (i - j)) subD := ov_int0 fun x y d e => by
  unfold subD at e; split at e <;> cases e; exact ⟨_, _, rfl, rfl, rfl⟩
theorem v_mulI : OpV K cl (rI CMul fun i j => .int (i * j)) mulI := ov_int fun x y d e => by
  unfold mulI at e; split at e
  · split at e <;> cases e
    exact ⟨_, _, rfl, rfl, by assumption, rfl⟩
  · cases e
theorem v_mod : OpV K cl (rI (fun _ j => 0 < j) fun i j => .int (i % j)) modD := ov_int fun x y d e => by
  unfold modD at e; split at e
  · split at e <;> cases e
    exact ⟨_, _, rfl, rfl, by assumption, rfl⟩
  · cases e
theorem v_fdiv : OpV K cl (rI CDiv fun i j => .int (i / j)) fdivD := ov_int fun x y d e => by
  unfold fdivD at e; split at e
  · split at e <;> cases e
    exact ⟨_, _, rfl, rfl, by assumption, rfl⟩
  · cases e
theorem v_pow : OpV K cl (rI CPow fun i j => .int (i ^ j.toNat)) powD := ov_int fun x y d e => by
  unfold powD at e; split at e
  · split at e <;> cases e
    exact ⟨_, _, rfl, rfl, by assumption, rfl⟩
  · cases e
theorem v_shl : OpV K cl (rI CPow fun i j => .int (i * 2 ^ j.toNat)) shlD := ov_int fun x y d e => by
  unfold shlD at e; split at e
  · split at e <;> cases e
    exact ⟨_, _, rfl, rfl, by assumption, rfl⟩
  · cases e
theorem v_shr : OpV K cl (rI (fun _ j => 0 ≤ j) fun i j => .int (i / 2 ^ j.toNat)) shrD := ov_int fun x y d e => by
  unfold shrD at e; split at e
  · split at e <;> cases e
    exact ⟨_, _, rfl, rfl, by assumption, rfl⟩
  · cases e
theorem v_and : OpV K cl (rI0 fun i j => .int (Builtin.bitAnd i j)) andD := ov_int0 fun x y d e => by
  unfold andD at e; split at e <;> cases e; exact ⟨_, _, rfl, rfl, rfl⟩
theorem v_or : OpV K cl (rI0 fun i j => .int (Builtin.bitOr i j)) orD := ov_int0 fun x y d e => by
  unfold orD at e; split at e <;> cases e; exact ⟨_, _, rfl, rfl, rfl⟩
theorem v_lt : OpV K cl (rI0 fun i j => .bl (decide (i < j))) ltI := ov_bl0 fun x y d e => by
  unfold ltI at e; split at e <;> cases e; exact ⟨_, _, rfl, rfl, rfl⟩
theorem v_le : OpV K cl (rI0 fun i j => .bl (decide (i ≤ j))) leI := ov_bl0 fun x y d e => by
  unfold leI at e; split at e <;> cases e; exact ⟨_, _, rfl, rfl, rfl⟩
theorem v_gt : OpV K cl (rI0 fun i j => .bl (decide (j < i))) gtI := ov_bl0 fun x y d e => by
  unfold gtI at e; split at e <;> cases e; exact ⟨_, _, rfl, rfl, rfl⟩
theorem v_ge : OpV K cl (rI0 fun i j => .bl (decide (j ≤ i))) geI := ov_bl0 fun x y d e => by
  unfold geI at e; split at e <;> cases e; exact ⟨_, _, rfl, rfl, rfl⟩
theorem v_neg : UnV K cl (rU fun i => .int (-i)) negD := by
  intro Z H x dx d Q h rx e q
  unfold negD at e; split at e <;> cases e
  cases rx
  exact ⟨_, rfl, q _ Z H (.refl h) (.int _)⟩
theorem v_inv : UnV K cl (rU fun i => .int (Builtin.bitNot i)) invD := by
  intro Z H x dx d Q h rx e q
  unfold invD at e; split at e <;> cases e
  cases rx
  exact ⟨_, rfl, q _ Z H (.refl h) (.int _)⟩
/-! + of any kind -/
abbrev rAddA (K : PySem.W.Frag) : R2 := fun x y H Q => (rI0 (fun i j => .int (i + j)) x y H Q ∨ (∃ i j, x = .str i ∧ y = .str j ∧ i.length + j.length ≤ sizeLine ∧ Q (.str (i ++ j)) H)) ∨ (rCatA K x y H Q ∨ rCat x y H Q)
theorem op_addA : OpR X (binaryOp .Add) (rAddA X.K) := (op_add.or op_add_str).or (op_catA.or op_cat)
theorem v_add : OpV K cl (rAddA K) addD := by
  intro Z H x y dx dy d Q h rx ry e q
  unfold addD at e
  split at e
  · cases e; cases rx; cases ry
    exact .inl (.inl ⟨_, _, rfl, rfl, q _ Z H (.refl h) (.int _)⟩)
  · split at e <;> cases e
    rename_i hz
    cases rx with | str a b => cases ry with | str a' b' =>
      exact .inl (.inr ⟨_, _, rfl, rfl, hz, q _ Z H (.refl h) (.str (by rw [len_app]; exact hz) (strOk_app b b'))⟩)
  · split at e <;> cases e
    rename_i hz
    cases rx with | tup a b c => cases ry with | tup a' b' c' =>
      rename_i pa va pb vb
      have l1 := c.len
      have l2 := c'.len
      refine .inr (.inl ⟨_, _, _, _, rfl, rfl, sub_t h a, sub_t h a', by omega, fun e => ?_, fun _ e => ?_, fun _ _ p hp => ?_⟩)
      · refine q _ Z H (.refl h) (.tup a' b' ?_)
        subst e; cases c; exact c'
      · refine q _ Z H (.refl h) (.tup a b ?_)
        subst e; cases c'; rw [List.append_nil]; exact c
      · have al : Al Z H (upd Z p (.tup (va ++ vb))) (upd H p (.tup (va ++ vb))) := .new h hp (fun _ z => nomatch z)
        exact q _ _ _ al (.tup (SqT.of upd_same) (by rw [List.length_append]; omega) ((c.mono al.zz).append (c'.mono al.zz)))
  · split at e <;> cases e
    rename_i hz
    cases rx with | lst a b c => cases ry with | lst a' b' c' =>
      rename_i pa va pb vb
      have l1 := c.len
      have l2 := c'.len
      refine .inr (.inr ⟨_, _, _, _, rfl, rfl, h _ _ a, h _ _ a', by omega, fun p hp => ?_⟩)
      have al : Al Z H (upd Z p (.lst (va ++ vb))) (upd H p (.lst (va ++ vb))) := .new h hp (fun _ z => nomatch z)
      exact q _ _ _ al (.lst upd_same (by rw [List.length_append]; omega) ((c.mono al.zz).append (c'.mono al.zz)))
  · cases e
/-! == and != -/
theorem v_eq : OpV K cl (rEqD K) eqD := by
  intro Z H x y dx dy d Q h rx ry e q
  unfold eqD at e
  split at e <;> cases e
  rename_i o
  rw [Bool.and_eq_true] at o
  obtain ⟨a1, a2, _⟩ := okc_shaped h o.1 rx
  obtain ⟨b1, b2, _⟩ := okc_shaped h o.2 ry
  exact ⟨_, _, a1, b1, a2, b2, q _ Z H (.refl h) (.bl _)⟩
theorem v_ne : OpV K cl (rNeD K) neD := by
  intro Z H x y dx dy d Q h rx ry e q
  unfold neD at e
  split at e <;> cases e
  rename_i o
  rw [Bool.and_eq_true] at o
  obtain ⟨a1, a2, _⟩ := okc_shaped h o.1 rx
  obtain ⟨b1, b2, _⟩ := okc_shaped h o.2 ry
  exact ⟨_, _, a1, b1, a2, b2, q _ Z H (.refl h) (.bl _)⟩
/-! is None, is True -/
theorem rep_non {Z : Hp} {x : V} {d : D} (r : Rep K cl Z x d) : decide (x = V.non) = d.isNon := by
  cases r <;> simp [D.isNon]
theorem isNon_eq {d : D} (h : d.isNon = true) : d = .non := by
  cases d <;> first | rfl | (simp [D.isNon] at h)
theorem v_isN : OpV K cl (fun x y H Q => y = .non ∧ Q (.bl (decide (x = .non))) H) isN := by
  intro Z H x y dx dy d Q h rx ry e q
  unfold isN at e
  split at e <;> cases e
  rename_i o
  cases isNon_eq o
  cases ry
  rw [rep_non rx]
  exact ⟨rfl, q _ Z H (.refl h) (.bl _)⟩
theorem v_isNotN : OpV K cl (fun x y H Q => y = .non ∧ Q (.bl (!decide (x = .non))) H) isNotN := by
  intro Z H x y dx dy d Q h rx ry e q
  unfold isNotN at e
  split at e <;> cases e
  rename_i o
  cases isNon_eq o
  cases ry
  rw [rep_non rx]
  exact ⟨rfl, q _ Z H (.refl h) (.bl _)⟩
theorem v_isBl : OpV K cl rIsB isBl := by
  intro Z H x y dx dy d Q h rx ry e q
  unfold isBl at e
  split at e <;> cases e
  cases rx; cases ry
  exact ⟨_, _, rfl, rfl, q _ Z H (.refl h) (.bl _)⟩
theorem v_isNotBl : OpV K cl rNotB isNotBl := by
  intro Z H x y dx dy d Q h rx ry e q
  unfold isNotBl at e
  split at e <;> cases e
  cases rx; cases ry
  exact ⟨_, _, rfl, rfl, q _ Z H (.refl h) (.bl _)⟩
end
/-! < of alike data -/
def rLtD (K : PySem.W.Frag) : R2 := fun x y H Q => ∃ d e, Dp K H x d ∧ Dp K H y e ∧ PySem.W.alike d e = true ∧ d ≠ .none ∧ d.depth ≤ 60 ∧ Q (.bl (PySem.W.dataLt d e)) H
theorem op_ltD {X : Cx} (hu : X.A.units + 64 < cLine) : OpR X (compareOp .Lt) (rLtD X.K) := by
  intro pins s σ H x y v u Q I rx ry h
  obtain ⟨d, e, hd, he, al, nn, dp, q⟩ := h
  obtain ⟨as, r1⟩ := Dp.reads I d x v hd rx
  obtain ⟨bs, r2⟩ := Dp.reads I e y u he ry
  have hm : min d.depth e.depth ≤ d.depth := Nat.min_le_left _ _
  have := PySem.W.rcLt_alike d e X.A s v u as bs r1 r2 al nn (by omega)
  have q' := this X.prog X.w X.xe (EP X pins σ Q) ⟨.bl _, H, I, rfl, q⟩
  exact q'
theorem v_ltD {K : PySem.W.Frag} {cl : CTab} : OpV K cl (rLtD K) ltDT := by
  intro Z H x y dx dy d Q h rx ry e q
  unfold ltDT at e
  split at e
  case isFalse => cases e
  cases e
  rename_i o
  simp only [Bool.and_eq_true] at o
  obtain ⟨⟨⟨o1, o2⟩, o3⟩, o4⟩ := o
  obtain ⟨a1, a2, a3, a4⟩ := okc_shaped h o1 rx
  obtain ⟨b1, b2, _⟩ := okc_shaped h o2 ry
  refine ⟨_, _, a1, b1, o3, ?_, a4, q _ Z H (.refl h) (.bl _)⟩
  cases dx <;> first | (simp [D.isNon] at o4; done) | (simp [D.py])
/-! in -/
def rInDT (K : PySem.W.Frag) (neg : Bool) : R2 := fun x y H Q => ∃ d ds, Dp K H x d ∧ Dp K H y (.tuple ds) ∧ SeqAt.shaped d = true ∧ SeqAt.shaped (.tuple ds) = true ∧ Q (.bl (if neg then !(ds.any fun z => PyData.eqv z d) else ds.any fun z => PyData.eqv z d)) H
theorem op_inDT {X : Cx} (hu : X.A.units + 65 < cLine) : OpR X (compareOp .In) (rInDT X.K false) := by
  intro pins s σ H x y v u Q I rx ry h
  obtain ⟨d, ds, hd, he, sd, se, q⟩ := h
  obtain ⟨as, r1⟩ := Dp.reads I d x v hd rx
  obtain ⟨bs, r2⟩ := Dp.reads I (.tuple ds) y u he ry
  exact SeqAt.in_tuple_reads r2 r1 (SeqAt.canLay_of_shaped se) (SeqAt.canLay_of_shaped sd) (room_in_shaped sd hu) ⟨.bl _, H, I, rfl, q⟩
theorem op_notInDT {X : Cx} (hu : X.A.units + 65 < cLine) : OpR X (compareOp .NotIn) (rInDT X.K true) := by
  intro pins s σ H x y v u Q I rx ry h
  obtain ⟨d, ds, hd, he, sd, se, q⟩ := h
  obtain ⟨as, r1⟩ := Dp.reads I d x v hd rx
  obtain ⟨bs, r2⟩ := Dp.reads I (.tuple ds) y u he ry
  exact SeqAt.notIn_tuple_reads r2 r1 (SeqAt.canLay_of_shaped se) (SeqAt.canLay_of_shaped sd) (room_in_shaped sd hu) ⟨.bl _, H, I, rfl, q⟩
abbrev rInA (K : PySem.W.Frag) : R2 := fun x y H Q => (rInDT K false x y H Q ∨ rInD K x y H Q) ∨ (∃ i j, x = .str i ∧ y = .str j ∧ Q (.bl (!(Builtin.Str.occurrences j i 0 j.length 1).isEmpty)) H)
abbrev rNotInA (K : PySem.W.Frag) : R2 := fun x y H Q => (rInDT K true x y H Q ∨ rNotInD K x y H Q) ∨ (∃ i j, x = .str i ∧ y = .str j ∧ Q (.bl (!(!(Builtin.Str.occurrences j i 0 j.length 1).isEmpty))) H)
theorem op_inA {X : Cx} (hu : X.A.units + 65 < cLine) : OpR X (compareOp .In) (rInA X.K) := ((op_inDT hu).or (op_inD hu)).or op_in_str
theorem op_notInA {X : Cx} (hu : X.A.units + 65 < cLine) : OpR X (compareOp .NotIn) (rNotInA X.K) := ((op_notInDT hu).or (op_notInD hu)).or op_notin_str
section
variable {K : PySem.W.Frag} {cl : CTab} {Z H : Hp}
theorem okc_tup {ys : List D} (h : (D.lst ys).okc = true) : (D.tup ys).okc = true := by
  simpa [D.okc, D.plain, D.py, PyData.depth] using h
theorem v_in : OpV K cl (rInA K) inD := by
  intro Z H x y dx dy d Q h rx ry e q
  unfold inD at e
  split at e
  · unfold inSeq at e
    split at e <;> cases e
    rename_i o
    rw [Bool.and_eq_true] at o
    obtain ⟨a1, a2, _⟩ := okc_shaped h o.1 rx
    obtain ⟨b1, b2, _⟩ := okc_shaped h (okc_tup o.2) ry
    simp only [D.py] at b1 b2
    exact .inl (.inl ⟨_, _, a1, b1, a2, b2, q _ Z H (.refl h) (.bl _)⟩)
  · unfold inSeq at e
    split at e <;> cases e
    rename_i o
    rw [Bool.and_eq_true] at o
    obtain ⟨a1, a2, _⟩ := okc_shaped h o.1 rx
    obtain ⟨b1, b2, _⟩ := okc_shaped h o.2 ry
    simp only [D.py] at b1 b2
    exact .inl (.inr ⟨_, _, a1, b1, a2, b2, q _ Z H (.refl h) (.bl _)⟩)
  · cases e
    cases rx; cases ry
    exact .inr ⟨_, _, rfl, rfl, q _ Z H (.refl h) (.bl _)⟩
  · cases e
theorem v_notIn : OpV K cl (rNotInA K) notInD := by
  intro Z H x y dx dy d Q h rx ry e q
  unfold notInD at e
  split at e
  · unfold inSeq at e
    split at e <;> cases e
    rename_i o
    rw [Bool.and_eq_true] at o
    obtain ⟨a1, a2, _⟩ := okc_shaped h o.1 rx
    obtain ⟨b1, b2, _⟩ := okc_shaped h (okc_tup o.2) ry
    simp only [D.py] at b1 b2
    exact .inl (.inl ⟨_, _, a1, b1, a2, b2, q _ Z H (.refl h) (.bl _)⟩)
  · unfold inSeq at e
    split at e <;> cases e
    rename_i o
    rw [Bool.and_eq_true] at o
    obtain ⟨a1, a2, _⟩ := okc_shaped h o.1 rx
    obtain ⟨b1, b2, _⟩ := okc_shaped h o.2 ry
    simp only [D.py] at b1 b2
    exact .inl (.inr ⟨_, _, a1, b1, a2, b2, q _ Z H (.refl h) (.bl _)⟩)
  · cases e
    cases rx; cases ry
    exact .inr ⟨_, _, rfl, rfl, q _ Z H (.refl h) (.bl _)⟩
  · cases e
end
end DN
set_option Elab.async false
set_option linter.all false
set_option maxRecDepth 100000
set_option maxHeartbeats 4000000
namespace DN
open PySem PySem.Spec PyProof.Rows L2
variable {B : Sto}

/-! ## truth and tests -/
def truthD : D → Option Bool
  | .non => some false
  | .bl b => some b
  | .int i => some (i != 0)
  | .str x => some ((x.length : Int) != 0)
  | .tup xs => some (!xs.isEmpty)
  | .lst xs => some (!xs.isEmpty)
  | _ => none
theorem RepL.emp {K : PySem.W.Frag} {cl : CTab} {Z : Hp} {vs : List V} {ds : List D} (r : RepL K cl Z vs ds) : vs.isEmpty = ds.isEmpty := by cases r <;> rfl
theorem truth_v {K : PySem.W.Frag} {cl : CTab} {Z H : Hp} {x : V} {d : D} {k : Bool} (h : Sub Z H) (r : Rep K cl Z x d) (e : truthD d = some k) : TruV K x H k := by
  cases r <;> (unfold truthD at e; cases e)
  case non => rfl
  case bl => rfl
  case int => rfl
  case str a b => exact ⟨a, rfl⟩
  case tup a e b => exact .inr (.inl ⟨_, sub_t h a, by rw [b.emp]⟩)
  case lst a e b => exact .inl ⟨_, SqL.of (h _ _ a), by rw [b.emp]⟩
def D.asB : D → Option Bool
  | .bl b => some b
  | _ => none
section
variable {cl : CTab} {md : Bool} {W : WX} {X : Cx}
theorem post_liftG {υ α : Type} {K : PySem.W.Frag} {Rp : Hp → υ → α → Prop} {σ : L2.St} {Z C H : Hp} {o : Option α} {s : B.T} {Q : υ → Hp → Prop} (w : Wd B md Z C H s) (h : Post K cl md Rp W σ Z C H (lift (B := B) o s) Q) :
    ∃ a, o = some a ∧ ∀ v, Rp Z v a → Q v H := by
  cases o with
  | none => exact False.elim h
  | some a => exact ⟨a, rfl, fun v r => h v Z C H w (.refl ..) r⟩
/-- any expression whose test is its value's truth -/
theorem dt_truth {a : Expr} {f : Env → M B D} (h : DE cl B md W X a f) (he : ∀ whole, isTrue a X.env whole = (do let v ← whole; standAt a.pos; holding [v] (truthy v)) := by intro _; rfl) :
    DT cl B md W X a fun ρ => M.bind (f ρ) fun x => lift (truthD x) := by
  refine PT.weak (pt_truth h he) fun σ H Q ⟨Z, C, s, ρ, w, e, p⟩ => ?_
  refine ⟨Z, C, s, ρ, w, e, Post.seq w.ch p fun dx s1 x Z1 C1 H1 w1 n1 r1 p1 => ?_⟩
  obtain ⟨k, hk, q⟩ := post_liftG w1 p1
  exact ⟨k, truth_v w1.zh r1 hk, q k rfl⟩
theorem dt_cmp {op : CmpOp} {r : R2} {g : D → D → Option D} {a b : Expr} {f1 f2 : Env → M B D} {pos : Pos} (ho : OpR X (compareOp op) r) (hr : OpV X.K cl r g) (hm : behindInMarks op b = false) (ha : DE cl B md W X a f1) (hb : DE cl B md W X b f2) :
    DT cl B md W X (.Compare a [op] [b] pos) fun ρ => M.bind (f1 ρ) fun x => M.bind (f2 ρ) fun y => lift ((g x y).bind D.asB) := by
  refine PT.weak (pt_cmpR ho ha hb hm) fun σ H Q ⟨Z, C, s, ρ, w, e, p⟩ => ?_
  refine ⟨Z, C, s, ρ, w, e, Post.seq w.ch p fun dx s1 x Z1 C1 H1 w1 n1 r1 p1 => ?_⟩
  refine ⟨Z1, C1, s1, ρ, w1, e.mono n1.zz, Post.seq w1.ch p1 fun dy s2 y Z2 C2 H2 w2 n2 r2 p2 => ?_⟩
  cases hg : g dx dy with
  | none => rw [hg] at p2; exact False.elim p2
  | some d =>
    cases hd : D.asB d with
    | none => rw [hg] at p2; simp only [Option.bind_some, hd] at p2; exact False.elim p2
    | some k =>
      rw [hg] at p2
      simp only [Option.bind_some, hd] at p2
      refine hr Z2 H2 x y dx dy d _ w2.zh (r1.mono n2.zz) r2 hg fun v Z3 H3 al rv => ?_
      cases d <;> (unfold D.asB at hd; cases hd)
      cases rv
      exact ⟨k, rfl, p2 k Z3 C2 H3 (al.wd w2) al.nx rfl⟩
theorem dt_not {a : Expr} {f : Env → M B Bool} {pos : Pos} (h : DT cl B md W X a f) : DT cl B md W X (.UnaryOp .Not a pos) fun ρ => M.bind (f ρ) fun b => M.pure (!b) := by
  refine PT.weak (pt_not h) fun σ H Q ⟨Z, C, s, ρ, w, e, p⟩ => ?_
  refine ⟨Z, C, s, ρ, w, e, Post.seq w.ch p fun b s1 x Z1 C1 H1 w1 n1 r1 p1 => ?_⟩
  cases r1
  exact p1 (!b) Z1 C1 H1 w1 (.refl ..) rfl
/-- a test whatever stands around -/
def DW (cl : CTab) (B : Sto) (md : Bool) (W : WX) (X : Cx) (e : Expr) (f : Env → M B Bool) : Prop := PW X e (tG X.K cl B md RpE W f)
theorem PW.weak {X : Cx} {e : Expr} {t t' : TT} (h : PW X e t) (w : ∀ σ H Q, t' σ H Q → t σ H Q) : PW X e t' := ⟨fun wh pins s σ H Q I q => h.run wh pins s σ H Q I (w σ H Q q)⟩
theorem dw_and1 {a : Expr} {f : Env → M B Bool} {pos : Pos} (h : DT cl B md W X a f) : DW cl B md W X (.BoolOp .And [a] pos) f := pw_and1 h
theorem dw_or1 {a : Expr} {f : Env → M B Bool} {pos : Pos} (h : DT cl B md W X a f) : DW cl B md W X (.BoolOp .Or [a] pos) f := pw_or1 h
theorem dw_and {a b : Expr} {rest : List Expr} {f g : Env → M B Bool} {pos : Pos} (h : DT cl B md W X a f) (t : DW cl B md W X (.BoolOp .And (b :: rest) pos) g) :
    DW cl B md W X (.BoolOp .And (a :: b :: rest) pos) fun ρ => M.bind (f ρ) fun k => if k = true then g ρ else M.pure false := by
  refine PW.weak (pw_and h t) fun σ H Q ⟨Z, C, s, ρ, w, e, p⟩ => ?_
  refine ⟨Z, C, s, ρ, w, e, Post.seq w.ch p fun b s1 x Z1 C1 H1 w1 n1 r1 p1 => ?_⟩
  cases r1
  cases b with
  | true => exact ⟨Z1, C1, s1, ρ, w1, e.mono n1.zz, p1⟩
  | false => exact p1 false Z1 C1 H1 w1 (.refl ..) rfl
theorem dw_or {a b : Expr} {rest : List Expr} {f g : Env → M B Bool} {pos : Pos} (h : DT cl B md W X a f) (t : DW cl B md W X (.BoolOp .Or (b :: rest) pos) g) :
    DW cl B md W X (.BoolOp .Or (a :: b :: rest) pos) fun ρ => M.bind (f ρ) fun k => if k = true then M.pure true else g ρ := by
  refine PW.weak (pw_or h t) fun σ H Q ⟨Z, C, s, ρ, w, e, p⟩ => ?_
  refine ⟨Z, C, s, ρ, w, e, Post.seq w.ch p fun b s1 x Z1 C1 H1 w1 n1 r1 p1 => ?_⟩
  cases r1
  cases b with
  | true => exact p1 true Z1 C1 H1 w1 (.refl ..) rfl
  | false => exact ⟨Z1, C1, s1, ρ, w1, e.mono n1.zz, p1⟩
theorem dt_of_dw {e : Expr} {f : Env → M B Bool} (h : DW cl B md W X e f) : DT cl B md W X e f := PW.pt h
/-! ## and, or, not, if as values -/
theorem de_one {op : BoolOp} {a : Expr} {f : Env → M B D} {pos : Pos} (h : DE cl B md W X a f) : DE cl B md W X (.BoolOp op [a] pos) f := pe_one h
theorem de_and {a b : Expr} {rest : List Expr} {f g : Env → M B D} {pos : Pos} (h : DE cl B md W X a f) (t : DE cl B md W X (.BoolOp .And (b :: rest) pos) g) :
    DE cl B md W X (.BoolOp .And (a :: b :: rest) pos) fun ρ => M.bind (f ρ) fun x => M.bind (lift (truthD x)) fun k => if k = true then g ρ else M.pure x := by
  refine PE.weak (pe_andT h t) fun σ H Q ⟨Z, C, s, ρ, w, e, p⟩ => ?_
  refine ⟨Z, C, s, ρ, w, e, Post.seq w.ch p fun dx s1 x Z1 C1 H1 w1 n1 r1 p1 => ?_⟩
  cases hk : truthD dx with
  | none => rw [hk] at p1; exact False.elim p1
  | some k =>
    rw [hk] at p1
    refine ⟨k, truth_v w1.zh r1 hk, ?_⟩
    cases k with
    | true => exact ⟨Z1, C1, s1, ρ, w1, e.mono n1.zz, p1⟩
    | false => exact post_pure w1 p1 r1
theorem de_or {a b : Expr} {rest : List Expr} {f g : Env → M B D} {pos : Pos} (h : DE cl B md W X a f) (t : DE cl B md W X (.BoolOp .Or (b :: rest) pos) g) :
    DE cl B md W X (.BoolOp .Or (a :: b :: rest) pos) fun ρ => M.bind (f ρ) fun x => M.bind (lift (truthD x)) fun k => if k = true then M.pure x else g ρ := by
  refine PE.weak (pe_orT h t) fun σ H Q ⟨Z, C, s, ρ, w, e, p⟩ => ?_
  refine ⟨Z, C, s, ρ, w, e, Post.seq w.ch p fun dx s1 x Z1 C1 H1 w1 n1 r1 p1 => ?_⟩
  cases hk : truthD dx with
  | none => rw [hk] at p1; exact False.elim p1
  | some k =>
    rw [hk] at p1
    refine ⟨k, truth_v w1.zh r1 hk, ?_⟩
    cases k with
    | true => exact post_pure w1 p1 r1
    | false => exact ⟨Z1, C1, s1, ρ, w1, e.mono n1.zz, p1⟩
theorem de_not {a : Expr} {f : Env → M B D} {pos : Pos} (h : DE cl B md W X a f) :
    DE cl B md W X (.UnaryOp .Not a pos) fun ρ => M.bind (f ρ) fun x => M.bind (lift (truthD x)) fun k => M.pure (.bl (!k)) := by
  refine PE.weak (pe_notT h) fun σ H Q ⟨Z, C, s, ρ, w, e, p⟩ => ?_
  refine ⟨Z, C, s, ρ, w, e, Post.seq w.ch p fun dx s1 x Z1 C1 H1 w1 n1 r1 p1 => ?_⟩
  cases hk : truthD dx with
  | none => rw [hk] at p1; exact False.elim p1
  | some k =>
    rw [hk] at p1
    exact ⟨k, truth_v w1.zh r1 hk, post_pure w1 p1 (.bl _)⟩
theorem de_ifExp {c a b : Expr} {t : Env → M B Bool} {f g : Env → M B D} {pos : Pos} (hc : DT cl B md W X c t) (ha : DE cl B md W X a f) (hb : DE cl B md W X b g) :
    DE cl B md W X (.IfExp c a b pos) fun ρ => M.bind (t ρ) fun k => if k = true then f ρ else g ρ := by
  refine PE.weak (pe_ifExp hc ha hb) fun σ H Q ⟨Z, C, s, ρ, w, e, p⟩ => ?_
  refine ⟨Z, C, s, ρ, w, e, Post.seq w.ch p fun b s1 x Z1 C1 H1 w1 n1 r1 p1 => ?_⟩
  cases r1
  cases b with
  | true => exact ⟨Z1, C1, s1, ρ, w1, e.mono n1.zz, p1⟩
  | false => exact ⟨Z1, C1, s1, ρ, w1, e.mono n1.zz, p1⟩
/-- a op b op' c -/
theorem de_chain {op op' : CmpOp} {r r' : R2} {g g' : D → D → Option D} {a b c : Expr} {f1 f2 f3 : Env → M B D} {pos : Pos} (ho : OpR X (compareOp op) r) (hr : OpV X.K cl r g) (ho' : OpR X (compareOp op') r') (hr' : OpV X.K cl r' g')
    (ha : DE cl B md W X a f1) (hb : DE cl B md W X b f2) (hc : DE cl B md W X c f3) (hm : lastMarks [op, op'] [b, c] = false := by with_unfolding_all rfl) :
    DE cl B md W X (.Compare a [op, op'] [b, c] pos) fun ρ => M.bind (f1 ρ) fun x => M.bind (f2 ρ) fun y => M.bind (lift ((g x y).bind D.asB)) fun k => if k = true then M.bind (f3 ρ) fun z => lift (g' y z) else M.pure (.bl false) := by
  refine PE.weak (pe_chain ho ho' ha hb hc hm) fun σ H Q ⟨Z, C, s, ρ, w, e, p⟩ => ?_
  refine ⟨Z, C, s, ρ, w, e, Post.seq w.ch p fun dx s1 x Z1 C1 H1 w1 n1 r1 p1 => ?_⟩
  refine ⟨Z1, C1, s1, ρ, w1, e.mono n1.zz, Post.seq w1.ch p1 fun dy s2 y Z2 C2 H2 w2 n2 r2 p2 => ?_⟩
  cases hg : g dx dy with
  | none => rw [hg] at p2; exact False.elim p2
  | some d =>
    cases hd : D.asB d with
    | none => rw [hg] at p2; simp only [Option.bind_some, hd] at p2; exact False.elim p2
    | some k =>
      rw [hg] at p2
      simp only [Option.bind_some, hd] at p2
      refine hr Z2 H2 x y dx dy d _ w2.zh (r1.mono n2.zz) r2 hg fun v Z3 H3 al rv => ?_
      cases d <;> (unfold D.asB at hd; cases hd)
      cases rv
      refine ⟨k, rfl, ?_⟩
      have w3 := al.wd w2
      have p3 := Post.step al.nx w2.ch w3.ch p2
      have n13 : Sub Z Z3 := n1.zz.trans (n2.zz.trans al.zz)
      cases k with
      | false => exact post_pure w3 p3 (.bl false)
      | true =>
        refine ⟨Z3, C2, s2, ρ, w3, e.mono n13, Post.seq w3.ch p3 fun dz s4 z Z4 C4 H4 w4 n4 r4 p4 => ?_⟩
        obtain ⟨d4, hd4, q4⟩ := post_lift w4 p4
        exact hr' Z4 H4 y z dy dz d4 Q w4.zh ((r2.mono al.zz).mono n4.zz) r4 hd4 q4
/-- .. as a test -/
theorem dt_chain {op op' : CmpOp} {r r' : R2} {g g' : D → D → Option D} {a b c : Expr} {f1 f2 f3 : Env → M B D} {pos : Pos} (ho : OpR X (compareOp op) r) (hr : OpV X.K cl r g) (ho' : OpR X (compareOp op') r') (hr' : OpV X.K cl r' g')
    (ha : DE cl B md W X a f1) (hb : DE cl B md W X b f2) (hc : DE cl B md W X c f3) (hm : lastMarks [op, op'] [b, c] = false := by with_unfolding_all rfl) :
    DT cl B md W X (.Compare a [op, op'] [b, c] pos) fun ρ => M.bind (f1 ρ) fun x => M.bind (f2 ρ) fun y => M.bind (lift ((g x y).bind D.asB)) fun k => if k = true then M.bind (f3 ρ) fun z => lift ((g' y z).bind D.asB) else M.pure false := by
  refine PT.weak (pt_chain ho ho' ha hb hc hm) fun σ H Q ⟨Z, C, s, ρ, w, e, p⟩ => ?_
  refine ⟨Z, C, s, ρ, w, e, Post.seq w.ch p fun dx s1 x Z1 C1 H1 w1 n1 r1 p1 => ?_⟩
  refine ⟨Z1, C1, s1, ρ, w1, e.mono n1.zz, Post.seq w1.ch p1 fun dy s2 y Z2 C2 H2 w2 n2 r2 p2 => ?_⟩
  cases hg : g dx dy with
  | none => rw [hg] at p2; exact False.elim p2
  | some d =>
    cases hd : D.asB d with
    | none => rw [hg] at p2; simp only [Option.bind_some, hd] at p2; exact False.elim p2
    | some k =>
      rw [hg] at p2
      simp only [Option.bind_some, hd] at p2
      refine hr Z2 H2 x y dx dy d _ w2.zh (r1.mono n2.zz) r2 hg fun v Z3 H3 al rv => ?_
      cases d <;> (unfold D.asB at hd; cases hd)
      cases rv
      refine ⟨k, rfl, ?_⟩
      have w3 := al.wd w2
      have p3 := Post.step al.nx w2.ch w3.ch p2
      have n13 : Sub Z Z3 := n1.zz.trans (n2.zz.trans al.zz)
      cases k with
      | false => exact ⟨false, rfl, p3 false Z3 C2 H3 w3 (.refl ..) rfl⟩
      | true =>
        refine ⟨Z3, C2, s2, ρ, w3, e.mono n13, Post.seq w3.ch p3 fun dz s4 z Z4 C4 H4 w4 n4 r4 p4 => ?_⟩
        cases hg4 : g' dy dz with
        | none => rw [hg4] at p4; exact False.elim p4
        | some d4 =>
          cases hd4 : D.asB d4 with
          | none => rw [hg4] at p4; simp only [Option.bind_some, hd4] at p4; exact False.elim p4
          | some k4 =>
            rw [hg4] at p4
            simp only [Option.bind_some, hd4] at p4
            refine hr' Z4 H4 y z dy dz d4 _ w4.zh ((r2.mono al.zz).mono n4.zz) r4 hg4 fun v5 Z5 H5 al5 rv5 => ?_
            cases d4 <;> (unfold D.asB at hd4; cases hd4)
            cases rv5
            exact ⟨k4, rfl, p4 k4 Z5 C4 H5 (al5.wd w4) al5.nx rfl⟩
end
end DN
set_option Elab.async false
set_option linter.all false
set_option maxRecDepth 100000
set_option maxHeartbeats 4000000
namespace DN
open PySem PySem.Spec PyProof.Rows L2
variable {B : Sto}

theorem PE.or {X : Cx} {e : Expr} {t t' : TE} (h : PE X e t) (h' : PE X e t') : PE X e (fun σ H Q => t σ H Q ∨ t' σ H Q) :=
  ⟨fun pins s σ H Q I q => q.elim (h.run pins s σ H Q I) (h'.run pins s σ H Q I)⟩
/-! ## dicts by D -/
def D.key : D → Option Key
  | .int i => some (.inl i)
  | .str x => some (.inr x)
  | _ => none
theorem key_keyD (k : Key) : (keyD k).key = some k := by cases k <;> rfl
theorem key_eq {d : D} {k : Key} (h : d.key = some k) : d = keyD k := by
  cases d <;> (unfold D.key at h; cases h) <;> rfl
/-- what stands at a key -/
def lookD : List D → List D → Key → Option D
  | k :: ks, d :: ds, x => if k.key = some x then some d else lookD ks ds x
  | _, _, _ => none
section
variable {K : PySem.W.Frag} {cl : CTab} {Z : Hp}
theorem look_rep : ∀ {kvs : List (Key × V)} {ds : List D} (k : Key), RepL K cl Z (kvs.map (·.2)) ds →
    (∀ d, lookD (kvs.map fun p => keyD p.1) ds k = some d → ∃ v, valV kvs k = some v ∧ Rep K cl Z v d) ∧ ((lookD (kvs.map fun p => keyD p.1) ds k).isSome = (valV kvs k).isSome)
  | [], ds, k, r => by
    cases r
    exact ⟨fun d e => by simp [lookD] at e, rfl⟩
  | p :: r, ds, k, h => by
    cases h with
    | cons a b =>
      obtain ⟨h1, h2⟩ := look_rep k b
      simp only [List.map_cons, lookD, key_keyD]
      by_cases e : p.1 = k
      · rw [valV_pos e, if_pos (by rw [e])]
        exact ⟨fun d q => ⟨_, rfl, by cases q; exact a⟩, rfl⟩
      · rw [valV_neg e, if_neg (fun q => e (Option.some.inj q))]
        exact ⟨h1, h2⟩
theorem kV_of_rep {k : Key} {y : V} (r : Rep K cl Z y (keyD k)) : y = kV k := by
  cases k <;> (cases r; rfl)
end
/-! ## subscripts -/
def ixD : D → D → Option D
  | .tup xs, .int i => atI xs i
  | .lst xs, .int i => atI xs i
  | .str z, .int i => (atI z.cps.toList i).map fun c => .str ⟨#[c]⟩
  | .dct ks ds, x => x.key.bind fun k => lookD ks ds k
  | _, _ => none
theorem atI_rep {K : PySem.W.Frag} {cl : CTab} {Z : Hp} {vs : List V} {ds : List D} {i : Int} {d : D} (r : RepL K cl Z vs ds) (e : atI ds i = some d) : ∃ v, atI vs i = some v ∧ Rep K cl Z v d := by
  unfold atI at e ⊢
  rw [r.len]
  cases q : ixN ds.length i with
  | none => rw [q] at e; cases e
  | some j =>
    rw [q] at e
    exact r.get e
theorem strOk_one {z : Str} {c : Nat} (h : PyData.strOk z = true) (m : c ∈ z.cps.toList) : PyData.strOk ⟨#[c]⟩ = true := by
  unfold PyData.strOk at *
  rw [← Array.all_toList, List.all_eq_true] at h
  rw [← Array.all_toList, List.all_eq_true]
  intro x hx
  have : x = c := by simpa using hx
  rw [this]; exact h c m
theorem atI_mem {α : Type} {xs : List α} {i : Int} {v : α} (h : atI xs i = some v) : v ∈ xs := by
  obtain ⟨j, _, h2, _⟩ := atI_get h
  exact List.mem_of_getElem? h2
section
variable {cl : CTab} {md : Bool} {W : WX} {X : Cx}
theorem hu65 {k : Nat} {A : Around} (hr : Room k A) : A.units + 65 < cLine := by have := hr.un; omega
theorem hu64 {A : Around} (h : A.units + 65 < cLine) : A.units + 64 < cLine := by omega
theorem hu1 {A : Around} (h : A.units + 65 < cLine) : A.units + 1 < cLine := by omega
/-- the pieces in a row, the last told by what they give -/
theorem de_ix {a b : Expr} {f1 f2 : Env → M B D} {pos : Pos} (hu : X.A.units + 65 < cLine) (ha : DE cl B md W X a f1) (hb : DE cl B md W X b f2) (hs : PlainIx b := by exact fun _ _ => rfl) (hs2 : NoSl b := by exact fun _ _ => rfl) :
    DE cl B md W X (.Subscript a b pos) fun ρ => M.bind (f1 ρ) fun x => M.bind (f2 ρ) fun y => lift (ixD x y) := by
  refine PE.weak (PE.or (pe_ix ix_seq ha hb hs) (pe_dget (hu1 hu) ha hb hs2)) fun σ H Q ⟨Z, C, s, ρ, w, e, p⟩ => ?_
  have dic : (∃ ks ds s1, f1 ρ s = .ok (.dct ks ds) s1) ∨ ∀ ks ds s1, f1 ρ s ≠ .ok (.dct ks ds) s1 := by
    by_cases h : ∃ ks ds s1, f1 ρ s = .ok (.dct ks ds) s1
    · exact .inl h
    · exact .inr fun ks ds s1 q => h ⟨ks, ds, s1, q⟩
  rcases dic with ⟨ks, ds, s1, e1⟩ | nd
  · refine .inr ?_
    have p0 := p
    unfold M.bind at p0
    simp only [e1] at p0
    refine ⟨Z, C, s, ρ, w, e, ?_⟩
    rw [e1]
    intro x Z1 C1 H1 w1 n1 r1
    have p1 := Post.step n1 w.ch w1.ch p0
    refine ⟨Z1, C1, s1, ρ, w1, e.mono n1.zz, Post.seq w1.ch p1 fun dy s2 y Z2 C2 H2 w2 n2 r2 p2 => ?_⟩
    obtain ⟨d, hd, q⟩ := post_lift w2 p2
    simp only [ixD] at hd
    cases hk : dy.key with
    | none => rw [hk] at hd; cases hd
    | some k =>
      rw [hk] at hd
      have hd' : lookD ks ds k = some d := hd
      cases key_eq hk
      cases r1 with
      | dct a b c b' =>
        subst b
        obtain ⟨v, h1, h2⟩ := (look_rep k (b'.mono n2.zz)).1 d hd'
        exact ⟨_, v, rfl, .inl ⟨_, k, sub_rd w2.zh (sub_rd n2.zz a), kV_of_rep r2, h1.symm⟩, q v Z2 H2 (.refl w2.zh) h2⟩
  · refine .inl ?_
    refine ⟨Z, C, s, ρ, w, e, ?_⟩
    cases e1 : f1 ρ s with
    | stuck => unfold M.bind at p; simp only [e1] at p; exact p
    | err x s1 => unfold M.bind at p; simp only [e1] at p; exact p
    | ok dx s1 =>
      unfold M.bind at p; simp only [e1] at p
      intro x Z1 C1 H1 w1 n1 r1
      have p1 := Post.step n1 w.ch w1.ch p
      refine ⟨Z1, C1, s1, ρ, w1, e.mono n1.zz, Post.seq w1.ch p1 fun dy s2 y Z2 C2 H2 w2 n2 r2 p2 => ?_⟩
      obtain ⟨d, hd, q⟩ := post_lift w2 p2
      cases dx with
      | tup xs =>
        cases dy <;> (simp only [ixD] at hd; try (cases hd; done))
        cases r2
        cases r1 with
        | tup a b c =>
          obtain ⟨v, h1, h2⟩ := atI_rep (c.mono n2.zz) hd
          exact .inr (.inl ⟨_, _, _, v, rfl, rfl, sub_t w2.zh (sub_t n2.zz a), h1, q v Z2 H2 (.refl w2.zh) h2⟩)
      | lst xs =>
        cases dy <;> (simp only [ixD] at hd; try (cases hd; done))
        cases r2
        cases r1 with
        | lst a b c =>
          obtain ⟨v, h1, h2⟩ := atI_rep (c.mono n2.zz) hd
          exact .inl ⟨_, _, _, v, rfl, rfl, SqL.of (w2.zh _ _ (n2.zz _ _ a)), h1, q v Z2 H2 (.refl w2.zh) h2⟩
      | str z =>
        cases dy <;> (simp only [ixD] at hd; try (cases hd; done))
        cases r2
        cases r1 with
        | str a b =>
          obtain ⟨c, h1, h2⟩ := Option.map_eq_some_iff.mp hd
          subst h2
          exact .inr (.inr ⟨_, _, c, rfl, rfl, a, h1, q _ Z2 H2 (.refl w2.zh) (.str (by show 1 ≤ sizeLine; decide) (strOk_one b (atI_mem h1)))⟩)
      | dct ks ds => exact absurd e1 (nd ks ds s1)
      | non => simp [ixD] at hd
      | bl => simp [ixD] at hd
      | int => simp [ixD] at hd
      | ins => simp [ixD] at hd
      | ref => simp [ixD] at hd
/-! ## slices -/
def D.asI : D → Option Int
  | .int i => some i
  | _ => none
theorem do_none : DO cl B md W X none (fun _ => M.pure none) :=
  PO.weak po_none fun σ H Q ⟨Z, C, s, ρ, w, e, p⟩ => p none Z C H w (.refl ..) rfl
theorem do_some {e : Expr} {f : Env → M B D} (h : DE cl B md W X e f) : DO cl B md W X (some e) fun ρ => M.bind (f ρ) fun x => lift (x.asI.map some) := by
  refine PO.weak (po_some h) fun σ H Q ⟨Z, C, s, ρ, w, e, p⟩ => ?_
  refine ⟨Z, C, s, ρ, w, e, Post.seq w.ch p fun dx s1 x Z1 C1 H1 w1 n1 r1 p1 => ?_⟩
  obtain ⟨a, ha, q⟩ := post_liftG w1 p1
  obtain ⟨i, h1, h2⟩ := Option.map_eq_some_iff.mp ha
  subst h2
  cases dx <;> (unfold D.asI at h1; cases h1)
  cases r1
  exact ⟨_, rfl, q _ rfl⟩
def cutL {α : Type} (xs : List α) (lo hi : Option Int) : List α := (xs.drop (HT.sIx xs.length 0 lo)).take (HT.sIx xs.length xs.length hi - HT.sIx xs.length 0 lo)
def slD : D → Option Int → Option Int → Option D
  | .tup xs, lo, hi => some (.tup (cutL xs lo hi))
  | .lst xs, lo, hi => some (.lst (cutL xs lo hi))
  | .str z, lo, hi => some (.str (cutS z lo hi))
  | _, _, _ => none
theorem cut_rep {K : PySem.W.Frag} {Z : Hp} {vs : List V} {ds : List D} {lo hi : Option Int} (r : RepL K cl Z vs ds) : RepL K cl Z (cutV vs lo hi) (cutL ds lo hi) := by
  unfold cutV cutL
  rw [r.len]
  exact (r.drop _).take _
theorem cut_len {α : Type} (xs : List α) (lo hi : Option Int) : (cutL xs lo hi).length ≤ xs.length := by
  unfold cutL
  rw [List.length_take, List.length_drop]
  omega
abbrev rSlAny (K : PySem.W.Frag) : V → Option Int → Option Int → Hp → VK → Prop := fun x lo hi H Q => (rSlA K x lo hi H Q ∨ rSlL K x lo hi H Q) ∨ rSlS x lo hi H Q
theorem cutS_sub {z : Str} {lo hi : Option Int} : ∀ c ∈ (cutS z lo hi).cps.toList, c ∈ z.cps.toList := by
  intro c hc
  unfold cutS at hc
  exact List.mem_of_mem_drop (List.mem_of_mem_take (by simpa using hc))
theorem cutS_len {z : Str} {lo hi : Option Int} : (cutS z lo hi).length ≤ z.length := by
  show (cutS z lo hi).cps.size ≤ z.cps.size
  unfold cutS
  simp only [List.size_toArray, List.length_take, List.length_drop, Array.length_toList]
  omega
theorem strOk_cut {z : Str} {lo hi : Option Int} (h : PyData.strOk z = true) : PyData.strOk (cutS z lo hi) = true := by
  unfold PyData.strOk at *
  rw [← Array.all_toList, List.all_eq_true] at h ⊢
  exact fun x hx => h x (cutS_sub x hx)
theorem de_slice {e : Expr} {lo hi : Option Expr} {f : Env → M B D} {gl gh : Env → M B (Option Int)} {p2 pos : Pos} (h : DE cl B md W X e f) (hl : DO cl B md W X lo gl) (hh : DO cl B md W X hi gh) :
    DE cl B md W X (.Subscript e (.Slice lo hi none p2) pos) fun ρ => M.bind (f ρ) fun x => M.bind (gl ρ) fun l => M.bind (gh ρ) fun u => lift (slD x l u) := by
  refine PE.weak (pe_slice ((sl_tupA.or sl_list).or sl_str) h hl hh) fun σ H Q ⟨Z, C, s, ρ, w, e, p⟩ => ?_
  refine ⟨Z, C, s, ρ, w, e, Post.seq w.ch p fun dx s1 x Z1 C1 H1 w1 n1 r1 p1 => ?_⟩
  refine ⟨Z1, C1, s1, ρ, w1, e.mono n1.zz, Post.seq w1.ch p1 fun l s2 l' Z2 C2 H2 w2 n2 r2 p2 => ?_⟩
  cases r2
  refine ⟨Z2, C2, s2, ρ, w2, e.mono (n1.zz.trans n2.zz), Post.seq w2.ch p2 fun u s3 u' Z3 C3 H3 w3 n3 r3 p3 => ?_⟩
  cases r3
  obtain ⟨d, hd, q⟩ := post_lift w3 p3
  have r1 := (r1.mono n2.zz).mono n3.zz
  cases dx <;> (unfold slD at hd; cases hd)
  · cases r1 with
    | str a b => exact .inr ⟨_, rfl, a, q _ Z3 H3 (.refl w3.zh) (.str (Nat.le_trans cutS_len a) (strOk_cut b))⟩
  · cases r1 with
    | tup a b c =>
      rename_i xs a0 vs
      refine .inl (.inl ⟨_, _, rfl, sub_t w3.zh a, fun hc => ?_, fun hc pp hp => ?_⟩)
      · have ev : cutV vs l u = vs := by
          unfold cutV
          rw [hc.1, hc.2, List.drop_zero]
          exact List.take_of_length_le (by omega)
        have cr := cut_rep (lo := l) (hi := u) c
        rw [ev] at cr
        exact q _ Z3 H3 (.refl w3.zh) (.tup a b cr)
      · have al : Al Z3 H3 (upd Z3 pp (.tup (cutV vs l u))) (upd H3 pp (.tup (cutV vs l u))) := .new w3.zh hp (fun _ z => nomatch z)
        have cr := cut_rep (lo := l) (hi := u) c
        refine q _ _ _ al (.tup (SqT.of upd_same) ?_ (cr.mono al.zz))
        have := cut_len xs l u
        rw [cr.len]
        have := c.len
        omega
  · cases r1 with
    | lst a b c =>
      rename_i xs a0 vs
      refine .inl (.inr ⟨_, _, rfl, SqL.of (w3.zh _ _ a), fun pp hp => ?_⟩)
      have al : Al Z3 H3 (upd Z3 pp (.lst (cutV vs l u))) (upd H3 pp (.lst (cutV vs l u))) := .new w3.zh hp (fun _ z => nomatch z)
      have cr := cut_rep (lo := l) (hi := u) c
      refine q _ _ _ al (.lst upd_same ?_ (cr.mono al.zz))
      have := cut_len xs l u
      rw [cr.len]
      have := c.len
      omega
/-! ## calls of built-ins by values -/
theorem de_callB {id : String} {x : Str} {r : List V → Hp → VK → Prop} {g : List D → Option D} {e : Expr} {es : List Expr} {f : Env → M B (List D)} {p pos : Pos} (hc : CallR X (.builtin id) r) (hr : CallV X.K cl r g)
    (hg : Gl X x) (hm : X.mg x = none) (hv : bootBuiltins x = some (.builtin id)) (ha : DA cl B md W X (e :: es) f) (hn : x ≠ "__name__" := by decide) (hdb : (x == ("__debug__" : Str)) = false := by decide)
    (he : starEach (e :: es) X.env = (false, eval e X.env) :: starEach es X.env := by rfl) (hpl : (backTo pos (starEach es X.env)).any (·.1) = false := by rfl) :
    DE cl B md W X (.Call (.Name x p) (e :: es) [] pos) fun ρ => M.bind (f ρ) fun xs => lift (g xs) := by
  refine PE.weak (pe_callB hc hg hm hv ha hn hdb he hpl) fun σ H Q ⟨Z, C, s, ρ, w, e, p⟩ => ?_
  refine ⟨Z, C, s, ρ, w, e, Post.seq w.ch p fun dxs s1 xs Z1 C1 H1 w1 n1 r1 p1 => ?_⟩
  obtain ⟨d, hd, q⟩ := post_lift w1 p1
  exact hr Z1 H1 xs dxs d Q w1.zh r1.1 hd q
theorem de_callTy {T : String} {x : Str} {r : List V → Hp → VK → Prop} {g : List D → Option D} {e : Expr} {es : List Expr} {f : Env → M B (List D)} {p pos : Pos} (hc : CallR X (.type T) r) (hr : CallV X.K cl r g)
    (hg : Gl X x) (hm : X.mg x = none) (hv : bootBuiltins x = some (.type T)) (ha : DA cl B md W X (e :: es) f) (hn : x ≠ "__name__" := by decide) (hdb : (x == ("__debug__" : Str)) = false := by decide)
    (he : starEach (e :: es) X.env = (false, eval e X.env) :: starEach es X.env := by rfl) (hpl : (backTo pos (starEach es X.env)).any (·.1) = false := by rfl) :
    DE cl B md W X (.Call (.Name x p) (e :: es) [] pos) fun ρ => M.bind (f ρ) fun xs => lift (g xs) := by
  refine PE.weak (pe_callTy hc hg hm hv ha hn hdb he hpl) fun σ H Q ⟨Z, C, s, ρ, w, e, p⟩ => ?_
  refine ⟨Z, C, s, ρ, w, e, Post.seq w.ch p fun dxs s1 xs Z1 C1 H1 w1 n1 r1 p1 => ?_⟩
  obtain ⟨d, hd, q⟩ := post_lift w1 p1
  exact hr Z1 H1 xs dxs d Q w1.zh r1.1 hd q
end
/-! len, all, any, int, tuple, list, abs, min and max of two -/
def lenD : List D → Option D
  | [.str x] => some (.int x.length)
  | [.tup xs] => some (.int xs.length)
  | [.lst xs] => some (.int xs.length)
  | [.dct ks _] => some (.int ks.length)
  | _ => none
def bools : List D → Option (List Bool)
  | [] => some []
  | .bl b :: ds => (bools ds).map fun r => b :: r
  | _ :: _ => none
def allD : List D → Option D
  | [.lst xs] => (bools xs).map fun bs => .bl (bs.all id)
  | _ => none
def anyD : List D → Option D
  | [.lst xs] => (bools xs).map fun bs => .bl (bs.any id)
  | _ => none
def intD : List D → Option D
  | [.int i] => some (.int i)
  | [.bl b] => some (.int (if b then 1 else 0))
  | _ => none
def tupleD : List D → Option D
  | [.tup xs] => some (.tup xs)
  | [.lst xs] => some (.tup xs)
  | _ => none
def listD : List D → Option D
  | [.tup xs] => some (.lst xs)
  | [.lst xs] => some (.lst xs)
  | _ => none
def absD : List D → Option D
  | [.int i] => some (.int (if i < 0 then -i else i))
  | _ => none
def min2D : List D → Option D
  | [.int i, .int j] => some (.int (if j < i then j else i))
  | _ => none
def max2D : List D → Option D
  | [.int i, .int j] => some (.int (if j > i then j else i))
  | _ => none
def intsOf : List D → Option (List Int)
  | [] => some []
  | .int b :: ds => (intsOf ds).map fun r => b :: r
  | _ :: _ => none
def sumD : List D → Option D
  | [.lst xs] => (intsOf xs).map fun bs => .int bs.sum
  | _ => none
theorem len_dK {X : Cx} : CallR X (.builtin "len") (fun xs H Q => ∃ a kvs, xs = [V.ref a] ∧ Rd H a (.dK kvs) ∧ Q (.int (kvs.length : Nat)) H) := by
  intro pins s σ H xs us Q I r h
  obtain ⟨a, kvs, rfl, ha, q⟩ := h
  obtain ⟨u, rfl, ru⟩ := vals1 r
  cases ru
  exact d_len I ha fun t s' I' => ⟨.int kvs.length, H, I', ⟨t, rfl⟩, q⟩
section
variable {K : PySem.W.Frag} {cl : CTab} {X : Cx}
theorem repL1 {Z : Hp} {xs : List V} {d : D} (r : RepL K cl Z xs [d]) : ∃ x, xs = [x] ∧ Rep K cl Z x d := by
  cases r with | cons a b => cases b; exact ⟨_, rfl, a⟩
theorem repL2 {Z : Hp} {xs : List V} {d e : D} (r : RepL K cl Z xs [d, e]) : ∃ x y, xs = [x, y] ∧ Rep K cl Z x d ∧ Rep K cl Z y e := by
  cases r with | cons a b => cases b with | cons c b => cases b; exact ⟨_, _, rfl, a, c⟩
abbrev rLenA (K : PySem.W.Frag) : List V → Hp → VK → Prop := fun xs H Q => (∃ x n, xs = [x] ∧ LenV K x H n ∧ Q (.int n) H) ∨ (∃ a kvs, xs = [V.ref a] ∧ Rd H a (.dK kvs) ∧ Q (.int (kvs.length : Nat)) H)
theorem c_len : CallR X (.builtin "len") (rLenA X.K) := call_len.or len_dK
theorem v_len : CallV K cl (rLenA K) lenD := by
  intro Z H xs dxs d Q h r e q
  unfold lenD at e
  split at e <;> cases e
  · obtain ⟨x, rfl, r1⟩ := repL1 r
    cases r1 with | str a b => exact .inl ⟨_, _, rfl, ⟨a, rfl⟩, q _ Z H (.refl h) (.int _)⟩
  · obtain ⟨x, rfl, r1⟩ := repL1 r
    cases r1 with | tup a b c => exact .inl ⟨_, _, rfl, .inr ⟨_, sub_t h a, c.len.symm⟩, q _ Z H (.refl h) (.int _)⟩
  · obtain ⟨x, rfl, r1⟩ := repL1 r
    cases r1 with | lst a b c => exact .inl ⟨_, _, rfl, .inl ⟨_, SqL.of (h _ _ a), c.len.symm⟩, q _ Z H (.refl h) (.int _)⟩
  · obtain ⟨x, rfl, r1⟩ := repL1 r
    cases r1 with
    | dct a b n c =>
      subst b
      exact .inr ⟨_, _, rfl, sub_rd h a, by simpa using q (.int _) Z H (.refl h) (.int _)⟩
theorem bools_rep {Z : Hp} : ∀ {ds : List D} {vs : List V} {bs : List Bool}, RepL K cl Z vs ds → bools ds = some bs → vs = bs.map V.bl
  | [], _, _, r, e => by cases r; cases e; rfl
  | d :: ds, _, bs, r, e => by
    cases r with
    | cons a b =>
      cases d <;> (unfold bools at e; try (cases e; done))
      obtain ⟨t, h1, h2⟩ := Option.map_eq_some_iff.mp e
      subst h2
      cases a
      rw [bools_rep b h1]; rfl
theorem ints_rep {Z : Hp} : ∀ {ds : List D} {vs : List V} {bs : List Int}, RepL K cl Z vs ds → intsOf ds = some bs → vs = bs.map V.int
  | [], _, _, r, e => by cases r; cases e; rfl
  | d :: ds, _, bs, r, e => by
    cases r with
    | cons a b =>
      cases d <;> (unfold intsOf at e; try (cases e; done))
      obtain ⟨t, h1, h2⟩ := Option.map_eq_some_iff.mp e
      subst h2
      cases a
      rw [ints_rep b h1]; rfl
theorem v_all : CallV K cl (rAll K) allD := by
  intro Z H xs dxs d Q h r e q
  unfold allD at e
  split at e
  · obtain ⟨bs, h1, h2⟩ := Option.map_eq_some_iff.mp e
    subst h2
    obtain ⟨x, rfl, r1⟩ := repL1 r
    cases r1 with
    | lst a b c =>
      have := bools_rep c h1
      subst this
      exact ⟨_, bs, rfl, SqL.of (h _ _ a), q _ Z H (.refl h) (.bl _)⟩
  · cases e
theorem v_any : CallV K cl (rAny K) anyD := by
  intro Z H xs dxs d Q h r e q
  unfold anyD at e
  split at e
  · obtain ⟨bs, h1, h2⟩ := Option.map_eq_some_iff.mp e
    subst h2
    obtain ⟨x, rfl, r1⟩ := repL1 r
    cases r1 with
    | lst a b c =>
      have := bools_rep c h1
      subst this
      exact ⟨_, bs, rfl, SqL.of (h _ _ a), q _ Z H (.refl h) (.bl _)⟩
  · cases e
theorem v_sum : CallV K cl (rSum K) sumD := by
  intro Z H xs dxs d Q h r e q
  unfold sumD at e
  split at e
  · obtain ⟨bs, h1, h2⟩ := Option.map_eq_some_iff.mp e
    subst h2
    obtain ⟨x, rfl, r1⟩ := repL1 r
    cases r1 with
    | lst a b c =>
      have := ints_rep c h1
      subst this
      exact ⟨_, bs, rfl, SqL.of (h _ _ a), q _ Z H (.refl h) (.int _)⟩
  · cases e
theorem v_int : CallV K cl (fun xs H Q => (∃ i, xs = [.int i] ∧ Q (.int i) H) ∨ ∃ k, xs = [.bl k] ∧ Q (.int (if k then 1 else 0)) H) intD := by
  intro Z H xs dxs d Q h r e q
  unfold intD at e
  split at e <;> cases e
  · obtain ⟨x, rfl, r1⟩ := repL1 r
    cases r1
    exact .inl ⟨_, rfl, q _ Z H (.refl h) (.int _)⟩
  · obtain ⟨x, rfl, r1⟩ := repL1 r
    cases r1
    exact .inr ⟨_, rfl, q _ Z H (.refl h) (.int _)⟩
theorem v_tuple : CallV K cl (fun xs H Q => ∃ p ys, xs = [.ref p] ∧ ((SqL K H p ys ∧ ∀ l, H l = none → Q (.ref l) (upd H l (.tup ys))) ∨ (SqT K H p ys ∧ Q (.ref p) H))) tupleD := by
  intro Z H xs dxs d Q h r e q
  unfold tupleD at e
  split at e <;> cases e
  · obtain ⟨x, rfl, r1⟩ := repL1 r
    cases r1 with | tup a b c => exact ⟨_, _, rfl, .inr ⟨sub_t h a, q _ Z H (.refl h) (.tup a b c)⟩⟩
  · obtain ⟨x, rfl, r1⟩ := repL1 r
    cases r1 with
    | lst a b c =>
      refine ⟨_, _, rfl, .inl ⟨SqL.of (h _ _ a), fun p hp => ?_⟩⟩
      rename_i vs
      have al : Al Z H (upd Z p (.tup vs)) (upd H p (.tup vs)) := .new h hp (fun _ z => nomatch z)
      exact q _ _ _ al (.tup (SqT.of upd_same) b (c.mono al.zz))
theorem v_list : CallV K cl (fun xs H Q => ∃ p ys, xs = [.ref p] ∧ (SqL K H p ys ∨ SqT K H p ys) ∧ ∀ l, H l = none → Q (.ref l) (upd H l (.lst ys))) listD := by
  intro Z H xs dxs d Q h r e q
  unfold listD at e
  split at e <;> cases e
  · obtain ⟨x, rfl, r1⟩ := repL1 r
    cases r1 with
    | tup a b c =>
      refine ⟨_, _, rfl, .inr (sub_t h a), fun p hp => ?_⟩
      rename_i vs
      have al : Al Z H (upd Z p (.lst vs)) (upd H p (.lst vs)) := .new h hp (fun _ z => nomatch z)
      exact q _ _ _ al (.lst upd_same b (c.mono al.zz))
  · obtain ⟨x, rfl, r1⟩ := repL1 r
    cases r1 with
    | lst a b c =>
      refine ⟨_, _, rfl, .inl (SqL.of (h _ _ a)), fun p hp => ?_⟩
      rename_i vs
      have al : Al Z H (upd Z p (.lst vs)) (upd H p (.lst vs)) := .new h hp (fun _ z => nomatch z)
      exact q _ _ _ al (.lst upd_same b (c.mono al.zz))
theorem v_abs : CallV K cl (fun xs H Q => ∃ i, xs = [.int i] ∧ Q (.int (if i < 0 then -i else i)) H) absD := by
  intro Z H xs dxs d Q h r e q
  unfold absD at e
  split at e <;> cases e
  obtain ⟨x, rfl, r1⟩ := repL1 r
  cases r1
  exact ⟨_, rfl, q _ Z H (.refl h) (.int _)⟩
theorem v_min2 : CallV K cl (fun xs H Q => ∃ i j, xs = [.int i, .int j] ∧ Q (.int (if j < i then j else i)) H) min2D := by
  intro Z H xs dxs d Q h r e q
  unfold min2D at e
  split at e <;> cases e
  obtain ⟨x, y, rfl, r1, r2⟩ := repL2 r
  cases r1; cases r2
  exact ⟨_, _, rfl, q _ Z H (.refl h) (.int _)⟩
theorem v_max2 : CallV K cl (fun xs H Q => ∃ i j, xs = [.int i, .int j] ∧ Q (.int (if j > i then j else i)) H) max2D := by
  intro Z H xs dxs d Q h r e q
  unfold max2D at e
  split at e <;> cases e
  obtain ⟨x, y, rfl, r1, r2⟩ := repL2 r
  cases r1; cases r2
  exact ⟨_, _, rfl, q _ Z H (.refl h) (.int _)⟩
end
end DN
set_option Elab.async false
set_option linter.all false
set_option maxRecDepth 100000
set_option maxHeartbeats 4000000
namespace DN
open PySem PySem.Spec PyProof.Rows L2
variable {B : Sto}

/-! ## isinstance -/
def tyN : D → Option String
  | .non => some "NoneType"
  | .bl _ => some "bool"
  | .int _ => some "int"
  | .str _ => some "str"
  | .tup _ => some "tuple"
  | .lst _ => some "list"
  | .dct _ _ => some "dict"
  | _ => none
theorem ty_rep {K : PySem.W.Frag} {cl : CTab} {Z H : Hp} {v : V} {d : D} {n : String} (h : Sub Z H) (r : Rep K cl Z v d) (e : tyN d = some n) : TyX K H v (.type n) := by
  cases r <;> (unfold tyN at e; cases e)
  case non => exact .base .non
  case bl => exact .base (.bl _)
  case int => exact .base (.int _)
  case str => exact .base (.str _)
  case tup a b c =>
    rcases sub_t h a with (q | ⟨o, q⟩) | ⟨o, its, m, h1, h2, _⟩
    · exact .base (.tup q)
    · exact .fTuple q
    · exact .kTuple h1 h2
  case lst a b c => exact .base (.lst (h _ _ a))
  case dct a b c n =>
    rcases sub_rd h a with q | ⟨o, q⟩
    · exact .base (.dK q)
    · exact .fDict q
def isD (n : String) (d : D) : Option D := (tyN d).bind fun t => (kitB t n).map .bl
def isD2 (n m : String) (d : D) : Option D := (tyN d).bind fun t => (kitB t n).bind fun a => (kitB t m).map fun b => .bl (a || b)
section
variable {cl : CTab} {md : Bool} {W : WX} {X : Cx}
theorem de_isi {a : Expr} {f : Env → M B D} {n : String} {x : Str} {p p2 pos : Pos} (ha : DE cl B md W X a f) (hg : Gl X "isinstance") (hm : X.mg "isinstance" = none) (hgx : Gl X x) (hmx : X.mg x = none) (hv : bootBuiltins x = some (.type n))
    (hn : x ≠ "__name__" := by decide) (hd : (x == ("__debug__" : Str)) = false := by decide)
    (he : starEach [a, .Name x p2] X.env = (false, eval a X.env) :: starEach [.Name x p2] X.env := by rfl) (hpl : (backTo pos (starEach [.Name x p2] X.env)).any (·.1) = false := by rfl) :
    DE cl B md W X (.Call (.Name "isinstance" p) [a, .Name x p2] [] pos) fun ρ => M.bind (f ρ) fun x => lift (isD n x) := by
  refine PE.weak (pe_callB call_isi hg hm boot_isinstance (pa_cons ha (pa_cons (pe_bltn (v := .ty n) hgx hmx hv rfl hn hd) pa_nil) he) (by decide) (by decide) he hpl) fun σ H Q ⟨Z, C, s, ρ, w, e, p⟩ => ?_
  refine ⟨Z, C, s, ρ, w, e, Post.seq w.ch p fun dx s1 x Z1 C1 H1 w1 n1 r1 p1 => ?_⟩
  obtain ⟨d, hd, q⟩ := post_lift w1 p1
  unfold isD at hd
  cases ht : tyN dx with
  | none => rw [ht] at hd; cases hd
  | some t =>
    rw [ht] at hd
    obtain ⟨b, h1, h2⟩ := Option.map_eq_some_iff.mp hd
    subst h2
    exact ⟨x, .ty n, .type t, .type n, b, rfl, .ty n, ty_rep w1.zh r1 ht, kit_ty h1, q _ Z1 H1 (.refl w1.zh) (.bl _)⟩
/-- isinstance(x, (S, T)) -/
theorem de_isi2 {a : Expr} {f : Env → M B D} {n m : String} {x y : Str} {k : Nat} {p p2 p3 p4 pos : Pos} (ha : DE cl B md W X a f) (hg : Gl X "isinstance") (hm : X.mg "isinstance" = none) (hgx : Gl X x) (hmx : X.mg x = none) (hv : bootBuiltins x = some (.type n))
    (hgy : Gl X y) (hmy : X.mg y = none) (hvy : bootBuiltins y = some (.type m)) (hn : x ≠ "__name__" := by decide) (hd : (x == ("__debug__" : Str)) = false := by decide) (hny : y ≠ "__name__" := by decide) (hdy : (y == ("__debug__" : Str)) = false := by decide)
    (he : starEach [a, .Tuple [.Name x p2, .Name y p3] k p4] X.env = (false, eval a X.env) :: starEach [.Tuple [.Name x p2, .Name y p3] k p4] X.env := by rfl) (hpl : (backTo pos (starEach [.Tuple [.Name x p2, .Name y p3] k p4] X.env)).any (·.1) = false := by rfl) :
    DE cl B md W X (.Call (.Name "isinstance" p) [a, .Tuple [.Name x p2, .Name y p3] k p4] [] pos) fun ρ => M.bind (f ρ) fun x => lift (isD2 n m x) := by
  refine PE.weak (pe_callB call_isiT hg hm boot_isinstance (pa_cons ha (pa_cons (pe_tup (pa_cons (pe_bltn (v := .ty n) hgx hmx hv rfl hn hd) (pa_cons (pe_bltn (v := .ty m) hgy hmy hvy rfl hny hdy) pa_nil))) pa_nil) he) (by decide) (by decide) he hpl) fun σ H Q ⟨Z, C, s, ρ, w, e, p⟩ => ?_
  refine ⟨Z, C, s, ρ, w, e, Post.seq w.ch p fun dx s1 x Z1 C1 H1 w1 n1 r1 p1 => ?_⟩
  obtain ⟨d, hd, q⟩ := post_lift w1 p1
  unfold isD2 at hd
  cases ht : tyN dx with
  | none => rw [ht] at hd; cases hd
  | some t =>
    rw [ht] at hd
    have hd' : (kitB t n).bind (fun a => (kitB t m).map fun b => D.bl (a || b)) = some d := hd
    cases hb1 : kitB t n with
    | none => rw [hb1] at hd'; cases hd'
    | some b1 =>
      rw [hb1] at hd'
      obtain ⟨b2, h1, h2⟩ := Option.map_eq_some_iff.mp (show (kitB t m).map (fun b => D.bl (b1 || b)) = some d from hd')
      subst h2
      refine ⟨by show 2 ≤ sizeLine; decide, fun u hu => ?_⟩
      have al : Al Z1 H1 Z1 (upd H1 u (.tup [.ty n, .ty m])) := by
        refine ⟨.refl _, Sub.upd hu, w1.zh.trans (Sub.upd hu), fun _ e => .inl e, fun _ _ _ => trivial⟩
      refine ⟨x, u, [.ty n, .ty m], .type t, [.type n, .type m], b1 || b2, rfl, upd_same, .cons (.ty n) (.cons (.ty m) .nil), ty_rep al.zh r1 ht, ?_, q _ Z1 _ al (.bl _)⟩
      refine kitAny_cons (kit_ty hb1) (fun e => ?_) (fun e => by rw [e]; rfl)
      rw [e]
      exact kitAny_cons (kit_ty h1) (fun e => by rw [e]; exact kitAny_nil) (fun e => by rw [e]; rfl)
/-! ## a call of a def -/
/-- what a def promises: called with ds it is f ds -/
def spD (K : PySem.W.Frag) (cl : CTab) (B : Sto) (n : Nat) (f : List D → M B D) : Sp := fun vs H Q E =>
  ∃ Z C s ds, Wd B true Z C H s ∧ RepL K cl Z vs ds ∧ ds.length = n ∧ Post K cl true (RpD K cl) (fun c dx _ H' => E c dx H') [] Z C H (f ds s) Q
theorem spD_len {K : PySem.W.Frag} {n : Nat} {f : List D → M B D} {ps : List Str} (hn : ps.length = n) : ∀ vs H Q E, spD K cl B n f vs H Q E → vs.length = ps.length := by
  rintro vs H Q E ⟨Z, C, s, ds, _, r, l, _⟩
  rw [r.len, l, hn]
theorem de_call {k n : Nat} {g : Addr} {fd : FuncData} {ps : List Str} {f : List D → M B D} {x : Str} {e : Expr} {es : List Expr} {fa : Env → M B (List D)} {p pos : Pos} (F : FnOk X.prog X.w X.K X.mg X.base (L2.CX X.prog X.w) k g fd ps (spD X.K cl B n f)) (hr : Room k X.A)
    (hg : Gl X x) (hm : X.mg x = some (.ref g)) (hk : PySem.W.keepIn X.K (.ref g) = true) (hb : Binds X.K fd ps []) (tk : Takes X W) (ha : DA cl B true W X (e :: es) fa) (hn : (e :: es).length = n)
    (hdb : (x == ("__debug__" : Str)) = false := by decide) (he : starEach (e :: es) X.env = (false, eval e X.env) :: starEach es X.env := by rfl) (hpl : (backTo pos (starEach es X.env)).any (·.1) = false := by rfl) :
    DE cl B true W X (.Call (.Name x p) (e :: es) [] pos) fun ρ => M.bind (fa ρ) f := by
  refine PE.weak (pe_callS F hr hg hm hk hb (fun σ => passAt tk σ) ha hdb he hpl) fun σ H Q ⟨Z, C, s, ρ, w, e, p⟩ => ?_
  refine ⟨Z, C, s, ρ, w, e, Post.seq w.ch p fun dxs s1 xs Z1 C1 H1 w1 n1 r1 p1 => ?_⟩
  refine ⟨Z1, C1, s1, dxs, w1, r1.1, r1.2.trans hn, ?_⟩
  cases hf : f dxs s1 with
  | ok d s2 => rw [hf] at p1; exact p1
  | err x s2 => rw [hf] at p1; exact p1
  | stuck => rw [hf] at p1; exact p1
theorem de_call0 {k : Nat} {g : Addr} {fd : FuncData} {ps : List Str} {f : List D → M B D} {x : Str} {p pos : Pos} (F : FnOk X.prog X.w X.K X.mg X.base (L2.CX X.prog X.w) k g fd ps (spD X.K cl B 0 f)) (hr : Room k X.A)
    (hg : Gl X x) (hm : X.mg x = some (.ref g)) (hk : PySem.W.keepIn X.K (.ref g) = true) (hb : Binds X.K fd ps []) (hW : W = fun _ _ _ _ => False)
    (hdb : (x == ("__debug__" : Str)) = false := by decide) :
    DE cl B true W X (.Call (.Name x p) [] [] pos) fun ρ => f [] := by
  subst hW
  refine PE.weak (pe_call0 (E := fun _ _ _ => False) F hr hg hm hk hb .nil passL hdb) fun σ H Q ⟨Z, C, s, ρ, w, e, p⟩ => ?_
  refine ⟨Z, C, s, [], w, .nil, rfl, ?_⟩
  have p : Post X.K cl true (RpD X.K cl) (fun x x_1 x_2 x_3 => False) σ Z C H (f [] s) Q := p
  cases hf : f [] s with
  | ok d s2 => rw [hf] at p; exact p
  | err x s2 => rw [hf] at p; exact p
  | stuck => rw [hf] at p; exact p
end
/-! ## targets: which slots get what -/
abbrev Asg := List (Nat × D)
def setsE (ρ : Env) (as : Asg) : Env := as.foldl (fun ρ p => ρ.set p.1 (some p.2)) ρ
def setsV (σ : L2.St) (vs : List (Nat × V)) : L2.St := vs.foldl (fun σ p => σ.set p.1 (some p.2)) σ
def AsgR (K : PySem.W.Frag) (cl : CTab) (Z : Hp) : Asg → List (Nat × V) → Prop
  | [], [] => True
  | (i, d) :: as, (j, v) :: vs => i = j ∧ Rep K cl Z v d ∧ AsgR K cl Z as vs
  | _, _ => False
section
variable {K : PySem.W.Frag} {cl : CTab} {Z : Hp}
theorem AsgR.append : ∀ {as bs : Asg} {vs ws : List (Nat × V)}, AsgR K cl Z as vs → AsgR K cl Z bs ws → AsgR K cl Z (as ++ bs) (vs ++ ws)
  | [], _, [], _, _, h => h
  | (i, d) :: as, _, (j, v) :: vs, _, ⟨a, b, c⟩, h => ⟨a, b, AsgR.append c h⟩
  | [], _, _ :: _, _, h, _ => False.elim h
  | _ :: _, _, [], _, h, _ => False.elim h
end
section
variable (K : PySem.W.Frag) (cl : CTab)
def tDG (a : D → Option Asg) : TG := fun v σ H Q => ∃ Z d as, Sub Z H ∧ Rep K cl Z v d ∧ a d = some as ∧ ∀ vs, AsgR K cl Z as vs → Q (setsV σ vs) H
def tDGs (a : List D → Option Asg) : TGs := fun vs σ H Q => ∃ Z ds as, Sub Z H ∧ RepL K cl Z vs ds ∧ a ds = some as ∧ ∀ ws, AsgR K cl Z as ws → Q (setsV σ ws) H
end
def DG (cl : CTab) (X : Cx) (tg : Expr) (a : D → Option Asg) : Prop := PG X tg (tDG X.K cl a)
def DGs (cl : CTab) (X : Cx) (tgs : List Expr) (a : List D → Option Asg) : Prop := PGs X tgs (tDGs X.K cl a)
theorem PG.weak {X : Cx} {e : Expr} {t t' : TG} (h : PG X e t) (w : ∀ v σ H Q, t' v σ H Q → t v σ H Q) : PG X e t' := ⟨fun pins s σ H v u Q I r q => h.run pins s σ H v u Q I r (w v σ H Q q)⟩
theorem PGs.weak {X : Cx} {e : List Expr} {t t' : TGs} (h : PGs X e t) (w : ∀ v σ H Q, t' v σ H Q → t v σ H Q) : PGs X e t' := ⟨fun pins s σ H v u Q I r q => h.run pins s σ H v u Q I r (w v σ H Q q)⟩
theorem wipe_set {σ : L2.St} {i : Nat} {o : Option V} : ∀ {own : List Nat}, i ∈ own → wipe (σ.set i o) own = wipe σ own
  | [], h => by simp at h
  | j :: r, h => by
    unfold wipe
    by_cases e : i ∈ r
    · rw [wipe_set e]
    · have e2 : i = j := by
        rcases List.mem_cons.mp h with z | z
        · exact z
        · exact absurd z e
      subst e2
      have c : ∀ (l : List Nat) (τ : L2.St), i ∉ l → wipe (τ.set i o) l = (wipe τ l).set i o := by
        intro l
        induction l with
        | nil => intro τ _; rfl
        | cons a l ih =>
          intro τ hn
          simp only [List.mem_cons, not_or] at hn
          unfold wipe
          rw [ih τ hn.2]
          exact List.set_comm _ _ (fun z => hn.1 z)
      rw [c r σ e, List.set_set]
theorem wipe_sets {own : List Nat} : ∀ (vs : List (Nat × V)) (σ : L2.St), (∀ p ∈ vs, p.1 ∈ own) → wipe (setsV σ vs) own = wipe σ own
  | [], _, _ => rfl
  | p :: vs, σ, h => by
    show wipe (setsV (σ.set p.1 (some p.2)) vs) own = wipe σ own
    rw [wipe_sets vs _ (fun q hq => h q (List.mem_cons_of_mem _ hq)), wipe_set (h p List.mem_cons_self)]
theorem asgR_mem {K : PySem.W.Frag} {cl : CTab} {Z : Hp} {own : List Nat} : ∀ {as : Asg} {vs : List (Nat × V)}, AsgR K cl Z as vs → (∀ p ∈ as, p.1 ∈ own) → ∀ p ∈ vs, p.1 ∈ own
  | [], [], _, _, p, hp => by simp at hp
  | (i, d) :: as, (j, v) :: vs, ⟨a, b, c⟩, h, p, hp => by
    rcases List.mem_cons.mp hp with rfl | hp
    · subst a; exact h _ List.mem_cons_self
    · exact asgR_mem c (fun q hq => h q (List.mem_cons_of_mem _ hq)) p hp
  | [], _ :: _, h, _, _, _ => False.elim h
  | _ :: _, [], h, _, _, _ => False.elim h
def aName (i : Nat) : D → Option Asg := fun d => some [(i, d)]
def aNil : List D → Option Asg
  | [] => some []
  | _ => none
def aCons (a : D → Option Asg) (b : List D → Option Asg) : List D → Option Asg
  | d :: ds => (a d).bind fun x => (b ds).map fun y => x ++ y
  | [] => none
def aTup (b : List D → Option Asg) : D → Option Asg
  | .tup ds => b ds
  | _ => none
theorem EnvR.set {K : PySem.W.Frag} {cl : CTab} {Z : Hp} {ρ : Env} {σ : L2.St} {i : Nat} {v : V} {d : D} (e : EnvR K cl Z ρ σ) (r : Rep K cl Z v d) : EnvR K cl Z (ρ.set i (some d)) (σ.set i (some v)) := by
  refine ⟨by simp [e.len], fun j d' q => ?_⟩
  by_cases hj : i = j
  · subst hj
    by_cases hl : i < ρ.length
    · rw [List.getElem?_set_self hl] at q
      cases q
      exact ⟨v, List.getElem?_set_self (by rw [← e.len]; exact hl), r⟩
    · rw [List.getElem?_eq_none (by simpa using hl)] at q
      cases q
  · rw [List.getElem?_set_ne hj] at q
    obtain ⟨v', h1, h2⟩ := e.get j d' q
    exact ⟨v', by rw [List.getElem?_set_ne hj]; exact h1, h2⟩
theorem EnvR.sets {K : PySem.W.Frag} {cl : CTab} {Z : Hp} : ∀ {as : Asg} {vs : List (Nat × V)} {ρ : Env} {σ : L2.St}, EnvR K cl Z ρ σ → AsgR K cl Z as vs → EnvR K cl Z (setsE ρ as) (setsV σ vs)
  | [], [], _, _, e, _ => e
  | (i, d) :: as, (j, v) :: vs, ρ, σ, e, ⟨a, b, c⟩ => by
    subst a
    show EnvR K cl Z (setsE (ρ.set i (some d)) as) (setsV (σ.set i (some v)) vs)
    exact EnvR.sets (e.set b) c
  | [], _ :: _, _, _, _, h => False.elim h
  | _ :: _, [], _, _, _, h => False.elim h
section
variable {cl : CTab} {X : Cx}
theorem dg_name {i : Nat} {x : Str} {pos : Pos} (hN : X.N.Nodup) (hi : X.N[i]? = some x) (hx : Loc X.env.scope x) (hf : X.fn x = true ∨ X.env.scope.names.lookup x = some .local := by first | exact .inl rfl | exact .inr rfl | assumption) :
    DG cl X (.Name x pos) (aName i) :=
  PG.weak (pg_name hN hi hx hf) fun v σ H Q ⟨Z, d, as, h, r, e, q⟩ => by
    cases e
    exact q [(i, v)] ⟨rfl, r, trivial⟩
theorem dgs_nil : DGs cl X [] aNil :=
  PGs.weak pgs_nil fun vs σ H Q ⟨Z, ds, as, h, r, e, q⟩ => by
    cases ds with
    | nil => cases r; cases e; exact ⟨rfl, q [] trivial⟩
    | cons d ds => cases e
theorem dgs_cons {e : Expr} {es : List Expr} {b : D → Option Asg} {bs : List D → Option Asg} (h : DG cl X e b) (t : DGs cl X es bs) (ha : (assignEach (e :: es) X.env).map (·.2) = assign e X.env :: (assignEach es X.env).map (·.2) := by rfl) : DGs cl X (e :: es) (aCons b bs) :=
  PGs.weak (pgs_cons h t ha) fun vs σ H Q ⟨Z, ds, as, hz, r, e, q⟩ => by
    cases ds with
    | nil => cases e
    | cons d ds =>
      cases r with
      | cons r1 r2 =>
        have e' : (b d).bind (fun x => (bs ds).map fun y => x ++ y) = some as := e
        cases hb : b d with
        | none => rw [hb] at e'; cases e'
        | some x =>
          rw [hb] at e'
          obtain ⟨y, h1, h2⟩ := Option.map_eq_some_iff.mp (show (bs ds).map (fun y => x ++ y) = some as from e')
          subst h2
          refine ⟨_, _, rfl, Z, d, x, hz, r1, hb, fun vs1 a1 => ⟨Z, ds, y, hz, r2, h1, fun vs2 a2 => ?_⟩⟩
          have := q (vs1 ++ vs2) (a1.append a2)
          unfold setsV at this ⊢
          rw [List.foldl_append] at this
          exact this
theorem dg_tup {es : List Expr} {k : Nat} {pos : Pos} {bs : List D → Option Asg} (hc : X.calm = true) (h : DGs cl X es bs) (hb : ∀ ds as, bs ds = some as → ds.length = es.length) (hn : (assignEach es X.env).length = es.length := by rfl)
    (hst : (assignEach es X.env).findIdx? (·.1) = none := by rfl) : DG cl X (.Tuple es k pos) (aTup bs) :=
  PG.weak (pg_tup hc h hn hst) fun v σ H Q ⟨Z, d, as, hz, r, e, q⟩ => by
    cases d <;> (unfold aTup at e; try (cases e; done))
    cases r with
    | tup a b c => exact ⟨_, _, rfl, sub_t hz a, by rw [c.len]; exact hb _ _ e, Z, _, as, hz, c, e, q⟩
end
theorem aNil_len : ∀ ds as, aNil ds = some as → ds.length = 0 := by
  intro ds as h
  cases ds with
  | nil => rfl
  | cons => cases h
theorem aCons_len {b : D → Option Asg} {bs : List D → Option Asg} {n : Nat} (h : ∀ ds as, bs ds = some as → ds.length = n) : ∀ ds as, aCons b bs ds = some as → ds.length = n + 1 := by
  intro ds as e
  cases ds with
  | nil => cases e
  | cons d ds =>
    have e' : (b d).bind (fun x => (bs ds).map fun y => x ++ y) = some as := e
    cases hb : b d with
    | none => rw [hb] at e'; cases e'
    | some x =>
      rw [hb] at e'
      obtain ⟨y, h1, _⟩ := Option.map_eq_some_iff.mp (show (bs ds).map (fun y => x ++ y) = some as from e')
      rw [List.length_cons, h ds y h1]
/-- all slots of a target are among these -/
def TgIn (own : List Nat) (a : D → Option Asg) : Prop := ∀ d as, a d = some as → ∀ p ∈ as, p.1 ∈ own
def TgsIn (own : List Nat) (a : List D → Option Asg) : Prop := ∀ ds as, a ds = some as → ∀ p ∈ as, p.1 ∈ own
theorem in_name {own : List Nat} {i : Nat} (h : i ∈ own) : TgIn own (aName i) := fun d as e p hp => by
  cases e
  rw [List.mem_singleton.mp hp]; exact h
theorem in_nil {own : List Nat} : TgsIn own aNil := fun ds as e p hp => by
  cases ds with
  | nil => cases e; simp at hp
  | cons => cases e
theorem in_cons {own : List Nat} {a : D → Option Asg} {b : List D → Option Asg} (h : TgIn own a) (t : TgsIn own b) : TgsIn own (aCons a b) := fun ds as e p hp => by
  cases ds with
  | nil => cases e
  | cons d ds =>
    have e' : (a d).bind (fun x => (b ds).map fun y => x ++ y) = some as := e
    cases hb : a d with
    | none => rw [hb] at e'; cases e'
    | some x =>
      rw [hb] at e'
      obtain ⟨y, h1, h2⟩ := Option.map_eq_some_iff.mp (show (b ds).map (fun y => x ++ y) = some as from e')
      subst h2
      rcases List.mem_append.mp hp with q | q
      · exact h d x hb p q
      · exact t ds y h1 p q
theorem in_tup {own : List Nat} {b : List D → Option Asg} (t : TgsIn own b) : TgIn own (aTup b) := fun d as e p hp => by
  cases d <;> (unfold aTup at e; try (cases e; done))
  exact t _ as e p hp
end DN
set_option Elab.async false
set_option linter.all false
set_option maxRecDepth 100000
set_option maxHeartbeats 4000000
/-! enumerate over a tuple -/
namespace DN
open PySem PySem.Spec PyProof.Rows L2
open PySem.AutoSeq1 (wpAny_loadPart')
theorem meets_enumerate_newT (l : Addr) (items : Array Value) (n : Nat) (dct : Option Addr) (sl : Array (Option Value)) :
    Meets (Builtin.«enumerate.__new__» ⟨[.type "enumerate", .ref l], []⟩) (fun _ R s => s.heap.get? l = some { cls := .type "tuple", dict := dct, data := .seq items n, slots := sl } ∧
      R (.ok (.ret (.ref (s.heap.push { cls := .type "tuple_iterator", data := .fields #[.ref l, .int 0 0] }).objs.size)))
        { s with heap := (s.heap.push { cls := .type "tuple_iterator", data := .fields #[.ref l, .int 0 0] }).push { cls := .type "enumerate", data := .fields #[.none, .bool false, .ref s.heap.objs.size, rawInt 0, .none, .none] } }) :=
  .of_wp fun prog w A R s h => by
    obtain ⟨hp, g, d, tk, os⟩ := s; obtain ⟨hl, h⟩ := h
    have hsub := sub_enumerate
    have hL : Heap.IsTuple (Shared.heap ⟨hp, g, d, tk, os⟩) l items := ⟨_, hl, rfl, n, rfl⟩
    wp_walk using wpAny_loadPart' hl
    refine wpAny_stack_any fun st => wpAny_pure ?_
    split
    · rename_i c _ _ _ _ _
      cases (c == Value.type "enumerate")
      · wp_walk using wpAny_loadPart' hl, wpAny_pyIter_tuple hL
        exact ⟨_, rfl, h⟩
      · wp_walk using wpAny_loadPart' hl, wpAny_pyIter_tuple hL
        exact ⟨_, rfl, h⟩
    · wp_walk using wpAny_loadPart' hl, wpAny_pyIter_tuple hL
      exact ⟨_, rfl, h⟩
section
variable {prog : Program} {w : World} {A : Around} {E : Value → Shared → Prop} {s : Shared}
theorem call_enumerate_tuple {l : Addr} {items : Array Value} {Q : Value → Shared → Prop} (hL : s.heap.IsTuple l items)
    (h : ∀ h', IsEnum h' (s.heap.objs.size + 1) s.heap.objs.size 0 .none → h'.IsTupleIter s.heap.objs.size l 0 → h'.objs.size = s.heap.objs.size + 2 →
      (∀ b o, s.heap.get? b = some o → h'.get? b = some o) → Q (.ref (s.heap.objs.size + 1)) { s with heap := h' }) :
    wpAny (model prog w) A (call (.type "enumerate") [.ref l]) Q E s := by
  obtain ⟨⟨c, dct, dt, sl⟩, hl, hc, n, hd⟩ := hL
  replace hc : c = .type "tuple" := hc
  replace hd : dt = .seq items n := hd
  subst hc hd
  refine callType_new F.called_enumerate (by decide) (F.typeCall_enumerate_1 _) (F.newCall_enumerate_1 _) (fun obj => F.args_object_init_2 obj _) F.entry_enumerate_new
    (meets_enumerate_newT l items n dct sl) ⟨hl, ?_⟩
  have hz : (s.heap.push { cls := .type "tuple_iterator", data := .fields #[.ref l, .int 0 0] }).objs.size = s.heap.objs.size + 1 := Heap.size_push ..
  show _ ∧ _
  rw [hz]
  have he : IsEnum ((s.heap.push { cls := .type "tuple_iterator", data := .fields #[.ref l, .int 0 0] }).push
      { cls := .type "enumerate", data := .fields #[.none, .bool false, .ref s.heap.objs.size, rawInt 0, .none, .none] }) (s.heap.objs.size + 1) s.heap.objs.size 0 .none := by
    have := Heap.get?_push_size (s.heap.push { cls := .type "tuple_iterator", data := .fields #[.ref l, .int 0 0] })
      (o := { cls := .type "enumerate", data := .fields #[.none, .bool false, .ref s.heap.objs.size, rawInt 0, .none, .none] }) rfl
    rw [hz] at this; exact this
  refine ⟨⟨_, he, rfl⟩, h _ he ⟨_, Heap.get?_push_of_some _ (Heap.get?_push_size _ rfl), rfl, rfl⟩ (by rw [Heap.size_push, hz]) fun b o x => Heap.get?_push_of_some _ (Heap.get?_push_of_some _ x)⟩
end
/-- the tuple at a, each item in a new pair -/
def IteT (K : PySem.W.Frag) (a : Addr) : It :=
  ⟨fun i H => ∃ (xs : List V) (x : V), SqT K H a xs ∧ xs[i]? = some x, fun i H v H' => ∃ T x, v = .ref T ∧ H T = none ∧ H' = upd H T (.tup [.int (i : Nat), x]) ∧ ∀ xs, SqT K H a xs → xs[i]? = some x, fun i H => ∃ xs : List V, SqT K H a xs ∧ xs.length = i⟩
theorem turn_enumT {P : Program} {w : World} {K : PySem.W.Frag} {elts : List Expr} {kk : Nat} {tpos : Pos} (a e it : Addr) (hai : a ≠ it) (hae : a ≠ e) :
    Turn P w K (.Tuple elts kk tpos) (IteT K a) [e, it] e (fun i h => (∃ old, IsEnum h e it ((i : Nat) : Int) old) ∧ h.IsTupleIter it a i ∧ e ≠ it) where
  mem := by simp
  obj := fun i h st b hb => by
    obtain ⟨⟨old, he⟩, ⟨o, ho, hc, hd⟩, _⟩ := st
    have e' : b = e ∨ b = it := by simpa using hb
    rcases e' with z | z
    · rw [z]; exact ⟨_, he, fun v q => nomatch q⟩
    · rw [z]; exact ⟨o, ho, fun v q => by rw [hd] at q; cases q⟩
  keep := fun i h h' st k => let ⟨⟨old, he⟩, hi, hne⟩ := st; ⟨⟨old, k e (by simp) _ he⟩, hi.at fun o q => k it (by simp) o q, hne⟩
  item := by
    intro X hP hw hK hc i pins s σ H E I hf st hg
    subst hP hw hK
    obtain ⟨⟨old, he⟩, hit, hne⟩ := st
    obtain ⟨xs, x, hq, hx⟩ := hg
    obtain ⟨its, rv, p, hz⟩ := I.tuple hq
    obtain ⟨u, hu, ru⟩ := rv.get hx
    have hel : e < s.heap.objs.size := Heap.lt_size he
    have hil : it < s.heap.objs.size := by obtain ⟨_, q, _⟩ := hit; exact Heap.lt_size q
    have hlt : i < its.toArray.size := by
      have := (List.getElem?_eq_some_iff.mp hu).1
      simpa using this
    have hh : X.A.in1.handled = none := I.ok.hd hc
    refine wpAny_pyNext_enum_itemC (Draws.tuple hh it a hai its.toArray) he ⟨hit, (show s.heap.IsTuple a its.toArray from p)⟩ hlt hne (by simp; exact ⟨hne, fun z => hae z.symm⟩) fun y h' tk hy ho hst hT hsz hk => ?_
    have hyu : y = u := by
      have hy' : its.toArray[i]? = some y := hy
      have : its.toArray[i]? = some u := by simpa using hu
      rw [this] at hy'
      exact (Option.some.inj hy').symm
    subst hyu
    refine ⟨_, rfl, wpAny_letOwnedTupleGo_enum (s := { s with heap := h', toks := tk + 1 }) ho fun h'' he' sb => ?_⟩
    have hT2 : h''.get? s.heap.objs.size = some { cls := .type "tuple", data := .seq #[.int i tk, y] } := (sb.2 _ (Nat.ne_of_gt hel)).trans hT
    have new : ObjOk X.prog X.w (upd H s.heap.objs.size (.tup [.int (i : Nat), x])) h'' s.heap.objs.size (.tup [.int (i : Nat), x]) :=
      ⟨by show 2 ≤ sizeLine; decide, [.int i tk, y], .cons ⟨_, rfl⟩ (.cons ru .nil), ⟨_, hT2, rfl, _, rfl⟩⟩
    have I1 : Inv X pins σ (upd H s.heap.objs.size (.tup [.int (i : Nat), x])) { s with heap := h'', toks := tk + 1 } :=
      I.turnedNew (ch := [e, it]) (fun b ob hb q => (sb.2 b (fun z => hb (by simp [z]))).trans (hk b ob (fun z => hb (by simp [z])) (fun z => hb (by simp [z])) q)) hf (Nat.le_refl _) new
    refine ⟨.ref s.heap.objs.size, _, I1, rfl, ⟨_, x, rfl, I.hok.fresh (Nat.le_refl _), rfl, fun ys hy => by rw [I.tuple_inj hy hq]; exact hx⟩, ⟨⟨y, ?_⟩, hst.1.at fun o q => (sb.2 it (Ne.symm hne)).trans q, hne⟩, fun b hb => ?_⟩
    · have e1 : ((i + 1 : Nat) : Int) = (i : Int) + 1 := by omega
      rw [e1]; exact he'
    · have hb' : b < s.heap.objs.size := by
        have e' : b = e ∨ b = it := by simpa using hb
        rcases e' with z | z
        · rw [z]; exact hel
        · rw [z]; exact hil
      rw [upd_ne (Nat.ne_of_lt hb')]
      exact (hf b hb).1
  done := by
    intro X hP hw hK hc i pins s σ H E I hf st hg
    subst hP hw hK
    obtain ⟨⟨old, he⟩, hit, hne⟩ := st
    obtain ⟨xs, hq, hx⟩ := hg
    obtain ⟨its, rv, p, hz⟩ := I.tuple hq
    obtain ⟨f0, f1, f2, f3, f4, f5⟩ := hf it (by simp)
    have hl := rv.length
    have hh : X.A.in1.handled = none := I.ok.hd hc
    have hi : i = its.toArray.size := by simp; omega
    subst hi
    exact wpAny_pyNext_enum_endD (Draws.tuple hh it a hai its.toArray) he ⟨hit, (show s.heap.IsTuple a its.toArray from p)⟩ fun h' eb => ⟨rfl, I.turned (t' := s.toks) (fun b o hb q => eb b o hb q) f0 f1 f3 f4 f5⟩
  self := fun A i s Q E st h => let ⟨⟨_, he⟩, _⟩ := st; wpAny_pyIter_enum he h
def iEnumT (K : PySem.W.Frag) (ta : TA) : TI := fun σ H R => ta σ H fun vs H1 => ∃ a xs, vs = [.ref a] ∧ SqT K H1 a xs ∧ R (IteT K a) H1
theorem pi_enumT {X : Cx} {e : Expr} {ta : TA} {p pos tpos : Pos} {elts : List Expr} {kk : Nat} (hg : Gl X "enumerate") (hm : X.mg "enumerate" = none) (ha : PA X [e] ta) (hs : starEach [e] X.env = [(false, eval e X.env)] := by rfl) :
    PI X (.Tuple elts kk tpos) (.Call (.Name "enumerate" p) [e] [] pos) (iEnumT X.K ta) := by
  refine ⟨fun pins s σ H R I h => ?_⟩
  refine Call_ (ld_blt I hg hm boot_enumerate (PyProof.Rows.callWith_type1 (thn (ha.run pos pins s σ H _ I h) fun us s1 ⟨vs, H1, I1, r1, q1⟩ => ?_) hs rfl))
  obtain ⟨a, xs, ex, hq, q⟩ := q1
  subst ex
  cases r1 with
  | cons r rr =>
    cases rr
    cases r
    obtain ⟨its, rv, p', hz⟩ := I1.tuple hq
    have hT : s1.heap.IsTuple a its.toArray := p'
    have hal : a < s1.heap.objs.size := by obtain ⟨_, q, _⟩ := hT; exact Heap.lt_size q
    refine call_enumerate_tuple hT fun h' he hit hsz hk => wpAny_pyIter_enum he ?_
    have I2 : Inv X pins σ H1 { s1 with heap := h' } := I1.kept (t' := s1.toks) hk
    refine ⟨s1.heap.objs.size + 1, [s1.heap.objs.size + 1, s1.heap.objs.size], _, _, H1, rfl, I2, turn_enumT a (s1.heap.objs.size + 1) s1.heap.objs.size (Nat.ne_of_lt hal) (Nat.ne_of_lt (Nat.lt_succ_of_lt hal)), ⟨⟨.none, he⟩, hit, Nat.succ_ne_self _⟩, fun b hb => ?_, q⟩
    have e' : b = s1.heap.objs.size + 1 ∨ b = s1.heap.objs.size := by simpa using hb
    have hle : s1.heap.objs.size ≤ b := by
      rcases e' with z | z
      · rw [z]; exact Nat.le_add_right _ _
      · rw [z]; exact Nat.le_refl _
    exact I1.fpOk hle (I1.hok.fresh hle)
theorem walk_enumT {K : PySem.W.Frag} {a : Addr} {xs : List V} : Walk (IteT K a) xs.length (fun H => SqT K H a xs) (YPair (fun i => some (.int (i : Nat))) (fun i => xs[i]?)) := by
  refine ⟨fun i _ hi q => ⟨xs, xs[i], q, by simp [hi]⟩, fun _ q => ⟨xs, q, rfl⟩, fun i H v H' _ q y => ?_⟩
  obtain ⟨T, x, h1, h2, h3, h4⟩ := y
  exact ⟨T, .int (i : Nat), x, h1, h2, h3, rfl, h4 xs q⟩
end DN
set_option Elab.async false
set_option linter.all false
set_option maxRecDepth 100000
set_option maxHeartbeats 4000000
namespace DN
open PySem PySem.Spec PyProof.Rows L2 RZ
variable {B : Sto}

/-! ## what is walked -/
def YIt (K : PySem.W.Frag) (cl : CTab) (Z : Hp) (ds : List D) : Nat → Hp → V → Hp → Prop := fun i H x H' => ∃ d, ds[i]? = some d ∧ ∀ Zc, Sub Z Zc → Sub Zc H → ∃ Zc', Al Zc H Zc' H' ∧ Rep K cl Zc' x d
/-- J walks ds while what Z knows stands -/

def ItR (K : PySem.W.Frag) (cl : CTab) (Z : Hp) (J : It) (ds : List D) : Prop := Walk J ds.length (fun H => Sub Z H) (YIt K cl Z ds) ∧ ds.length ≤ sizeLine
abbrev RpI (K : PySem.W.Frag) (cl : CTab) : Hp → It → List D → Prop := fun Z J ds => ItR K cl Z J ds
def DI (cl : CTab) (B : Sto) (md : Bool) (W : WX) (X : Cx) (tg e : Expr) (f : Env → M B (List D)) : Prop := PI X tg e (tG X.K cl B md (RpI X.K cl) W f)
theorem PI.weak {X : Cx} {tg e : Expr} {t t' : TI} (h : PI X tg e t) (w : ∀ σ H Q, t' σ H Q → t σ H Q) : PI X tg e t' := ⟨fun pins s σ H Q I q => h.run pins s σ H Q I (w σ H Q q)⟩
theorem PI.or {X : Cx} {tg e : Expr} {t t' : TI} (h : PI X tg e t) (h' : PI X tg e t') : PI X tg e (fun σ H Q => t σ H Q ∨ t' σ H Q) :=
  ⟨fun pins s σ H Q I q => q.elim (h.run pins s σ H Q I) (h'.run pins s σ H Q I)⟩
def itemsD : D → Option (List D)
  | .tup xs => some xs
  | .lst xs => some xs
  | .str z => some (z.cps.toList.map fun c => .str ⟨#[c]⟩)
  | .dct ks _ => some ks
  | _ => none
section
variable {K : PySem.W.Frag} {cl : CTab} {Z : Hp}
theorem it_list {a : Addr} {vs : List V} {ds : List D} (h : Z a = some (.lst vs)) (hz : vs.length ≤ sizeLine) (r : RepL K cl Z vs ds) : ItR K cl Z (Itl K a) ds := by
  refine ⟨?_, by rw [← r.len]; exact hz⟩
  rw [← r.len]
  refine walk_list.mono (fun H s => SqL.of (s _ _ h)) fun i H x H' hi s ⟨e, q⟩ => ?_
  obtain ⟨d, h1, h2⟩ := r.getV q
  refine ⟨d, h1, fun Zc a b => ⟨Zc, by rw [e]; exact .refl b, h2.mono a⟩⟩
theorem it_tup {a : Addr} {vs : List V} {ds : List D} (h : SqT K Z a vs) (hz : vs.length ≤ sizeLine) (r : RepL K cl Z vs ds) : ItR K cl Z (Itt K a) ds := by
  refine ⟨?_, by rw [← r.len]; exact hz⟩
  rw [← r.len]
  refine walk_tup.mono (fun H s => sub_t s h) fun i H x H' hi s ⟨e, q⟩ => ?_
  obtain ⟨d, h1, h2⟩ := r.getV q
  refine ⟨d, h1, fun Zc a b => ⟨Zc, by rw [e]; exact .refl b, h2.mono a⟩⟩
theorem it_str {z : Str} (hz : z.length ≤ sizeLine) (ok : PyData.strOk z = true) : ItR K cl Z (Its z) (z.cps.toList.map fun c => .str ⟨#[c]⟩) := by
  refine ⟨?_, by rw [List.length_map, Array.length_toList]; exact hz⟩
  rw [List.length_map, Array.length_toList]
  refine walk_str.mono (fun H s => trivial) fun i H x H' hi s ⟨e, c, q, hx⟩ => ?_
  have q' : z.cps.toList[i]? = some c := by simpa using q
  refine ⟨.str ⟨#[c]⟩, by rw [List.getElem?_map, q']; rfl, fun Zc a b => ⟨Zc, by rw [e]; exact .refl b, ?_⟩⟩
  rw [hx]
  exact .str (by show 1 ≤ sizeLine; decide) (strOk_one ok (List.mem_of_getElem? q'))
theorem it_dct {a : Addr} {o : Obj} {kvs : List (Key × V)} (h : Z a = some (.frz o (.dK kvs))) (hz : kvs.length ≤ sizeLine) (ok : ∀ p ∈ kvs, ∀ x, p.1 = .inr x → x.length ≤ sizeLine ∧ PyData.strOk x = true) : ItR K cl Z (Itk a o kvs) (kvs.map fun p => keyD p.1) := by
  refine ⟨?_, by rw [List.length_map]; exact hz⟩
  rw [List.length_map]
  refine walk_keys.mono (fun H s => s _ _ h) fun i H x H' hi s ⟨e, k, v, q, hx⟩ => ?_
  refine ⟨keyD k, by rw [List.getElem?_map, q]; rfl, fun Zc a b => ⟨Zc, by rw [e]; exact .refl b, ?_⟩⟩
  rw [hx]
  cases k with
  | inl i => exact .int i
  | inr x =>
    obtain ⟨h1, h2⟩ := ok _ (List.mem_of_getElem? q) x rfl
    exact .str h1 h2
theorem it_range {lo : Int} {n : Nat} (hz : n ≤ sizeLine) : ItR K cl Z (Itr lo n) ((List.range n).map fun i : Nat => .int (lo + (i : Int))) := by
  refine ⟨?_, by rw [List.length_map, List.length_range]; exact hz⟩
  rw [List.length_map, List.length_range]
  refine walk_range.mono (fun H s => trivial) fun i H x H' hi s ⟨e, hx⟩ => ?_
  refine ⟨.int (lo + (i : Int)), by rw [List.getElem?_map, List.getElem?_range hi]; rfl, fun Zc a b => ⟨Zc, by rw [e]; exact .refl b, ?_⟩⟩
  rw [hx]; exact .int _
/-- pairs that are made turn by turn -/
theorem y_pair {xs ys : Nat → Option V} {i : Nat} {H H' : Hp} {v : V} {dx dy : D} {x y : V} {T : Addr} (hv : v = .ref T) (hT : H T = none) (hH : H' = upd H T (.tup [x, y])) (rx : ∀ Zc, Sub Z Zc → Rep K cl Zc x dx) (ry : ∀ Zc, Sub Z Zc → Rep K cl Zc y dy) :
    ∀ Zc, Sub Z Zc → Sub Zc H → ∃ Zc', Al Zc H Zc' H' ∧ Rep K cl Zc' v (.tup [dx, dy]) := by
  subst hv hH
  intro Zc a b
  have al : Al Zc H (upd Zc T (.tup [x, y])) (upd H T (.tup [x, y])) := .new b hT (fun _ z => nomatch z)
  exact ⟨_, al, .tup (SqT.of upd_same) (by show 2 ≤ sizeLine; decide) (.cons (rx _ (a.trans al.zz)) (.cons (ry _ (a.trans al.zz)) .nil))⟩
def enumL : Nat → List D → List D
  | _, [] => []
  | i, d :: ds => .tup [.int i, d] :: enumL (i + 1) ds
theorem enumL_len : ∀ (i : Nat) (ds : List D), (enumL i ds).length = ds.length
  | _, [] => rfl
  | i, d :: ds => by simp [enumL, enumL_len (i + 1) ds]
theorem enumL_get : ∀ (j : Nat) (ds : List D) (i : Nat) (d : D), ds[i]? = some d → (enumL j ds)[i]? = some (.tup [.int ((j + i : Nat) : Int), d])
  | _, [], _, _, h => by simp at h
  | j, e :: ds, 0, d, h => by simp at h; subst h; simp [enumL]
  | j, e :: ds, i + 1, d, h => by
    have := enumL_get (j + 1) ds i d (by simpa using h)
    simp only [enumL, List.getElem?_cons_succ, this]
    rw [show j + 1 + i = j + (i + 1) by omega]
theorem it_enum {J : It} {vs : List V} {ds : List D} (hz : vs.length ≤ sizeLine) (r : RepL K cl Z vs ds) (w : Walk J vs.length (fun H => Sub Z H) (YPair (fun i => some (.int (i : Nat))) (fun i => vs[i]?))) : ItR K cl Z J (enumL 0 ds) := by
  refine ⟨?_, by rw [enumL_len, ← r.len]; exact hz⟩
  rw [enumL_len, ← r.len]
  refine w.mono (fun H s => s) fun i H v H' hi s ⟨T, x, y, h1, h2, h3, h4, h5⟩ => ?_
  obtain ⟨d, e1, e2⟩ := r.getV h5
  have ex : x = .int (i : Nat) := (Option.some.inj h4).symm
  subst ex
  refine ⟨_, enumL_get 0 ds i d e1, ?_⟩
  rw [Nat.zero_add]
  exact y_pair (xs := fun _ => none) (ys := fun _ => none) (i := 0) h1 h2 h3 (fun Zc _ => .int _) (fun Zc a => e2.mono a)
def zipL : List D → List D → List D
  | x :: xs, y :: ys => .tup [x, y] :: zipL xs ys
  | _, _ => []
theorem zipL_len : ∀ (xs ys : List D), (zipL xs ys).length = min xs.length ys.length
  | [], _ => by simp [zipL]
  | _ :: _, [] => by simp [zipL]
  | x :: xs, y :: ys => by simp [zipL, zipL_len xs ys]
theorem zipL_get : ∀ (xs ys : List D) (i : Nat) (d e : D), xs[i]? = some d → ys[i]? = some e → (zipL xs ys)[i]? = some (.tup [d, e])
  | [], _, _, _, _, h, _ => by simp at h
  | _ :: _, [], _, _, _, _, h => by simp at h
  | x :: xs, y :: ys, 0, d, e, h, h' => by simp at h h'; subst h h'; simp [zipL]
  | x :: xs, y :: ys, i + 1, d, e, h, h' => by
    simp only [zipL, List.getElem?_cons_succ]
    exact zipL_get xs ys i d e (by simpa using h) (by simpa using h')
theorem it_zip {J : It} {vs ws : List V} {ds es : List D} (hz : vs.length ≤ sizeLine) (r : RepL K cl Z vs ds) (r' : RepL K cl Z ws es) (w : Walk J (min vs.length ws.length) (fun H => Sub Z H) (YPair (fun i => vs[i]?) (fun i => ws[i]?))) : ItR K cl Z J (zipL ds es) := by
  refine ⟨?_, by rw [zipL_len, ← r.len]; omega⟩
  rw [zipL_len, ← r.len, ← r'.len]
  refine w.mono (fun H s => s) fun i H v H' hi s ⟨T, x, y, h1, h2, h3, h4, h5⟩ => ?_
  obtain ⟨d, e1, e2⟩ := r.getV h4
  obtain ⟨d', e1', e2'⟩ := r'.getV h5
  exact ⟨_, zipL_get ds es i d d' e1 e1', y_pair (xs := fun _ => none) (ys := fun _ => none) (i := 0) h1 h2 h3 (fun Zc a => e2.mono a) (fun Zc a => e2'.mono a)⟩
theorem walk_zipT {K : PySem.W.Frag} {a b : Addr} {xs ys : List V} {n : Nat} (hn : n = min xs.length ys.length) : Walk (ItzT K a b) n (fun H => SqT K H a xs ∧ SqT K H b ys) (YPair (fun i => xs[i]?) (fun i => ys[i]?)) := by
  subst hn
  refine ⟨fun i _ hi q => ?_, fun _ q => ⟨xs, ys, q.1, q.2, by omega⟩, fun i H v H' _ q y => ?_⟩
  · have h1 : i < xs.length := by omega
    have h2 : i < ys.length := by omega
    exact ⟨xs, ys, xs[i], ys[i], q.1, q.2, by simp [h1], by simp [h2]⟩
  · obtain ⟨T, x, z, h1, h2, h3, h4, h5⟩ := y
    exact ⟨T, x, z, h1, h2, h3, h4 xs q.1, h5 ys q.2⟩
end
end DN
set_option Elab.async false
set_option linter.all false
set_option maxRecDepth 100000
set_option maxHeartbeats 4000000
namespace DN
open PySem PySem.Spec PyProof.Rows L2 RZ
variable {B : Sto}
/-- what is walked, by kinds -/
abbrev tupI (x : D) : Option (List D) := match x with
  | .tup xs => some xs
  | _ => none
abbrev listI (x : D) : Option (List D) := match x with
  | .lst xs => some xs
  | _ => none
abbrev strI (x : D) : Option (List D) := match x with
  | .str z => some (z.cps.toList.map fun c => .str ⟨#[c]⟩)
  | _ => none
abbrev anyI (x : D) : Option (List D) := match x with
  | .tup xs => some xs
  | .lst xs => some xs
  | .str z => some (z.cps.toList.map fun c => .str ⟨#[c]⟩)
  | _ => none
abbrev enumTI (x : D) : Option (List D) := match x with
  | .tup xs => some (enumL 0 xs)
  | _ => none
abbrev enumLI (x : D) : Option (List D) := match x with
  | .lst xs => some (enumL 0 xs)
  | _ => none
abbrev enumI (x : D) : Option (List D) := match x with
  | .tup xs => some (enumL 0 xs)
  | .lst xs => some (enumL 0 xs)
  | _ => none
abbrev zipTI (x y : D) : Option (List D) := match x, y with
  | .tup xs, .tup ys => some (zipL xs ys)
  | _, _ => none
abbrev zipLI (x y : D) : Option (List D) := match x, y with
  | .lst xs, .lst ys => some (zipL xs ys)
  | _, _ => none
abbrev zipI (x y : D) : Option (List D) := match x, y with
  | .tup xs, .tup ys => some (zipL xs ys)
  | .lst xs, .lst ys => some (zipL xs ys)
  | _, _ => none
section
variable {cl : CTab} {md : Bool} {W : WX} {X : Cx} {tg : Expr}
/-! ## rules for what is walked -/
theorem di_tup {e : Expr} {f : Env → M B D} (h : DE cl B md W X e f) : DI cl B md W X tg e fun ρ => M.bind (f ρ) fun x => lift (tupI x) := by
  refine PI.weak (pi_tup h) fun σ H Q ⟨Z, C, s, ρ, w, e, p⟩ => ?_
  refine ⟨Z, C, s, ρ, w, e, Post.seq w.ch p fun dx s1 x Z1 C1 H1 w1 n1 r1 p1 => ?_⟩
  obtain ⟨ds, hd, q⟩ := post_liftG w1 p1
  cases dx <;> (try (cases hd; done))
  cases hd
  cases r1 with
  | tup a b c => exact ⟨_, rfl, ⟨_, sub_t w1.zh a⟩, q _ (it_tup a b c)⟩
theorem di_list {e : Expr} {f : Env → M B D} (h : DE cl B md W X e f) : DI cl B md W X tg e fun ρ => M.bind (f ρ) fun x => lift (listI x) := by
  refine PI.weak (pi_list h) fun σ H Q ⟨Z, C, s, ρ, w, e, p⟩ => ?_
  refine ⟨Z, C, s, ρ, w, e, Post.seq w.ch p fun dx s1 x Z1 C1 H1 w1 n1 r1 p1 => ?_⟩
  obtain ⟨ds, hd, q⟩ := post_liftG w1 p1
  cases dx <;> (try (cases hd; done))
  cases hd
  cases r1 with
  | lst a b c => exact ⟨_, rfl, ⟨_, SqL.of (w1.zh _ _ a)⟩, q _ (it_list a b c)⟩
theorem di_str {e : Expr} {f : Env → M B D} (h : DE cl B md W X e f) : DI cl B md W X tg e fun ρ => M.bind (f ρ) fun x => lift (strI x) := by
  refine PI.weak (pi_str h) fun σ H Q ⟨Z, C, s, ρ, w, e, p⟩ => ?_
  refine ⟨Z, C, s, ρ, w, e, Post.seq w.ch p fun dx s1 x Z1 C1 H1 w1 n1 r1 p1 => ?_⟩
  obtain ⟨ds, hd, q⟩ := post_liftG w1 p1
  cases dx <;> (try (cases hd; done))
  cases hd
  cases r1 with
  | str a b => exact ⟨_, rfl, q _ (it_str a b)⟩
/-- whatever it is -/
theorem bind_case {α β : Type} {m : M B α} {k k' : α → M B β} {s : B.T} (h : ∀ a s1, m s = .ok a s1 → k a = k' a) : M.bind m k s = M.bind m k' s := by
  unfold M.bind
  cases e : m s with
  | ok a s1 => simp only [h a s1 e]
  | err x s1 => rfl
  | stuck => rfl
theorem di_any {e : Expr} {f : Env → M B D} (h : DE cl B md W X e f) : DI cl B md W X tg e fun ρ => M.bind (f ρ) fun x => lift (anyI x) := by
  refine PI.weak (PI.or (di_tup (tg := tg) h) (PI.or (di_list (tg := tg) h) (di_str (tg := tg) h))) fun σ H Q ⟨Z, C, s, ρ, w, e, p⟩ => ?_
  cases ef : f ρ s with
  | stuck => refine .inl ⟨Z, C, s, ρ, w, e, ?_⟩; unfold M.bind at p ⊢; simp only [ef] at p ⊢; exact p
  | err x s1 => refine .inl ⟨Z, C, s, ρ, w, e, ?_⟩; unfold M.bind at p ⊢; simp only [ef] at p ⊢; exact p
  | ok d s1 =>
    cases d with
    | lst xs => refine .inr (.inl ⟨Z, C, s, ρ, w, e, ?_⟩); unfold M.bind at p ⊢; simp only [ef] at p ⊢; exact p
    | str xs => refine .inr (.inr ⟨Z, C, s, ρ, w, e, ?_⟩); unfold M.bind at p ⊢; simp only [ef] at p ⊢; exact p
    | tup xs => refine .inl ⟨Z, C, s, ρ, w, e, ?_⟩; unfold M.bind at p ⊢; simp only [ef] at p ⊢; exact p
    | _ => refine .inl ⟨Z, C, s, ρ, w, e, ?_⟩; unfold M.bind at p ⊢; simp only [ef] at p ⊢; exact p
def range1 : D → Option (List D)
  | .int j => if -100000 ≤ j ∧ j ≤ 100000 then some ((List.range j.toNat).map fun i : Nat => .int (i : Int)) else none
  | _ => none
def range2 : D → D → Option (List D)
  | .int i, .int j => if -100000 ≤ i ∧ i ≤ 100000 ∧ -100000 ≤ j ∧ j ≤ 100000 then some ((List.range (j - i).toNat).map fun k : Nat => .int (i + (k : Int))) else none
  | _, _ => none
theorem toNat_small {j : Int} (h : j ≤ 200000) : j.toNat ≤ sizeLine := by rw [sizeLine_eq]; omega
theorem di_range1 {a : Expr} {f : Env → M B D} {p pos : Pos} (hg : Gl X "range") (hm : X.mg "range" = none) (ha : DE cl B md W X a f) (hs : starEach [a] X.env = [(false, eval a X.env)] := by rfl) :
    DI cl B md W X tg (.Call (.Name "range" p) [a] [] pos) fun ρ => M.bind (f ρ) fun x => lift (range1 x) := by
  refine PI.weak (pi_range1 hg hm (pa_cons ha pa_nil hs) hs) fun σ H Q ⟨Z, C, s, ρ, w, e, p⟩ => ?_
  refine ⟨Z, C, s, ρ, w, e, Post.seq w.ch p fun dx s1 x Z1 C1 H1 w1 n1 r1 p1 => ?_⟩
  obtain ⟨ds, hd, q⟩ := post_liftG w1 p1
  unfold range1 at hd
  split at hd
  · split at hd <;> cases hd
    rename_i j hj
    cases r1
    refine ⟨j, rfl, by omega, by omega, ?_⟩
    have := it_range (K := X.K) (cl := cl) (Z := Z1) (lo := 0) (n := j.toNat) (toNat_small (by omega))
    have e0 : ((List.range j.toNat).map fun i : Nat => D.int (0 + (i : Int))) = (List.range j.toNat).map fun i : Nat => D.int (i : Int) := List.map_congr_left fun i _ => by rw [Int.zero_add]
    rw [e0] at this
    exact q _ this
  · cases hd
theorem di_range2 {a b : Expr} {f g : Env → M B D} {p pos : Pos} (hg : Gl X "range") (hm : X.mg "range" = none) (ha : DE cl B md W X a f) (hb : DE cl B md W X b g) (hs : starEach [a, b] X.env = [(false, eval a X.env), (false, eval b X.env)] := by rfl) (hs2 : starEach [b] X.env = [(false, eval b X.env)] := by rfl) :
    DI cl B md W X tg (.Call (.Name "range" p) [a, b] [] pos) fun ρ => M.bind (f ρ) fun x => M.bind (g ρ) fun y => lift (range2 x y) := by
  refine PI.weak (pi_range2 hg hm (pa_cons ha (pa_cons hb pa_nil hs2) (hs.trans (by rw [hs2]))) hs hs2) fun σ H Q ⟨Z, C, s, ρ, w, e, p⟩ => ?_
  refine ⟨Z, C, s, ρ, w, e, Post.seq w.ch p fun dx s1 x Z1 C1 H1 w1 n1 r1 p1 => ?_⟩
  refine ⟨Z1, C1, s1, ρ, w1, e.mono n1.zz, Post.seq w1.ch p1 fun dy s2 y Z2 C2 H2 w2 n2 r2 p2 => ?_⟩
  obtain ⟨ds, hd, q⟩ := post_liftG w2 p2
  unfold range2 at hd
  split at hd
  · split at hd <;> cases hd
    rename_i i j hj
    cases r1; cases r2
    exact ⟨i, j, rfl, by omega, q _ (it_range (toNat_small (by omega)))⟩
  · cases hd
/-- enumerate(list or tuple) -/
theorem di_enumT {a : Expr} {f : Env → M B D} {elts : List Expr} {kk : Nat} {tpos p pos : Pos} (hg : Gl X "enumerate") (hm : X.mg "enumerate" = none) (ha : DE cl B md W X a f) (hs : starEach [a] X.env = [(false, eval a X.env)] := by rfl) :
    DI cl B md W X (.Tuple elts kk tpos) (.Call (.Name "enumerate" p) [a] [] pos) fun ρ => M.bind (f ρ) fun x => lift (enumTI x) := by
  refine PI.weak (pi_enumT hg hm (pa_cons ha pa_nil hs) hs) fun σ H Q ⟨Z, C, s, ρ, w, e, p⟩ => ?_
  refine ⟨Z, C, s, ρ, w, e, Post.seq w.ch p fun dx s1 x Z1 C1 H1 w1 n1 r1 p1 => ?_⟩
  obtain ⟨ds, hd, q⟩ := post_liftG w1 p1
  cases dx <;> (try (cases hd; done))
  cases hd
  cases r1 with
  | tup a b c =>
    refine ⟨_, _, rfl, sub_t w1.zh a, q _ ?_⟩
    exact it_enum b c (walk_enumT.mono (fun H s => sub_t s a) fun _ _ _ _ _ _ y => y)
theorem di_enumL {a : Expr} {f : Env → M B D} {elts : List Expr} {kk : Nat} {tpos p pos : Pos} (hg : Gl X "enumerate") (hm : X.mg "enumerate" = none) (ha : DE cl B md W X a f) (hs : starEach [a] X.env = [(false, eval a X.env)] := by rfl) :
    DI cl B md W X (.Tuple elts kk tpos) (.Call (.Name "enumerate" p) [a] [] pos) fun ρ => M.bind (f ρ) fun x => lift (enumLI x) := by
  refine PI.weak (pi_enum hg hm (pa_cons ha pa_nil hs) hs) fun σ H Q ⟨Z, C, s, ρ, w, e, p⟩ => ?_
  refine ⟨Z, C, s, ρ, w, e, Post.seq w.ch p fun dx s1 x Z1 C1 H1 w1 n1 r1 p1 => ?_⟩
  obtain ⟨ds, hd, q⟩ := post_liftG w1 p1
  cases dx <;> (try (cases hd; done))
  cases hd
  cases r1 with
  | lst a b c =>
    refine ⟨_, _, rfl, SqL.of (w1.zh _ _ a), q _ ?_⟩
    exact it_enum b c (walk_enum.mono (fun H s => SqL.of ((show Sub Z1 H from s) _ _ a)) fun _ _ _ _ _ _ y => y)
theorem di_enum {a : Expr} {f : Env → M B D} {elts : List Expr} {kk : Nat} {tpos p pos : Pos} (hg : Gl X "enumerate") (hm : X.mg "enumerate" = none) (ha : DE cl B md W X a f) (hs : starEach [a] X.env = [(false, eval a X.env)] := by rfl) :
    DI cl B md W X (.Tuple elts kk tpos) (.Call (.Name "enumerate" p) [a] [] pos) fun ρ => M.bind (f ρ) fun x => lift (enumI x) := by
  refine PI.weak (PI.or (di_enumT hg hm ha hs) (di_enumL hg hm ha hs)) fun σ H Q ⟨Z, C, s, ρ, w, e, p⟩ => ?_
  cases ef : f ρ s with
  | stuck => refine .inl ⟨Z, C, s, ρ, w, e, ?_⟩; unfold M.bind at p ⊢; simp only [ef] at p ⊢; exact p
  | err x s1 => refine .inl ⟨Z, C, s, ρ, w, e, ?_⟩; unfold M.bind at p ⊢; simp only [ef] at p ⊢; exact p
  | ok d s1 =>
    cases d with
    | lst xs => refine .inr ⟨Z, C, s, ρ, w, e, ?_⟩; unfold M.bind at p ⊢; simp only [ef] at p ⊢; exact p
    | _ => refine .inl ⟨Z, C, s, ρ, w, e, ?_⟩; unfold M.bind at p ⊢; simp only [ef] at p ⊢; exact p
/-- zip of two tuples; of two lists -/
theorem di_zipT {a b : Expr} {f g : Env → M B D} {elts : List Expr} {kk : Nat} {tpos p pos : Pos} (hg : Gl X "zip") (hm : X.mg "zip" = none) (ha : DE cl B md W X a f) (hb : DE cl B md W X b g)
    (hs : starEach [a, b] X.env = (false, eval a X.env) :: starEach [b] X.env := by rfl) (hs2 : starEach [b] X.env = [(false, eval b X.env)] := by rfl) (hpl : (backTo pos (starEach [b] X.env)).any (·.1) = false := by rfl) :
    DI cl B md W X (.Tuple elts kk tpos) (.Call (.Name "zip" p) [a, b] [] pos) fun ρ => M.bind (f ρ) fun x => M.bind (g ρ) fun y => lift (zipTI x y) := by
  refine PI.weak (pi_zipA hg hm (pa_cons ha (pa_cons hb pa_nil hs2) hs) hs hpl) fun σ H Q ⟨Z, C, s, ρ, w, e, p⟩ => ?_
  refine ⟨Z, C, s, ρ, w, e, Post.seq w.ch p fun dx s1 x Z1 C1 H1 w1 n1 r1 p1 => ?_⟩
  refine ⟨Z1, C1, s1, ρ, w1, e.mono n1.zz, Post.seq w1.ch p1 fun dy s2 y Z2 C2 H2 w2 n2 r2 p2 => ?_⟩
  obtain ⟨ds, hd, q⟩ := post_liftG w2 p2
  cases dx <;> (try (cases hd; done))
  cases dy <;> (try (cases hd; done))
  cases hd
  have r1 := r1.mono n2.zz
  cases r1 with
  | tup a b c =>
    cases r2 with
    | tup a' b' c' =>
      refine ⟨_, _, _, _, rfl, .inr ⟨sub_t w2.zh a, sub_t w2.zh a', q _ ?_⟩⟩
      exact it_zip b c c' ((walk_zipT rfl).mono (fun H s => ⟨sub_t s a, sub_t s a'⟩) fun _ _ _ _ _ _ y => y)
theorem di_zipL {a b : Expr} {f g : Env → M B D} {elts : List Expr} {kk : Nat} {tpos p pos : Pos} (hg : Gl X "zip") (hm : X.mg "zip" = none) (ha : DE cl B md W X a f) (hb : DE cl B md W X b g)
    (hs : starEach [a, b] X.env = (false, eval a X.env) :: starEach [b] X.env := by rfl) (hs2 : starEach [b] X.env = [(false, eval b X.env)] := by rfl) (hpl : (backTo pos (starEach [b] X.env)).any (·.1) = false := by rfl) :
    DI cl B md W X (.Tuple elts kk tpos) (.Call (.Name "zip" p) [a, b] [] pos) fun ρ => M.bind (f ρ) fun x => M.bind (g ρ) fun y => lift (zipLI x y) := by
  refine PI.weak (pi_zipA hg hm (pa_cons ha (pa_cons hb pa_nil hs2) hs) hs hpl) fun σ H Q ⟨Z, C, s, ρ, w, e, p⟩ => ?_
  refine ⟨Z, C, s, ρ, w, e, Post.seq w.ch p fun dx s1 x Z1 C1 H1 w1 n1 r1 p1 => ?_⟩
  refine ⟨Z1, C1, s1, ρ, w1, e.mono n1.zz, Post.seq w1.ch p1 fun dy s2 y Z2 C2 H2 w2 n2 r2 p2 => ?_⟩
  obtain ⟨ds, hd, q⟩ := post_liftG w2 p2
  cases dx <;> (try (cases hd; done))
  cases dy <;> (try (cases hd; done))
  cases hd
  have r1 := r1.mono n2.zz
  cases r1 with
  | lst a b c =>
    cases r2 with
    | lst a' b' c' =>
      refine ⟨_, _, _, _, rfl, .inl ⟨SqL.of (w2.zh _ _ a), SqL.of (w2.zh _ _ a'), q _ ?_⟩⟩
      exact it_zip b c c' ((walk_zip rfl).mono (fun H s => ⟨SqL.of (s _ _ a), SqL.of (s _ _ a')⟩) fun _ _ _ _ _ _ y => y)
theorem di_zip {a b : Expr} {f g : Env → M B D} {elts : List Expr} {kk : Nat} {tpos p pos : Pos} (hg : Gl X "zip") (hm : X.mg "zip" = none) (ha : DE cl B md W X a f) (hb : DE cl B md W X b g)
    (hs : starEach [a, b] X.env = (false, eval a X.env) :: starEach [b] X.env := by rfl) (hs2 : starEach [b] X.env = [(false, eval b X.env)] := by rfl) (hpl : (backTo pos (starEach [b] X.env)).any (·.1) = false := by rfl) :
    DI cl B md W X (.Tuple elts kk tpos) (.Call (.Name "zip" p) [a, b] [] pos) fun ρ => M.bind (f ρ) fun x => M.bind (g ρ) fun y => lift (zipI x y) := by
  refine PI.weak (PI.or (di_zipT hg hm ha hb hs hs2 hpl) (di_zipL hg hm ha hb hs hs2 hpl)) fun σ H Q ⟨Z, C, s, ρ, w, e, p⟩ => ?_
  cases ef : f ρ s with
  | stuck => refine .inl ⟨Z, C, s, ρ, w, e, ?_⟩; unfold M.bind at p ⊢; simp only [ef] at p ⊢; exact p
  | err x s1 => refine .inl ⟨Z, C, s, ρ, w, e, ?_⟩; unfold M.bind at p ⊢; simp only [ef] at p ⊢; exact p
  | ok d s1 =>
    cases eg : g ρ s1 with
    | stuck => refine .inl ⟨Z, C, s, ρ, w, e, ?_⟩; unfold M.bind at p ⊢; simp only [ef, eg] at p ⊢; exact p
    | err x s1 => refine .inl ⟨Z, C, s, ρ, w, e, ?_⟩; unfold M.bind at p ⊢; simp only [ef, eg] at p ⊢; exact p
    | ok d' s2 =>
      cases d with
      | lst xs => 
        cases d' with
        | lst ys => refine .inr ⟨Z, C, s, ρ, w, e, ?_⟩; unfold M.bind at p ⊢; simp only [ef, eg] at p ⊢; exact p
        | _ => refine .inl ⟨Z, C, s, ρ, w, e, ?_⟩; unfold M.bind at p ⊢; simp only [ef, eg] at p ⊢; exact p
      | tup xs =>
        cases d' with
        | tup ys => refine .inl ⟨Z, C, s, ρ, w, e, ?_⟩; unfold M.bind at p ⊢; simp only [ef, eg] at p ⊢; exact p
        | _ => refine .inl ⟨Z, C, s, ρ, w, e, ?_⟩; unfold M.bind at p ⊢; simp only [ef, eg] at p ⊢; exact p
      | _ => refine .inl ⟨Z, C, s, ρ, w, e, ?_⟩; unfold M.bind at p ⊢; simp only [ef, eg] at p ⊢; exact p
end
end DN
set_option Elab.async false
set_option linter.all false
set_option maxRecDepth 100000
set_option maxHeartbeats 4000000
namespace DN
open PySem PySem.Spec PyProof.Rows L2 RZ
variable {B : Sto}
/-! ## new objects of one's own -/
def OwnR (K : PySem.W.Frag) (cl : CTab) (Z H : Hp) (a : Addr) : D → Prop
  | .lst ds => ∃ vs, H a = some (.lst vs) ∧ vs.length ≤ sizeLine ∧ RepL K cl Z vs ds
  | .dct ks ds => ∃ kvs : List (Key × V), H a = some (.dK kvs) ∧ ks = kvs.map (fun p => keyD p.1) ∧ KNd kvs ∧ RepL K cl Z (kvs.map (·.2)) ds
  | .ins c ds => ∃ (C dx : Addr) (fs : List (Str × V)) (names : List Str), cl c = some (C, names) ∧ H a = some (.ins C dx fs) ∧ fs.map (·.1) = names.take ds.length ∧ RepL K cl Z (fs.map (·.2)) ds
  | _ => False
theorem OwnR.move {K : PySem.W.Frag} {cl : CTab} {Z Z' H H' : Hp} {a : Addr} (h : Sub Z Z') (hh : ∀ o, H a = some o → H' a = some o) : ∀ {d : D}, OwnR K cl Z H a d → OwnR K cl Z' H' a d
  | .lst ds, ⟨vs, a, b, c⟩ => ⟨vs, hh _ a, b, c.mono h⟩
  | .dct ks ds, ⟨vs, a, b, c, e⟩ => ⟨vs, hh _ a, b, c, e.mono h⟩
  | .ins c ds, ⟨C, dx, fs, ns, a, b, c1, e⟩ => ⟨C, dx, fs, ns, a, hh _ b, c1, e.mono h⟩
theorem OwnR.mono {K : PySem.W.Frag} {cl : CTab} {Z Z' H : Hp} {a : Addr} (h : Sub Z Z') {d : D} (o : OwnR K cl Z H a d) : OwnR K cl Z' H a d := o.move h fun _ e => e
section
variable {K : PySem.W.Frag} {cl : CTab} {md : Bool} {W : WX} {σ : L2.St} {Z C H Z1 C1 H1 : Hp}
def PostO (K : PySem.W.Frag) (cl : CTab) (md : Bool) (W : WX) (σ : L2.St) (Z C H : Hp) (r : Res B.T D) (Q : VK) : Prop :=
  match r with
  | .ok d s => ∀ a Z' C' H', Wd B md Z' C' H' s → Nx Z C H Z' C' H' → H a = none → Z' a = none → C' a = none → OwnR K cl Z' H' a d → Q (.ref a) H'
  | .err x s => ∀ c dx Z' C' H', Wd B md Z' C' H' s → Nx Z C H Z' C' H' → ExR K cl Z' x c dx H' → W c dx σ H'
  | .stuck => False
theorem Nx.back (n : Nx Z C H Z1 C1 H1) (c1 : Sub C1 H1) {a : Addr} (h : H1 a = none) : H a = none := by
  cases q : H a with
  | none => rfl
  | some o =>
    cases c : C a with
    | none => rw [n.hh a o q c] at h; cases h
    | some u =>
      obtain ⟨u1, e1⟩ := ne_some (n.cp a (some_ne c))
      rw [c1 a u1 e1] at h; cases h
theorem PostO.step {r : Res B.T D} {Q : VK} (n : Nx Z C H Z1 C1 H1) (c0 : Sub C H) (c1 : Sub C1 H1) (h : PostO K cl md W σ Z C H r Q) : PostO K cl md W σ Z1 C1 H1 r Q := by
  cases r with
  | ok a s => exact fun v Z' C' H' w m f => h v Z' C' H' w (n.trans c0 c1 m) (n.back c1 f)
  | err x s => exact fun c dx Z' C' H' w m => h c dx Z' C' H' w (n.trans c0 c1 m)
  | stuck => exact h
theorem PostO.seq {υ α : Type} {Rp : Hp → υ → α → Prop} {m : M B α} {k : α → M B D} {s : B.T} {Q : VK} {Q1 : υ → Hp → Prop} (c0 : Sub C H) (h : PostO K cl md W σ Z C H (M.bind m k s) Q)
    (hk : ∀ a s1 v Z1 C1 H1, Wd B md Z1 C1 H1 s1 → Nx Z C H Z1 C1 H1 → Rp Z1 v a → PostO K cl md W σ Z1 C1 H1 (k a s1) Q → Q1 v H1) : Post K cl md Rp W σ Z C H (m s) Q1 := by
  unfold M.bind at h
  cases e : m s with
  | ok a s1 =>
    rw [e] at h
    exact fun v Z1 C1 H1 w n r => hk a s1 v Z1 C1 H1 w n r (PostO.step n c0 w.ch h)
  | err x s1 =>
    rw [e] at h
    exact h
  | stuck =>
    rw [e] at h
    exact h
theorem Nx.own (n : Nx Z C H Z1 C1 H1) {a : Addr} {o : HO} (h : H a = some o) (z : Z a = none) (c : C a = none) : H1 a = some o ∧ Z1 a = none ∧ C1 a = none := by
  refine ⟨n.hh a o h c, ?_, ?_⟩
  · cases q : Z1 a with
    | none => rfl
    | some u =>
      rcases n.zf a (some_ne q) with e | e
      · exact absurd z e
      · rw [h] at e; cases e
  · cases q : C1 a with
    | none => rfl
    | some u =>
      rcases n.cf a (some_ne q) with e | e
      · exact absurd c e
      · rw [h] at e; cases e
theorem Wd.mut {s : B.T} (w : Wd B md Z C H s) {a : Addr} {o : HO} (z : Z a = none) (c : C a = none) : Wd B md Z C (upd H a o) s :=
  ⟨fun x u e => by rw [upd_ne (ne_of_none e z)]; exact w.zh x u e, fun x u e => by rw [upd_ne (ne_of_none e c)]; exact w.ch x u e, w.dj, w.sr, w.zd⟩
theorem Nx.mut (n : Nx Z C H Z1 C1 H1) {a : Addr} {o : HO} (h : H a = none) : Nx Z C H Z1 C1 (upd H1 a o) :=
  ⟨n.zz, fun x u e c => by rw [upd_ne (ne_of_none e h)]; exact n.hh x u e c, n.zf, n.cf, n.cp, n.zd⟩
end
section
variable (cl : CTab) (B : Sto) (md : Bool) (W : WX) (X : Cx)
def tO (f : Env → M B D) : TE := fun σ H Q => ∃ Z C s ρ, Wd B md Z C H s ∧ EnvR X.K cl Z ρ σ ∧ PostO X.K cl md W σ Z C H (f ρ s) Q
def DX (e : Expr) (f : Env → M B D) : Prop := PE X e (tO cl B md W X f)
end
theorem PE.imp {X : Cx} {e : Expr} {t : TE} (h : PE X e t) : PE X e t := h
section
variable {cl : CTab} {md : Bool} {W : WX} {X : Cx}
/-- a new list, never changed again -/
theorem own_core {f : Env → M B D} (hl : ∀ ρ s d s', f ρ s = .ok d s' → ∃ ds, d = .lst ds) {σ : L2.St} {H : Hp} {Q : VK} (h : tG X.K cl B md (RpD X.K cl) W f σ H Q) : tO cl B md W X f σ H Q := by
  obtain ⟨Z, C, s, ρ, w, e, p⟩ := h
  refine ⟨Z, C, s, ρ, w, e, ?_⟩
  cases ef : f ρ s with
  | ok d s1 =>
    obtain ⟨ds, rfl⟩ := hl ρ s d s1 ef
    rw [ef] at p
    rintro a Z1 C1 H1 w1 n1 ha hz hc ⟨vs, h1, h2, h3⟩
    have z1 : Sub Z1 (upd Z1 a (.lst vs)) := Sub.upd hz
    refine p (.ref a) (upd Z1 a (.lst vs)) C1 H1 ⟨fun x u e => ?_, w1.ch, fun x e => ?_, B.mono w1.sr z1.imm, fun m x kvs e => ?_⟩ ⟨n1.zz.trans z1, n1.hh, fun x e => ?_, n1.cf, n1.cp, fun x kvs e => ?_⟩ (.lst upd_same h2 (h3.mono z1))
    · by_cases hx : x = a
      · subst hx; rw [upd_same] at e; cases e; exact h1
      · rw [upd_ne hx] at e; exact w1.zh x u e
    · by_cases hx : x = a
      · subst hx; exact absurd hc e
      · rw [upd_ne hx]; exact w1.dj x e
    · by_cases hx : x = a
      · subst hx; rw [upd_same] at e; cases e
      · rw [upd_ne hx] at e; exact w1.zd m x kvs e
    · by_cases hx : x = a
      · subst hx; exact .inr ha
      · rw [upd_ne hx] at e; exact n1.zf x e
    · by_cases hx : x = a
      · subst hx; rw [upd_same] at e; cases e
      · rw [upd_ne hx] at e; exact n1.zd x kvs e
  | err x s1 => rw [ef] at p; exact p
  | stuck => rw [ef] at p; exact p
theorem de_of_list {e : Expr} {f : Env → M B D} (h : DX cl B md W X e f) (hl : ∀ ρ s d s', f ρ s = .ok d s' → ∃ ds, d = .lst ds) : DE cl B md W X e f := PE.weak h fun σ H Q q => own_core hl q
/-! displays -/
theorem dx_lst {es : List Expr} {pos : Pos} {f : Env → M B (List D)} (h : DA cl B md W X es f) (hn : es.length ≤ 1000 := by decide) :
    DX cl B md W X (.List es pos) fun ρ => M.bind (f ρ) fun xs => M.pure (.lst xs) := by
  refine PE.weak (pe_lst h) fun σ H Q ⟨Z, C, s, ρ, w, e, p⟩ => ?_
  refine ⟨Z, C, s, ρ, w, e, PostO.seq w.ch p fun ds s1 xs Z1 C1 H1 w1 n1 r1 p1 => ?_⟩
  have hlen : xs.length ≤ sizeLine := by rw [r1.1.len, r1.2, sizeLine_eq]; omega
  refine ⟨hlen, fun q hq => ?_⟩
  have z := none_of_sub w1.zh hq
  have c := none_of_sub w1.ch hq
  exact p1 q Z1 C1 _ (w1.mut z c) ((Nx.refl ..).mut hq) hq z c ⟨xs, upd_same, hlen, r1.1⟩
theorem de_lst {es : List Expr} {pos : Pos} {f : Env → M B (List D)} (h : DA cl B md W X es f) (hn : es.length ≤ 1000 := by decide) :
    DE cl B md W X (.List es pos) fun ρ => M.bind (f ρ) fun xs => M.pure (.lst xs) :=
  de_of_list (dx_lst h hn) fun ρ s d s' e => by
    unfold M.bind at e
    cases ef : f ρ s with
    | ok a s1 => simp only [ef] at e; cases e; exact ⟨_, rfl⟩
    | err x s1 => simp only [ef] at e; cases e
    | stuck => simp only [ef] at e; cases e
end
/-! ## comprehensions -/
def noErr {α : Type} (m : M B α) : M B α := fun s => match m s with
  | .ok a s' => .ok a s'
  | _ => .stuck
def consO {α : Type} : Option α → List α → List α
  | some a, r => a :: r
  | none, r => r
def compL {α β : Type} (f : α → M B (Option β)) : List α → M B (List β)
  | [] => M.pure []
  | d :: ds => M.bind (f d) fun o => M.bind (compL f ds) fun r => M.pure (consO o r)
def compF (a : D → Option Asg) (t : Env → M B Bool) (e : Env → M B D) (ρ : Env) (d : D) : M B (Option D) :=
  noErr (M.bind (lift ((a d).map (setsE ρ))) fun ρ' => M.bind (t ρ') fun k => if k = true then M.bind (e ρ') fun x => M.pure (some x) else M.pure none)
def wipeE (ρ : Env) : List Nat → Env
  | [] => ρ
  | v :: vs => (wipeE ρ vs).set v none
theorem EnvR.wipe {K : PySem.W.Frag} {cl : CTab} {Z : Hp} {ρ : Env} {σ : L2.St} (e : EnvR K cl Z ρ σ) : ∀ own : List Nat, EnvR K cl Z (wipeE ρ own) (L2.wipe σ own)
  | [] => e
  | v :: vs => by
    have ih := EnvR.wipe e vs
    refine ⟨by simp [wipeE, L2.wipe, ih.len], fun i d q => ?_⟩
    by_cases hi : v = i
    · subst hi
      unfold wipeE at q
      by_cases hl : v < (wipeE ρ vs).length
      · rw [List.getElem?_set_self hl] at q; cases q
      · rw [List.getElem?_eq_none (by simpa using hl)] at q; cases q
    · unfold wipeE at q
      rw [List.getElem?_set_ne hi] at q
      obtain ⟨u, h1, h2⟩ := ih.get i d q
      exact ⟨u, by unfold L2.wipe; rw [List.getElem?_set_ne hi]; exact h1, h2⟩
abbrev W0 : WX := fun _ _ _ _ => False
def DTs (cl : CTab) (B : Sto) (md : Bool) (X : Cx) (ifs : List Expr) (t : Env → M B Bool) : Prop := PTs X ifs (tG X.K cl B md RpE W0 t)
theorem PTs.weak {X : Cx} {e : List Expr} {t t' : TT} (h : PTs X e t) (w : ∀ σ H Q, t' σ H Q → t σ H Q) : PTs X e t' := ⟨fun pins s σ H Q I q => h.run pins s σ H Q I (w σ H Q q)⟩
theorem dts_nil {cl : CTab} {md : Bool} {X : Cx} : DTs cl B md X [] (fun _ => M.pure true) := PTs.weak pts_nil fun σ H Q ⟨Z, C, s, ρ, w, e, p⟩ => p true Z C H w (.refl ..) rfl
theorem dts_one {cl : CTab} {md : Bool} {X : Cx} {c : Expr} {t : Env → M B Bool} (h : DT cl B md W0 X c t) : DTs cl B md X [c] t := pts_one h
theorem wipe_none {τ : L2.St} {a : Nat} : ∀ (m : List Nat), a ∈ m → (L2.wipe τ m).set a none = L2.wipe τ m
  | [], h => by simp at h
  | c :: m, h => by
    show ((L2.wipe τ m).set c none).set a none = (L2.wipe τ m).set c none
    by_cases hac : a = c
    · subst hac; rw [List.set_set]
    · rw [List.set_comm _ _ (fun z => hac z.symm), wipe_none m ((List.mem_cons.mp h).resolve_left hac)]
theorem wipe_sub {τ : L2.St} {m : List Nat} : ∀ (l : List Nat), (∀ x ∈ l, x ∈ m) → L2.wipe (L2.wipe τ m) l = L2.wipe τ m
  | [], _ => rfl
  | a :: l, h => by
    show (L2.wipe (L2.wipe τ m) l).set a none = L2.wipe τ m
    rw [wipe_sub l (fun x hx => h x (List.mem_cons_of_mem _ hx))]
    exact wipe_none m (h a List.mem_cons_self)
theorem compL_step {α β γ : Type} {f : α → M B (Option β)} {d : α} {ds : List α} {k : List β → M B γ} {s : B.T} : M.bind (compL f (d :: ds)) k s = (match f d s with
    | .ok o s' => M.bind (compL f ds) (fun r => k (consO o r)) s'
    | .err x s' => .err x s'
    | .stuck => .stuck) := by
  simp only [compL, M.bind]
  cases f d s with
  | ok o s' =>
    simp only
    cases compL f ds s' <;> rfl
  | err x s' => rfl
  | stuck => rfl
section
variable {cl : CTab} {md : Bool} {W : WX} {X : Cx}
theorem comp_core {own : List (Str × Nat)} {src : Env → M B (List D)} {b : D → Option Asg} {t : Env → M B Bool} {fe : Env → M B D} (hin : TgIn (own.map (·.2)) b) {σ : L2.St} {H : Hp} {Q : VK}
    (h : tO cl B md W X (fun ρ => M.bind (src ρ) fun ds => M.bind (compL (compF b t fe (wipeE ρ (own.map (·.2)))) ds) fun r => M.pure (D.lst r)) σ H Q) :
    tLc (tG X.K cl B md (RpI X.K cl) W src) (tDG X.K cl b) (tG X.K cl B md RpE W0 t) (tG X.K cl B md (RpD X.K cl) W0 fe) (own.map (·.2)) σ H Q := by
  obtain ⟨Z, C, s, ρ, w, e, p⟩ := h
  refine ⟨Z, C, s, ρ, w, e, PostO.seq w.ch p fun ds s1 J Z1 C1 H1 w1 n1 r1 p1 => ?_⟩
  intro Dd hD
  have zD := none_of_sub w1.zh hD
  have cD := none_of_sub w1.ch hD
  have e1 := e.mono n1.zz
  refine lc_it r1.1 (fun i H => ∃ Zi Ci si vacc acc, Wd B md Zi Ci H si ∧ Nx Z1 C1 H1 Zi Ci H ∧ H Dd = some (.lst vacc) ∧ Zi Dd = none ∧ Ci Dd = none ∧ RepL X.K cl Zi vacc acc ∧ vacc.length ≤ i ∧ PostO X.K cl md W σ Z1 C1 H1 (M.bind (compL (compF b t fe (wipeE ρ (own.map (·.2)))) (ds.drop i)) (fun r => M.pure (.lst (acc ++ r))) si) Q)
    ⟨Z1, C1, s1, [], [], w1.mut zD cD, (Nx.refl ..).mut hD, upd_same, zD, cD, .nil, Nat.le_refl _, by simpa using p1⟩ (fun i H hi ⟨Zi, Ci, si, vacc, acc, wi, ni, _⟩ => ni.zz.trans wi.zh) ?_ ?_
  · rintro i x H2 H2' hi ⟨Zi, Ci, si, vacc, acc, wi, ni, hDi, zi, ci, ri, li, pi⟩ ⟨d, hd, hy⟩
    obtain ⟨Zc, al, rx⟩ := hy Zi ni.zz wi.zh
    have hdr : ds.drop i = d :: ds.drop (i + 1) := by
      have hlt : i < ds.length := hi
      rw [List.drop_eq_getElem_cons hlt]
      have : ds[i] = d := by
        rw [List.getElem?_eq_getElem hlt] at hd
        exact Option.some.inj hd
      rw [this]
    rw [hdr, compL_step] at pi
    have wc := al.wd wi
    have nc := ni.trans w1.ch wi.ch al.nx
    have hDc : H2' Dd = some (.lst vacc) := al.hh _ _ hDi
    have zc : Zc Dd = none := by
      cases q : Zc Dd with
      | none => rfl
      | some u =>
        rcases al.zf Dd (some_ne q) with z | z
        · exact absurd zi z
        · rw [hDi] at z; cases z
    -- what the turn does
    have ew := (e1.mono (ni.zz.trans al.zz)).wipe (own.map (·.2))
    cases hb : b d with
    | none =>
      exfalso
      have hf : compF b t fe (wipeE ρ (own.map (·.2))) d si = .stuck := by simp only [compF, M.bind, noErr, lift, hb, Option.map_none]
      rw [hf] at pi
      exact pi
    | some as =>
      refine ⟨Zc, d, as, wc.zh, rx, hb, fun vs2 a2 => ?_⟩
      have e2 := ew.sets a2
      generalize hρ' : setsE (wipeE ρ (own.map (·.2))) as = ρ' at e2
      have wσ : L2.wipe (setsV (L2.wipe σ (own.map (·.2))) vs2) (own.map (·.2)) = L2.wipe σ (own.map (·.2)) := by
        rw [wipe_sets vs2 _ (asgR_mem a2 (hin d as hb))]
        exact wipe_sub _ (fun _ h => h)
      refine ⟨wσ, Zc, Ci, si, ρ', wc, e2, ?_⟩
      cases et : t ρ' si with
      | stuck =>
        exfalso
        have hf : compF b t fe (wipeE ρ (own.map (·.2))) d si = .stuck := by simp only [compF, M.bind, noErr, lift, M.pure, hb, Option.map_some, hρ', et]
        rw [hf] at pi
        exact pi
      | err xx s2 =>
        exfalso
        have hf : compF b t fe (wipeE ρ (own.map (·.2))) d si = .stuck := by simp only [compF, M.bind, noErr, lift, M.pure, hb, Option.map_some, hρ', et]
        rw [hf] at pi
        exact pi
      | ok k s2 =>
        rintro k' Z3 C3 H3 w3 n3 rfl
        have n3' := nc.trans w1.ch wc.ch n3
        obtain ⟨hD3, z3, c3⟩ := n3.own hDc zc ci
        cases k' with
        | false =>
          refine ⟨Z3, C3, s2, vacc, acc, w3, n3', hD3, z3, c3, (ri.mono al.zz).mono n3.zz, Nat.le_succ_of_le li, ?_⟩
          have hf : compF b t fe (wipeE ρ (own.map (·.2))) d si = .ok none s2 := by simp [compF, M.bind, noErr, lift, M.pure, hb, hρ', et]
          rw [hf] at pi
          exact pi
        | true =>
          refine ⟨Z3, C3, s2, ρ', w3, e2.mono n3.zz, ?_⟩
          cases ee : fe ρ' s2 with
          | stuck =>
            exfalso
            have hf : compF b t fe (wipeE ρ (own.map (·.2))) d si = .stuck := by simp [compF, M.bind, noErr, lift, M.pure, hb, hρ', et, ee]
            rw [hf] at pi
            exact pi
          | err xx s3 =>
            exfalso
            have hf : compF b t fe (wipeE ρ (own.map (·.2))) d si = .stuck := by simp [compF, M.bind, noErr, lift, M.pure, hb, hρ', et, ee]
            rw [hf] at pi
            exact pi
          | ok y s3 =>
            intro vy Z4 C4 H4 w4 n4 ry
            obtain ⟨hD4, z4, c4⟩ := n4.own hD3 z3 c3
            have n4' := n3'.trans w1.ch w3.ch n4
            have lz : vacc.length < sizeLine := Nat.lt_of_le_of_lt li (Nat.lt_of_lt_of_le hi r1.2)
            refine ⟨vacc, hD4, lz, Z4, C4, s3, vacc ++ [vy], acc ++ [y], w4.mut z4 c4, n4'.mut hD, upd_same, z4, c4, (((ri.mono al.zz).mono n3.zz).mono n4.zz).append (.cons ry .nil), by rw [List.length_append]; simpa using li, ?_⟩
            have hf : compF b t fe (wipeE ρ (own.map (·.2))) d si = .ok (some y) s3 := by simp [compF, M.bind, noErr, lift, M.pure, hb, hρ', et, ee]
            rw [hf] at pi
            simpa [consO] using pi
  · rintro H2 ⟨Zi, Ci, si, vacc, acc, wi, ni, hDi, zi, ci, ri, li, pi⟩
    rw [List.drop_length] at pi
    have pi' : PostO X.K cl md W σ Z1 C1 H1 (.ok (.lst (acc ++ [])) si) Q := pi
    rw [List.append_nil] at pi'
    exact pi' Dd Zi Ci H2 wi ni hD zi ci ⟨vacc, hDi, Nat.le_trans li r1.2, ri⟩
theorem dx_comp {elt tg iter : Expr} {ifs : List Expr} {scope : Scope} {own : List (Str × Nat)} {pos : Pos} {src : Env → M B (List D)} {b : D → Option Asg} {t : Env → M B Bool} {fe : Env → M B D} (hc : X.calm = true) (hN : X.N.Nodup)
    (hi : DI cl B md W X tg iter src) (ok : BlkOk X.N X.env.scope scope own)
    (hg : ∀ (s : Shared) (H : Hp) (C : Addr) (cs : List (Str × Addr)) (fp : List Addr), DG cl (X.blk s H scope (compEnvC scope cs C X.env) fp) tg b) (hin : TgIn (own.map (·.2)) b)
    (ht : ∀ (s : Shared) (H : Hp) (C : Addr) (cs : List (Str × Addr)) (fp : List Addr), DTs cl B md (X.blk s H scope (compEnvC scope cs C X.env) fp) ifs t)
    (he : ∀ (s : Shared) (H : Hp) (C : Addr) (cs : List (Str × Addr)) (fp : List Addr), DE cl B md W0 (X.blk s H scope (compEnvC scope cs C X.env) fp) elt fe) (hs : ∀ x, foldedSetIterable iter X.env x = pure x := by intro _; rfl) :
    DX cl B md W X (.ListComp elt [⟨tg, iter, ifs, 0⟩] scope pos) fun ρ => M.bind (src ρ) fun ds => M.bind (compL (compF b t fe (wipeE ρ (own.map (·.2)))) ds) fun r => M.pure (.lst r) :=
  PE.weak (pe_lc (g := tDG X.K cl b) (tt := tG X.K cl B md RpE W0 t) (te := tG X.K cl B md (RpD X.K cl) W0 fe) hc hN hi ok hg ht he hs) fun σ H Q q => comp_core hin q
theorem comp_list {own : List (Str × Nat)} {src : Env → M B (List D)} {b : D → Option Asg} {t : Env → M B Bool} {fe : Env → M B D} : ∀ (ρ : Env) (s : B.T) (d : D) (s' : B.T), (fun ρ => M.bind (src ρ) fun ds => M.bind (compL (compF b t fe (wipeE ρ (own.map (·.2)))) ds) fun r => M.pure (D.lst r) : Env → M B D) ρ s = .ok d s' → ∃ ds, d = D.lst ds := fun ρ s d s' e => by
    unfold M.bind at e
    cases ef : src ρ s with
    | ok a s1 =>
      simp only [ef] at e
      cases eg : compL (compF b t fe (wipeE ρ (own.map (·.2)))) a s1 with
      | ok r s2 => simp only [eg] at e; cases e; exact ⟨_, rfl⟩
      | err x s2 => simp only [eg] at e; cases e
      | stuck => simp only [eg] at e; cases e
    | err x s1 => simp only [ef] at e; cases e
    | stuck => simp only [ef] at e; cases e
theorem de_comp {elt tg iter : Expr} {ifs : List Expr} {scope : Scope} {own : List (Str × Nat)} {pos : Pos} {src : Env → M B (List D)} {b : D → Option Asg} {t : Env → M B Bool} {fe : Env → M B D} (hc : X.calm = true) (hN : X.N.Nodup)
    (hi : DI cl B md W X tg iter src) (ok : BlkOk X.N X.env.scope scope own)
    (hg : ∀ (s : Shared) (H : Hp) (C : Addr) (cs : List (Str × Addr)) (fp : List Addr), DG cl (X.blk s H scope (compEnvC scope cs C X.env) fp) tg b) (hin : TgIn (own.map (·.2)) b)
    (ht : ∀ (s : Shared) (H : Hp) (C : Addr) (cs : List (Str × Addr)) (fp : List Addr), DTs cl B md (X.blk s H scope (compEnvC scope cs C X.env) fp) ifs t)
    (he : ∀ (s : Shared) (H : Hp) (C : Addr) (cs : List (Str × Addr)) (fp : List Addr), DE cl B md W0 (X.blk s H scope (compEnvC scope cs C X.env) fp) elt fe) (hs : ∀ x, foldedSetIterable iter X.env x = pure x := by intro _; rfl) :
    DE cl B md W X (.ListComp elt [⟨tg, iter, ifs, 0⟩] scope pos) fun ρ => M.bind (src ρ) fun ds => M.bind (compL (compF b t fe (wipeE ρ (own.map (·.2)))) ds) fun r => M.pure (.lst r) :=
  de_of_list (dx_comp hc hN hi ok hg hin ht he hs) comp_list
end
end DN
set_option Elab.async false
set_option linter.all false
set_option maxRecDepth 100000
set_option maxHeartbeats 4000000
namespace DN
open PySem PySem.Spec PyProof.Rows L2 RZ
variable {B : Sto}
/-! ## what a frame owns: a list or a dict, and lists and dicts in it -/
/-- a list or dict of one's own within one's own -/
abbrev D.mt (d : D) : D := .ins "" [d]
def D.isMut : D → Bool
  | .ins c _ => decide (c = "")
  | _ => false
def D.strip : D → D
  | .ins c [.lst ds] => if c = "" then .lst (ds.attach.map fun x => D.strip x.1) else .ins c [.lst ds]
  | .ins c [.dct ks ds] => if c = "" then .dct ks (ds.attach.map fun x => D.strip x.1) else .ins c [.dct ks ds]
  | d => d
termination_by d => sizeOf d
decreasing_by
  all_goals
    have := List.sizeOf_lt_of_mem x.2
    simp
    omega
abbrev D.stripL (ds : List D) : List D := ds.map D.strip
theorem strip_lst {ds : List D} : (D.mt (.lst ds)).strip = .lst (D.stripL ds) := by
  rw [D.strip, if_pos rfl]
  simp
theorem strip_dct {ks ds : List D} : (D.mt (.dct ks ds)).strip = .dct ks (D.stripL ds) := by
  rw [D.strip, if_pos rfl]
  simp
theorem strip_leaf {d : D} (h : d.isMut = false) : d.strip = d := by
  unfold D.strip
  split
  · rename_i c ds
    have : ¬ c = "" := by simpa [D.isMut] using h
    rw [if_neg this]
  · rename_i c ks ds
    have : ¬ c = "" := by simpa [D.isMut] using h
    rw [if_neg this]
  · rfl
theorem stripL_leaf {ds : List D} (h : ∀ d ∈ ds, d.isMut = false) : D.stripL ds = ds :=
  (List.map_congr_left fun d hd => strip_leaf (h d hd)).trans (List.map_id' ds)
mutual
/-- v stands for d; the lists and dicts that are one's own stand at places of F -/
inductive OwnT (K : PySem.W.Frag) (cl : CTab) (Z H : Hp) : (Addr → Prop) → V → D → Prop
  | leaf {F : Addr → Prop} {v : V} {d : D} : d.isMut = false → Rep K cl Z v d → OwnT K cl Z H F v d
  | lst {F : Addr → Prop} {a : Addr} {vs : List V} {ds : List D} : F a → H a = some (.lst vs) → vs.length ≤ sizeLine → OwnTL K cl Z H (fun x => F x ∧ x ≠ a) vs ds → OwnT K cl Z H F (.ref a) (.ins "" [.lst ds])
  | dct {F : Addr → Prop} {a : Addr} {kvs : List (Key × V)} {ks ds : List D} : F a → H a = some (.dK kvs) → ks = kvs.map (fun p => keyD p.1) → KNd kvs → OwnTL K cl Z H (fun x => F x ∧ x ≠ a) (kvs.map (·.2)) ds →
      OwnT K cl Z H F (.ref a) (.ins "" [.dct ks ds])
inductive OwnTL (K : PySem.W.Frag) (cl : CTab) (Z H : Hp) : (Addr → Prop) → List V → List D → Prop
  | nil {F : Addr → Prop} : OwnTL K cl Z H F [] []
  | cons {F F1 F2 : Addr → Prop} {v : V} {vs : List V} {d : D} {ds : List D} : (∀ x, F1 x → F x) → (∀ x, F2 x → F x) → (∀ x, F1 x → F2 x → False) → OwnT K cl Z H F1 v d → OwnTL K cl Z H F2 vs ds → OwnTL K cl Z H F (v :: vs) (d :: ds)
end
section
variable {K : PySem.W.Frag} {cl : CTab} {Z Z' H H' : Hp}
theorem OwnTL.fmono {F F' : Addr → Prop} {vs : List V} {ds : List D} (h : ∀ x, F x → F' x) (o : OwnTL K cl Z H F vs ds) : OwnTL K cl Z H F' vs ds := by
  cases o with
  | nil => exact .nil
  | cons a b c d e => exact .cons (fun x q => h x (a x q)) (fun x q => h x (b x q)) c d e
theorem OwnT.fmono {F F' : Addr → Prop} {v : V} {d : D} (h : ∀ x, F x → F' x) (o : OwnT K cl Z H F v d) : OwnT K cl Z H F' v d := by
  cases o with
  | leaf i r => exact .leaf i r
  | lst a b c t => exact .lst (h _ a) b c (t.fmono fun x q => ⟨h x q.1, q.2⟩)
  | dct a b c n t => exact .dct (h _ a) b c n (t.fmono fun x q => ⟨h x q.1, q.2⟩)
theorem own_move (h : Sub Z Z') :
    (∀ {F : Addr → Prop} {v : V} {d : D}, OwnT K cl Z H F v d → (∀ x o, F x → H x = some o → H' x = some o) → OwnT K cl Z' H' F v d) ∧
    (∀ {F : Addr → Prop} {vs : List V} {ds : List D}, OwnTL K cl Z H F vs ds → (∀ x o, F x → H x = some o → H' x = some o) → OwnTL K cl Z' H' F vs ds) := by
  let m1 : ∀ (F : Addr → Prop) (v : V) (d : D), OwnT K cl Z H F v d → Prop := fun F v d _ => (∀ x o, F x → H x = some o → H' x = some o) → OwnT K cl Z' H' F v d
  let m2 : ∀ (F : Addr → Prop) (vs : List V) (ds : List D), OwnTL K cl Z H F vs ds → Prop := fun F vs ds _ => (∀ x o, F x → H x = some o → H' x = some o) → OwnTL K cl Z' H' F vs ds
  have c1 : ∀ {F : Addr → Prop} {v : V} {d : D} (i : d.isMut = false) (r : Rep K cl Z v d), m1 F v d (.leaf i r) := fun i r _ => .leaf i (r.mono h)
  have c2 : ∀ {F : Addr → Prop} {a : Addr} {vs : List V} {ds : List D} (fa : F a) (ha : H a = some (.lst vs)) (l : vs.length ≤ sizeLine) (t : OwnTL K cl Z H (fun x => F x ∧ x ≠ a) vs ds), m2 _ _ _ t → m1 F (.ref a) (.ins "" [.lst ds]) (.lst fa ha l t) :=
    fun fa ha l t ih hh => .lst fa (hh _ _ fa ha) l (ih fun x o q => hh x o q.1)
  have c3 : ∀ {F : Addr → Prop} {a : Addr} {kvs : List (Key × V)} {ks ds : List D} (fa : F a) (ha : H a = some (.dK kvs)) (e : ks = kvs.map (fun p => keyD p.1)) (n : KNd kvs) (t : OwnTL K cl Z H (fun x => F x ∧ x ≠ a) (kvs.map (·.2)) ds), m2 _ _ _ t → m1 F (.ref a) (.ins "" [.dct ks ds]) (.dct fa ha e n t) :=
    fun fa ha e n t ih hh => .dct fa (hh _ _ fa ha) e n (ih fun x o q => hh x o q.1)
  have c4 : ∀ {F : Addr → Prop}, m2 F [] [] .nil := fun _ => .nil
  have c5 : ∀ {F F1 F2 : Addr → Prop} {v : V} {vs : List V} {d : D} {ds : List D} (a : ∀ x, F1 x → F x) (b : ∀ x, F2 x → F x) (c : ∀ x, F1 x → F2 x → False) (o : OwnT K cl Z H F1 v d) (t : OwnTL K cl Z H F2 vs ds), m1 _ _ _ o → m2 _ _ _ t → m2 F (v :: vs) (d :: ds) (.cons a b c o t) :=
    fun a b c o t i1 i2 hh => .cons a b c (i1 fun x o q => hh x o (a x q)) (i2 fun x o q => hh x o (b x q))
  exact ⟨fun o => OwnT.rec (motive_1 := m1) (motive_2 := m2) c1 c2 c3 c4 c5 o, fun o => OwnTL.rec (motive_1 := m1) (motive_2 := m2) c1 c2 c3 c4 c5 o⟩
theorem OwnT.move (h : Sub Z Z') {F : Addr → Prop} {v : V} {d : D} (o : OwnT K cl Z H F v d) (hh : ∀ x o, F x → H x = some o → H' x = some o) : OwnT K cl Z' H' F v d := (own_move h).1 o hh
theorem OwnTL.move (h : Sub Z Z') {F : Addr → Prop} {vs : List V} {ds : List D} (o : OwnTL K cl Z H F vs ds) (hh : ∀ x o, F x → H x = some o → H' x = some o) : OwnTL K cl Z' H' F vs ds := (own_move h).2 o hh
/-- given away -/
theorem own_rep (h : Sub Z Z') :
    (∀ {F : Addr → Prop} {v : V} {d : D}, OwnT K cl Z H F v d → (∀ x o, F x → H x = some o → Z' x = some o) → Rep K cl Z' v d.strip) ∧
    (∀ {F : Addr → Prop} {vs : List V} {ds : List D}, OwnTL K cl Z H F vs ds → (∀ x o, F x → H x = some o → Z' x = some o) → RepL K cl Z' vs (D.stripL ds)) := by
  let m1 : ∀ (F : Addr → Prop) (v : V) (d : D), OwnT K cl Z H F v d → Prop := fun F v d _ => (∀ x o, F x → H x = some o → Z' x = some o) → Rep K cl Z' v d.strip
  let m2 : ∀ (F : Addr → Prop) (vs : List V) (ds : List D), OwnTL K cl Z H F vs ds → Prop := fun F vs ds _ => (∀ x o, F x → H x = some o → Z' x = some o) → RepL K cl Z' vs (D.stripL ds)
  have c1 : ∀ {F : Addr → Prop} {v : V} {d : D} (i : d.isMut = false) (r : Rep K cl Z v d), m1 F v d (.leaf i r) := fun i r _ => by rw [strip_leaf i]; exact r.mono h
  have c2 : ∀ {F : Addr → Prop} {a : Addr} {vs : List V} {ds : List D} (fa : F a) (ha : H a = some (.lst vs)) (l : vs.length ≤ sizeLine) (t : OwnTL K cl Z H (fun x => F x ∧ x ≠ a) vs ds), m2 _ _ _ t → m1 F (.ref a) (.ins "" [.lst ds]) (.lst fa ha l t) :=
    fun fa ha l t ih hh => by rw [strip_lst]; exact .lst (hh _ _ fa ha) l (ih fun x o q => hh x o q.1)
  have c3 : ∀ {F : Addr → Prop} {a : Addr} {kvs : List (Key × V)} {ks ds : List D} (fa : F a) (ha : H a = some (.dK kvs)) (e : ks = kvs.map (fun p => keyD p.1)) (n : KNd kvs) (t : OwnTL K cl Z H (fun x => F x ∧ x ≠ a) (kvs.map (·.2)) ds), m2 _ _ _ t → m1 F (.ref a) (.ins "" [.dct ks ds]) (.dct fa ha e n t) :=
    fun fa ha e n t ih hh => by rw [strip_dct]; exact .dct (.inl (hh _ _ fa ha)) e n (ih fun x o q => hh x o q.1)
  have c4 : ∀ {F : Addr → Prop}, m2 F [] [] .nil := fun _ => .nil
  have c5 : ∀ {F F1 F2 : Addr → Prop} {v : V} {vs : List V} {d : D} {ds : List D} (a : ∀ x, F1 x → F x) (b : ∀ x, F2 x → F x) (c : ∀ x, F1 x → F2 x → False) (o : OwnT K cl Z H F1 v d) (t : OwnTL K cl Z H F2 vs ds), m1 _ _ _ o → m2 _ _ _ t → m2 F (v :: vs) (d :: ds) (.cons a b c o t) :=
    fun a b c o t i1 i2 hh => .cons (i1 fun x o q => hh x o (a x q)) (i2 fun x o q => hh x o (b x q))
  exact ⟨fun o => OwnT.rec (motive_1 := m1) (motive_2 := m2) c1 c2 c3 c4 c5 o, fun o => OwnTL.rec (motive_1 := m1) (motive_2 := m2) c1 c2 c3 c4 c5 o⟩
theorem OwnT.rep (h : Sub Z Z') {F : Addr → Prop} {v : V} {d : D} (o : OwnT K cl Z H F v d) (hh : ∀ x o, F x → H x = some o → Z' x = some o) : Rep K cl Z' v d.strip := (own_rep h).1 o hh
theorem OwnTL.len : ∀ {vs : List V} {F : Addr → Prop} {ds : List D}, OwnTL K cl Z H F vs ds → vs.length = ds.length
  | [], _, _, o => by cases o; rfl
  | v :: vs, _, _, o => by
    cases o with
    | cons a b c d e => simp [OwnTL.len e]
theorem OwnTL.ofRep {F : Addr → Prop} : ∀ {vs : List V} {ds : List D}, (∀ d ∈ ds, d.isMut = false) → RepL K cl Z vs ds → OwnTL K cl Z H F vs ds
  | [], _, _, r => by cases r; exact .nil
  | v :: vs, _, h, r => by
    cases r with
    | cons a b => exact .cons (F1 := fun _ => False) (F2 := F) (fun _ q => q.elim) (fun _ q => q) (fun _ q _ => q) (.leaf (h _ List.mem_cons_self) a) (OwnTL.ofRep (fun d hd => h d (List.mem_cons_of_mem _ hd)) b)
/-- one more -/
theorem OwnTL.snoc {F2 : Addr → Prop} {v : V} {d : D} (o : OwnT K cl Z H F2 v d) : ∀ {vs : List V} {F : Addr → Prop} {ds : List D}, (∀ x, F x → F2 x → False) → OwnTL K cl Z H F vs ds → OwnTL K cl Z H (fun x => F x ∨ F2 x) (vs ++ [v]) (ds ++ [d])
  | [], F, _, dj, t => by
    cases t
    exact .cons (F1 := F2) (F2 := fun _ => False) (fun _ q => .inr q) (fun _ q => q.elim) (fun _ _ q => q) o .nil
  | u :: vs, F, _, dj, t => by
    cases t with
    | cons a b c e f =>
      rename_i F1 F3 d1 ds1
      exact .cons (F1 := F1) (F2 := fun x => F3 x ∨ F2 x) (fun x q => .inl (a x q)) (fun x q => q.elim (fun q => .inl (b x q)) .inr) (fun x q1 q2 => q2.elim (c x q1) (dj x (a x q1))) e (OwnTL.snoc o (fun x q => dj x (b x q)) f)
theorem OwnTL.app {F : Addr → Prop} : ∀ {vs ws : List V} {ds es : List D}, OwnTL K cl Z H F vs ds → (∀ d ∈ es, d.isMut = false) → RepL K cl Z ws es → OwnTL K cl Z H F (vs ++ ws) (ds ++ es) := by
  intro vs
  induction vs generalizing F with
  | nil => intro ws ds es t h r; cases t; exact OwnTL.ofRep h r
  | cons u vs ih =>
    intro ws ds es t h r
    cases t with
    | cons a b c e f => exact .cons a b c e (ih f h r)
/-- one of them, and what becomes of the whole if it changes -/
theorem OwnTL.at : ∀ {vs : List V} {F : Addr → Prop} {ds : List D} {i : Nat} {d : D}, OwnTL K cl Z H F vs ds → ds[i]? = some d → ∃ (v : V) (F1 : Addr → Prop), vs[i]? = some v ∧ (∀ x, F1 x → F x) ∧ OwnT K cl Z H F1 v d ∧
    ∀ (H' : Hp) (v' : V) (d' : D) (F' : Addr → Prop), (∀ x o, F x → ¬ F1 x → H x = some o → H' x = some o) → OwnT K cl Z H' F' v' d' → (∀ x, F' x → F x → F1 x) → OwnTL K cl Z H' (fun x => F x ∨ F' x) (vs.set i v') (ds.set i d')
  | [], _, _, _, _, t, e => by cases t; simp at e
  | u :: vs, F, _, 0, d, t, e => by
    cases t with
    | cons a b c o f =>
      rename_i F1 F2 d1 ds1
      simp at e
      subst e
      refine ⟨u, F1, rfl, a, o, fun H' v' d' F' hh o' dj => ?_⟩
      exact .cons (F1 := F') (F2 := F2) (fun x q => .inr q) (fun x q => .inl (b x q)) (fun x q1 q2 => c x (dj x q1 (b x q2)) q2) o' (f.move (.refl _) fun x ob q => hh x ob (b x q) fun z => c x z q)
  | u :: vs, F, _, i + 1, d, t, e => by
    cases t with
    | cons a b c o f =>
      rename_i F1 F2 d1 ds1
      obtain ⟨v, F3, h1, h2, h3, h4⟩ := OwnTL.at (i := i) f (by simpa using e)
      refine ⟨v, F3, by simpa using h1, fun x q => b x (h2 x q), h3, fun H' v' d' F' hh o' dj => ?_⟩
      exact .cons (F1 := F1) (F2 := fun x => F2 x ∨ F' x) (fun x q => .inl (a x q)) (fun x q => q.elim (fun q => .inl (b x q)) .inr) (fun x q1 q2 => q2.elim (c x q1) fun q2 => c x q1 (h2 x (dj x q2 (a x q1))))
        (o.move (.refl _) fun x ob q => hh x ob (a x q) fun z => c x q (h2 x z)) (h4 H' v' d' F' (fun x ob q => hh x ob (b x q)) o' fun x q1 q2 => dj x q1 (b x q2))
/-- a list or dict of one's own, known from its making -/
theorem OwnR.tree {a : Addr} {d : D} (o : OwnR K cl Z H a d) (h : match d with | .lst ds => ∀ e ∈ ds, e.isMut = false | .dct _ ds => ∀ e ∈ ds, e.isMut = false | _ => False) : OwnT K cl Z H (fun x => x = a) (.ref a) (.ins "" [d]) := by
  cases d with
  | lst ds => obtain ⟨vs, h1, h2, h3⟩ := o; exact .lst rfl h1 h2 (.ofRep h h3)
  | dct ks ds => obtain ⟨kvs, h1, h2, h3, h4⟩ := o; exact .dct rfl h1 h2 h3 (.ofRep h h4)
  | _ => exact False.elim h
end
/-! ## expressions that may give something of one's own -/
section
variable {K : PySem.W.Frag} {cl : CTab} {md : Bool} {W : WX} {σ : L2.St} {Z C H Z1 C1 H1 : Hp}
def PostM (K : PySem.W.Frag) (cl : CTab) (md : Bool) (W : WX) (σ : L2.St) (Z C H : Hp) (r : Res B.T D) (Q : VK) : Prop :=
  match r with
  | .ok d s => ∀ v (F : Addr → Prop) Z' C' H', Wd B md Z' C' H' s → Nx Z C H Z' C' H' → (∀ x, F x → H x = none ∧ Z' x = none ∧ C' x = none ∧ ∃ o, H' x = some o ∧ immO o = false) → OwnT K cl Z' H' F v d → Q v H'
  | .err x s => ∀ c dx Z' C' H', Wd B md Z' C' H' s → Nx Z C H Z' C' H' → ExR K cl Z' x c dx H' → W c dx σ H'
  | .stuck => False
theorem PostM.step {r : Res B.T D} {Q : VK} (n : Nx Z C H Z1 C1 H1) (c0 : Sub C H) (c1 : Sub C1 H1) (h : PostM K cl md W σ Z C H r Q) : PostM K cl md W σ Z1 C1 H1 r Q := by
  cases r with
  | ok a s => exact fun v F Z' C' H' w m f => h v F Z' C' H' w (n.trans c0 c1 m) fun x hx => ⟨n.back c1 (f x hx).1, (f x hx).2⟩
  | err x s => exact fun c dx Z' C' H' w m => h c dx Z' C' H' w (n.trans c0 c1 m)
  | stuck => exact h
theorem PostM.seq {υ α : Type} {Rp : Hp → υ → α → Prop} {m : M B α} {k : α → M B D} {s : B.T} {Q : VK} {Q1 : υ → Hp → Prop} (c0 : Sub C H) (h : PostM K cl md W σ Z C H (M.bind m k s) Q)
    (hk : ∀ a s1 v Z1 C1 H1, Wd B md Z1 C1 H1 s1 → Nx Z C H Z1 C1 H1 → Rp Z1 v a → PostM K cl md W σ Z1 C1 H1 (k a s1) Q → Q1 v H1) : Post K cl md Rp W σ Z C H (m s) Q1 := by
  unfold M.bind at h
  cases e : m s with
  | ok a s1 =>
    rw [e] at h
    exact fun v Z1 C1 H1 w n r => hk a s1 v Z1 C1 H1 w n r (PostM.step n c0 w.ch h)
  | err x s1 => rw [e] at h; exact h
  | stuck => rw [e] at h; exact h
end
section
variable (cl : CTab) (B : Sto) (md : Bool) (W : WX) (X : Cx)
def tM (f : Env → M B D) : TE := fun σ H Q => ∃ Z C s ρ, Wd B md Z C H s ∧ EnvR X.K cl Z ρ σ ∧ PostM X.K cl md W σ Z C H (f ρ s) Q
def DM (e : Expr) (f : Env → M B D) : Prop := PE X e (tM cl B md W X f)
end
def flatB : D → Bool
  | .lst ds => ds.all fun d => !d.isMut
  | .dct _ ds => ds.all fun d => !d.isMut
  | _ => false
section
variable {cl : CTab} {md : Bool} {W : WX} {X : Cx}
theorem dm_of_de {e : Expr} {f : Env → M B D} (h : DE cl B md W X e f) : DM cl B md W X e fun ρ => M.bind (f ρ) fun d => guardM (!d.isMut) (M.pure d) := by
  refine PE.weak h fun σ H Q ⟨Z, C, s, ρ, w, e, p⟩ => ⟨Z, C, s, ρ, w, e, PostM.seq w.ch p fun d s1 v Z1 C1 H1 w1 n1 r1 p1 => ?_⟩
  unfold guardM at p1
  split at p1
  · rename_i hd
    exact p1 v (fun _ => False) Z1 C1 H1 w1 (.refl ..) (fun _ q => q.elim) (.leaf (by simpa using hd) r1)
  · exact False.elim p1
theorem dm_of_dx {e : Expr} {f : Env → M B D} (h : DX cl B md W X e f) : DM cl B md W X e fun ρ => M.bind (f ρ) fun d => guardM (flatB d) (M.pure (.ins "" [d])) := by
  refine PE.weak h fun σ H Q ⟨Z, C, s, ρ, w, e, p⟩ => ⟨Z, C, s, ρ, w, e, ?_⟩
  unfold M.bind at p
  cases ef : f ρ s with
  | stuck => simp only [ef] at p; exact p
  | err x s1 => simp only [ef] at p; exact p
  | ok d s1 =>
    simp only [ef] at p
    intro a Z1 C1 H1 w1 n1 ha hz hc o
    unfold guardM at p
    split at p
    · rename_i hd
      have o2 := o
      refine p (.ref a) (fun x => x = a) Z1 C1 H1 w1 n1 (fun x hx => ?_) (OwnR.tree o ?_)
      · have hx : x = a := hx
        subst hx
        refine ⟨ha, hz, hc, ?_⟩
        cases d with
        | lst ds => obtain ⟨vs, h1, _⟩ := o2; exact ⟨_, h1, rfl⟩
        | dct ks ds => obtain ⟨vs, h1, _⟩ := o2; exact ⟨_, h1, rfl⟩
        | _ => cases hd
      · cases d with
        | lst ds => exact fun e he => by simpa using List.all_eq_true.mp hd e he
        | dct ks ds => exact fun e he => by simpa using List.all_eq_true.mp hd e he
        | _ => cases hd
    · exact False.elim p
theorem de_of_dm {e : Expr} {f : Env → M B D} (h : DM cl B md W X e f) : DE cl B md W X e fun ρ => M.bind (f ρ) fun d => M.pure d.strip := by
  refine PE.weak h fun σ H Q ⟨Z, C, s, ρ, w, e, p⟩ => ⟨Z, C, s, ρ, w, e, ?_⟩
  unfold M.bind at p
  cases ef : f ρ s with
  | stuck => simp only [ef] at p; exact p
  | err x s1 => simp only [ef] at p; exact p
  | ok d s1 =>
    simp only [ef] at p
    intro v F Z1 C1 H1 w1 n1 hF o
    classical
    let Z2 : Hp := fun x => if F x then H1 x else Z1 x
    have zin : ∀ x, F x → Z2 x = H1 x := fun x hx => if_pos hx
    have zout : ∀ x, ¬ F x → Z2 x = Z1 x := fun x hx => if_neg hx
    have zz : Sub Z1 Z2 := fun x ob e => by
      by_cases hx : F x
      · rw [(hF x hx).2.1] at e; cases e
      · rw [zout x hx]; exact e
    refine p v Z2 C1 H1 ⟨fun x ob e => ?_, w1.ch, fun x e => ?_, B.mono w1.sr zz.imm, fun _ _ _ _ => trivial⟩ ⟨n1.zz.trans zz, n1.hh, fun x e => ?_, n1.cf, n1.cp, fun _ _ _ => trivial⟩ (o.rep zz fun x ob hx ho => (zin x hx).trans ho)
    · by_cases hx : F x
      · rw [zin x hx] at e; exact e
      · rw [zout x hx] at e; exact w1.zh x ob e
    · by_cases hx : F x
      · exact absurd (hF x hx).2.2.1 e
      · rw [zout x hx]; exact w1.dj x e
    · by_cases hx : F x
      · exact .inr (hF x hx).1
      · rw [zout x hx] at e; exact n1.zf x e
/-- a call of a def that may give something of one's own -/
def spDO (K : PySem.W.Frag) (cl : CTab) (B : Sto) (n : Nat) (f : List D → M B D) : Sp := fun vs H Q E =>
  ∃ Z C s ds, Wd B true Z C H s ∧ RepL K cl Z vs ds ∧ ds.length = n ∧ PostM (B := B) K cl true (fun c dx _ H' => E c dx H') [] Z C H (f ds s) Q
theorem spDO_len {K : PySem.W.Frag} {n : Nat} {f : List D → M B D} {ps : List Str} (hn : ps.length = n) : ∀ vs H Q E, spDO K cl B n f vs H Q E → vs.length = ps.length := by
  rintro vs H Q E ⟨Z, C, s, ds, _, r, l, _⟩
  rw [r.len, l, hn]
theorem dm_call {k n : Nat} {g : Addr} {fd : FuncData} {ps : List Str} {f : List D → M B D} {x : Str} {e : Expr} {es : List Expr} {fa : Env → M B (List D)} {p pos : Pos} (F : FnOk X.prog X.w X.K X.mg X.base (L2.CX X.prog X.w) k g fd ps (spDO X.K cl B n f)) (hr : Room k X.A)
    (hg : Gl X x) (hm : X.mg x = some (.ref g)) (hk : PySem.W.keepIn X.K (.ref g) = true) (hb : Binds X.K fd ps []) (tk : Takes X W) (ha : DA cl B true W X (e :: es) fa) (hn : (e :: es).length = n)
    (hdb : (x == ("__debug__" : Str)) = false := by decide) (he : starEach (e :: es) X.env = (false, eval e X.env) :: starEach es X.env := by rfl) (hpl : (backTo pos (starEach es X.env)).any (·.1) = false := by rfl) :
    DM cl B true W X (.Call (.Name x p) (e :: es) [] pos) fun ρ => M.bind (fa ρ) f := by
  refine PE.weak (pe_callS F hr hg hm hk hb (fun σ => passAt tk σ) ha hdb he hpl) fun σ H Q ⟨Z, C, s, ρ, w, e, p⟩ => ?_
  refine ⟨Z, C, s, ρ, w, e, PostM.seq w.ch p fun dxs s1 xs Z1 C1 H1 w1 n1 r1 p1 => ?_⟩
  refine ⟨Z1, C1, s1, dxs, w1, r1.1, r1.2.trans hn, ?_⟩
  cases hf : f dxs s1 with
  | ok d s2 => rw [hf] at p1; exact p1
  | err x s2 => rw [hf] at p1; exact p1
  | stuck => rw [hf] at p1; exact p1
end
end DN
set_option Elab.async false
set_option linter.all false
set_option maxRecDepth 100000
set_option maxHeartbeats 4000000
namespace DN
open PySem PySem.Spec PyProof.Rows L2 RZ
variable {B : Sto}
/-! ## statements -/
inductive Sl where
  | no | val (d : D) | own (d : D)
abbrev SEnv := List Sl
inductive Fl where
  | nx (ρ : SEnv) | rt (d : D) | bk (ρ : SEnv) | ct (ρ : SEnv) | ro (d : D)
structure SRel (K : PySem.W.Frag) (cl : CTab) (Z C H H0 : Hp) (ρ : SEnv) (σ : L2.St) (α : Nat → Addr → Prop) : Prop where
  len : ρ.length = σ.length
  val : ∀ (i : Nat) (d : D), ρ[i]? = some (.val d) → ∃ v, σ[i]? = some (some v) ∧ Rep K cl Z v d
  own : ∀ (i : Nat) (d : D), ρ[i]? = some (.own d) → ∃ v, σ[i]? = some (some v) ∧ OwnT K cl Z H (α i) v (.ins "" [d])
  fp : ∀ (i : Nat) (d : D) (x : Addr), ρ[i]? = some (.own d) → α i x → H0 x = none ∧ Z x = none ∧ C x = none ∧ ∃ o, H x = some o ∧ immO o = false
  dj : ∀ (i j : Nat) (d e : D) (x : Addr), ρ[i]? = some (.own d) → ρ[j]? = some (.own e) → α i x → α j x → i = j
def PostS (K : PySem.W.Frag) (cl : CTab) (W : WX) (Z0 C0 H0 : Hp) (r : Res B.T Fl) (E : Ends) : Prop :=
  match r with
  | .ok (.nx ρ) s => ∀ σ Z C H α, Wd B true Z C H s → Nx Z0 C0 H0 Z C H → SRel K cl Z C H H0 ρ σ α → E.nx σ H
  | .ok (.bk ρ) s => ∀ σ Z C H α, Wd B true Z C H s → Nx Z0 C0 H0 Z C H → SRel K cl Z C H H0 ρ σ α → E.bk σ H
  | .ok (.ct ρ) s => ∀ σ Z C H α, Wd B true Z C H s → Nx Z0 C0 H0 Z C H → SRel K cl Z C H H0 ρ σ α → E.ct σ H
  | .ok (.rt d) s => ∀ v Z C H, Wd B true Z C H s → Nx Z0 C0 H0 Z C H → Rep K cl Z v d → E.rt v H
  | .ok (.ro d) s => ∀ v (F : Addr → Prop) Z C H, Wd B true Z C H s → Nx Z0 C0 H0 Z C H → (∀ x, F x → H0 x = none ∧ Z x = none ∧ C x = none ∧ ∃ o, H x = some o ∧ immO o = false) → OwnT K cl Z H F v (.ins "" [d]) → E.rt v H
  | .err x s => ∀ c dx σ Z C H, Wd B true Z C H s → Nx Z0 C0 H0 Z C H → ExR K cl Z x c dx H → W c dx σ H
  | .stuck => False
def tS (K : PySem.W.Frag) (cl : CTab) (B : Sto) (W : WX) (F : SEnv → M B Fl) : TS := fun E σ H => ∃ Z0 C0 H0 Z C s ρ α, Sub C0 H0 ∧ Wd B true Z C H s ∧ Nx Z0 C0 H0 Z C H ∧ SRel K cl Z C H H0 ρ σ α ∧ PostS K cl W Z0 C0 H0 (F ρ s) E
def DS (cl : CTab) (B : Sto) (W : WX) (X : Cx) (st : Stmt) (F : SEnv → M B Fl) : Prop := PS X st (tS X.K cl B W F)
def DSs (cl : CTab) (B : Sto) (W : WX) (X : Cx) (st : List Stmt) (F : SEnv → M B Fl) : Prop := PSs X st (tS X.K cl B W F)
theorem PS.weak {X : Cx} {st : Stmt} {t t' : TS} (h : PS X st t) (w : ∀ D σ H, t' D σ H → t D σ H) : PS X st t' := ⟨fun pins s σ H D I q => h.run pins s σ H D I (w D σ H q)⟩
theorem PSs.weak {X : Cx} {st : List Stmt} {t t' : TS} (h : PSs X st t) (w : ∀ D σ H, t' D σ H → t D σ H) : PSs X st t' := ⟨fun pins s σ H D I q => h.run pins s σ H D I (w D σ H q)⟩
/-- one, then the other -/
def seqF (F G : SEnv → M B Fl) : SEnv → M B Fl := fun ρ => M.bind (F ρ) fun fl => match fl with
  | .nx ρ' => G ρ'
  | o => M.pure o
section
variable {cl : CTab} {W : WX} {X : Cx}
theorem dss_nil : DSs cl B W X [] (fun ρ => M.pure (.nx ρ)) := PSs.weak pss_nil fun E σ H ⟨Z0, C0, H0, Z, C, s, ρ, α, c0, w, n, r, p⟩ => p σ Z C H α w n r
theorem dss_one {st : Stmt} {F : SEnv → M B Fl} (h : DS cl B W X st F) : DSs cl B W X [st] F := pss_one h
theorem dss_cons {st : Stmt} {rest : List Stmt} {F G : SEnv → M B Fl} (h : DS cl B W X st F) (t : DSs cl B W X rest G) : DSs cl B W X (st :: rest) (seqF F G) := by
  refine PSs.weak (pss_cons h t) fun E σ H ⟨Z0, C0, H0, Z, C, s, ρ, α, c0, w, n, r, p⟩ => ?_
  refine ⟨Z0, C0, H0, Z, C, s, ρ, α, c0, w, n, r, ?_⟩
  unfold seqF M.bind at p
  cases hF : F ρ s with
  | stuck => simp only [hF] at p; exact p
  | err x s1 => simp only [hF] at p; exact p
  | ok fl s1 =>
    simp only [hF] at p
    cases fl with
    | nx ρ1 => exact fun σ1 Z1 C1 H1 α1 w1 n1 r1 => ⟨Z0, C0, H0, Z1, C1, s1, ρ1, α1, c0, w1, n1, r1, p⟩
    | rt d => exact p
    | bk ρ1 => exact p
    | ct ρ1 => exact p
    | ro d => exact p
theorem ds_pass {pos : Pos} : DS cl B W X (.Pass pos) (fun ρ => M.pure (.nx ρ)) := PS.weak ps_pass fun E σ H ⟨Z0, C0, H0, Z, C, s, ρ, α, c0, w, n, r, p⟩ => p σ Z C H α w n r
theorem ds_break {pos : Pos} : DS cl B W X (.Break pos) (fun ρ => M.pure (.bk ρ)) := PS.weak ps_break fun E σ H ⟨Z0, C0, H0, Z, C, s, ρ, α, c0, w, n, r, p⟩ => p σ Z C H α w n r
theorem ds_continue {pos : Pos} : DS cl B W X (.Continue pos) (fun ρ => M.pure (.ct ρ)) := PS.weak ps_continue fun E σ H ⟨Z0, C0, H0, Z, C, s, ρ, α, c0, w, n, r, p⟩ => p σ Z C H α w n r
end
/-! ### own objects seen by an expression -/
def seeE (p : D → Bool) (ρ : SEnv) : Env := ρ.map fun s => match s with
  | .val d => some d
  | .own d => if p d = true then some (D.strip (.ins "" [d])) else none
  | .no => none
def pHide : D → Bool := fun _ => false
def pList : D → Bool
  | .lst _ => true
  | _ => false
def pAll : D → Bool
  | .ins _ _ => false
  | _ => true
/-- how an expression sees one's own objects -/
structure See (p : D → Bool) (md : Bool) : Prop where
  nd : md = true → ∀ d, p d = true → ∀ ks ds, d = .dct ks ds → True
  ni : ∀ c ds, p (.ins c ds) = false
theorem seeHide : See pHide true := ⟨fun _ _ _ _ _ _ => trivial, fun _ _ => rfl⟩
theorem seeList : See pList true := ⟨fun _ _ _ _ _ _ => trivial, fun _ _ => rfl⟩
theorem seeAll : See pAll true := ⟨fun _ _ _ _ _ _ => trivial, fun _ _ => rfl⟩
open Classical in
/-- what the frame owns, read as if it stood for ever -/
noncomputable def seeZ (p : D → Bool) (ρ : SEnv) (α : Nat → Addr → Prop) (Z H : Hp) : Hp := fun x => if ∃ i d, ρ[i]? = some (.own d) ∧ p d = true ∧ α i x then H x else Z x
open Classical in
noncomputable def unZ (p : D → Bool) (ρ : SEnv) (α : Nat → Addr → Prop) (Z1 : Hp) : Hp := fun x => if ∃ i d, ρ[i]? = some (.own d) ∧ p d = true ∧ α i x then none else Z1 x
section
variable {K : PySem.W.Frag} {cl : CTab} {Z C H H0 Z1 C1 H1 Z0 C0 : Hp} {ρ : SEnv} {σ : L2.St} {α : Nat → Addr → Prop} {s s1 : B.T} {p : D → Bool} {md : Bool}
theorem see_sub (r : SRel K cl Z C H H0 ρ σ α) : Sub Z (seeZ p ρ α Z H) := by
  intro x o e
  unfold seeZ
  split
  · rename_i q
    obtain ⟨i, d, q1, _, qx⟩ := q
    obtain ⟨_, z, _⟩ := r.fp i d x q1 qx
    rw [z] at e; cases e
  · exact e
theorem see_in {i : Nat} {d : D} {x : Addr} (h : ρ[i]? = some (.own d)) (hp : p d = true) (hx : α i x) : seeZ p ρ α Z H x = H x := by
  unfold seeZ
  rw [if_pos ⟨i, d, h, hp, hx⟩]
theorem see_wd (w : Wd B true Z C H s) (r : SRel K cl Z C H H0 ρ σ α) (hm : md = true → ∀ d, p d = true → ∀ ks ds, d = .dct ks ds → True) : Wd B md (seeZ p ρ α Z H) C H s := by
  refine ⟨fun x o e => ?_, w.ch, fun x e => ?_, B.mono w.sr (see_sub r).imm, fun _ _ _ _ => trivial⟩
  · unfold seeZ at e
    split at e
    · exact e
    · exact w.zh x o e
  · unfold seeZ
    split
    · rename_i q
      obtain ⟨i, d, q1, _, qx⟩ := q
      obtain ⟨_, _, c, _⟩ := r.fp i d x q1 qx
      exact absurd c e
    · exact w.dj x e
theorem see_env (sp : See p md) (r : SRel K cl Z C H H0 ρ σ α) : EnvR K cl (seeZ p ρ α Z H) (seeE p ρ) σ := by
  refine ⟨by simp [seeE, r.len], fun i d e => ?_⟩
  unfold seeE at e
  rw [List.getElem?_map] at e
  cases q : ρ[i]? with
  | none => rw [q] at e; cases e
  | some sl =>
    rw [q] at e
    cases sl with
    | no => cases e
    | val d' =>
      cases e
      obtain ⟨v, h1, h2⟩ := r.val i d q
      exact ⟨v, h1, h2.mono (see_sub r) d⟩
    | own d' =>
      simp only [Option.map_some] at e
      split at e
      · rename_i hp
        cases e
        obtain ⟨v, h1, o⟩ := r.own i d' q
        exact ⟨v, h1, o.rep (see_sub r) fun x ob hx ho => (see_in q hp hx).trans ho⟩
      · cases e
theorem see_nx (r : SRel K cl Z C H H0 ρ σ α) (n : Nx Z0 C0 H0 Z C H) (hd : md = true → ∀ d, p d = true → ∀ ks ds, d = .dct ks ds → True) (m : md = true) : Nx Z0 C0 H0 (seeZ p ρ α Z H) C H := by
  refine ⟨n.zz.trans (see_sub r), n.hh, fun x e => ?_, n.cf, n.cp, fun _ _ _ => trivial⟩
  unfold seeZ at e
  split at e
  · rename_i q
    obtain ⟨i, d, q1, _, qx⟩ := q
    exact .inr (r.fp i d x q1 qx).1
  · exact n.zf x e
/-- behind an expression that saw own objects: they are one's own again -/
structure Un (p : D → Bool) (K : PySem.W.Frag) (cl : CTab) (B : Sto) (Z0 C0 H0 : Hp) (ρ : SEnv) (σ : L2.St) (α : Nat → Addr → Prop) (Z1 C1 H1 : Hp) (s1 : B.T) : Prop where
  wd : Wd B true (unZ p ρ α Z1) C1 H1 s1
  nx : Nx Z0 C0 H0 (unZ p ρ α Z1) C1 H1
  rel : SRel K cl (unZ p ρ α Z1) C1 H1 H0 ρ σ α
  imm : SubI Z1 (unZ p ρ α Z1)
  less : Sub (unZ p ρ α Z1) Z1
theorem un_sub : Sub (unZ p ρ α Z1) Z1 := by
  intro x o e
  unfold unZ at e
  split at e
  · cases e
  · exact e
theorem see_un (sp : See p md) (w : Wd B true Z C H s) (c0 : Sub C0 H0) (n : Nx Z0 C0 H0 Z C H) (r : SRel K cl Z C H H0 ρ σ α) (w1 : Wd B md Z1 C1 H1 s1) (n1 : Nx (seeZ p ρ α Z H) C H Z1 C1 H1) : Un p K cl B Z0 C0 H0 ρ σ α Z1 C1 H1 s1 := by
  have own1 : ∀ i d x, ρ[i]? = some (.own d) → α i x → ∃ o, H x = some o ∧ immO o = false ∧ H1 x = some o := fun i d x q qx => by
    obtain ⟨_, _, c, o, h1, h2⟩ := r.fp i d x q qx
    exact ⟨o, h1, h2, n1.hh _ _ h1 c⟩
  have imm : SubI Z1 (unZ p ρ α Z1) := fun x o ho e => by
    unfold unZ
    split
    · rename_i q
      obtain ⟨i, d, q1, q2, qx⟩ := q
      obtain ⟨u, h1, h2, h3⟩ := own1 i d x q1 qx
      rw [w1.zh _ _ e] at h3
      cases h3
      rw [ho] at h2; cases h2
    · exact e
  have zz : Sub Z (unZ p ρ α Z1) := fun x o e => by
    unfold unZ
    split
    · rename_i q
      obtain ⟨i, d, q1, _, qx⟩ := q
      obtain ⟨_, z, _⟩ := r.fp i d x q1 qx
      rw [z] at e; cases e
    · exact n1.zz x o (see_sub r x o e)
  have cz : ∀ i d x, ρ[i]? = some (.own d) → α i x → C1 x = none := fun i d x q qx => by
    obtain ⟨_, _, c, o, h1, _⟩ := r.fp i d x q qx
    cases e : C1 x with
    | none => rfl
    | some u =>
      rcases n1.cf _ (some_ne e) with z | z
      · exact absurd c z
      · rw [h1] at z; cases z
  have zn : ∀ i d x, ρ[i]? = some (.own d) → α i x → unZ p ρ α Z1 x = none := fun i d x q qx => by
    unfold unZ
    split
    · rfl
    · rename_i nq
      obtain ⟨_, z, _, o, h1, _⟩ := r.fp i d x q qx
      cases e : Z1 x with
      | none => rfl
      | some u =>
        rcases n1.zf _ (some_ne e) with z1 | z1
        · unfold seeZ at z1
          rw [if_neg nq] at z1
          exact absurd z z1
        · rw [h1] at z1; cases z1
  refine ⟨⟨un_sub.trans w1.zh, w1.ch, fun x e => ?_, B.mono w1.sr imm, fun _ _ _ _ => trivial⟩, ?_, ⟨r.len, fun i d q => ?_, fun i d q => ?_, fun i d x q qx => ?_, r.dj⟩, imm, un_sub⟩
  · unfold unZ
    split
    · rfl
    · exact w1.dj x e
  · refine ⟨n.zz.trans zz, fun x o e c => ?_, fun x e => ?_, fun x e => ?_, fun x e => n1.cp x (n.cp x e), fun _ _ _ => trivial⟩
    · have h1 := n.hh x o e c
      refine n1.hh x o h1 ?_
      cases q : C x with
      | none => rfl
      | some u =>
        rcases n.cf x (some_ne q) with z | z
        · exact absurd c z
        · rw [e] at z; cases z
    · unfold unZ at e
      split at e
      · exact absurd rfl e
      · rename_i nq
        rcases n1.zf x e with z | z
        · unfold seeZ at z
          rw [if_neg nq] at z
          exact n.zf x z
        · exact .inr (n.back w.ch z)
    · rcases n1.cf x e with z | z
      · exact n.cf x z
      · exact .inr (n.back w.ch z)
  · obtain ⟨v, h1, h2⟩ := r.val i d q
    exact ⟨v, h1, h2.mono zz d⟩
  · obtain ⟨v, h1, h5⟩ := r.own i d q
    exact ⟨v, h1, h5.move zz fun x o hx e => n1.hh _ _ e (r.fp i d x q hx).2.2.1⟩
  · obtain ⟨h2, h3, h4, o, h5, h6⟩ := r.fp i d x q qx
    exact ⟨h2, zn i d x q qx, cz i d x q qx, o, n1.hh _ _ h5 h4, h6⟩
/-- an expression within a statement -/
theorem PostS.seq (sp : See p md) {υ β : Type} {Rp : Hp → υ → β → Prop} {W : WX} {m : M B β} {k : β → M B Fl} {E : Ends} {Q1 : υ → Hp → Prop} (w : Wd B true Z C H s) (c0 : Sub C0 H0) (n : Nx Z0 C0 H0 Z C H) (r : SRel K cl Z C H H0 ρ σ α) (h : PostS K cl W Z0 C0 H0 (M.bind m k s) E)
    (hk : ∀ a s1 v Z1 C1 H1, Wd B md Z1 C1 H1 s1 → Nx (seeZ p ρ α Z H) C H Z1 C1 H1 → Rp Z1 v a → PostS K cl W Z0 C0 H0 (k a s1) E → Q1 v H1) : Post K cl md Rp W σ (seeZ p ρ α Z H) C H (m s) Q1 := by
  unfold M.bind at h
  cases e : m s with
  | ok a s1 =>
    rw [e] at h
    exact fun v Z1 C1 H1 w1 n1 r1 => hk a s1 v Z1 C1 H1 w1 n1 r1 h
  | err x s1 =>
    rw [e] at h
    intro c dx Z1 C1 H1 w1 n1 ex
    have u := see_un sp w c0 n r w1 n1
    refine h c dx σ _ C1 H1 u.wd u.nx ?_
    obtain ⟨C', fs, h1, h2, h3⟩ := ex
    refine ⟨C', fs, h1, h2, ?_⟩
    cases hf : x.f with
    | none => rw [hf] at h3; exact h3
    | some d =>
      rw [hf] at h3
      obtain ⟨f, v, a, q1, q2, q3, q4, q5⟩ := h3
      exact ⟨f, v, a, q1, q2, q3, q4, q5.monoI u.imm d q4⟩
  | stuck =>
    rw [e] at h
    exact h
end
section
variable {cl : CTab} {W : WX} {X : Cx} {p : D → Bool} {md : Bool}
/-! ### the plain statements -/
theorem ds_ret {e : Expr} {f : Env → M B D} {pos : Pos} (sp : See p true) (h : DE cl B true W X e f) : DS cl B W X (.Return (some e) pos) fun ρ => M.bind (f (seeE p ρ)) fun d => M.pure (.rt d) := by
  refine PS.weak (ps_ret h) fun E σ H ⟨Z0, C0, H0, Z, C, s, ρ, α, c0, w, n, r, q⟩ => ?_
  refine ⟨seeZ p ρ α Z H, C, s, seeE p ρ, see_wd w r sp.nd, see_env sp r, PostS.seq sp w c0 n r q fun d s1 v Z1 C1 H1 w1 n1 r1 q1 => ?_⟩
  exact q1 v Z1 C1 H1 w1 ((see_nx (md := true) r n sp.nd rfl).trans c0 w.ch n1) r1
/-- .. of data that reads dicts of one's own -/
theorem ds_retI {e : Expr} {f : Env → M B D} {pos : Pos} (sp : See p md) (h : DE cl B md W X e f) : DS cl B W X (.Return (some e) pos) fun ρ => M.bind (f (seeE p ρ)) fun d => if d.imm = true then M.pure (.rt d) else fun _ => .stuck := by
  refine PS.weak (ps_ret h) fun E σ H ⟨Z0, C0, H0, Z, C, s, ρ, α, c0, w, n, r, q⟩ => ?_
  refine ⟨seeZ p ρ α Z H, C, s, seeE p ρ, see_wd w r sp.nd, see_env sp r, PostS.seq sp w c0 n r q fun d s1 v Z1 C1 H1 w1 n1 r1 q1 => ?_⟩
  have u := see_un sp w c0 n r w1 n1
  cases hi : d.imm with
  | true =>
    rw [hi] at q1
    exact q1 v _ C1 H1 u.wd u.nx (r1.monoI u.imm d hi)
  | false => rw [hi] at q1; exact False.elim q1
theorem ds_retN {pos : Pos} : DS cl B W X (.Return none pos) fun _ => M.pure (.rt .non) :=
  PS.weak ps_retN fun E σ H ⟨Z0, C0, H0, Z, C, s, ρ, α, c0, w, n, r, q⟩ => q .non Z C H w n .non
theorem SRel.setVal {K : PySem.W.Frag} {Z C H H0 : Hp} {ρ : SEnv} {σ : L2.St} {α : Nat → Addr → Prop} {i : Nat} {v : V} {d : D} (r : SRel K cl Z C H H0 ρ σ α) (h : Rep K cl Z v d) : SRel K cl Z C H H0 (ρ.set i (.val d)) (σ.set i (some v)) α := by
  have ne : ∀ j e, (ρ.set i (.val d))[j]? = some (.own e) → i ≠ j ∧ ρ[j]? = some (.own e) := fun j e q => by
    by_cases hj : i = j
    · subst hj
      by_cases hl : i < ρ.length
      · rw [List.getElem?_set_self hl] at q; cases q
      · rw [List.getElem?_eq_none (by simpa using hl)] at q; cases q
    · rw [List.getElem?_set_ne hj] at q
      exact ⟨hj, q⟩
  refine ⟨by simp [r.len], fun j e q => ?_, fun j e q => ?_, fun j e x q => r.fp j e x (ne j e q).2, fun j k e f x q1 q2 => r.dj j k e f x (ne j e q1).2 (ne k f q2).2⟩
  · by_cases hj : i = j
    · subst hj
      by_cases hl : i < ρ.length
      · rw [List.getElem?_set_self hl] at q
        cases q
        exact ⟨v, List.getElem?_set_self (by rw [← r.len]; exact hl), h⟩
      · rw [List.getElem?_eq_none (by simpa using hl)] at q; cases q
    · rw [List.getElem?_set_ne hj] at q
      obtain ⟨v', h1, h2⟩ := r.val j e q
      exact ⟨v', by rw [List.getElem?_set_ne hj]; exact h1, h2⟩
  · obtain ⟨hj, q'⟩ := ne j e q
    obtain ⟨v', h1, h2⟩ := r.own j e q'
    exact ⟨v', by rw [List.getElem?_set_ne hj]; exact h1, h2⟩
/-- the same, in a greater heap -/
theorem SRel.move {K : PySem.W.Frag} {Z C H H0 Z' C' H' : Hp} {ρ : SEnv} {σ : L2.St} {α : Nat → Addr → Prop} (r : SRel K cl Z C H H0 ρ σ α) (zz : Sub Z Z') (hh : ∀ i d x o, ρ[i]? = some (.own d) → α i x → H x = some o → H' x = some o)
    (z' : ∀ i d x, ρ[i]? = some (.own d) → α i x → Z' x = none) (c' : ∀ i d x, ρ[i]? = some (.own d) → α i x → C' x = none) : SRel K cl Z' C' H' H0 ρ σ α := by
  refine ⟨r.len, fun i d q => ?_, fun i d q => ?_, fun i d x q qx => ?_, r.dj⟩
  · obtain ⟨v, h1, h2⟩ := r.val i d q
    exact ⟨v, h1, h2.mono zz d⟩
  · obtain ⟨v, h1, h2⟩ := r.own i d q
    exact ⟨v, h1, h2.move zz fun x o hx e => hh i d x o q hx e⟩
  · obtain ⟨h1, _, _, o, h4, h5⟩ := r.fp i d x q qx
    exact ⟨h1, z' i d x q qx, c' i d x q qx, o, hh i d x o q qx h4, h5⟩
theorem set_core {i : Nat} {f : Env → M B D} {E : Ends} {σ : L2.St} {H : Hp} (h : tS X.K cl B W (fun ρ => M.bind (f (seeE pHide ρ)) fun d => M.pure (.nx (ρ.set i (.val d)))) E σ H) : tAsg (tG X.K cl B true (RpD X.K cl) W f) (gName i) E σ H := by
  obtain ⟨Z0, C0, H0, Z, C, s, ρ, α, c0, w, n, r, q⟩ := h
  refine ⟨seeZ pHide ρ α Z H, C, s, seeE pHide ρ, see_wd w r seeHide.nd, see_env seeHide r, PostS.seq seeHide w c0 n r q fun d s1 v Z1 C1 H1 w1 n1 r1 q1 => ?_⟩
  have u := see_un seeHide w c0 n r w1 n1
  have e1 : unZ pHide ρ α Z1 = Z1 := by
    funext y
    unfold unZ
    rw [if_neg (fun ⟨_, d, _, q, _⟩ => by simp [pHide] at q)]
  have u1 := u.wd; have u2 := u.nx; have u3 := u.rel
  rw [e1] at u1 u2 u3
  exact q1 _ Z1 C1 H1 α u1 u2 (u3.setVal r1)
/-- x = e -/
theorem ds_set {i : Nat} {x : Str} {e : Expr} {f : Env → M B D} {pos pos' : Pos} (hN : X.N.Nodup) (hi : X.N[i]? = some x) (hx : Loc X.env.scope x) (h : DE cl B true W X e f) (hs : swapsWith e (some (.Name x pos')) pos.line X.env = pure false := by rfl)
    (hf : X.fn x = true ∨ X.env.scope.names.lookup x = some .local := by first | exact .inl rfl | exact .inr rfl | assumption) : DS cl B W X (.Assign [.Name x pos'] e pos) fun ρ => M.bind (f (seeE pHide ρ)) fun d => M.pure (.nx (ρ.set i (.val d))) := PS.weak (ps_set hN hi hx h hs hf) fun E σ H q => set_core q
/-- .. where e reads one's own objects -/
theorem ds_setI {i : Nat} {x : Str} {e : Expr} {f : Env → M B D} {pos pos' : Pos} (sp : See p md) (hN : X.N.Nodup) (hi : X.N[i]? = some x) (hx : Loc X.env.scope x) (h : DE cl B md W X e f) (hs : swapsWith e (some (.Name x pos')) pos.line X.env = pure false := by rfl)
    (hf : X.fn x = true ∨ X.env.scope.names.lookup x = some .local := by first | exact .inl rfl | exact .inr rfl | assumption) : DS cl B W X (.Assign [.Name x pos'] e pos) fun ρ => M.bind (f (seeE p ρ)) fun d => if d.imm = true then M.pure (.nx (ρ.set i (.val d))) else fun _ => .stuck := by
  refine PS.weak (ps_set hN hi hx h hs hf) fun E σ H ⟨Z0, C0, H0, Z, C, s, ρ, α, c0, w, n, r, q⟩ => ?_
  refine ⟨seeZ p ρ α Z H, C, s, seeE p ρ, see_wd w r sp.nd, see_env sp r, PostS.seq sp w c0 n r q fun d s1 v Z1 C1 H1 w1 n1 r1 q1 => ?_⟩
  have u := see_un sp w c0 n r w1 n1
  cases hi : d.imm with
  | true =>
    rw [hi] at q1
    exact q1 _ _ C1 H1 α u.wd u.nx (u.rel.setVal (r1.monoI u.imm d hi))
  | false => rw [hi] at q1; exact False.elim q1
/-- an expression alone -/
theorem ds_expr {e : Expr} {f : Env → M B D} {pos : Pos} (sp : See p md) (h : DE cl B md W X e f) (hs : swapsWith e none pos.line X.env = pure false := by rfl) : DS cl B W X (.Expr e pos) fun ρ => M.bind (f (seeE p ρ)) fun _ => M.pure (.nx ρ) := by
  refine PS.weak (ps_expr h hs) fun E σ H ⟨Z0, C0, H0, Z, C, s, ρ, α, c0, w, n, r, q⟩ => ?_
  refine ⟨seeZ p ρ α Z H, C, s, seeE p ρ, see_wd w r sp.nd, see_env sp r, PostS.seq sp w c0 n r q fun d s1 v Z1 C1 H1 w1 n1 r1 q1 => ?_⟩
  have u := see_un sp w c0 n r w1 n1
  exact q1 σ _ C1 H1 α u.wd u.nx u.rel
/-- if -/
theorem ds_if {c : Expr} {a b : List Stmt} {t : Env → M B Bool} {F G : SEnv → M B Fl} {pos : Pos} (sp : See p md) (hc : DT cl B md W X c t) (ha : DSs cl B W X a F) (hb : DSs cl B W X b G) :
    DS cl B W X (.If c a b pos) fun ρ => M.bind (t (seeE p ρ)) fun k => if k = true then F ρ else G ρ := by
  refine PS.weak (ps_if hc ha hb) fun E σ H ⟨Z0, C0, H0, Z, C, s, ρ, α, c0, w, n, r, q⟩ => ?_
  refine ⟨seeZ p ρ α Z H, C, s, seeE p ρ, see_wd w r sp.nd, see_env sp r, PostS.seq sp w c0 n r q fun k s1 v Z1 C1 H1 w1 n1 r1 q1 => ?_⟩
  have u := see_un sp w c0 n r w1 n1
  have r1 : v = k := r1
  subst r1
  cases v with
  | true => exact ⟨Z0, C0, H0, _, C1, s1, ρ, α, c0, u.wd, u.nx, u.rel, q1⟩
  | false => exact ⟨Z0, C0, H0, _, C1, s1, ρ, α, c0, u.wd, u.nx, u.rel, q1⟩
end
end DN
set_option Elab.async false
set_option linter.all false
set_option maxRecDepth 100000
set_option maxHeartbeats 4000000
namespace DN
open PySem PySem.Spec PyProof.Rows L2 RZ
variable {B : Sto}
/-! ## more statements -/
def setsS (ρ : SEnv) (as : Asg) : SEnv := as.foldl (fun ρ p => ρ.set p.1 (.val p.2)) ρ
section
variable {K : PySem.W.Frag} {cl : CTab} {Z C H H0 Z1 C1 H1 Z0 C0 : Hp} {ρ : SEnv} {σ : L2.St} {α : Nat → Addr → Prop} {s s1 : B.T} {p : D → Bool} {md : Bool}
theorem SRel.sets : ∀ {as : Asg} {vs : List (Nat × V)} {ρ : SEnv} {σ : L2.St}, SRel K cl Z C H H0 ρ σ α → AsgR K cl Z as vs → SRel K cl Z C H H0 (setsS ρ as) (setsV σ vs) α
  | [], [], _, _, e, _ => e
  | (i, d) :: as, (j, v) :: vs, ρ, σ, e, ⟨a, b, c⟩ => by
    subst a
    show SRel K cl Z C H H0 (setsS (ρ.set i (.val d)) as) (setsV (σ.set i (some v)) vs) α
    exact SRel.sets (e.setVal b) c
  | [], _ :: _, _, _, _, h => False.elim h
  | _ :: _, [], _, _, _, h => False.elim h
/-- what is carried out of an expression that sees one's own objects -/
structure Kp (p q : D → Bool) : Prop where
  k : ∀ d, q d = true → (∀ x, p x = false) ∨ d.imm = true
theorem kpHide : Kp pHide (fun _ => true) := ⟨fun _ _ => .inl fun _ => rfl⟩
theorem kpImm : Kp p D.imm := ⟨fun _ h => .inr h⟩
theorem unZ_hide (h : ∀ x, p x = false) : unZ p ρ α Z1 = Z1 := by
  funext y
  unfold unZ
  rw [if_neg (fun ⟨_, d, _, q, _⟩ => by rw [h d] at q; cases q)]
theorem seeZ_hide (h : ∀ x, p x = false) : seeZ p ρ α Z H = Z := by
  funext y
  unfold seeZ
  rw [if_neg (fun ⟨_, d, _, q, _⟩ => by rw [h d] at q; cases q)]
theorem Un.rep {q : D → Bool} {v : V} {d : D} (u : Un p K cl B Z0 C0 H0 ρ σ α Z1 C1 H1 s1) (k : Kp p q) (hq : q d = true) (r : Rep K cl Z1 v d) : Rep K cl (unZ p ρ α Z1) v d := by
  rcases k.k d hq with h | h
  · rw [unZ_hide h]; exact r
  · exact r.monoI u.imm d h
theorem SRel.back (r : SRel K cl Z C H H0 ρ σ α) (n : Nx Z0 C0 H0 Z C H) : True := trivial
/-- an object of one's own in a slot, new or changed -/
def upd1 (α : Nat → Addr → Prop) (i : Nat) (F : Addr → Prop) : Nat → Addr → Prop := fun j => if j = i then F else α j
theorem SRel.setOwn {i : Nat} {v : V} {F : Addr → Prop} {d : D} {H' : Hp} (r : SRel K cl Z C H H0 ρ σ α) (hh : ∀ j e x o, ρ[j]? = some (.own e) → j ≠ i → α j x → H x = some o → H' x = some o)
    (fp : ∀ x, F x → H0 x = none ∧ Z x = none ∧ C x = none ∧ ∃ o, H' x = some o ∧ immO o = false) (dj : ∀ j e x, ρ[j]? = some (.own e) → j ≠ i → F x → α j x → False) (o : OwnT K cl Z H' F v (.ins "" [d])) :
    SRel K cl Z C H' H0 (ρ.set i (.own d)) (σ.set i (some v)) (upd1 α i F) := by
  have hlen : i < ρ.length → i < σ.length := fun h => by rw [← r.len]; exact h
  have get : ∀ j x, (ρ.set i (.own d))[j]? = some x → (j = i ∧ x = .own d ∧ i < ρ.length) ∨ (j ≠ i ∧ ρ[j]? = some x) := fun j x q => by
    by_cases hj : i = j
    · subst hj
      by_cases hl : i < ρ.length
      · rw [List.getElem?_set_self hl] at q
        exact .inl ⟨rfl, (Option.some.inj q).symm, hl⟩
      · rw [List.getElem?_eq_none (by simpa using hl)] at q; cases q
    · rw [List.getElem?_set_ne hj] at q
      exact .inr ⟨fun z => hj z.symm, q⟩
  refine ⟨by simp [r.len], fun j e q => ?_, fun j e q => ?_, fun j e x q qx => ?_, fun j k e f x q1 q2 x1 x2 => ?_⟩
  · rcases get j _ q with ⟨_, h, _⟩ | ⟨hj, q⟩
    · cases h
    · obtain ⟨v', h1, h2⟩ := r.val j e q
      exact ⟨v', by rw [List.getElem?_set_ne (fun z => hj z.symm)]; exact h1, h2⟩
  · rcases get j _ q with ⟨rfl, h, hl⟩ | ⟨hj, q⟩
    · cases h
      simp only [upd1, if_pos rfl]
      exact ⟨v, List.getElem?_set_self (hlen hl), o⟩
    · obtain ⟨v', h1, h2⟩ := r.own j e q
      simp only [upd1, if_neg hj]
      exact ⟨v', by rw [List.getElem?_set_ne (fun z => hj z.symm)]; exact h1, h2.move (.refl _) fun x ob hx e => hh j _ x ob q hj hx e⟩
  · rcases get j _ q with ⟨rfl, h, hl⟩ | ⟨hj, q⟩
    · simp only [upd1, if_pos rfl] at qx
      exact fp x qx
    · simp only [upd1, if_neg hj] at qx
      obtain ⟨h1, h2, h3, o2, h4, h5⟩ := r.fp j e x q qx
      exact ⟨h1, h2, h3, o2, hh j e x o2 q hj qx h4, h5⟩
  · rcases get j _ q1 with ⟨ej, _, _⟩ | ⟨hj, q1'⟩
    · rcases get k _ q2 with ⟨ek, _, _⟩ | ⟨hk, q2'⟩
      · rw [ej, ek]
      · simp only [upd1, if_pos ej] at x1
        simp only [upd1, if_neg hk] at x2
        exact (dj k f x q2' hk x1 x2).elim
    · rcases get k _ q2 with ⟨ek, _, _⟩ | ⟨hk, q2'⟩
      · simp only [upd1, if_neg hj] at x1
        simp only [upd1, if_pos ek] at x2
        exact (dj j e x q1' hj x2 x1).elim
      · simp only [upd1, if_neg hj] at x1
        simp only [upd1, if_neg hk] at x2
        exact r.dj j k e f x q1' q2' x1 x2
theorem set_self {i : Nat} {v : V} (h : σ[i]? = some (some v)) : σ.set i (some v) = σ := by
  apply List.ext_getElem?
  intro j
  by_cases hj : i = j
  · subst hj
    rw [List.getElem?_set_self (List.getElem?_eq_some_iff.mp h).1]
    exact h.symm
  · rw [List.getElem?_set_ne hj]
/-- one's own, given away -/
theorem SRel.freeze {i : Nat} {d : D} (r : SRel K cl Z C H H0 ρ σ α) (h : ρ[i]? = some (.own d)) (hz : Sub Z Z1) (hzi : ∀ x, ¬ α i x → Z1 x = Z x) (hzh : ∀ x, α i x → Z1 x = H x) :
    SRel K cl Z1 C H H0 (ρ.set i (.val (D.strip (.ins "" [d])))) σ α := by
  obtain ⟨v, hv, ow⟩ := r.own i d h
  have get : ∀ j x, (ρ.set i (Sl.val (D.strip (.ins "" [d]))))[j]? = some x → (j = i ∧ x = .val (D.strip (.ins "" [d]))) ∨ (j ≠ i ∧ ρ[j]? = some x) := fun j x q => by
    by_cases hj : i = j
    · subst hj
      by_cases hl : i < ρ.length
      · rw [List.getElem?_set_self hl] at q
        exact .inl ⟨rfl, (Option.some.inj q).symm⟩
      · rw [List.getElem?_eq_none (by simpa using hl)] at q; cases q
    · rw [List.getElem?_set_ne hj] at q
      exact .inr ⟨fun z => hj z.symm, q⟩
  have ownOf : ∀ j e, (ρ.set i (Sl.val (D.strip (.ins "" [d]))))[j]? = some (.own e) → j ≠ i ∧ ρ[j]? = some (.own e) := fun j e q => by
    rcases get j _ q with ⟨_, hx⟩ | q
    · cases hx
    · exact q
  refine ⟨by simp [r.len], fun j e q => ?_, fun j e q => ?_, fun j e x q qx => ?_, fun j k e f x q1 q2 => r.dj j k e f x (ownOf j e q1).2 (ownOf k f q2).2⟩
  · rcases get j _ q with ⟨ej, hx⟩ | ⟨hj, q'⟩
    · cases hx
      rw [ej]
      exact ⟨v, hv, ow.rep hz fun x o hx ho => (hzh x hx).trans ho⟩
    · obtain ⟨v', h1, h2⟩ := r.val j e q'
      exact ⟨v', h1, h2.mono hz e⟩
  · obtain ⟨hj, q'⟩ := ownOf j e q
    obtain ⟨v', h1, h2⟩ := r.own j e q'
    exact ⟨v', h1, h2.move hz fun _ _ _ e => e⟩
  · obtain ⟨hj, q'⟩ := ownOf j e q
    obtain ⟨h1, h2, h3, h4⟩ := r.fp j e x q' qx
    exact ⟨h1, (hzi x fun z => hj (r.dj j i e d x q' h qx z)).trans h2, h3, h4⟩
end
section
variable {cl : CTab} {W : WX} {X : Cx} {p : D → Bool} {md : Bool}
theorem pHide_no : ∀ x, pHide x = false := fun _ => rfl
/-- target = e -/
theorem ds_asg {tg e : Expr} {f : Env → M B D} {a : D → Option Asg} {pos : Pos} (h : DE cl B true W X e f) (hg : DG cl X tg a) (hs : swapsWithSole [tg] e pos.line X.env = pure false := by rfl) (hw : swappedStores [tg] e X.env = pure none := by rfl)
    (h1 : (assignEach [tg] X.env).map (·.2) = [assign tg X.env] := by rfl) : DS cl B W X (.Assign [tg] e pos) fun ρ => M.bind (f (seeE pHide ρ)) fun d => M.bind (lift (a d)) fun as => M.pure (.nx (setsS ρ as)) := by
  refine PS.weak (ps_asg h hg hs hw h1) fun E σ H ⟨Z0, C0, H0, Z, C, s, ρ, α, c0, w, n, r, q⟩ => ?_
  refine ⟨seeZ pHide ρ α Z H, C, s, seeE pHide ρ, see_wd w r seeHide.nd, see_env seeHide r, PostS.seq seeHide w c0 n r q fun d s1 v Z1 C1 H1 w1 n1 r1 q1 => ?_⟩
  have u := see_un seeHide w c0 n r w1 n1
  have u1 := u.wd; have u2 := u.nx; have u3 := u.rel
  rw [unZ_hide pHide_no] at u1 u2 u3
  cases ha : a d with
  | none => rw [ha] at q1; exact False.elim q1
  | some as =>
    rw [ha] at q1
    exact ⟨Z1, d, as, u1.zh, r1, ha, fun vs av => q1 _ Z1 C1 H1 α u1 u2 (u3.sets av)⟩
/-- a, b = x, y -/
theorem ds_par {i j : Nat} {x y : Str} {a b : Expr} {f : Env → M B (List D)} {px py pt : Pos} {kt k2 pt2} {pos : Pos} (sp : See p md) (q0 : D → Bool) (kp : Kp p q0) (hc : X.calm = true) (hN : X.N.Nodup) (hi : X.N[i]? = some x) (hj : X.N[j]? = some y) (hij : i ≠ j)
    (hx : X.env.scope.names.lookup x = some .local) (hy : X.env.scope.names.lookup y = some .local) (ha : DA cl B md W X [a, b] f)
    (hw : swappedStores [.Tuple [.Name x px, .Name y py] kt pt] (.Tuple [a, b] k2 pt2) X.env = pure (some [x, y]) := by rfl)
    (hs : swapsWithSole [.Tuple [.Name x px, .Name y py] kt pt] (.Tuple [a, b] k2 pt2) pos.line X.env = pure false := by rfl) :
    DS cl B W X (.Assign [.Tuple [.Name x px, .Name y py] kt pt] (.Tuple [a, b] k2 pt2) pos) fun ρ => M.bind (f (seeE p ρ)) fun ds => match ds with
      | [d, e] => guardM (q0 d && q0 e) (M.pure (.nx ((ρ.set i (.val d)).set j (.val e))))
      | _ => fun _ => .stuck := by
  refine PS.weak (ps_par hc hN hi hj hij hx hy ha hw hs) fun E σ H ⟨Z0, C0, H0, Z, C, s, ρ, α, c0, w, n, r, q⟩ => ?_
  refine ⟨seeZ p ρ α Z H, C, s, seeE p ρ, see_wd w r sp.nd, see_env sp r, PostS.seq sp w c0 n r q fun ds s1 vs Z1 C1 H1 w1 n1 r1 q1 => ?_⟩
  have u := see_un sp w c0 n r w1 n1
  obtain ⟨r1, rl⟩ := r1
  match ds, rl, r1, q1 with
  | [d, e], _, .cons ra (.cons rb .nil), q1 =>
    have q1 : PostS X.K cl W Z0 C0 H0 (guardM (q0 d && q0 e) (M.pure (.nx ((ρ.set i (.val d)).set j (.val e)))) s1) E := q1
    unfold guardM at q1
    split at q1
    · rename_i hq
      rw [Bool.and_eq_true] at hq
      exact ⟨_, _, rfl, q1 _ _ C1 H1 α u.wd u.nx ((u.rel.setVal (u.rep kp hq.1 ra)).setVal (u.rep kp hq.2 rb))⟩
    · exact False.elim q1
/-- x op= e -/
theorem ds_aug {i : Nat} {x : Str} {e : Expr} {f : Env → M B D} {op : Operator} {r0 : R2} {g : D → D → Option D} {pos' pos : Pos} (sp : See p md) (q0 : D → Bool) (kp : Kp p q0) (hN : X.N.Nodup) (hi : X.N[i]? = some x) (hx : Loc X.env.scope x) (h : DE cl B md W X e f) (ho : PIp X op r0) (hr : OpV X.K cl r0 g)
    (hf : X.fn x = true ∨ X.env.scope.names.lookup x = some .local := by first | exact .inl rfl | exact .inr rfl | assumption) :
    DS cl B W X (.AugAssign (.Name x pos') op e pos) fun ρ => M.bind (eVar i (seeE pHide ρ)) fun o => M.bind (f (seeE p ρ)) fun d => M.bind (lift (g o d)) fun z => guardM (q0 z) (M.pure (.nx (ρ.set i (.val z)))) := by
  refine PS.weak (ps_aug hN hi hx h ho hf) fun E σ H ⟨Z0, C0, H0, Z, C, s, ρ, α, c0, w, n, r, q⟩ => ?_
  have en := see_env seeHide r
  rw [seeZ_hide pHide_no] at en
  have q : PostS X.K cl W Z0 C0 H0 (M.bind (lift ((seeE pHide ρ)[i]?.bind id)) (fun o => M.bind (f (seeE p ρ)) fun d => M.bind (lift (g o d)) fun z => guardM (q0 z) (M.pure (.nx (ρ.set i (.val z))))) s) E := q
  cases hv : (seeE pHide ρ)[i]?.bind id with
  | none => rw [hv] at q; exact False.elim q
  | some o =>
    rw [hv] at q
    have hg : (seeE pHide ρ)[i]? = some (some o) := by
      cases z : (seeE pHide ρ)[i]? with
      | none => rw [z] at hv; cases hv
      | some y => rw [z] at hv; rw [show y = some o from hv]
    obtain ⟨vx, e1, rx⟩ := en.get i o hg
    refine ⟨vx, e1, ?_⟩
    have q' : PostS X.K cl W Z0 C0 H0 (M.bind (f (seeE p ρ)) (fun d => M.bind (lift (g o d)) fun z => guardM (q0 z) (M.pure (.nx (ρ.set i (.val z))))) s) E := q
    refine ⟨seeZ p ρ α Z H, C, s, seeE p ρ, see_wd w r sp.nd, see_env sp r, PostS.seq sp w c0 n r q' fun d s1 v Z1 C1 H1 w1 n1 r1 q1 => ?_⟩
    have q1 : PostS X.K cl W Z0 C0 H0 (M.bind (lift (g o d)) (fun z => guardM (q0 z) (M.pure (.nx (ρ.set i (.val z))))) s1) E := q1
    cases hz : g o d with
    | none => rw [hz] at q1; exact False.elim q1
    | some z =>
      rw [hz] at q1
      have q1 : PostS X.K cl W Z0 C0 H0 (guardM (q0 z) (M.pure (.nx (ρ.set i (.val z)))) s1) E := q1
      refine hr Z1 H1 vx v o d z _ w1.zh ((rx.mono (see_sub r)).mono n1.zz) r1 hz fun v2 Z2 H2 al r2 => ?_
      have u := see_un sp w c0 n r (al.wd w1) (n1.trans w.ch w1.ch al.nx)
      unfold guardM at q1
      split at q1
      · rename_i hq
        exact q1 _ _ C1 H2 α u.wd u.nx (u.rel.setVal (u.rep kp hq r2))
      · exact False.elim q1
def iaddD : D → D → Option D
  | .int i, .int j => some (.int (i + j))
  | _, _ => none
theorem v_ipadd : OpV X.K cl (ipI fun i j => i + j) iaddD := by
  intro Z H x y dx dy d Q h rx ry e q
  unfold iaddD at e
  split at e <;> cases e
  cases rx; cases ry
  exact ⟨_, _, rfl, rfl, q _ Z H (.refl h) (.int _)⟩
theorem v_ipsub : OpV X.K cl (ipI fun i j => i - j) subD := by
  intro Z H x y dx dy d Q h rx ry e q
  unfold subD at e
  split at e <;> cases e
  cases rx; cases ry
  exact ⟨_, _, rfl, rfl, q _ Z H (.refl h) (.int _)⟩
/-! ### for -/
theorem Nx.rebase {Z0 C0 H0 Z C H : Hp} (a : Nx Z0 C0 H0 Z C H) : Nx Z C0 H0 Z C H :=
  ⟨.refl _, a.hh, fun x e => .inl e, a.cf, a.cp, fun _ _ _ => trivial⟩
theorem Nx.unbase {Z0 C0 H0 Z C H Z1 C1 H1 : Hp} (a : Nx Z0 C0 H0 Z C H) (b : Nx Z C0 H0 Z1 C1 H1) : Nx Z0 C0 H0 Z1 C1 H1 :=
  ⟨a.zz.trans b.zz, b.hh, fun x e => (b.zf x e).elim (a.zf x) .inr, b.cf, b.cp, fun _ _ _ => trivial⟩
theorem PostS.rebase {K : PySem.W.Frag} {Z0 C0 H0 Z C H : Hp} {r : Res B.T Fl} {E : Ends} (a : Nx Z0 C0 H0 Z C H) (h : PostS K cl W Z0 C0 H0 r E) : PostS K cl W Z C0 H0 r E := by
  cases r with
  | ok fl s =>
    cases fl with
    | nx ρ => exact fun σ Z1 C1 H1 α w n => h σ Z1 C1 H1 α w (a.unbase n)
    | bk ρ => exact fun σ Z1 C1 H1 α w n => h σ Z1 C1 H1 α w (a.unbase n)
    | ct ρ => exact fun σ Z1 C1 H1 α w n => h σ Z1 C1 H1 α w (a.unbase n)
    | rt d => exact fun v Z1 C1 H1 w n => h v Z1 C1 H1 w (a.unbase n)
    | ro d => exact fun v F Z1 C1 H1 w n => h v F Z1 C1 H1 w (a.unbase n)
  | err x s => exact fun c dx σ Z1 C1 H1 w n => h c dx σ Z1 C1 H1 w (a.unbase n)
  | stuck => exact h
def forL (a : D → Option Asg) (F : SEnv → M B Fl) : List D → SEnv → M B Fl
  | [], ρ => M.pure (.nx ρ)
  | d :: ds, ρ => M.bind (lift (a d)) fun as => M.bind (F (setsS ρ as)) fun fl => match fl with
    | .nx ρ' => forL a F ds ρ'
    | .ct ρ' => forL a F ds ρ'
    | .bk ρ' => M.pure (.nx ρ')
    | .rt d => M.pure (.rt d)
    | .ro d => M.pure (.ro d)
theorem ds_for {tg iter : Expr} {body : List Stmt} {src : Env → M B (List D)} {a : D → Option Asg} {F : SEnv → M B Fl} {pos : Pos} (hp : PassesOwn (model X.prog X.w) X.A X.env X.xe) (hc : X.calm = true) (hi : DI cl B true W X tg iter src) (hg : DG cl X tg a) (hb : DSs cl B W X body F)
    (hs : ∀ x, foldedSetIterable iter X.env x = pure x := by intro _; rfl) : DS cl B W X (.For tg iter body [] pos) fun ρ => M.bind (src (seeE pHide ρ)) fun ds => forL a F ds ρ := by
  refine PS.weak (ps_for hp hc hi hg hb hs) fun E σ H ⟨Z0, C0, H0, Z, C, s, ρ, α, c0, w, n, r, q⟩ => ?_
  refine ⟨seeZ pHide ρ α Z H, C, s, seeE pHide ρ, see_wd w r seeHide.nd, see_env seeHide r, PostS.seq seeHide w c0 n r q fun ds s1 J Z1 C1 H1 w1 n1 r1 q1 => ?_⟩
  have u := see_un seeHide w c0 n r w1 n1
  have u1 := u.wd; have u2 := u.nx; have u3 := u.rel
  rw [unZ_hide pHide_no] at u1 u2 u3
  refine for_it r1.1 (fun i σ H => ∃ Zi Ci si ρi αi, Wd B true Zi Ci H si ∧ Nx Z0 C0 H0 Zi Ci H ∧ SRel X.K cl Zi Ci H H0 ρi σ αi ∧ Sub Z1 Zi ∧ PostS X.K cl W Z0 C0 H0 (forL a F (ds.drop i) ρi si) E)
    ⟨Z1, C1, s1, ρ, α, u1, u2, u3, .refl _, q1⟩ (fun i σ H hi ⟨Zi, Ci, si, ρi, αi, wi, ni, ri, zi, pi⟩ => zi.trans wi.zh) ?_ ?_
  · rintro i x σ2 H2 H2' hi ⟨Zi, Ci, si, ρi, αi, wi, ni, ri, zi, pi⟩ ⟨d, hd, hy⟩
    obtain ⟨Zc, al, rx⟩ := hy Zi zi wi.zh
    have hdr : ds.drop i = d :: ds.drop (i + 1) := by
      have hlt : i < ds.length := hi
      rw [List.drop_eq_getElem_cons hlt]
      have : ds[i] = d := by
        rw [List.getElem?_eq_getElem hlt] at hd
        exact Option.some.inj hd
      rw [this]
    rw [hdr] at pi
    have wc := al.wd wi
    have nc := ni.trans c0 wi.ch al.nx
    have rc : SRel X.K cl Zc Ci H2' H0 ρi σ2 αi := by
      refine ri.move al.zz (fun j e x o q hx ho => al.hh _ _ ho) (fun j e x q qx => ?_) fun j e x q qx => (ri.fp j e x q qx).2.2.1
      obtain ⟨h2, h3, h4, o, ho, _⟩ := ri.fp j e x q qx
      cases qz : Zc x with
      | none => rfl
      | some z =>
        rcases al.zf _ (some_ne qz) with zz | zz
        · exact absurd h3 zz
        · rw [ho] at zz; cases zz
    have pi : PostS X.K cl W Z0 C0 H0 (M.bind (lift (a d)) (fun as => M.bind (F (setsS ρi as)) fun fl => match fl with
      | .nx ρ' => forL a F (ds.drop (i + 1)) ρ'
      | .ct ρ' => forL a F (ds.drop (i + 1)) ρ'
      | .bk ρ' => M.pure (.nx ρ')
      | .rt d => M.pure (.rt d)
      | .ro d => M.pure (.ro d)) si) E := pi
    cases ha : a d with
    | none => rw [ha] at pi; exact False.elim pi
    | some as =>
      rw [ha] at pi
      refine ⟨Zc, d, as, wc.zh, rx, ha, fun vs av => ?_⟩
      refine ⟨Zc, C0, H0, Zc, Ci, si, setsS ρi as, αi, c0, wc, nc.rebase, rc.sets av, ?_⟩
      have pi : PostS X.K cl W Z0 C0 H0 (M.bind (F (setsS ρi as)) (fun fl => match fl with
        | .nx ρ' => forL a F (ds.drop (i + 1)) ρ'
        | .ct ρ' => forL a F (ds.drop (i + 1)) ρ'
        | .bk ρ' => M.pure (.nx ρ')
        | .rt d => M.pure (.rt d)
        | .ro d => M.pure (.ro d)) si) E := pi
      unfold M.bind at pi
      cases hF : F (setsS ρi as) si with
      | stuck => simp only [hF] at pi; exact pi
      | err x s3 =>
        simp only [hF] at pi
        exact fun c dx σ3 Z3 C3 H3 w3 n3 => pi c dx σ3 Z3 C3 H3 w3 (nc.unbase n3)
      | ok fl s3 =>
        simp only [hF] at pi
        cases fl with
        | nx ρ3 => exact fun σ3 Z3 C3 H3 α3 w3 n3 r3 => ⟨Z3, C3, s3, ρ3, α3, w3, nc.unbase n3, r3, (zi.trans al.zz).trans n3.zz, pi⟩
        | ct ρ3 => exact fun σ3 Z3 C3 H3 α3 w3 n3 r3 => ⟨Z3, C3, s3, ρ3, α3, w3, nc.unbase n3, r3, (zi.trans al.zz).trans n3.zz, pi⟩
        | bk ρ3 => exact fun σ3 Z3 C3 H3 α3 w3 n3 r3 => pi σ3 Z3 C3 H3 α3 w3 (nc.unbase n3) r3
        | rt d => exact fun v Z3 C3 H3 w3 n3 r3 => pi v Z3 C3 H3 w3 (nc.unbase n3) r3
        | ro d => exact fun v F Z3 C3 H3 w3 n3 r3 => pi v F Z3 C3 H3 w3 (nc.unbase n3) r3
  · rintro σ2 H2 ⟨Zi, Ci, si, ρi, αi, wi, ni, ri, zi, pi⟩
    rw [List.drop_length] at pi
    exact pi σ2 Zi Ci H2 αi wi ni ri
end
end DN
set_option Elab.async false
set_option linter.all false
set_option maxRecDepth 100000
set_option maxHeartbeats 4000000
namespace DN
open PySem PySem.Spec PyProof.Rows L2 RZ
variable {B : Sto}
/-! ## a def -/
def startE (m : Nat) (ds : List D) : SEnv := ds.map .val ++ List.replicate (m - ds.length) .no
def retF (fl : Fl) : M B D := match fl with
  | .nx _ => M.pure .non
  | .rt d => M.pure d
  | _ => fun _ => .stuck
/-- what a def of m slots means, its body meaning F -/
def runF (m : Nat) (F : SEnv → M B Fl) (ds : List D) : M B D := M.bind (F (startE m ds)) retF
/-- what leaves a def -/
abbrev WD (E : XK) : WX := fun c d _ H => E c d H
section
variable {P : Program} {w : World} {K : PySem.W.Frag} {mg : Str → Option Value} {base : Heap} {cl : CTab}
abbrev CXD (P : Program) (w : World) (K : PySem.W.Frag) (mg : Str → Option Value) (base : Heap) (N : List Str) (qual : Str) (st : Stmt) (f : Addr) (cdv : Value) (A : Around) (outer : List PySem.Env) (s : Shared) (H : Hp) (E : XK) : Cx :=
  cxOf (L2.CX P w) P w K mg base N qual (defScope st) f cdv A outer s H E
theorem start_rel {Z C H H0 : Hp} {ds : List D} {vs : List V} {N : List Str} {α : Nat → Addr → Prop} (r : RepL K cl Z vs ds) : SRel K cl Z C H H0 (startE N.length ds) (L2.start N vs) α := by
  have rl := r.len
  have noown : ∀ (i : Nat) (d : D), (startE N.length ds)[i]? ≠ some (.own d) := fun i d q => by
    unfold startE at q
    by_cases hi : i < ds.length
    · rw [List.getElem?_append_left (by simpa using hi), List.getElem?_map, List.getElem?_eq_getElem hi] at q
      cases q
    · rw [List.getElem?_append_right (by simpa using hi), List.getElem?_replicate] at q
      split at q <;> cases q
  refine ⟨by simp [startE, L2.start, rl], fun i d q => ?_, fun i d q => absurd q (noown i d), fun i d x q => absurd q (noown i d), fun i j d e x q => absurd q (noown i d)⟩
  unfold startE at q
  by_cases hi : i < ds.length
  · rw [List.getElem?_append_left (by simpa using hi), List.getElem?_map] at q
    cases hd : ds[i]? with
    | none => rw [hd] at q; cases q
    | some d' =>
      rw [hd] at q
      cases q
      obtain ⟨v, h1, h2⟩ := r.get hd
      refine ⟨v, ?_, h2⟩
      unfold L2.start
      rw [List.getElem?_append_left (by rw [List.length_map, rl]; exact hi), List.getElem?_map, h1]
      rfl
  · rw [List.getElem?_append_right (by simpa using hi), List.getElem?_replicate] at q
    split at q <;> cases q
theorem fn_ok {x qual : Str} {st : Stmt} {f : Addr} {fd : FuncData} {N ps : List Str} {k n : Nat} {F : SEnv → M B Fl} (G : Fun K x qual st f fd) (S : FnScope N ps (defScope st)) (hn : ps.length = n)
    (hbody : ∀ (cdv : Value) (A : Around) (outer : List PySem.Env) (s : Shared) (H : Hp) (E : XK), Room k (A.deeper (envOfC qual (defScope st) s.heap.objs.size f cdv)) →
      DSs cl B (WD E) (CXD P w K mg base N qual st f cdv A outer s H E) (defBody st) F) :
    FnOk P w K mg base (L2.CX P w) (k + 1) f fd ps (spD K cl B n (runF N.length F)) := by
  refine G.okX S (fun vs H Q E h => spD_len hn vs H Q E h) fun cdv A outer s H vs Q E hr h => ?_
  refine ⟨_, hbody cdv A outer s H E hr, ?_⟩
  obtain ⟨Z, C, sb, ds, wd, r, l, p⟩ := h
  refine ⟨Z, C, H, Z, C, sb, startE N.length ds, fun _ _ => False, wd.ch, wd, .refl .., start_rel r, ?_⟩
  show PostS K cl (WD E) Z C H (F (startE N.length ds) sb) _
  unfold runF M.bind at p
  cases hF : F (startE N.length ds) sb with
  | stuck => simp only [hF] at p; exact p
  | err x s1 =>
    simp only [hF] at p
    exact fun c dx σ Z1 C1 H1 w1 n1 ex => p c dx Z1 C1 H1 w1 n1 ex
  | ok fl s1 =>
    simp only [hF] at p
    cases fl with
    | nx ρ => exact fun σ1 Z1 C1 H1 α1 w1 n1 r1 => p .non Z1 C1 H1 w1 n1 .non
    | rt d => exact fun v Z1 C1 H1 w1 n1 r1 => p v Z1 C1 H1 w1 n1 r1
    | bk ρ => exact False.elim p
    | ct ρ => exact False.elim p
    | ro d => exact False.elim p
/-- .. that may give something of its own -/
def retFO (fl : Fl) : M B D := match fl with
  | .rt d => guardM (!d.isMut) (M.pure d)
  | .ro d => M.pure (.ins "" [d])
  | .nx _ => M.pure .non
  | _ => fun _ => .stuck
def runFO (m : Nat) (F : SEnv → M B Fl) (ds : List D) : M B D := M.bind (F (startE m ds)) retFO
theorem fn_okO {x qual : Str} {st : Stmt} {f : Addr} {fd : FuncData} {N ps : List Str} {k n : Nat} {F : SEnv → M B Fl} (G : Fun K x qual st f fd) (S : FnScope N ps (defScope st)) (hn : ps.length = n)
    (hbody : ∀ (cdv : Value) (A : Around) (outer : List PySem.Env) (s : Shared) (H : Hp) (E : XK), Room k (A.deeper (envOfC qual (defScope st) s.heap.objs.size f cdv)) →
      DSs cl B (WD E) (CXD P w K mg base N qual st f cdv A outer s H E) (defBody st) F) :
    FnOk P w K mg base (L2.CX P w) (k + 1) f fd ps (spDO K cl B n (runFO N.length F)) := by
  refine G.okX S (fun vs H Q E h => spDO_len hn vs H Q E h) fun cdv A outer s H vs Q E hr h => ?_
  refine ⟨_, hbody cdv A outer s H E hr, ?_⟩
  obtain ⟨Z, C, sb, ds, wd, r, l, p⟩ := h
  refine ⟨Z, C, H, Z, C, sb, startE N.length ds, fun _ _ => False, wd.ch, wd, .refl .., start_rel r, ?_⟩
  show PostS K cl (WD E) Z C H (F (startE N.length ds) sb) _
  unfold runFO M.bind at p
  cases hF : F (startE N.length ds) sb with
  | stuck => simp only [hF] at p; exact p
  | err x s1 =>
    simp only [hF] at p
    exact fun c dx σ Z1 C1 H1 w1 n1 ex => p c dx Z1 C1 H1 w1 n1 ex
  | ok fl s1 =>
    simp only [hF] at p
    cases fl with
    | nx ρ => exact fun σ1 Z1 C1 H1 α1 w1 n1 r1 => p .non (fun _ => False) Z1 C1 H1 w1 n1 (fun _ q => q.elim) (.leaf rfl .non)
    | rt d =>
      intro v Z1 C1 H1 w1 n1 r1
      have p : PostM K cl true (fun c dx _ H' => E c dx H') [] Z C H (guardM (!d.isMut) (M.pure d) s1) Q := p
      unfold guardM at p
      split at p
      · rename_i hd
        exact p v (fun _ => False) Z1 C1 H1 w1 n1 (fun _ q => q.elim) (.leaf (by simpa using hd) r1)
      · exact False.elim p
    | ro d => exact fun v F Z1 C1 H1 w1 n1 hF o => p v F Z1 C1 H1 w1 n1 hF o
    | bk ρ => exact False.elim p
    | ct ρ => exact False.elim p
theorem takesD {N : List Str} {qual : Str} {st : Stmt} {f : Addr} {cdv : Value} {A : Around} {outer : List PySem.Env} {s : Shared} {H : Hp} {E : XK} : Takes (CXD P w K mg base N qual st f cdv A outer s H E) (WD E) := takes_of rfl rfl rfl rfl
theorem passesD {N : List Str} {qual : Str} {st : Stmt} {f : Addr} {cdv : Value} {A : Around} {outer : List PySem.Env} {s : Shared} {H : Hp} {E : XK} : PassesOwn (model (CXD P w K mg base N qual st f cdv A outer s H E).prog (CXD P w K mg base N qual st f cdv A outer s H E).w) (CXD P w K mg base N qual st f cdv A outer s H E).A (CXD P w K mg base N qual st f cdv A outer s H E).env (CXD P w K mg base N qual st f cdv A outer s H E).xe := passes_of rfl
end
end DN
set_option Elab.async false
set_option linter.all false
set_option maxRecDepth 100000
set_option maxHeartbeats 4000000
namespace DN
open PySem PySem.Spec PyProof.Rows L2 RZ
/-! ## a memory of things that change -/
def MemR (K : PySem.W.Frag) (cl : CTab) (Z C : Hp) (a : Addr) : D → Prop
  | .lst ds => D.immL ds = true ∧ ∃ vs, C a = some (.lst vs) ∧ vs.length ≤ sizeLine ∧ RepL K cl Z vs ds
  | .ins c ds => D.immL ds = true ∧ ∃ (C0 dx : Addr) (fs : List (Str × V)) (names : List Str), cl c = some (C0, names) ∧ C a = some (.ins C0 dx fs) ∧ fs.map (·.1) = names.take ds.length ∧ RepL K cl Z (fs.map (·.2)) ds
  | _ => False
theorem MemR.mono {K : PySem.W.Frag} {cl : CTab} {Z Z' C C' : Hp} {a : Addr} (h : SubI Z Z') (hc : C' a = C a) : ∀ {d : D}, MemR K cl Z C a d → MemR K cl Z' C' a d
  | .lst ds, ⟨i, vs, a, b, c⟩ => ⟨i, vs, hc.trans a, b, c.monoI h _ i⟩
  | .ins c ds, ⟨i, C, dx, fs, ns, a, b, c1, e⟩ => ⟨i, C, dx, fs, ns, a, hc.trans b, c1, e.monoI h _ i⟩
abbrev Mem := Addr → Option D
@[reducible] def MemS (K : PySem.W.Frag) (cl : CTab) : Sto where
  T := Mem
  R m Z C := ∀ a, match m a with
    | none => C a = none
    | some d => MemR K cl Z C a d
  mono := fun {m Z Z' C} r h a => by
    have q := r a
    cases e : m a with
    | none => rw [e] at q; exact q
    | some d => rw [e] at q; exact q.mono h rfl
def updM (m : Mem) (a : Addr) (d : Option D) : Mem := fun x => if x = a then d else m x
section
variable {K : PySem.W.Frag} {cl : CTab} {md : Bool} {Z C H Z1 C1 H1 : Hp} {m : Mem} {a : Addr} {d d' : D} {o o' : HO}
theorem mem_at (w : Wd (MemS K cl) md Z C H m) (h : m a = some d) : MemR K cl Z C a d := by
  have q := w.sr a
  rw [h] at q
  exact q
theorem mem_no (w : Wd (MemS K cl) md Z C H m) (h : m a = none) : C a = none := by
  have q := w.sr a
  rw [h] at q
  exact q
theorem MemR.there (h : MemR K cl Z C a d) : ∃ o, C a = some o := by
  cases d with
  | lst => obtain ⟨_, vs, e, _⟩ := h; exact ⟨_, e⟩
  | ins => obtain ⟨_, _, _, _, _, _, e, _⟩ := h; exact ⟨_, e⟩
  | _ => exact False.elim h
/-- a store -/
theorem mem_put (w : Wd (MemS K cl) md Z C H m) (h : C a = some o) (r : MemR K cl Z (upd C a o') a d') : Wd (MemS K cl) md Z (upd C a o') (upd H a o') (updM m a (some d')) ∧ Nx Z C H Z (upd C a o') (upd H a o') := by
  have za : Z a = none := w.dj a (some_ne h)
  refine ⟨⟨fun x u e => ?_, fun x u e => ?_, fun x e => ?_, fun x => ?_, w.zd⟩, ⟨.refl _, fun x u e c => ?_, fun x e => .inl e, fun x e => ?_, fun x e => ?_, fun _ _ _ => trivial⟩⟩
  · rw [upd_ne (ne_of_none e za)]; exact w.zh x u e
  · by_cases hx : x = a
    · rw [hx, upd_same] at e ⊢; exact e
    · rw [upd_ne hx] at e ⊢; exact w.ch x u e
  · by_cases hx : x = a
    · rw [hx]; exact za
    · rw [upd_ne hx] at e; exact w.dj x e
  · unfold updM
    by_cases hx : x = a
    · rw [hx, if_pos rfl]; exact r
    · rw [if_neg hx]
      have q := w.sr x
      cases e : m x with
      | none => rw [e] at q; exact (upd_ne hx).trans q
      | some d => rw [e] at q; exact q.mono (fun _ _ _ e => e) (upd_ne hx)
  · rw [upd_ne (fun z => by rw [z, h] at c; cases c)]; exact e
  · by_cases hx : x = a
    · rw [hx]; exact .inl (some_ne h)
    · rw [upd_ne hx] at e; exact .inl e
  · by_cases hx : x = a
    · rw [hx, upd_same]; exact fun z => nomatch z
    · rw [upd_ne hx]; exact e
end
/-! ### reading -/
def rdM {K : PySem.W.Frag} {cl : CTab} (a : Addr) : M (MemS K cl) D := fun m => match m a with
  | some d => .ok d m
  | none => .stuck
/-- x[y], also of a list in the memory -/
def ixM {K : PySem.W.Frag} {cl : CTab} (x y : D) : M (MemS K cl) D := match x with
  | .ref a => M.bind (rdM a) fun l => lift (match l, y with
    | .lst ds, .int i => atI ds i
    | _, _ => none)
  | x => lift (ixD x y)
def lenM {K : PySem.W.Frag} {cl : CTab} (x : D) : M (MemS K cl) D := match x with
  | .ref a => M.bind (rdM a) fun l => lift (match l with
    | .lst ds => some (.int ds.length)
    | _ => none)
  | _ => fun _ => .stuck
section
variable {cl : CTab} {md : Bool} {W : WX} {X : Cx}
theorem de_ixM {a b : Expr} {f1 f2 : Env → M (MemS X.K cl) D} {pos : Pos} (ha : DE cl (MemS X.K cl) md W X a f1) (hb : DE cl (MemS X.K cl) md W X b f2) (hs : PlainIx b := by exact fun _ _ => rfl) :
    DE cl (MemS X.K cl) md W X (.Subscript a b pos) fun ρ => M.bind (f1 ρ) fun x => M.bind (f2 ρ) fun y => match x with
      | .ref a => ixM (.ref a) y
      | _ => fun _ => .stuck := by
  refine PE.weak (pe_ix ix_seq ha hb hs) fun σ H Q ⟨Z, C, s, ρ, w, e, p⟩ => ?_
  refine ⟨Z, C, s, ρ, w, e, Post.seq w.ch p fun dx s1 x Z1 C1 H1 w1 n1 r1 p1 => ?_⟩
  refine ⟨Z1, C1, s1, ρ, w1, e.mono n1.zz, Post.seq w1.ch p1 fun dy s2 y Z2 C2 H2 w2 n2 r2 p2 => ?_⟩
  cases dx <;> (try (exact False.elim p2))
  rename_i ad
  cases r1
  unfold ixM rdM M.bind at p2
  cases hm : s2 ad with
  | none => simp only [hm] at p2; exact False.elim p2
  | some l =>
    simp only [hm] at p2
    have mr := mem_at w2 hm
    cases l <;> (try (exact False.elim p2))
    cases dy <;> (try (exact False.elim p2))
    obtain ⟨im, vs, h1, h2, h3⟩ := mr
    cases r2
    obtain ⟨d, hd, q⟩ := post_lift w2 p2
    obtain ⟨v, h4, h5⟩ := atI_rep h3 hd
    exact .inl ⟨_, _, _, v, rfl, rfl, SqL.of (w2.ch _ _ h1), h4, q v Z2 H2 (.refl w2.zh) h5⟩
theorem de_lenM {a : Expr} {f : Env → M (MemS X.K cl) D} {p pos : Pos} (hg : Gl X "len") (hm : X.mg "len" = none) (ha : DE cl (MemS X.K cl) md W X a f)
    (he : starEach [a] X.env = (false, eval a X.env) :: starEach [] X.env := by rfl) (hpl : (backTo pos (starEach [] X.env)).any (·.1) = false := by rfl) :
    DE cl (MemS X.K cl) md W X (.Call (.Name "len" p) [a] [] pos) fun ρ => M.bind (f ρ) fun x => lenM x := by
  refine PE.weak (pe_callB call_len_seq hg hm PySem.boot_len (pa_cons ha pa_nil he) (by decide) (by decide) he hpl) fun σ H Q ⟨Z, C, s, ρ, w, e, p⟩ => ?_
  refine ⟨Z, C, s, ρ, w, e, Post.seq w.ch p fun dx s1 x Z1 C1 H1 w1 n1 r1 p1 => ?_⟩
  cases dx <;> (try (exact False.elim p1))
  rename_i ad
  cases r1
  unfold lenM rdM M.bind at p1
  cases hm2 : s1 ad with
  | none => simp only [hm2] at p1; exact False.elim p1
  | some l =>
    simp only [hm2] at p1
    have mr := mem_at w1 hm2
    cases l <;> (try (exact False.elim p1))
    obtain ⟨im, vs, h1, h2, h3⟩ := mr
    obtain ⟨d, hd, q⟩ := post_lift w1 p1
    cases hd
    refine ⟨ad, vs, rfl, .inl (SqL.of (w1.ch _ _ h1)), ?_⟩
    have := q (.int vs.length) Z1 H1 (.refl w1.zh) (by rw [h3.len]; exact .int _)
    exact this
end
end DN
set_option Elab.async false
set_option linter.all false
set_option maxRecDepth 100000
set_option maxHeartbeats 4000000
namespace DN
open PySem PySem.Spec PyProof.Rows L2 RZ
/-! ## instances -/
section
variable {X : Cx} {CX : CXT} {k : Nat} {f C : Addr} {fd : FuncData} {ps : List Str} {sp : Sp} {E : L2.St → XK} {x m : Str} {p pos apos : Pos} {e o : Expr} {es : List Expr} {ta : TE} {t : TA}
def tMethS (C : Addr) (m : Str) (sp : Sp) (E : L2.St → XK) (ta : TE) (t : TA) : TE := fun σ H Q => ta σ H fun x H1 => ∃ a dx fs, x = .ref a ∧ H1 a = some (.ins C dx fs) ∧ fs.lookup m = none ∧
  t σ H1 fun vs H2 => sp (x :: vs) H2 Q (E σ)
theorem pe_methS {pl : Sem Bool} (he : PE X o ta) (c : Cls X.K C) (hm : Meth X.K C m f) (F : FnOk X.prog X.w X.K X.mg X.base CX k f fd ps sp) (hr : Room k X.A) (hb : Binds X.K fd ps []) (hx : ∀ σ, PassesAt CX X σ (E σ)) (ha : PA X (e :: es) t)
    (hst : starEach (e :: es) X.env = (false, eval e X.env) :: starEach es X.env := by rfl) (hpl : (backTo pos (starEach es X.env)).any (·.1) = false := by rfl)
    (ht : eval (.Call (.Attribute o m apos) (e :: es) [] pos) X.env = (do
      let ov ← eval o X.env
      standAt apos.atName
      let (f, first) ← holding [ov] (getMethod ov m pl)
      callWith pos f first (backTo pos (starEach (e :: es) X.env)) (backToKw pos (keywordEach [] X.env))) := by rfl) :
    PE X (.Call (.Attribute o m apos) (e :: es) [] pos) (tMethS C m sp E ta t) := by
  refine ⟨fun pins s σ H Q I h => ?_⟩
  refine PySem.W.methodCall_KW (pl := pl) (thn (he.run pins s σ H _ I h) fun u s1 ⟨x, H1, I1, rx, a, dx, fs, ex, ea, l, q⟩ => ?_) ht
  subst ex
  obtain rfl : u = Value.ref a := rx
  refine getmeth_ok I1 ea c hm l ?_
  refine PySem.W.callWith_K (first := [.ref a]) (h₀ := X.base) I.ok.mod.kin hm.kp (thn (ha.run pos pins s1 σ H1 _ I1 q) fun us s2 ⟨vs, H2, I2, r, q2⟩ => ⟨I2.kIn, ?_⟩) hst hpl
  exact run_fnS (us := .ref a :: us) (vs := .ref a :: vs) F hr hb (hx σ) I2 (.cons rfl r) q2
theorem pe_methS0 {pl : Sem Bool} (he : PE X o ta) (c : Cls X.K C) (hm : Meth X.K C m f) (F : FnOk X.prog X.w X.K X.mg X.base CX k f fd ps sp) (hr : Room k X.A) (hb : Binds X.K fd ps []) (hx : ∀ σ, PassesAt CX X σ (E σ))
    (ht : eval (.Call (.Attribute o m apos) [] [] pos) X.env = (do
      let ov ← eval o X.env
      standAt apos.atName
      let (f, first) ← holding [ov] (getMethod ov m pl)
      callWith pos f first (backTo pos (starEach [] X.env)) (backToKw pos (keywordEach [] X.env))) := by rfl) :
    PE X (.Call (.Attribute o m apos) [] [] pos) (tMethS C m sp E ta tNil) := by
  refine ⟨fun pins s σ H Q I h => ?_⟩
  refine PySem.W.methodCall_KW (pl := pl) (thn (he.run pins s σ H _ I h) fun u s1 ⟨x, H1, I1, rx, a, dx, fs, ex, ea, l, q⟩ => ?_) ht
  subst ex
  obtain rfl : u = Value.ref a := rx
  refine getmeth_ok I1 ea c hm l ?_
  exact PySem.W.callWith_K0 (first := [.ref a]) I1.kIn hm.kp (run_fnS (us := [.ref a]) (vs := [.ref a]) F hr hb (hx σ) I1 (.cons rfl .nil) q)
def tMakeS (C : Addr) (sp : Sp) (E : L2.St → XK) (t : TA) : TE := fun σ H Q => t σ H fun vs H1 => ∀ x dx, H1 x = none → H1 dx = none → dx ≠ x →
  sp (.ref x :: vs) (upd (upd H1 dx (.own x)) x (.ins C dx [])) (fun v H2 => v = .non ∧ Q (.ref x) H2) (E σ)
theorem run_makeS {pins : List (Addr × Obj)} {σ : L2.St} {H : Hp} {s : Shared} {Q : VK} {us : List Value} {vs : List V} (M : Mk X.K C f) (F : FnOk X.prog X.w X.K X.mg X.base CX k f fd ps sp) (hr : Room (k + 1) X.A) (hb : Binds X.K fd ps [])
    (hx : PassesAt CX X σ (E σ)) (I : Inv X pins σ H s) (r : Vals vs us)
    (h : ∀ x dx, H x = none → H dx = none → dx ≠ x → sp (.ref x :: vs) (upd (upd H dx (.own x)) x (.ins C dx [])) (fun v H2 => v = .non ∧ Q (.ref x) H2) (E σ)) :
    wpAny (model X.prog X.w) X.A (call (.ref C) us) (EP X pins σ Q) X.xe s := by
  have hq := h (s.heap.objs.size + 1) s.heap.objs.size (I.hok.fresh (Nat.le_succ _)) (I.hok.fresh (Nat.le_refl _)) (Nat.ne_of_lt (Nat.lt_succ_self _))
  have I2 := Inv.made (C := C) I
  have r2 : Vals (V.ref (s.heap.objs.size + 1) :: vs) (Value.ref (s.heap.objs.size + 1) :: us) := .cons rfl r
  have hl : (Value.ref (s.heap.objs.size + 1) :: us ++ []).length = ps.length := by
    have e := r2.length
    rw [F.len _ _ _ _ hq] at e
    rw [List.append_nil]
    exact e.symm
  have b := hb _ (Value.ref (s.heap.objs.size + 1) :: us) I2.kIn hl
  rw [List.append_nil] at b
  refine wpAny_call (make_map (f := f) I.kIn M.makes M.init (beq_iff_eq.mp M.fn) (codeAny_mono (F.run _ X.stack _ _ ⟨Value.ref (s.heap.objs.size + 1) :: us, []⟩ (Value.ref (s.heap.objs.size + 1) :: us) _ _ (E σ) (hr.make C us [])
    (I2.env0.make C us []) b r2 hq) fun r s' hq' => ?_))
  cases r with
  | error e => exact hx pins _ _ e s' I2 hq'
  | ok fl =>
    cases fl with
    | ret u =>
      obtain ⟨v, H', I3, rv, ev, q3⟩ := I2.after hq'
      subst ev
      exact ⟨rv, ⟨V.ref (s.heap.objs.size + 1), H', I3, rfl, q3⟩⟩
    | next => exact False.elim hq'
    | brk => exact False.elim hq'
    | cont => exact False.elim hq'
theorem pe_makeS (M : Mk X.K C f) (F : FnOk X.prog X.w X.K X.mg X.base CX k f fd ps sp) (hr : Room (k + 1) X.A) (hg : Gl X x) (hm : X.mg x = some (.ref C)) (hb : Binds X.K fd ps []) (hx : ∀ σ, PassesAt CX X σ (E σ))
    (ha : PA X (e :: es) t) (hdb : (x == ("__debug__" : Str)) = false := by decide) (he : starEach (e :: es) X.env = (false, eval e X.env) :: starEach es X.env := by rfl) (hpl : (backTo pos (starEach es X.env)).any (·.1) = false := by rfl) :
    PE X (.Call (.Name x p) (e :: es) [] pos) (tMakeS C sp E t) := by
  refine ⟨fun pins s σ H Q I h => ?_⟩
  refine wpAny_Call_Name_kw (ld_glob I hg hm ?_ hdb)
  refine PySem.W.callWith_K (h₀ := X.base) I.ok.mod.kin M.kp (thn (ha.run pos pins s σ H _ I h) fun us s1 ⟨vs, H1, I1, r, q⟩ => ⟨I1.kIn, ?_⟩) he hpl
  exact run_makeS M F hr hb (hx σ) I1 r q
end
/-! ### fields -/
theorem lookup_at {f : Str} {v : V} : ∀ {fs : List (Str × V)} {ns : List Str} {i : Nat}, fs.map (·.1) = ns → ns.Nodup → ns[i]? = some f → (fs.map (·.2))[i]? = some v → fs.lookup f = some v
  | [], _, i, e, _, h, _ => by subst e; simp at h
  | (g, u) :: fs, _, 0, e, nd, h, hv => by
    subst e
    simp at h hv
    subst h; subst hv
    simp [List.lookup]
  | (g, u) :: fs, _, i + 1, e, nd, h, hv => by
    subst e
    rw [List.map_cons, List.nodup_cons] at nd
    have h' : (fs.map (·.1))[i]? = some f := by simpa using h
    have hne : (f == g) = false := by
      rw [beq_eq_false_iff_ne]
      intro z
      subst z
      exact nd.1 (List.mem_of_getElem? h')
    rw [List.lookup, hne]
    exact lookup_at (fs := fs) rfl nd.2 h' (by simpa using hv)
theorem lookup_no {f : Str} : ∀ {fs : List (Str × V)} {ns : List Str} {n : Nat}, fs.map (·.1) = ns.take n → f ∉ ns → fs.lookup f = none := by
  intro fs ns n e h
  have h2 : f ∉ fs.map (·.1) := fun z => h (List.mem_of_mem_take (by rw [← e]; exact z))
  clear e h
  induction fs with
  | nil => rfl
  | cons p fs ih =>
    rw [List.map_cons, List.mem_cons, not_or] at h2
    have hne : (f == p.1) = false := by rw [beq_eq_false_iff_ne]; exact h2.1
    show List.lookup f ((p.1, p.2) :: fs) = none
    rw [List.lookup, hne]
    exact ih h2.2
theorem putF_new {f : Str} {v : V} : ∀ {fs : List (Str × V)}, f ∉ fs.map (·.1) → putF f v fs = fs ++ [(f, v)]
  | [], _ => rfl
  | (g, u) :: fs, h => by
    rw [List.map_cons, List.mem_cons, not_or] at h
    show (if g = f then _ else _) = _
    rw [if_neg (fun z => h.1 z.symm), putF_new h.2]
    rfl
/-- where a field stands -/
structure FldAt (K : PySem.W.Frag) (cl : CTab) (c : Str) (f : Str) (i : Nat) : Prop where
  ex : ∃ C names, cl c = some (C, names) ∧ names[i]? = some f ∧ names.Nodup ∧ names.length < 1000 ∧ Cls K C ∧ NoAttr K C f
/-- a field of a thing, or of a thing in the memory -/
def fldM {K : PySem.W.Frag} {cl : CTab} (c : Str) (i : Nat) (x : D) : M (MemS K cl) D := match x with
  | .ins c' ds => lift (if c' = c then ds[i]? else none)
  | .ref a => M.bind (rdM a) fun l => lift (match l with
    | .ins c' ds => if c' = c then ds[i]? else none
    | _ => none)
  | _ => fun _ => .stuck
/-- a store into a field -/
def setfM {K : PySem.W.Frag} {cl : CTab} (c : Str) (i : Nat) (x d : D) : M (MemS K cl) Unit := fun m => match x with
  | .ref a => match m a with
    | some (.ins c' ds) => if c' = c ∧ d.imm = true ∧ i = ds.length then .ok () (updM m a (some (.ins c (ds ++ [d])))) else .stuck
    | _ => .stuck
  | _ => .stuck
section
variable {cl : CTab} {md : Bool} {W : WX} {X : Cx} {p : D → Bool}
theorem de_fld {e : Expr} {f : Env → M (MemS X.K cl) D} {c fl : Str} {i : Nat} {pos : Pos} (F : FldAt X.K cl c fl i) (he : DE cl (MemS X.K cl) md W X e f) (hb : attributeBase e fl X.env (eval e X.env) = eval e X.env := by rfl) :
    DE cl (MemS X.K cl) md W X (.Attribute e fl pos) fun ρ => M.bind (f ρ) (fldM c i) := by
  obtain ⟨C, names, hc, hi, nd, _, C1, NA⟩ := F.ex
  refine PE.weak (pe_fld he hb) fun σ H Q ⟨Z, C, s, ρ, w, e, p⟩ => ?_
  refine ⟨Z, C, s, ρ, w, e, Post.seq w.ch p fun dx s1 x Z1 C1 H1 w1 n1 r1 p1 => ?_⟩
  have fin : ∀ {ds : List D} {fs : List (Str × V)} {d : D}, fs.map (·.1) = names.take ds.length → RepL X.K cl Z1 (fs.map (·.2)) ds → ds[i]? = some d → ∃ v, fs.lookup fl = some v ∧ Rep X.K cl Z1 v d := by
    intro ds fs d e1 e2 e3
    obtain ⟨v, h1, h2⟩ := e2.get e3
    refine ⟨v, lookup_at e1 (nd.sublist (List.take_sublist _ _)) ?_ h1, h2⟩
    have hlt : i < ds.length := (List.getElem?_eq_some_iff.mp e3).1
    rw [List.getElem?_take_of_lt hlt]
    exact hi
  cases dx <;> (try (exact False.elim p1))
  · rename_i c' ds
    have p1 : Post X.K cl md (RpD X.K cl) W σ Z1 C1 H1 (lift (B := MemS X.K cl) (if c' = c then ds[i]? else none) s1) Q := p1
    obtain ⟨d, hd, q⟩ := post_lift w1 p1
    split at hd
    case isFalse => cases hd
    rename_i ec
    subst ec
    cases r1 with
    | ins a b c2 =>
      rename_i ad C0 dx fs
      rw [hc] at a
      obtain ⟨rfl, hnm⟩ : C0 = _ ∧ fs.map (·.1) = names := by
        have := Option.some.inj a
        rw [Prod.mk.injEq] at this
        exact ⟨this.1.symm, this.2.symm⟩
      have hlen : names.length = ds.length := by rw [← hnm, List.length_map, ← c2.len, List.length_map]
      obtain ⟨v, h1, h2⟩ := fin (by rw [← hlen, List.take_length]; exact hnm) c2 hd
      exact ⟨ad, _, dx, fs, v, rfl, w1.zh _ _ b, by assumption, NA, h1, q v Z1 H1 (.refl w1.zh) h2⟩
  · rename_i ad
    cases r1
    unfold fldM rdM M.bind at p1
    cases hm : s1 ad with
    | none => simp only [hm] at p1; exact False.elim p1
    | some l =>
      simp only [hm] at p1
      have mr := mem_at w1 hm
      cases l <;> (try (exact False.elim p1))
      rename_i c' ds
      obtain ⟨im, C0, dx, fs, ns, h1, h2, h3, h4⟩ := mr
      obtain ⟨d, hd, q⟩ := post_lift w1 p1
      simp only at hd
      split at hd
      case isFalse => cases hd
      rename_i ec
      subst ec
      rw [hc] at h1
      obtain ⟨rfl, rfl⟩ : C0 = _ ∧ ns = names := by
        have := Option.some.inj h1
        rw [Prod.mk.injEq] at this
        exact ⟨this.1.symm, this.2.symm⟩
      obtain ⟨v, h5, h6⟩ := fin h3 h4 hd
      exact ⟨ad, _, dx, fs, v, rfl, w1.ch _ _ h2, by assumption, NA, h5, q v Z1 H1 (.refl w1.zh) h6⟩
/-! ### stores -/
def setM {K : PySem.W.Frag} {cl : CTab} (x y d : D) : M (MemS K cl) Unit := fun m => match x, y with
  | .ref a, .int k => match m a with
    | some (.lst ds) => match ixN ds.length k with
      | some j => if d.imm = true then .ok () (updM m a (some (.lst (ds.set j d)))) else .stuck
      | none => .stuck
    | _ => .stuck
  | _, _ => .stuck
theorem immL_set {d : D} (h : d.imm = true) : ∀ {ds : List D} (j : Nat), D.immL ds = true → D.immL (ds.set j d) = true
  | [], _, e => e
  | x :: xs, 0, e => by
    have e2 : x.imm = true ∧ D.immL xs = true := by simpa [D.immL] using e
    simp [D.immL, h, e2.2]
  | x :: xs, j + 1, e => by
    have e2 : x.imm = true ∧ D.immL xs = true := by simpa [D.immL] using e
    simp [D.immL, e2.1, immL_set h j e2.2]
theorem immL_app {d : D} (h : d.imm = true) : ∀ {ds : List D}, D.immL ds = true → D.immL (ds ++ [d]) = true
  | [], e => by simp [D.immL, h]
  | x :: xs, e => by
    have e2 : x.imm = true ∧ D.immL xs = true := by simpa [D.immL] using e
    simp [D.immL, e2.1, immL_app h e2.2]
/-- o[i] = e, o in the memory -/
theorem ds_setM {o i e : Expr} {f fo fi : Env → M (MemS X.K cl) D} {tpos pos : Pos} (sp : See p md) (he : DE cl (MemS X.K cl) md W X e f) (ho : DE cl (MemS X.K cl) true W X o fo) (hi : DE cl (MemS X.K cl) true W X i fi)
    (hs : swapsWithSole [.Subscript o i tpos] e pos.line X.env = pure false := by rfl) (hw : swappedStores [.Subscript o i tpos] e X.env = pure none := by rfl) (h1 : (assignEach [.Subscript o i tpos] X.env).map (·.2) = [assign (.Subscript o i tpos) X.env] := by rfl)
    (ha : ∀ v, assign (.Subscript o i tpos) X.env v = (do
      let ov ← holding [v] (eval o X.env)
      let iv ← holding [v, ov] (eval i X.env)
      standAt tpos
      holding [v, ov, iv] (setItem ov iv v)
      release [v, ov, iv] []) := by intro _; rfl) :
    DS cl (MemS X.K cl) W X (.Assign [.Subscript o i tpos] e pos) fun ρ => M.bind (f (seeE p ρ)) fun d => M.bind (fo (seeE pHide ρ)) fun x => M.bind (fi (seeE pHide ρ)) fun y => M.bind (setM x y d) fun _ => M.pure (.nx ρ) := by
  refine PS.weak (ps_asg he (pg_sub ho hi set_list ha) hs hw h1) fun E σ H ⟨Z0, C0, H0, Z, C, s, ρ, α, c0, w, n, r, q⟩ => ?_
  refine ⟨seeZ p ρ α Z H, C, s, seeE p ρ, see_wd w r sp.nd, see_env sp r, PostS.seq sp w c0 n r q fun d s1 v Z1 C1 H1 w1 n1 r1 q1 => ?_⟩
  have u := see_un sp w c0 n r w1 n1
  have r1i : d.imm = true → Rep X.K cl (unZ p ρ α Z1) v d := fun h => r1.monoI u.imm d h
  have uw := u.wd; have un := u.nx; have ur := u.rel
  generalize unZ p ρ α Z1 = Zu at uw un ur r1i
  refine ⟨seeZ pHide ρ α Zu H1, C1, s1, seeE pHide ρ, see_wd uw ur seeHide.nd, see_env seeHide ur, PostS.seq seeHide uw c0 un ur q1 fun x s2 vx Z2 C2 H2 w2 n2 r2 q2 => ?_⟩
  have u2 := see_un seeHide uw c0 un ur w2 n2
  have uw2 := u2.wd; have un2 := u2.nx; have ur2 := u2.rel
  rw [seeZ_hide pHide_no] at n2
  rw [unZ_hide pHide_no] at uw2 un2 ur2
  refine ⟨seeZ pHide ρ α Z2 H2, C2, s2, seeE pHide ρ, see_wd uw2 ur2 seeHide.nd, see_env seeHide ur2, PostS.seq seeHide uw2 c0 un2 ur2 q2 fun y s3 vy Z3 C3 H3 w3 n3 r3 q3 => ?_⟩
  have u3 := see_un seeHide uw2 c0 un2 ur2 w3 n3
  have uw3 := u3.wd; have un3 := u3.nx; have ur3 := u3.rel
  rw [seeZ_hide pHide_no] at n3
  rw [unZ_hide pHide_no] at uw3 un3 ur3
  unfold setM M.bind at q3
  cases x <;> (try (exact False.elim q3))
  rename_i ad
  cases y <;> (try (exact False.elim q3))
  rename_i kk
  cases hm : s3 ad with
  | none => simp only [hm] at q3; exact False.elim q3
  | some l =>
    cases l <;> (simp only [hm] at q3; try (exact False.elim q3))
    rename_i ds
    cases hj : ixN ds.length kk with
    | none => simp only [hj] at q3; exact False.elim q3
    | some j =>
      by_cases hd : d.imm = true
      · simp only [hj, hd, if_true] at q3
        obtain ⟨im, vs, e1, e2, e3⟩ := mem_at uw3 hm
        cases r2; cases r3
        have rd : Rep X.K cl Z3 v d := ((r1i hd).mono n2.zz).mono n3.zz
        refine ⟨ad, vs, kk, j, rfl, rfl, uw3.ch _ _ e1, by rw [e3.len]; exact hj, ?_⟩
        have mr : MemR X.K cl Z3 (upd C3 ad (.lst (vs.set j v))) ad (.lst (ds.set j d)) := ⟨immL_set hd j im, _, upd_same, by rw [List.length_set]; exact e2, e3.set rd j⟩
        obtain ⟨w4, n4⟩ := mem_put (o' := .lst (vs.set j v)) uw3 e1 mr
        refine q3 σ Z3 _ _ α w4 (un3.trans c0 uw3.ch n4) (ur3.move (.refl _) (fun a b x o c hx ho => ?_) (fun a b x c hx => (ur3.fp a b x c hx).2.1) fun a b x c hx => ?_)
        · have h4 := (ur3.fp a b x c hx).2.2.1
          have hne : x ≠ ad := fun z => by rw [z, e1] at h4; cases h4
          rw [upd_ne hne]; exact ho
        · have h4 := (ur3.fp a b x c hx).2.2.1
          have hne : x ≠ ad := fun z => by rw [z, e1] at h4; cases h4
          rw [upd_ne hne]; exact h4
      · simp only [hj, if_neg hd] at q3; exact False.elim q3
/-- o.f = e, o being made -/
theorem ds_setf {o e : Expr} {f fo : Env → M (MemS X.K cl) D} {c fl : Str} {i : Nat} {tpos pos : Pos} (FA : FldAt X.K cl c fl i) (sp : See p md) (he : DE cl (MemS X.K cl) md W X e f) (ho : DE cl (MemS X.K cl) true W X o fo)
    (hs : swapsWith e (some (.Attribute o fl tpos)) pos.line X.env = pure false := by rfl) :
    DS cl (MemS X.K cl) W X (.Assign [.Attribute o fl tpos] e pos) fun ρ => M.bind (f (seeE p ρ)) fun d => M.bind (fo (seeE pHide ρ)) fun x => M.bind (setfM c i x d) fun _ => M.pure (.nx ρ) := by
  obtain ⟨C5, names, hc, hi, nd, hk, C6, NA⟩ := FA.ex
  refine PS.weak (ps_fld ho he hs) fun E σ H ⟨Z0, C0, H0, Z, C, s, ρ, α, c0, w, n, r, q⟩ => ?_
  refine ⟨seeZ p ρ α Z H, C, s, seeE p ρ, see_wd w r sp.nd, see_env sp r, PostS.seq sp w c0 n r q fun d s1 v Z1 C1 H1 w1 n1 r1 q1 => ?_⟩
  have u := see_un sp w c0 n r w1 n1
  have r1i : d.imm = true → Rep X.K cl (unZ p ρ α Z1) v d := fun h => r1.monoI u.imm d h
  have uw := u.wd; have un := u.nx; have ur := u.rel
  generalize unZ p ρ α Z1 = Zu at uw un ur r1i
  refine ⟨seeZ pHide ρ α Zu H1, C1, s1, seeE pHide ρ, see_wd uw ur seeHide.nd, see_env seeHide ur, PostS.seq seeHide uw c0 un ur q1 fun x s2 vx Z2 C2 H2 w2 n2 r2 q2 => ?_⟩
  have u2 := see_un seeHide uw c0 un ur w2 n2
  have uw2 := u2.wd; have un2 := u2.nx; have ur2 := u2.rel
  rw [seeZ_hide pHide_no] at n2
  rw [unZ_hide pHide_no] at uw2 un2 ur2
  unfold setfM M.bind at q2
  cases x <;> (try (exact False.elim q2))
  rename_i ad
  cases hm : s2 ad with
  | none => simp only [hm] at q2; exact False.elim q2
  | some l =>
    cases l <;> (simp only [hm] at q2; try (exact False.elim q2))
    rename_i c' ds
    by_cases hd : c' = c ∧ d.imm = true ∧ i = ds.length
    · simp only [if_pos hd] at q2
      obtain ⟨rfl, hd, hil⟩ := hd
      obtain ⟨im, C7, dx, fs, ns, e0, e1, e2, e3⟩ := mem_at uw2 hm
      rw [hc] at e0
      obtain ⟨rfl, rfl⟩ : C7 = _ ∧ ns = names := by
        have := Option.some.inj e0
        rw [Prod.mk.injEq] at this
        exact ⟨this.1.symm, this.2.symm⟩
      cases r2
      have rd : Rep X.K cl Z2 v d := (r1i hd).mono n2.zz
      have hlen : fs.length = ds.length := by have := e3.len; rw [List.length_map] at this; exact this
      have hin : ds.length < ns.length := by rw [← hil]; exact (List.getElem?_eq_some_iff.mp hi).1
      have hnew : fl ∉ fs.map (·.1) := by
        rw [e2]
        intro z
        obtain ⟨j, hj⟩ := List.mem_iff_getElem?.mp z
        have hjl : j < (ns.take ds.length).length := (List.getElem?_eq_some_iff.mp hj).1
        rw [List.length_take] at hjl
        have hj2 : j < ds.length := by omega
        rw [List.getElem?_take_of_lt hj2] at hj
        have hjn : j < ns.length := by omega
        have := (List.pairwise_iff_getElem.mp nd) j ds.length hjn hin hj2
        have z1 : ns[j] = fl := Option.some.inj ((List.getElem?_eq_getElem hjn).symm.trans hj)
        have z2 : ns[ds.length] = fl := Option.some.inj ((List.getElem?_eq_getElem hin).symm.trans (by rw [← hil]; exact hi))
        exact this (z1.trans z2.symm)
      refine ⟨ad, _, dx, fs, rfl, uw2.ch _ _ e1, by assumption, NA, by omega, ?_⟩
      rw [putF_new hnew]
      have mr : MemR X.K cl Z2 (upd C2 ad (.ins C7 dx (fs ++ [(fl, v)]))) ad (.ins c' (ds ++ [d])) := ⟨immL_app hd im, C7, dx, _, ns, hc, upd_same, by
        rw [List.map_append, e2, List.length_append, List.length_singleton, List.take_add_one, ← hil, hi]
        rfl, by rw [List.map_append]; exact e3.append (.cons rd .nil)⟩
      obtain ⟨w4, n4⟩ := mem_put (o' := .ins C7 dx (fs ++ [(fl, v)])) uw2 e1 mr
      refine q2 σ Z2 _ _ α w4 (un2.trans c0 uw2.ch n4) (ur2.move (.refl _) (fun a b x o c hx ho => ?_) (fun a b x c hx => (ur2.fp a b x c hx).2.1) fun a b x c hx => ?_)
      · have h4 := (ur2.fp a b x c hx).2.2.1
        have hne : x ≠ ad := fun z => by rw [z, e1] at h4; cases h4
        rw [upd_ne hne]; exact ho
      · have h4 := (ur2.fp a b x c hx).2.2.1
        have hne : x ≠ ad := fun z => by rw [z, e1] at h4; cases h4
        rw [upd_ne hne]; exact h4
    · simp only [if_neg hd] at q2; exact False.elim q2
end
end DN
set_option Elab.async false
set_option linter.all false
set_option maxRecDepth 100000
set_option maxHeartbeats 4000000
namespace DN
open PySem PySem.Spec PyProof.Rows L2 RZ
/-! ## methods, making -/
def insM {K : PySem.W.Frag} {cl : CTab} (c : Str) (x : D) : M (MemS K cl) Unit := match x with
  | .ins c' _ => if c' = c then M.pure () else fun _ => .stuck
  | .ref a => M.bind (rdM a) fun l => match l with
    | .ins c' _ => if c' = c then M.pure () else fun _ => .stuck
    | _ => fun _ => .stuck
  | _ => fun _ => .stuck
structure MethAt (K : PySem.W.Frag) (cl : CTab) (c m : Str) (g : Addr) : Prop where
  ex : ∃ C names, cl c = some (C, names) ∧ m ∉ names ∧ Cls K C ∧ Meth K C m g
inductive IR where
  | ok (fs : List D) | err (x : Exn) (fs : List D) | stuck
def era (C : Hp) (p : Addr) : Hp := fun x => if x = p then none else C x
theorem era_ne {C : Hp} {p x : Addr} (h : x ≠ p) : era C p x = C x := if_neg h
theorem era_self {C : Hp} {p : Addr} : era C p p = none := if_pos rfl
section
variable {K : PySem.W.Frag} {cl : CTab} {md : Bool} {Z C H Z1 C1 H1 : Hp} {s : Mem} {p dx : Addr} {d : D}
theorem mem_none {c : Bool} (w : Wd (MemS K cl) c Z C H s) (h : H p = none) : s p = none := by
  cases e : s p with
  | none => rfl
  | some d =>
    obtain ⟨o, ho⟩ := (mem_at w e).there
    rw [w.ch _ _ ho] at h; cases h
theorem mem_new {c : Str} {CC : Addr} {names : List Str} (w : Wd (MemS K cl) md Z C H s) (hp : H p = none) (hd : H dx = none) (ne : dx ≠ p) (hc : cl c = some (CC, names)) :
    Wd (MemS K cl) md Z (upd C p (.ins CC dx [])) (upd (upd H dx (.own p)) p (.ins CC dx [])) (updM s p (some (.ins c []))) := by
  have zp := none_of_sub w.zh hp
  have cp := none_of_sub w.ch hp
  have zd := none_of_sub w.zh hd
  have cd := none_of_sub w.ch hd
  refine ⟨fun x u e => ?_, fun x u e => ?_, fun x e => ?_, fun x => ?_, w.zd⟩
  · rw [upd_ne (ne_of_none e zp), upd_ne (ne_of_none e zd)]; exact w.zh x u e
  · by_cases hx : x = p
    · rw [hx, upd_same] at e ⊢; exact e
    · rw [upd_ne hx] at e ⊢
      rw [upd_ne (ne_of_none e cd)]; exact w.ch x u e
  · by_cases hx : x = p
    · rw [hx]; exact zp
    · rw [upd_ne hx] at e; exact w.dj x e
  · unfold updM
    by_cases hx : x = p
    · rw [hx, if_pos rfl]
      exact ⟨rfl, CC, dx, [], names, hc, upd_same, by simp, .nil⟩
    · rw [if_neg hx]
      have q := w.sr x
      cases e : s x with
      | none => rw [e] at q; exact (upd_ne hx).trans q
      | some d => rw [e] at q; exact q.mono (fun _ _ _ e => e) (upd_ne hx)
/-- the thing leaves the memory -/
theorem mem_drop (w : Wd (MemS K cl) md Z C H (updM s p (some d))) (hs : s p = none) : Wd (MemS K cl) md Z (era C p) H s := by
  refine ⟨w.zh, fun x u e => ?_, fun x e => ?_, fun x => ?_, w.zd⟩
  · by_cases hx : x = p
    · rw [hx, era_self] at e; cases e
    · rw [era_ne hx] at e; exact w.ch x u e
  · by_cases hx : x = p
    · rw [hx, era_self] at e; exact absurd rfl e
    · rw [era_ne hx] at e; exact w.dj x e
  · by_cases hx : x = p
    · rw [hx, hs]; exact era_self
    · have q := w.sr x
      unfold updM at q
      rw [if_neg hx] at q
      cases e : s x with
      | none => rw [e] at q; exact (era_ne hx).trans q
      | some d => rw [e] at q; exact q.mono (fun _ _ _ e => e) (era_ne hx)
/-- .. and stays as a thing that does not change -/
theorem mem_set {o : HO} (w : Wd (MemS K cl) md Z (era C p) H s) (hz : Z p = none) (ho : H p = some o) (nd : ∀ kvs, o ≠ .dK kvs) : Wd (MemS K cl) md (upd Z p o) (era C p) H s := by
  have zz : Sub Z (upd Z p o) := Sub.upd hz
  refine ⟨fun x u e => ?_, w.ch, fun x e => ?_, (MemS K cl).mono w.sr zz.imm, fun m x kvs e => ?_⟩
  · by_cases hx : x = p
    · rw [hx, upd_same] at e; rw [hx]; cases e; exact ho
    · rw [upd_ne hx] at e; exact w.zh x u e
  · by_cases hx : x = p
    · rw [hx, era_self] at e; exact absurd rfl e
    · rw [upd_ne hx]; exact w.dj x e
  · by_cases hx : x = p
    · rw [hx, upd_same] at e; exact absurd (Option.some.inj e) (nd kvs)
    · rw [upd_ne hx] at e; exact w.zd m x kvs e
theorem nx_make {o : HO} (n : Nx Z (upd C p o) (upd (upd H dx (.own p)) p o) Z1 C1 H1) (hp : H p = none) (hd : H dx = none) (c0 : Sub C H) : Nx Z C H Z1 (era C1 p) H1 := by
  have cp := none_of_sub c0 hp
  have back : ∀ x, upd (upd H dx (.own p)) p o x = none → H x = none := fun x e => by
    by_cases hx : x = p
    · rw [hx, upd_same] at e; cases e
    · rw [upd_ne hx] at e
      by_cases hxd : x = dx
      · rw [hxd]; exact hd
      · rw [upd_ne hxd] at e; exact e
  refine ⟨n.zz, fun x u e c => ?_, fun x e => (n.zf x e).imp id (back x), fun x e => ?_, fun x e => ?_, n.zd⟩
  · exact n.hh x u (by rw [upd_ne (ne_of_none e hp), upd_ne (ne_of_none e hd)]; exact e) (by rw [upd_ne (ne_of_none e hp)]; exact c)
  · by_cases hx : x = p
    · rw [hx, era_self] at e; exact absurd rfl e
    · rw [era_ne hx] at e
      rcases n.cf x e with z | z
      · rw [upd_ne hx] at z; exact .inl z
      · exact .inr (back x z)
  · have hx : x ≠ p := fun z => e (by rw [z]; exact cp)
    rw [era_ne hx]
    exact n.cp x (by rw [upd_ne hx]; exact e)
theorem nx_set {o : HO} (n : Nx Z C H Z1 C1 H1) (hp : H p = none) (nd : ∀ kvs, o ≠ .dK kvs) (hz : Z1 p = none) : Nx Z C H (upd Z1 p o) C1 H1 := by
  refine ⟨n.zz.trans (Sub.upd hz), n.hh, fun x e => ?_, n.cf, n.cp, fun x kvs e => ?_⟩
  · by_cases hx : x = p
    · rw [hx]; exact .inr hp
    · rw [upd_ne hx] at e; exact n.zf x e
  · by_cases hx : x = p
    · rw [hx, upd_same] at e; exact absurd (Option.some.inj e) (nd kvs)
    · rw [upd_ne hx] at e; exact n.zd x kvs e
end
section
variable {cl : CTab} {W : WX} {X : Cx}
theorem ins_there {K : PySem.W.Frag} {md : Bool} {Z C H : Hp} {s : Mem} {c : Str} {x : V} {dxx : D} {CC : Addr} {names : List Str} {β : Type} {Rp : Hp → V → β → Prop} {σ : L2.St} {f : M (MemS K cl) β} {Q : V → Hp → Prop} {m : Str} (hc : cl c = some (CC, names)) (hm : m ∉ names) (w : Wd (MemS K cl) md Z C H s) (r : Rep K cl Z x dxx)
    (p : Post K cl md Rp W σ Z C H (M.bind (insM c dxx) (fun _ => f) s) Q) : (∃ a dx fs, x = .ref a ∧ H a = some (.ins CC dx fs) ∧ fs.lookup m = none) ∧ Post K cl md Rp W σ Z C H (f s) Q := by
  unfold insM rdM at p
  cases dxx <;> (try (exact False.elim p))
  · rename_i c' ds
    cases r with
    | ins a b c2 =>
      rename_i ad C0 dx fs
      simp only at p
      split at p
      · rename_i ec
        subst ec
        rw [hc] at a
        obtain ⟨rfl, hnm⟩ : CC = C0 ∧ names = fs.map (·.1) := by
          have := Option.some.inj a
          rw [Prod.mk.injEq] at this
          exact this
        exact ⟨⟨ad, dx, fs, rfl, w.zh _ _ b, lookup_no (n := names.length) (by rw [List.take_length]; exact hnm.symm) hm⟩, p⟩
      · exact False.elim p
  · rename_i ad
    cases r
    unfold M.bind at p
    cases hs : s ad with
    | none => simp only [hs] at p; exact False.elim p
    | some l =>
      simp only [hs] at p
      cases l <;> (try (exact False.elim p))
      rename_i c' ds
      simp only at p
      split at p
      · rename_i ec
        split at ec
        · rename_i ec2
          subst ec2
          cases ec
          obtain ⟨im, C0, dx, fs, ns, h1, h2, h3, h4⟩ := mem_at w hs
          rw [hc] at h1
          obtain ⟨rfl, rfl⟩ : CC = C0 ∧ names = ns := by
            have := Option.some.inj h1
            rw [Prod.mk.injEq] at this
            exact this
          exact ⟨⟨ad, dx, fs, rfl, w.ch _ _ h2, lookup_no h3 hm⟩, p⟩
        · cases ec
      · rename_i ec
        split at ec <;> cases ec
      · exact False.elim p
theorem de_meth {k n : Nat} {g : Addr} {fd : FuncData} {ps : List Str} {f : List D → M (MemS X.K cl) D} {m c : Str} {o e : Expr} {es : List Expr} {fo : Env → M (MemS X.K cl) D} {fa : Env → M (MemS X.K cl) (List D)} {apos pos : Pos} {pl : Sem Bool} (MA : MethAt X.K cl c m g)
    (F : FnOk X.prog X.w X.K X.mg X.base (L2.CX X.prog X.w) k g fd ps (spD X.K cl (MemS X.K cl) n f)) (hr : Room k X.A) (hb : Binds X.K fd ps []) (tk : Takes X W) (ho : DE cl (MemS X.K cl) true W X o fo) (ha : DA cl (MemS X.K cl) true W X (e :: es) fa) (hn : (e :: es).length + 1 = n)
    (hst : starEach (e :: es) X.env = (false, eval e X.env) :: starEach es X.env := by rfl) (hpl : (backTo pos (starEach es X.env)).any (·.1) = false := by rfl)
    (ht : eval (.Call (.Attribute o m apos) (e :: es) [] pos) X.env = (do
      let ov ← eval o X.env
      standAt apos.atName
      let (f, first) ← holding [ov] (getMethod ov m pl)
      callWith pos f first (backTo pos (starEach (e :: es) X.env)) (backToKw pos (keywordEach [] X.env))) := by rfl) :
    DE cl (MemS X.K cl) true W X (.Call (.Attribute o m apos) (e :: es) [] pos) fun ρ => M.bind (fo ρ) fun x => M.bind (insM c x) fun _ => M.bind (fa ρ) fun ds => f (x :: ds) := by
  obtain ⟨CC, names, hc, hm, C6, MM⟩ := MA.ex
  refine PE.weak (pe_methS ho C6 MM F hr hb (fun σ => passAt tk σ) ha hst hpl ht) fun σ H Q ⟨Z, C, s, ρ, w, e, p⟩ => ?_
  refine ⟨Z, C, s, ρ, w, e, Post.seq w.ch p fun dx s1 x Z1 C1 H1 w1 n1 r1 p1 => ?_⟩
  obtain ⟨⟨a, dd, fs, rfl, ea, el⟩, p1⟩ := ins_there hc hm w1 r1 p1
  refine ⟨a, dd, fs, rfl, ea, el, Z1, C1, s1, ρ, w1, e.mono n1.zz, Post.seq w1.ch p1 fun dxs s2 xs Z2 C2 H2 w2 n2 r2 p2 => ?_⟩
  refine ⟨Z2, C2, s2, dx :: dxs, w2, .cons (r1.mono n2.zz) r2.1, by rw [List.length_cons, r2.2]; exact hn, ?_⟩
  cases hf : f (dx :: dxs) s2 with
  | ok d s3 => rw [hf] at p2; exact p2
  | err x s3 => rw [hf] at p2; exact p2
  | stuck => rw [hf] at p2; exact p2
theorem de_meth0 {k : Nat} {g : Addr} {fd : FuncData} {ps : List Str} {f : List D → M (MemS X.K cl) D} {m c : Str} {o : Expr} {fo : Env → M (MemS X.K cl) D} {apos pos : Pos} {pl : Sem Bool} (MA : MethAt X.K cl c m g)
    (F : FnOk X.prog X.w X.K X.mg X.base (L2.CX X.prog X.w) k g fd ps (spD X.K cl (MemS X.K cl) 1 f)) (hr : Room k X.A) (hb : Binds X.K fd ps []) (tk : Takes X W) (ho : DE cl (MemS X.K cl) true W X o fo)
    (ht : eval (.Call (.Attribute o m apos) [] [] pos) X.env = (do
      let ov ← eval o X.env
      standAt apos.atName
      let (f, first) ← holding [ov] (getMethod ov m pl)
      callWith pos f first (backTo pos (starEach [] X.env)) (backToKw pos (keywordEach [] X.env))) := by rfl) :
    DE cl (MemS X.K cl) true W X (.Call (.Attribute o m apos) [] [] pos) fun ρ => M.bind (fo ρ) fun x => M.bind (insM c x) fun _ => f [x] := by
  obtain ⟨CC, names, hc, hm, C6, MM⟩ := MA.ex
  refine PE.weak (pe_methS0 ho C6 MM F hr hb (fun σ => passAt tk σ) ht) fun σ H Q ⟨Z, C, s, ρ, w, e, p⟩ => ?_
  refine ⟨Z, C, s, ρ, w, e, Post.seq w.ch p fun dx s1 x Z1 C1 H1 w1 n1 r1 p1 => ?_⟩
  obtain ⟨⟨a, dd, fs, rfl, ea, el⟩, p1⟩ := ins_there hc hm w1 r1 p1
  refine ⟨a, dd, fs, rfl, ea, el, Z1, C1, s1, [dx], w1, .cons r1 .nil, rfl, ?_⟩
  cases hf : f [dx] s1 with
  | ok d s3 => rw [hf] at p1; exact p1
  | err x s3 => rw [hf] at p1; exact p1
  | stuck => rw [hf] at p1; exact p1
/-- C(e, ..): what is made -/
def mkM {K : PySem.W.Frag} {cl : CTab} (c : Str) (n : Nat) (r : IR) : M (MemS K cl) D := match r with
  | .ok fs => if fs.length = n then M.pure (.ins c fs) else fun _ => .stuck
  | .err x _ => fun s => .err x s
  | .stuck => fun _ => .stuck
/-- what __init__ does, told without its place -/
def InitIs {K : PySem.W.Frag} {cl : CTab} (c : Str) (f : List D → M (MemS K cl) D) (g : List D → IR) : Prop := ∀ (p : Addr) (ds : List D) (s : Mem), s p = none → match g ds with
  | .ok fs => f (.ref p :: ds) (updM s p (some (.ins c []))) = .ok .non (updM s p (some (.ins c fs)))
  | .err x fs => f (.ref p :: ds) (updM s p (some (.ins c []))) = .err x (updM s p (some (.ins c fs)))
  | .stuck => True
structure MakeAt (K : PySem.W.Frag) (cl : CTab) (c : Str) (C f : Addr) (n : Nat) : Prop where
  ex : ∃ names, cl c = some (C, names) ∧ names.length = n ∧ Mk K C f
theorem de_make {k n nf : Nat} {C g : Addr} {fd : FuncData} {ps : List Str} {f : List D → M (MemS X.K cl) D} {fi : List D → IR} {x c : Str} {e : Expr} {es : List Expr} {fa : Env → M (MemS X.K cl) (List D)} {p pos : Pos} (MA : MakeAt X.K cl c C g nf)
    (F : FnOk X.prog X.w X.K X.mg X.base (L2.CX X.prog X.w) k g fd ps (spD X.K cl (MemS X.K cl) n f)) (hI : InitIs c f fi) (hr : Room (k + 1) X.A) (hg : Gl X x) (hm : X.mg x = some (.ref C)) (hb : Binds X.K fd ps []) (tk : Takes X W) (ha : DA cl (MemS X.K cl) true W X (e :: es) fa) (hn : (e :: es).length + 1 = n)
    (hdb : (x == ("__debug__" : Str)) = false := by decide) (he : starEach (e :: es) X.env = (false, eval e X.env) :: starEach es X.env := by rfl) (hpl : (backTo pos (starEach es X.env)).any (·.1) = false := by rfl) :
    DE cl (MemS X.K cl) true W X (.Call (.Name x p) (e :: es) [] pos) fun ρ => M.bind (fa ρ) fun ds => mkM c nf (fi ds) := by
  obtain ⟨names, hc, hnl, MM⟩ := MA.ex
  refine PE.weak (pe_makeS MM F hr hg hm hb (fun σ => passAt tk σ) ha hdb he hpl) fun σ H Q ⟨Z, C0, s, ρ, w, e, pp⟩ => ?_
  refine ⟨Z, C0, s, ρ, w, e, Post.seq w.ch pp fun ds s1 xs Z1 C1 H1 w1 n1 r1 p1 => ?_⟩
  intro px dx hp hd hne
  have w2 := mem_new w1 hp hd hne hc
  have sp0 := mem_none w1 hp
  refine ⟨Z1, _, _, .ref px :: ds, w2, .cons (.ref px) r1.1, by rw [List.length_cons, r1.2]; exact hn, ?_⟩
  have hi := hI px ds s1 sp0
  cases hr2 : fi ds with
  | stuck => rw [hr2] at p1; exact False.elim p1
  | err x fs =>
    rw [hr2] at p1
    simp only [hr2] at hi
    rw [hi]
    exact fun cc dd Z' C' H' w' n' ex => p1 cc dd Z' (era C' px) H' (mem_drop w' sp0) (nx_make n' hp hd w1.ch) ex
  | ok fs =>
    rw [hr2] at p1
    simp only [hr2] at hi
    rw [hi]
    unfold mkM at p1
    simp only at p1
    split at p1
    case isFalse => exact False.elim p1
    rename_i hfs
    intro v Z' C' H' w' n' rv
    cases rv
    refine ⟨rfl, ?_⟩
    obtain ⟨im, C7, dx7, fs7, ns, h1, h2, h3, h4⟩ := mem_at (a := px) (d := .ins c fs) w' (by unfold updM; rw [if_pos rfl])
    rw [hc] at h1
    obtain ⟨rfl, rfl⟩ : C = C7 ∧ names = ns := by
      have := Option.some.inj h1
      rw [Prod.mk.injEq] at this
      exact this
    have hz : Z' px = none := w'.dj px (some_ne h2)
    have nd : ∀ kvs, HO.ins C dx7 fs7 ≠ .dK kvs := fun _ q => nomatch q
    have hfull : fs7.map (·.1) = names := by rw [h3, hfs, ← hnl, List.take_length]
    refine p1 (.ref px) _ (era C' px) H' (mem_set (mem_drop w' sp0) hz (w'.ch _ _ h2) nd) (nx_set (nx_make n' hp hd w1.ch) hp nd hz) (.ins (by rw [hfull]; exact hc) upd_same (h4.mono (Sub.upd hz)))
theorem ds_never {B : Sto} {st : Stmt} : DS cl B W X st (fun _ _ => .stuck) := PS.weak ps_never fun E σ H ⟨Z0, C0, H0, Z, C, s, ρ, α, c0, w, n, r, q⟩ => q
end
end DN
set_option Elab.async false
set_option linter.all false
set_option maxRecDepth 100000
set_option maxHeartbeats 4000000
namespace DN
open PySem PySem.Spec PyProof.Rows L2 RZ
open PySem.AutoSeq1 (wpAny_loadPart')
variable {B : Sto}
/-! ## tuple * k -/
theorem tuple_mulW1 (l : Addr) (items : Array Value) (n : Nat) (dd : Option Addr) (sl : Array (Option Value)) (x : Int) (u : Tok) (c0 : (decide (x < -(2 ^ 63)) || decide (x ≥ 2 ^ 63)) = false) (c1 : (items.isEmpty || x == 1) = true) :
    Meets (Builtin.«tuple.__mul__» ⟨[.ref l, .int x u], []⟩) (fun _ R s => s.heap.get? l = some { cls := .type "tuple", dict := dd, data := .seq items n, slots := sl } ∧
      R (.ok (.ret (Value.ref l))) s) :=
  .of_wp fun prog w A R s h => by
    obtain ⟨hp, g, d, tk, os⟩ := s
    obtain ⟨hl, h⟩ := h
    have f1 := AutoSeq1.idx_int
    wp_walk using wpAny_loadPart' hl
    repeat (first
      | (refine wpAny_ite_false (decide_eq_false (by rw [c0]; exact Bool.false_ne_true)) ?_; wp_walk using wpAny_loadPart' hl)
      | (refine wpAny_ite_true (decide_eq_true c1) ?_; wp_walk using wpAny_loadPart' hl))
    exact ⟨_, rfl, h⟩
def rRep1 (K : PySem.W.Frag) : R2 := fun x y H Q => ∃ l k xs, x = .ref l ∧ y = .int k ∧ SqT K H l xs ∧ (xs = [] ∨ k = 1) ∧ -1000 ≤ k ∧ k ≤ 1000 ∧ Q (.ref l) H
theorem op_rep1 {X : Cx} : OpR X (binaryOp .Mult) (rRep1 X.K) := by
  intro pins s σ H x y v u Q I rx ry h
  obtain ⟨l, k, xs, rfl, rfl, hT, hne, h1, h2, q⟩ := h
  cases rx
  obtain ⟨t, rfl⟩ := ry
  obtain ⟨its, r, ⟨⟨cls, dd, data, sl⟩, ho, hc, n, hd⟩, hs⟩ := I.tuple hT
  simp only at hc hd
  subst hc hd
  have c0 : (decide (k < -(2 ^ 63)) || decide (k ≥ 2 ^ 63)) = false := by
    rw [decide_eq_false (by omega), decide_eq_false (by omega)] <;> rfl
  have c1 : (its.toArray.isEmpty || k == 1) = true := by
    rcases hne with rfl | rfl
    · cases r; rfl
    · simp
  refine wpAny_binaryOp_repeat_ref (T := "tuple") (U := "int") (by decide) ⟨_, ho, rfl⟩ (fun s' => typeIs_int s' k t) noFill_tuple_mul F.fills_int_mul F.slot_int_rmul repeat_tuple F.slot_int_index.lookup
    (call_meets F.slot_int_rmul (typeIs_int s k t) F.entry_int_rmul (F.args_int_rmul_2 _ _) (int_rmul_tuple k t l its.toArray n dd sl)
      ⟨ho, rfl, ⟨_, ho, rfl⟩, call_meets F.slot_tuple_mul ⟨_, ho, rfl⟩ F.entry_tuple_mul (F.args_tuple_mul_2 _ _) (tuple_mulW1 l its.toArray n dd sl k t c0 c1) ⟨ho, ?_⟩⟩)
  exact ⟨.ref l, H, I, rfl, q⟩
theorem tuple_mulW0 (l : Addr) (items : Array Value) (n : Nat) (dd : Option Addr) (sl : Array (Option Value)) (x : Int) (u : Tok) (c0 : (decide (x < -(2 ^ 63)) || decide (x ≥ 2 ^ 63)) = false) (c1 : (items.isEmpty || x == 1) = false) (c2 : (decide (x ≤ 0) || items.isEmpty) = true) :
    Meets (Builtin.«tuple.__mul__» ⟨[.ref l, .int x u], []⟩) (fun _ R s => s.heap.get? l = some { cls := .type "tuple", dict := dd, data := .seq items n, slots := sl } ∧
      R (.ok (.ret (Value.ref s.heap.objs.size))) { s with heap := s.heap.push { cls := Value.type "tuple", data := Data.seq #[] }, toks := s.toks }) :=
  .of_wp fun prog w A R s h => by
    obtain ⟨hp, g, d, tk, os⟩ := s
    obtain ⟨hl, h⟩ := h
    have f1 := AutoSeq1.idx_int
    wp_walk using wpAny_loadPart' hl
    repeat (first
      | (refine wpAny_ite_false (decide_eq_false (by rw [c0]; exact Bool.false_ne_true)) ?_; wp_walk using wpAny_loadPart' hl)
      | (refine wpAny_ite_false (decide_eq_false (by rw [c1]; exact Bool.false_ne_true)) ?_; wp_walk using wpAny_loadPart' hl)
      | (refine wpAny_ite_true (decide_eq_true c2) ?_; wp_walk using wpAny_loadPart' hl))
    exact ⟨_, rfl, h⟩
def rRep0 (K : PySem.W.Frag) : R2 := fun x y H Q => ∃ l k xs, x = .ref l ∧ y = .int k ∧ SqT K H l xs ∧ xs ≠ [] ∧ -1000 ≤ k ∧ k ≤ 0 ∧ ∀ p, H p = none → Q (.ref p) (upd H p (.tup []))
theorem op_rep0 {X : Cx} : OpR X (binaryOp .Mult) (rRep0 X.K) := by
  intro pins s σ H x y v u Q I rx ry h
  obtain ⟨l, k, xs, rfl, rfl, hT, hne, h1, h2, q⟩ := h
  cases rx
  obtain ⟨t, rfl⟩ := ry
  obtain ⟨its, r, ⟨⟨cls, dd, data, sl⟩, ho, hc, n, hd⟩, hs⟩ := I.tuple hT
  simp only at hc hd
  subst hc hd
  have hi : its.toArray.isEmpty = false := by
    cases its with
    | nil => cases r; exact absurd rfl hne
    | cons a b => rfl
  have c0 : (decide (k < -(2 ^ 63)) || decide (k ≥ 2 ^ 63)) = false := by
    rw [decide_eq_false (by omega), decide_eq_false (by omega)] <;> rfl
  have c1 : (its.toArray.isEmpty || k == 1) = false := by
    rw [hi, Bool.false_or]
    exact beq_eq_false_iff_ne.mpr (by omega)
  have c2 : (decide (k ≤ 0) || its.toArray.isEmpty) = true := by
    rw [decide_eq_true h2, Bool.true_or]
  refine wpAny_binaryOp_repeat_ref (T := "tuple") (U := "int") (by decide) ⟨_, ho, rfl⟩ (fun s' => typeIs_int s' k t) noFill_tuple_mul F.fills_int_mul F.slot_int_rmul repeat_tuple F.slot_int_index.lookup
    (call_meets F.slot_int_rmul (typeIs_int s k t) F.entry_int_rmul (F.args_int_rmul_2 _ _) (int_rmul_tuple k t l its.toArray n dd sl)
      ⟨ho, rfl, ⟨_, ho, rfl⟩, call_meets F.slot_tuple_mul ⟨_, ho, rfl⟩ F.entry_tuple_mul (F.args_tuple_mul_2 _ _) (tuple_mulW0 l its.toArray n dd sl k t c0 c1 c2) ⟨ho, ?_⟩⟩)
  refine ⟨.ref s.heap.objs.size, _, I.laid (t' := s.toks) (o := .tup []) (fun b ob q => Heap.get?_push_of_some _ q) (Nat.le_refl _) ?_, rfl, q _ (I.hok.fresh (Nat.le_refl _))⟩
  exact ⟨Nat.zero_le _, [], .nil, IsTup.new _ _⟩
def mulD : D → D → Option D
  | .int i, .int j => mulI (.int i) (.int j)
  | .tup xs, .int k => if (xs.isEmpty = true ∨ k = 1) ∧ -1000 ≤ k ∧ k ≤ 1000 then some (.tup xs) else if xs.isEmpty = false ∧ 2 ≤ k ∧ k ≤ 1000 ∧ xs.length ≤ 1000 then some (.tup (List.replicate k.toNat xs).flatten) else if xs.isEmpty = false ∧ -1000 ≤ k ∧ k ≤ 0 then some (.tup []) else none
  | _, _ => none
abbrev rMulA (K : PySem.W.Frag) : R2 := fun x y H Q => ((rI CMul (fun i j => .int (i * j)) x y H Q ∨ rRep1 K x y H Q) ∨ rRepT K x y H Q) ∨ rRep0 K x y H Q
theorem op_mulA {X : Cx} : OpR X (binaryOp .Mult) (rMulA X.K) := ((op_mul.or op_rep1).or op_repT).or op_rep0
theorem RepL.rep {K : PySem.W.Frag} {cl : CTab} {Z : Hp} {vs : List V} {ds : List D} (r : RepL K cl Z vs ds) : ∀ n : Nat, RepL K cl Z (List.replicate n vs).flatten (List.replicate n ds).flatten
  | 0 => .nil
  | n + 1 => by
    rw [List.replicate_succ, List.flatten_cons, List.replicate_succ, List.flatten_cons]
    exact r.append (RepL.rep r n)
theorem v_mul {K : PySem.W.Frag} {cl : CTab} : OpV K cl (rMulA K) mulD := by
  intro Z H x y dx dy d Q h rx ry e q
  unfold mulD at e
  split at e
  · exact .inl (.inl (.inl (v_mulI Z H x y _ _ d Q h rx ry e q)))
  · cases ry
    rename_i xs k
    cases rx with
    | tup a b c =>
      rename_i pa va
      split at e
      · rename_i hc
        cases e
        refine .inl (.inl (.inr ⟨_, k, _, rfl, rfl, sub_t h a, ?_, hc.2.1, hc.2.2, q _ Z H (.refl h) (.tup a b c)⟩))
        rcases hc.1 with z | z
        · cases xs with
          | nil => cases c; exact .inl rfl
          | cons => cases z
        · exact .inr z
      · split at e
        · rename_i hc
          cases e
          have hl := c.len
          refine .inl (.inr ⟨_, k, _, rfl, rfl, sub_t h a, fun z => ?_, hc.2.1, hc.2.2.1, by omega, fun p hp => ?_⟩)
          · subst z; cases c; cases hc.1
          · have al : Al Z H (upd Z p (.tup (List.replicate k.toNat va).flatten)) (upd H p (.tup (List.replicate k.toNat va).flatten)) := .new h hp (fun _ z => nomatch z)
            refine q _ _ _ al (.tup (SqT.of upd_same) ?_ ((c.rep k.toNat).mono al.zz))
            rw [PyProof.Rows.lm_len_rep_flat, hl, sizeLine_eq]
            have : k.toNat * xs.length ≤ 1000 * 1000 := Nat.mul_le_mul (by omega) hc.2.2.2
            omega
        · split at e
          · rename_i hc
            cases e
            refine .inr ⟨_, k, _, rfl, rfl, sub_t h a, fun z => ?_, hc.2.1, hc.2.2, fun p hp => ?_⟩
            · subst z; cases c; cases hc.1
            · have al : Al Z H (upd Z p (.tup [])) (upd H p (.tup [])) := .new h hp (fun _ z => nomatch z)
              exact q _ _ _ al (.tup (SqT.of upd_same) (Nat.zero_le _) .nil)
          · cases e
  · cases e
/-! ## x.count(y) of a list of flat things -/
def flV : D → Option V
  | .non => some .non
  | .bl b => some (.bl b)
  | .int i => some (.int i)
  | .str x => some (.str x)
  | _ => none
def flVs : List D → Option (List V)
  | [] => some []
  | d :: ds => (flV d).bind fun v => (flVs ds).map fun r => v :: r
theorem flV_rep {K : PySem.W.Frag} {cl : CTab} {Z : Hp} {v u : V} {d : D} (r : Rep K cl Z v d) (e : flV d = some u) : v = u ∧ flatV u = true := by
  cases d <;> (unfold flV at e; cases e) <;> (cases r; exact ⟨rfl, rfl⟩)
theorem flVs_rep {K : PySem.W.Frag} {cl : CTab} {Z : Hp} : ∀ {ds : List D} {vs us : List V}, RepL K cl Z vs ds → flVs ds = some us → vs = us ∧ us.all flatV = true
  | [], _, _, r, e => by cases r; cases e; exact ⟨rfl, rfl⟩
  | d :: ds, _, us, r, e => by
    cases r with
    | cons a b =>
      unfold flVs at e
      cases h1 : flV d with
      | none => rw [h1] at e; cases e
      | some v =>
        rw [h1] at e
        obtain ⟨w, h2, h3⟩ := Option.map_eq_some_iff.mp (show (flVs ds).map (fun r => v :: r) = some us from e)
        subst h3
        obtain ⟨e1, e2⟩ := flV_rep a h1
        obtain ⟨e3, e4⟩ := flVs_rep b h2
        exact ⟨by rw [e1, e3], by rw [List.all_cons, e2, e4]; rfl⟩
def rCntF (K : PySem.W.Frag) : V → List V → Hp → VK → Prop := fun x xs H Q => ∃ (p : Addr) (ns : List V) (k : V), x = .ref p ∧ xs = [k] ∧ flatV k = true ∧ ns.all flatV = true ∧ SqL K H p ns ∧ Q (.int (ns.countP (fun y => eqV y k) : Nat)) H
theorem count_eqU {x : V} : ∀ {xs : List V} {us : List Value}, Vals xs us → xs.all flatV = true → us.countP (eqU x) = xs.countP fun y => eqV y x
  | _, _, .nil, _ => rfl
  | y :: xs, u :: us, .cons r t, f => by
    rw [List.all_cons, Bool.and_eq_true] at f
    rw [List.countP_cons, List.countP_cons, eqU_of r f.1, count_eqU t f.2]
theorem val_at {xs : List V} {us : List Value} : Vals xs us → ∀ u ∈ us, ∃ x ∈ xs, RelV x u
  | .nil, u, h => by simp at h
  | .cons r t, u, h => by
    rcases List.mem_cons.mp h with rfl | h
    · exact ⟨_, List.mem_cons_self, r⟩
    · obtain ⟨x, h1, h2⟩ := val_at t u h
      exact ⟨x, List.mem_cons_of_mem _ h1, h2⟩
theorem mt_countF {X : Cx} : MtR X "list.count" (rCntF X.K) := by
  intro pins s σ H x xs v us Q I rx rxs h
  obtain ⟨p, ns, k, rfl, rfl, fk, fn, hs, q⟩ := h
  cases rx
  obtain ⟨u, rfl, ru⟩ := rxs.one
  obtain ⟨its, rv, ⟨⟨cls, dd, data, sl⟩, n, ho, hc, hdn, hd⟩, hlen⟩ := I.list hs
  simp only at hc hd
  subst hc hd
  refine call_meets PySem.F.slot_list_count ⟨_, ho, rfl⟩ PySem.F.entry_list_count (PySem.F.args_list_count_2 _ _)
    (SeqAt.list_countAt p its.toArray n dd sl u (eqU k)) ⟨ho, fun y hy => ?_, ?_⟩
  · obtain ⟨z, hz, rz⟩ := val_at rv y (by simpa using hy)
    have fz := List.all_eq_true.mp fn z hz
    have := eqAt_V (A := X.A.in1) (s := s) rz ru fz fk
    rw [← eqU_of rz fz] at this
    exact this
  have ec : its.toArray.toList.countP (eqU k) = ns.countP fun y => eqV y k := count_eqU rv fn
  refine ⟨.int (ns.countP fun y => eqV y k : Nat), H, I.tok _, ⟨s.toks, ?_⟩, q⟩
  show Value.int ((its.toArray.toList.countP (eqU k) : Nat) : Int) s.toks = Value.int ((ns.countP (fun y => eqV y k) : Nat) : Int) s.toks
  rw [ec]
def asL : D → Option (List D)
  | .lst ds => some ds
  | _ => none
def countD (ds : List D) (y : D) : Option D := (flVs ds).bind fun vs => (flV y).map fun v => .int (vs.countP fun z => eqV z v : Nat)
section
variable {cl : CTab} {md : Bool} {W : WX} {X : Cx}
theorem de_count {o e : Expr} {fo f : Env → M B D} {apos pos : Pos} (ho : DE cl B md W X o fo) (he : DE cl B md W X e f) (hb : attributeBase o "count" X.env (eval o X.env) = eval o X.env := by rfl)
    (hfew : ((backTo pos (starEach [e] X.env)).all (fun x => !x.1) && (backToKw pos (keywordEach [] X.env)).all (fun x => x.1.isSome)
      && decide ([e].length + ([] : List Keyword).length + (if ([] : List Keyword).isEmpty then 0 else 1) < 30)) = true := by rfl)
    (hline : (apos.endLine == pos.line) = true := by rfl) (hs : starEach [e] X.env = (false, eval e X.env) :: starEach [] X.env := by rfl) (hplain : (backTo pos (starEach [] X.env)).any (·.1) = false := by rfl) :
    DE cl B md W X (.Call (.Attribute o "count" apos) [e] [] pos) fun ρ => M.bind (fo ρ) fun x => M.bind (lift (asL x)) fun ds => M.bind (f ρ) fun y => lift (countD ds y) := by
  refine PE.weak (pe_bm PySem.F.plainAttrs_list PySem.F.slot_list_count PySem.F.type_list_count mt_countF ho (pa_cons he pa_nil hs) hb hfew hline hs hplain) fun σ H Q ⟨Z, C, s, ρ, w, e, p⟩ => ?_
  refine ⟨Z, C, s, ρ, w, e, Post.seq w.ch p fun dx s1 x Z1 C1 H1 w1 n1 r1 p1 => ?_⟩
  cases dx with
  | lst ds =>
    cases r1 with
    | lst a b c =>
      refine ⟨.inl ⟨rfl, _, SqL.of (w1.zh _ _ a)⟩, Z1, C1, s1, ρ, w1, e.mono n1.zz, Post.seq w1.ch p1 fun dy s2 y Z2 C2 H2 w2 n2 r2 p2 => ?_⟩
      obtain ⟨d, hd, q⟩ := post_lift w2 p2
      unfold countD at hd
      cases h1 : flVs ds with
      | none => rw [h1] at hd; cases hd
      | some vs =>
        rw [h1] at hd
        obtain ⟨v, h2, h3⟩ := Option.map_eq_some_iff.mp (show (flV dy).map (fun v => D.int (vs.countP fun z => eqV z v : Nat)) = some d from hd)
        subst h3
        obtain ⟨rfl, e2⟩ := flVs_rep c h1
        obtain ⟨rfl, e4⟩ := flV_rep r2 h2
        exact ⟨_, _, _, rfl, rfl, e4, e2, SqL.of (w2.zh _ _ (n2.zz _ _ a)), q _ Z2 H2 (.refl w2.zh) (.int _)⟩
  | _ => exact False.elim p1
/-! ## tuple(range(..)), list(range(..)) -/
theorem map_rep {K : PySem.W.Frag} {Z : Hp} (f : Nat → V) (g : Nat → D) (h : ∀ i, Rep K cl Z (f i) (g i)) : ∀ l : List Nat, RepL K cl Z (l.map f) (l.map g)
  | [] => .nil
  | a :: l => .cons (h a) (map_rep f g h l)
theorem rgV_rep {K : PySem.W.Frag} {Z : Hp} {a b : Int} : RepL K cl Z (rgV a b) ((List.range (b - a).toNat).map fun k : Nat => D.int (a + (k : Int))) :=
  map_rep _ _ (fun i => .int _) _
theorem rg0_rep {K : PySem.W.Frag} {Z : Hp} {b : Int} : RepL K cl Z (rgV 0 b) ((List.range b.toNat).map fun k : Nat => D.int (k : Int)) := by
  have := rgV_rep (K := K) (cl := cl) (Z := Z) (a := 0) (b := b)
  rw [Int.sub_zero] at this
  have e0 : ((List.range b.toNat).map fun i : Nat => D.int (0 + (i : Int))) = (List.range b.toNat).map fun i : Nat => D.int (i : Int) := List.map_congr_left fun i _ => by rw [Int.zero_add]
  rw [e0] at this
  exact this
theorem rgV_len {a b : Int} (h : b - a ≤ 200000) : (rgV a b).length ≤ sizeLine := by rw [rgV_length, sizeLine_eq]; omega
theorem de_tupRg1 {a : Expr} {f : Env → M B D} {p p2 pos pos' : Pos} (hc : X.calm = true) (hg : Gl X "tuple") (hm : X.mg "tuple" = none) (hg2 : Gl X "range") (hm2 : X.mg "range" = none) (ha : DE cl B md W X a f) (na : starEach [a] X.env = (false, eval a X.env) :: starEach [] X.env := by rfl)
    (nb : starEach [.Call (.Name "range" p2) [a] [] pos] X.env = (false, eval (.Call (.Name "range" p2) [a] [] pos) X.env) :: starEach [] X.env := by rfl) :
    DE cl B md W X (.Call (.Name "tuple" p) [.Call (.Name "range" p2) [a] [] pos] [] pos') fun ρ => M.bind (f ρ) fun x => lift ((range1 x).map .tup) := by
  refine PE.weak (pe_tupRg hc hg hm (prg_1 hg2 hm2 ha na) nb) fun σ H Q ⟨Z, C, s, ρ, w, e, p⟩ => ?_
  refine ⟨Z, C, s, ρ, w, e, Post.seq w.ch p fun dx s1 x Z1 C1 H1 w1 n1 r1 p1 => ?_⟩
  obtain ⟨d, hd, q⟩ := post_lift w1 p1
  obtain ⟨ds, h1, h2⟩ := Option.map_eq_some_iff.mp hd
  subst h2
  unfold range1 at h1
  split at h1
  · split at h1 <;> cases h1
    rename_i j hj
    cases r1
    refine ⟨j, rfl, ⟨by omega, by omega, by omega, by omega, by omega⟩, fun pp hp => ?_⟩
    have al : Al Z1 H1 (upd Z1 pp (.tup (rgV 0 j))) (upd H1 pp (.tup (rgV 0 j))) := .new w1.zh hp (fun _ z => nomatch z)
    exact q _ _ _ al (.tup (SqT.of upd_same) (rgV_len (by omega)) rg0_rep)
  · cases h1
theorem de_listRg1 {a : Expr} {f : Env → M B D} {p p2 pos pos' : Pos} (hc : X.calm = true) (hg : Gl X "list") (hm : X.mg "list" = none) (hg2 : Gl X "range") (hm2 : X.mg "range" = none) (ha : DE cl B md W X a f) (na : starEach [a] X.env = (false, eval a X.env) :: starEach [] X.env := by rfl)
    (nb : starEach [.Call (.Name "range" p2) [a] [] pos] X.env = (false, eval (.Call (.Name "range" p2) [a] [] pos) X.env) :: starEach [] X.env := by rfl) :
    DE cl B md W X (.Call (.Name "list" p) [.Call (.Name "range" p2) [a] [] pos] [] pos') fun ρ => M.bind (f ρ) fun x => lift ((range1 x).map .lst) := by
  refine PE.weak (pe_listRg hc hg hm (prg_1 hg2 hm2 ha na) nb) fun σ H Q ⟨Z, C, s, ρ, w, e, p⟩ => ?_
  refine ⟨Z, C, s, ρ, w, e, Post.seq w.ch p fun dx s1 x Z1 C1 H1 w1 n1 r1 p1 => ?_⟩
  obtain ⟨d, hd, q⟩ := post_lift w1 p1
  obtain ⟨ds, h1, h2⟩ := Option.map_eq_some_iff.mp hd
  subst h2
  unfold range1 at h1
  split at h1
  · split at h1 <;> cases h1
    rename_i j hj
    cases r1
    refine ⟨j, rfl, ⟨by omega, by omega, by omega, by omega, by omega⟩, fun pp hp => ?_⟩
    have al : Al Z1 H1 (upd Z1 pp (.lst (rgV 0 j))) (upd H1 pp (.lst (rgV 0 j))) := .new w1.zh hp (fun _ z => nomatch z)
    exact q _ _ _ al (.lst upd_same (rgV_len (by omega)) rg0_rep)
  · cases h1
end
end DN
set_option Elab.async false
set_option linter.all false
set_option maxRecDepth 100000
set_option maxHeartbeats 4000000
namespace DN
open PySem PySem.Spec PyProof.Rows L2 RZ
variable {B : Sto}
/-! ## dict comprehensions -/
def hasK (ks : List D) (k : Key) : Bool := ks.any fun x => decide (x.key = some k)
def repV : List D → List D → Key → D → List D
  | x :: ks, y :: ds, k, d => (if x.key = some k then d else y) :: repV ks ds k d
  | _, ds, _, _ => ds
def putKs (ks : List D) (k : Key) : List D := if hasK ks k = true then ks else ks ++ [keyD k]
def putVs (ks ds : List D) (k : Key) (d : D) : List D := if hasK ks k = true then repV ks ds k d else ds ++ [d]
section
variable {K : PySem.W.Frag} {cl : CTab} {Z : Hp}
theorem hasK_eq (kvs : List (Key × V)) (k : Key) : hasK (kvs.map fun p => keyD p.1) k = kvs.any fun kv => decide (kv.1 = k) := by
  unfold hasK
  rw [List.any_map]
  congr 1
  funext p
  simp only [Function.comp_apply, key_keyD, Option.some.injEq]
theorem rep_rep {k : Key} {v : V} {d : D} (r : Rep K cl Z v d) : ∀ {kvs : List (Key × V)} {ds : List D}, RepL K cl Z (kvs.map (·.2)) ds → RepL K cl Z ((kvs.map fun kv => if kv.1 = k then (kv.1, v) else kv).map (·.2)) (repV (kvs.map fun p => keyD p.1) ds k d)
  | [], _, h => by cases h; exact .nil
  | p :: kvs, _, h => by
    cases h with
    | cons a b =>
      rw [List.map_cons, List.map_cons, List.map_cons, repV, key_keyD]
      by_cases e : p.1 = k
      · rw [if_pos e, if_pos (by rw [e])]
        exact .cons r (rep_rep r b)
      · rw [if_neg e, if_neg (fun z => e (Option.some.inj z))]
        exact .cons a (rep_rep r b)
theorem fst_map (k : Key) (v : V) (kvs : List (Key × V)) : (kvs.map fun kv => if kv.1 = k then (kv.1, v) else kv).map (·.1) = kvs.map (·.1) := by
  rw [List.map_map]
  apply List.map_congr_left
  intro p _
  simp only [Function.comp_apply]
  split <;> rfl
theorem keyOk_rep {k : Key} {y : V} (r : Rep K cl Z y (keyD k)) : KeyOk k := by
  cases k with
  | inl i => trivial
  | inr x => cases r with | str a b => exact ⟨a, b⟩
theorem put_rep {k : Key} {v : V} {d : D} (kok : KeyOk k) (r : Rep K cl Z v d) {kvs : List (Key × V)} {ks ds : List D} (e : ks = kvs.map fun p => keyD p.1) (nd : KNd kvs) (h : RepL K cl Z (kvs.map (·.2)) ds) :
    putKs ks k = (putK kvs k v).map (fun p => keyD p.1) ∧ KNd (putK kvs k v) ∧ RepL K cl Z ((putK kvs k v).map (·.2)) (putVs ks ds k d) ∧ (putK kvs k v).length ≤ kvs.length + 1 := by
  subst e
  unfold putKs putVs putK
  rw [hasK_eq]
  split
  · refine ⟨?_, ⟨by rw [fst_map]; exact nd.1, fun p hp => ?_⟩, rep_rep r h, by simp⟩
    rotate_left
    · obtain ⟨q, hq, rfl⟩ := List.mem_map.mp hp
      have := nd.2 q hq
      split <;> exact this
    show kvs.map (keyD ∘ Prod.fst) = (kvs.map fun kv => if kv.1 = k then (kv.1, v) else kv).map (keyD ∘ Prod.fst)
    rw [← List.map_map, ← List.map_map]
    exact congrArg (List.map keyD) (fst_map k v kvs).symm
  · rename_i hn
    refine ⟨by simp, ⟨?_, fun p hp => ?_⟩, ?_, by simp⟩
    rotate_left
    · rcases List.mem_append.mp hp with hp | hp
      · exact nd.2 p hp
      · rw [List.mem_singleton.mp hp]; exact kok
    rotate_left
    · rw [List.map_append, List.map_cons, List.map_nil, List.nodup_append]
      refine ⟨nd.1, by simp, fun a ha b hb => ?_⟩
      have hb' : b = k := by simpa using hb
      subst hb'
      intro z
      subst z
      obtain ⟨p, hp, rfl⟩ := List.mem_map.mp ha
      exact hn (List.any_eq_true.mpr ⟨p, hp, by simp⟩)
    · rw [List.map_append]
      exact h.append (.cons r .nil)
end
def putAll : List D → List D → List (D × D) → Option D
  | ks, ds, [] => some (.dct ks ds)
  | ks, ds, (k, d) :: r => k.key.bind fun k => putAll (putKs ks k) (putVs ks ds k d) r
def compFD (a : D → Option Asg) (t : Env → M B Bool) (ek e : Env → M B D) (ρ : Env) (d : D) : M B (Option (D × D)) :=
  noErr (M.bind (lift ((a d).map (setsE ρ))) fun ρ' => M.bind (t ρ') fun k => if k = true then M.bind (ek ρ') fun x => M.bind (e ρ') fun y => M.pure (some (x, y)) else M.pure none)
/-- a walk of a dict comprehension -/
theorem dc_it {J : It} {n : Nat} {G : Hp → Prop} {Y : Nat → Hp → V → Hp → Prop} (w : Walk J n G Y) {g : TG} {tt : TT} {tk te : TE} {vs : List Nat} {σ : L2.St} {H1 : Hp} {D : Addr} {Qd : Hp → Prop} (Pv : Nat → Hp → Prop) (h0 : Pv 0 (upd H1 D (.dK []))) (hG : ∀ i H, i ≤ n → Pv i H → G H)
    (hs : ∀ i x H H', i < n → Pv i H → Y i H x H' → g x (L2.wipe σ vs) H' fun σ2 H2 => L2.wipe σ2 vs = L2.wipe σ vs ∧ tt σ2 H2 fun b H3 =>
      if b = true then tk σ2 H3 fun y H4 => te σ2 H4 fun z H5 => ∃ kvs k, y = kV k ∧ H5 D = some (.dK kvs) ∧ kvs.length < sizeLine ∧ Pv (i + 1) (upd H5 D (.dK (putK kvs k z))) else Pv (i + 1) H3) (hd : ∀ H, Pv n H → Qd H) :
    ∃ W : Nat → Nat → Hp → Prop, (∃ m, W 0 m (upd H1 D (.dK []))) ∧ ∀ i m H, W i m H →
      (J.stop i H ∧ Qd H) ∨ (J.go i H ∧ ∃ Nx : Hp → Prop, (∀ H', Nx H' → ∃ m', m' < m ∧ W (i + 1) m' H') ∧ ∀ x H', J.yld i H x H' → g x (L2.wipe σ vs) H' fun σ2 H2 => L2.wipe σ2 vs = L2.wipe σ vs ∧ tt σ2 H2 fun b H3 =>
        if b = true then tk σ2 H3 fun y H4 => te σ2 H4 fun z H5 => ∃ kvs k, y = kV k ∧ H5 D = some (.dK kvs) ∧ kvs.length < sizeLine ∧ Nx (upd H5 D (.dK (putK kvs k z))) else Nx H3) := by
  refine ⟨fun i m H => m = n - i ∧ i ≤ n ∧ Pv i H, ⟨n, by simp, Nat.zero_le _, h0⟩, ?_⟩
  rintro i m H ⟨rfl, hi, p⟩
  have q := hG i H hi p
  by_cases hlt : i < n
  · refine .inr ⟨w.goes i H hlt q, Pv (i + 1), fun H' p' => ⟨n - (i + 1), by omega, rfl, hlt, p'⟩, fun x H' y => hs i x H H' hlt p (w.yields i H x H' hlt q y)⟩
  · have e : i = n := by omega
    subst e
    exact .inl ⟨w.stops H q, hd H p⟩
theorem compL_noErr {β : Type} {f : D → M B (Option β)} {g : D → M B (Option β)} (hf : ∀ d, f d = noErr (g d)) : ∀ {ds : List D} {s s' : B.T} {x : Exn}, compL f ds s ≠ .err x s'
  | [], _, _, _, h => by cases h
  | d :: ds, s, s', x, h => by
    unfold compL M.bind at h
    cases e : f d s with
    | ok o s1 =>
      simp only [e] at h
      cases e2 : compL f ds s1 with
      | ok r s2 => simp only [e2] at h; cases h
      | err y s2 => exact compL_noErr hf e2
      | stuck => simp only [e2] at h; cases h
    | err y s1 =>
      rw [hf d] at e
      unfold noErr at e
      split at e <;> cases e
    | stuck => simp only [e] at h; cases h
section
variable {cl : CTab} {md : Bool} {W : WX} {X : Cx}
theorem dx_dcomp {kx elt tg iter : Expr} {ifs : List Expr} {scope : Scope} {own : List (Str × Nat)} {pos : Pos} {src : Env → M B (List D)} {b : D → Option Asg} {t : Env → M B Bool} {fk fe : Env → M B D} (hc : X.calm = true) (hN : X.N.Nodup)
    (hi : DI cl B md W X tg iter src) (ok : BlkOk X.N X.env.scope scope own)
    (hg : ∀ (s : Shared) (H : Hp) (C : Addr) (cs : List (Str × Addr)) (fp : List Addr), DG cl (X.blk s H scope (compEnvC scope cs C X.env) fp) tg b) (hin : TgIn (own.map (·.2)) b)
    (ht : ∀ (s : Shared) (H : Hp) (C : Addr) (cs : List (Str × Addr)) (fp : List Addr), DTs cl B md (X.blk s H scope (compEnvC scope cs C X.env) fp) ifs t)
    (hk : ∀ (s : Shared) (H : Hp) (C : Addr) (cs : List (Str × Addr)) (fp : List Addr), DE cl B md W0 (X.blk s H scope (compEnvC scope cs C X.env) fp) kx fk)
    (he : ∀ (s : Shared) (H : Hp) (C : Addr) (cs : List (Str × Addr)) (fp : List Addr), DE cl B md W0 (X.blk s H scope (compEnvC scope cs C X.env) fp) elt fe) (hs : ∀ x, foldedSetIterable iter X.env x = pure x := by intro _; rfl) :
    DX cl B md W X (.DictComp kx elt [⟨tg, iter, ifs, 0⟩] scope pos) fun ρ => M.bind (src ρ) fun ds => M.bind (compL (compFD b t fk fe (wipeE ρ (own.map (·.2)))) ds) fun r => lift (putAll [] [] r) := by
  refine PE.weak (pe_dc (g := tDG X.K cl b) (tt := tG X.K cl B md RpE W0 t) (tk := tG X.K cl B md (RpD X.K cl) W0 fk) (tv := tG X.K cl B md (RpD X.K cl) W0 fe) hc hN hi ok hg ht hk he hs) fun σ H Q ⟨Z, C, s, ρ, w, e, p⟩ => ?_
  refine ⟨Z, C, s, ρ, w, e, PostO.seq w.ch p fun ds s1 J Z1 C1 H1 w1 n1 r1 p1 => ?_⟩
  intro Dd hD
  have zD := none_of_sub w1.zh hD
  have cD := none_of_sub w1.ch hD
  have e1 := e.mono n1.zz
  refine dc_it r1.1 (fun i H => ∃ Zi Ci si kvs ks acc, Wd B md Zi Ci H si ∧ Nx Z1 C1 H1 Zi Ci H ∧ H Dd = some (.dK kvs) ∧ Zi Dd = none ∧ Ci Dd = none ∧ (ks = kvs.map (fun p => keyD p.1) ∧ KNd kvs ∧ RepL X.K cl Zi (kvs.map (·.2)) acc) ∧ kvs.length ≤ i ∧ PostO X.K cl md W σ Z1 C1 H1 (M.bind (compL (compFD b t fk fe (wipeE ρ (own.map (·.2)))) (ds.drop i)) (fun r => lift (putAll ks acc r)) si) Q)
    ⟨Z1, C1, s1, [], [], [], w1.mut zD cD, (Nx.refl ..).mut hD, upd_same, zD, cD, ⟨rfl, ⟨List.nodup_nil, fun _ h => by simp at h⟩, .nil⟩, Nat.le_refl _, by simpa using p1⟩ (fun i H hi ⟨Zi, Ci, si, kvs, ks, acc, wi, ni, _⟩ => ni.zz.trans wi.zh) ?_ ?_
  · rintro i x H2 H2' hi ⟨Zi, Ci, si, kvs, ks, acc, wi, ni, hDi, zi, ci, ⟨rk, rn, ri⟩, li, pi⟩ ⟨d, hd, hy⟩
    obtain ⟨Zc, al, rx⟩ := hy Zi ni.zz wi.zh
    have hdr : ds.drop i = d :: ds.drop (i + 1) := by
      have hlt : i < ds.length := hi
      rw [List.drop_eq_getElem_cons hlt]
      have : ds[i] = d := by
        rw [List.getElem?_eq_getElem hlt] at hd
        exact Option.some.inj hd
      rw [this]
    rw [hdr, compL_step] at pi
    have wc := al.wd wi
    have nc := ni.trans w1.ch wi.ch al.nx
    have hDc : H2' Dd = some (.dK kvs) := al.hh _ _ hDi
    have zc : Zc Dd = none := by
      cases q : Zc Dd with
      | none => rfl
      | some u =>
        rcases al.zf Dd (some_ne q) with z | z
        · exact absurd zi z
        · rw [hDi] at z; cases z
    -- what the turn does
    have ew := (e1.mono (ni.zz.trans al.zz)).wipe (own.map (·.2))
    cases hb : b d with
    | none =>
      exfalso
      have hf : compFD b t fk fe (wipeE ρ (own.map (·.2))) d si = .stuck := by simp only [compFD, M.bind, noErr, lift, hb, Option.map_none]
      rw [hf] at pi
      exact pi
    | some as =>
      refine ⟨Zc, d, as, wc.zh, rx, hb, fun vs2 a2 => ?_⟩
      have e2 := ew.sets a2
      generalize hρ' : setsE (wipeE ρ (own.map (·.2))) as = ρ' at e2
      have wσ : L2.wipe (setsV (L2.wipe σ (own.map (·.2))) vs2) (own.map (·.2)) = L2.wipe σ (own.map (·.2)) := by
        rw [wipe_sets vs2 _ (asgR_mem a2 (hin d as hb))]
        exact wipe_sub _ (fun _ h => h)
      refine ⟨wσ, Zc, Ci, si, ρ', wc, e2, ?_⟩
      cases et : t ρ' si with
      | stuck =>
        exfalso
        have hf : compFD b t fk fe (wipeE ρ (own.map (·.2))) d si = .stuck := by simp only [compFD, M.bind, noErr, lift, M.pure, hb, Option.map_some, hρ', et]
        rw [hf] at pi
        exact pi
      | err xx s2 =>
        exfalso
        have hf : compFD b t fk fe (wipeE ρ (own.map (·.2))) d si = .stuck := by simp only [compFD, M.bind, noErr, lift, M.pure, hb, Option.map_some, hρ', et]
        rw [hf] at pi
        exact pi
      | ok k s2 =>
        rintro k' Z3 C3 H3 w3 n3 rfl
        have n3' := nc.trans w1.ch wc.ch n3
        obtain ⟨hD3, z3, c3⟩ := n3.own hDc zc ci
        cases k' with
        | false =>
          refine ⟨Z3, C3, s2, kvs, ks, acc, w3, n3', hD3, z3, c3, ⟨rk, rn, (ri.mono al.zz).mono n3.zz⟩, Nat.le_succ_of_le li, ?_⟩
          have hf : compFD b t fk fe (wipeE ρ (own.map (·.2))) d si = .ok none s2 := by simp [compFD, M.bind, noErr, lift, M.pure, hb, hρ', et]
          rw [hf] at pi
          exact pi
        | true =>
          refine ⟨Z3, C3, s2, ρ', w3, e2.mono n3.zz, ?_⟩
          cases ek : fk ρ' s2 with
          | stuck =>
            exfalso
            have hf : compFD b t fk fe (wipeE ρ (own.map (·.2))) d si = .stuck := by simp [compFD, M.bind, noErr, lift, M.pure, hb, hρ', et, ek]
            rw [hf] at pi
            exact pi
          | err xx s3 =>
            exfalso
            have hf : compFD b t fk fe (wipeE ρ (own.map (·.2))) d si = .stuck := by simp [compFD, M.bind, noErr, lift, M.pure, hb, hρ', et, ek]
            rw [hf] at pi
            exact pi
          | ok kk s3 =>
            intro vk Z4 C4 H4 w4 n4 rkk
            obtain ⟨hD4, z4, c4⟩ := n4.own hD3 z3 c3
            have n4' := n3'.trans w1.ch w3.ch n4
            refine ⟨Z4, C4, s3, ρ', w4, (e2.mono n3.zz).mono n4.zz, ?_⟩
            cases ee : fe ρ' s3 with
            | stuck =>
              exfalso
              have hf : compFD b t fk fe (wipeE ρ (own.map (·.2))) d si = .stuck := by simp [compFD, M.bind, noErr, lift, M.pure, hb, hρ', et, ek, ee]
              rw [hf] at pi
              exact pi
            | err xx s4 =>
              exfalso
              have hf : compFD b t fk fe (wipeE ρ (own.map (·.2))) d si = .stuck := by simp [compFD, M.bind, noErr, lift, M.pure, hb, hρ', et, ek, ee]
              rw [hf] at pi
              exact pi
            | ok y s4 =>
              intro vy Z5 C5 H5 w5 n5 ry
              obtain ⟨hD5, z5, c5⟩ := n5.own hD4 z4 c4
              have n5' := n4'.trans w1.ch w4.ch n5
              have hf : compFD b t fk fe (wipeE ρ (own.map (·.2))) d si = .ok (some (kk, y)) s4 := by simp [compFD, M.bind, noErr, lift, M.pure, hb, hρ', et, ek, ee]
              rw [hf] at pi
              have lz : kvs.length < sizeLine := Nat.lt_of_le_of_lt li (Nat.lt_of_lt_of_le hi r1.2)
              cases hk0 : kk.key with
              | none =>
                exfalso
                simp only [consO, putAll, hk0, Option.bind_none] at pi
                unfold M.bind at pi
                cases hcl : compL (compFD b t fk fe (wipeE ρ (own.map (·.2)))) (ds.drop (i + 1)) s4 with
                | ok r s5 => simp only [hcl] at pi; exact pi
                | err xx s5 => exact compL_noErr (fun _ => rfl) hcl
                | stuck => simp only [hcl] at pi; exact pi
              | some k0 =>
                cases key_eq hk0
                obtain ⟨q1, q2, q3, q4⟩ := put_rep (k := k0) (keyOk_rep rkk) ry rk rn ((((ri.mono al.zz).mono n3.zz).mono n4.zz).mono n5.zz)
                refine ⟨kvs, k0, kV_of_rep rkk, hD5, lz, Z5, C5, s4, putK kvs k0 vy, putKs ks k0, putVs ks acc k0 y, w5.mut z5 c5, n5'.mut hD, upd_same, z5, c5, ⟨q1, q2, q3⟩, by omega, ?_⟩
                simpa only [consO, putAll, hk0, Option.bind_some] using pi
  · rintro H2 ⟨Zi, Ci, si, kvs, ks, acc, wi, ni, hDi, zi, ci, ⟨rk, rn, ri⟩, li, pi⟩
    rw [List.drop_length] at pi
    have pi' : PostO X.K cl md W σ Z1 C1 H1 (.ok (.dct ks acc) si) Q := pi
    exact pi' Dd Zi Ci H2 wi ni hD zi ci ⟨kvs, hDi, rk, rn, ri⟩
end
end DN
set_option Elab.async false
set_option linter.all false
set_option maxRecDepth 100000
set_option maxHeartbeats 4000000
namespace DN
section
open PySem PySem.Calls PyProof.Rows PySem.W PySem.SeqAt
/-! ## sorting tuples of which some may be empty -/
/-- firsts of tuples, empty ones too -/
theorem firsts_opt {M : Model} {A : Around} {E : Value → Shared → Prop} {s : Shared} : ∀ (vs : List Value) (ds : List PyData) {Q : List (Option Value) → Shared → Prop}, EachIs (fun v d => ∃ as, Reads s.heap v d as) vs ds → (∀ d ∈ ds, ∃ xs, d = .tuple xs) →
    (∀ fs, fs.length = vs.length → (∀ (i : Nat) xs, ds[i]? = some (.tuple xs) → (fs[i]?.map Option.isSome = some (!xs.isEmpty))) → Q fs s) → wpAny M A (vs.mapM firstOfTuple') Q E s
  | [], [], _, _, _, h => by rw [List.mapM_nil]; exact wpAny_pure (h [] rfl fun i xs e => by simp at e)
  | [], _ :: _, _, e, _, _ => by cases e
  | _ :: _, [], _, e, _, _ => by cases e
  | v :: vs, d :: ds, Q, e, ht, h => by
    cases e with
    | cons r t =>
      obtain ⟨as, r⟩ := r
      obtain ⟨ys, rfl⟩ := ht d List.mem_cons_self
      cases r with
      | @tuple a o xs n _ _ ho hc hd hr =>
        rw [List.mapM_cons]
        refine wpAny_bind ?_
        rw [kas_first_eq]
        refine wpAny_bind (Looks.here (show Looks M s.heap (typeOf (.ref a)) o.cls from (Looks.ld ho).andThen .now) ?_)
        rw [hc, if_neg (by first | decide | simp)]
        refine wpAny_bind (listItems_at ho hd (wpAny_pure ?_))
        refine wpAny_bind (firsts_opt vs ds t (fun d hd => ht d (List.mem_cons_of_mem _ hd)) fun fs hl hf => wpAny_pure (h (xs[0]? :: fs) (by simp [hl]) fun i zs hz => ?_))
        cases i with
        | zero =>
          simp only [List.getElem?_cons_zero, Option.some.injEq, PyData.tuple.injEq] at hz
          subst hz
          simp only [List.getElem?_cons_zero, Option.map_some]
          congr 1
          rw [← Array.getElem?_toList]
          cases q : xs.toList with
          | nil => rw [q] at hr; cases hr; rfl
          | cons f fr => rw [q] at hr; cases hr; rfl
        | succ i =>
          simp only [List.getElem?_cons_succ] at hz ⊢
          exact hf i zs hz
theorem call_tup_lt {A : Around} {s : Shared} {prog : Program} {w : World} {E : Value → Shared → Prop} {Q : Value → Shared → Prop} {l b : Addr} {items items2 : Array Value} {e r : Nat → Bool} (hl : s.heap.IsTuple l items) (hb : s.heap.IsTuple b items2)
    (he : ∀ j (h1 : j < items.size) (h2 : j < items2.size), EqAt A.in1 s items[j] items2[j] (e j)) (hr : ∀ j (h1 : j < items.size) (h2 : j < items2.size), e j = false → RcLt A.in1 s items[j] items2[j] (r j))
    (h : Q (.bool (firstLt e r (decide (items.size < items2.size)) (List.range (min items.size items2.size)))) s) : wpAny (model prog w) A (call (.builtin "tuple.__lt__") [.ref l, .ref b]) Q E s := by
  obtain ⟨⟨cls, dd, data, sl⟩, ho, hc, n, hd⟩ := id hl
  obtain ⟨⟨cls2, dd2, data2, sl2⟩, ho2, hc2, n2, hd2⟩ := id hb
  simp only at hc hd hc2 hd2
  subst hc hd hc2 hd2
  exact call_meets F.slot_tuple_lt ⟨_, ho, rfl⟩ F.entry_tuple_lt (F.args_tuple_lt_2 _ _) (PySem.SeqAt.tuple_ltAt l b items items2 n n2 dd dd2 sl sl2 e r) ⟨ho, ho2, he, hr, h⟩
/-- one tuple against another -/
theorem oneLt_tup {prog : Program} {w : World} {A : Around} {E : Value → Shared → Prop} {s : Shared} {f : Bool} {xs ys : List PyData} {a b : Value} {as bs : List Addr} {Q : Bool → Shared → Prop} (ra : Reads s.heap a (.tuple xs) as) (rb : Reads s.heap b (.tuple ys) bs) (h : alike (.tuple xs) (.tuple ys) = true)
    (hu : A.units + min (PyData.tuple xs).depth (PyData.tuple ys).depth < cLine) (hq : Q (dataLt (.tuple xs) (.tuple ys)) s) : wpAny (model prog w) A (oneLt' f a b) Q E s := by
  cases f with
  | false =>
    rw [oneLt'_eq]
    simp only [Bool.false_eq_true, if_false]
    exact wpAny_bind (rcLt_alike (.tuple xs) (.tuple ys) A s a b as bs ra rb h (by simp) hu prog w E _ (wpAny_truthy_bool hq))
  | true =>
    have hal : alikeAll xs ys = true := by simpa [alike] using h
    cases ra with
    | @tuple l o vs n _ as₁ h1 h2 h3 h4 =>
      cases rb with
      | @tuple l' o' vs' n' _ bs₁ k1 k2 k3 k4 =>
        have n1 : vs.size = xs.length := by simpa using ReadsAll.length _ _ _ h4
        have n2 : vs'.size = ys.length := by simpa using ReadsAll.length _ _ _ k4
        rw [dataLt_tuple, ← firstLt_toks xs ys hal, ← n1, ← n2] at hq
        rw [oneLt'_eq]
        simp only [if_true]
        refine wpAny_bind (wpAny_cRoomFor (room_here hu) ?_)
        refine wpAny_bind (wpAny_callSpecialIfBound?_slot (T := "tuple") ⟨_, h1, h2⟩ F.slot_tuple_lt (call_tup_lt (e := pairEq xs ys) (r := fun j => dataLt (xs.getD j .none) (ys.getD j .none)) ⟨_, h1, h2, _, h3⟩ ⟨_, k1, k2, _, k3⟩ (fun j j1 j2 => ?_) (fun j j1 j2 hj => ?_) ?_))
        · have := eqAt_alikeAll xs ys A.in1 s vs.toList vs'.toList _ _ h4 k4 hal (room_in hu) j (by simpa using j1) (by simpa using j2)
          simpa using this
        · have := rcLt_alikeAll xs ys A.in1 s vs.toList vs'.toList _ _ h4 k4 hal (room_in hu) j (by simpa using j1) (by simpa using j2) hj
          simpa using this
        · exact wpAny_truthy_bool hq
theorem keyLt_general (x y : Value) : keyLt' general' x y = oneLt' false x y := rfl
theorem sortsAt_tups {prog : Program} {w : World} {A : Around} {s : Shared} {vs : List Value} {ds : List PyData} (e : EachIs (fun v d => ∃ as, Reads s.heap v d as) vs ds) (hal : AllAlike ds) (ht : ∀ d ∈ ds, ∃ xs, d = .tuple xs) (hu : ∀ d, d ∈ ds → A.units + d.depth < cLine) :
    SortsAt prog w A s (dataKind s.heap ds) vs := by
  by_cases hne : ∀ d ∈ ds, ∃ x r, d = .tuple (x :: r)
  · exact SortsAt.data e hal (.inl hne) hu
  have room : ∀ {d d' : PyData}, d ∈ ds → A.units + min d.depth d'.depth < cLine := fun {d d'} hd => Nat.lt_of_le_of_lt (Nat.add_le_add_left (Nat.min_le_left _ _) _) (hu d hd)
  have lt : ∀ f : Bool, ∀ (kd : SortKind), (∀ x y, keyLt' kd x y = oneLt' f x y) → PyProof.Rows.H.LtAt prog w A s (dataKind s.heap ds) kd := by
    intro f kd hkd E x y a b Q ha hb hq
    obtain ⟨d, as, hd, ra, rfl⟩ := dataKind_inv ha
    obtain ⟨d', as', hd', rb, rfl⟩ := dataKind_inv hb
    obtain ⟨xs, rfl⟩ := ht d hd
    obtain ⟨ys, rfl⟩ := ht d' hd'
    rw [hkd]
    exact oneLt_tup ra rb (hal _ hd _ hd') (room hd) hq
  refine ⟨fun v hv => ?_, ?_⟩
  · obtain ⟨d, hd, as, r⟩ := e.left v hv
    exact ⟨_, dataKind_some hal hd r⟩
  have some_empty : ∃ i : Nat, ds[i]? = some (.tuple []) := by
    apply Classical.byContradiction
    intro hno
    apply hne
    intro d hd
    obtain ⟨xs, rfl⟩ := ht d hd
    cases xs with
    | nil =>
      obtain ⟨i, hi⟩ := List.mem_iff_getElem?.mp hd
      exact absurd ⟨i, hi⟩ hno
    | cons x r => exact ⟨x, r, rfl⟩
  have tys : ∀ (M : Model), ∀ v ∈ vs, Looks M s.heap (typeOf v) (.type "tuple") := fun M v hv => by
    obtain ⟨d, hd, as, r⟩ := e.left v hv
    obtain ⟨xs, rfl⟩ := ht d hd
    exact looks_reads r
  have hlen := e.length
  -- the first one
  cases hds : ds with
  | nil => rw [hds] at some_empty; obtain ⟨i, hi⟩ := some_empty; simp at hi
  | cons d0 ds0 =>
    obtain ⟨x0, rfl⟩ := ht d0 (by rw [hds]; exact List.mem_cons_self)
    have hfst : ds[0]? = some (.tuple x0) := by rw [hds]; rfl
    have notall : ∀ fs : List (Option Value), fs.length = vs.length → (∀ (i : Nat) xs, ds[i]? = some (.tuple xs) → (fs[i]?.map Option.isSome = some (!xs.isEmpty))) → (fs.toArray.all fun x => x.isSome) = false := by
      intro fs hl hf
      obtain ⟨i, hi⟩ := some_empty
      have := hf i [] hi
      cases hx : fs[i]? with
      | none => rw [hx] at this; simp at this
      | some o =>
        rw [hx] at this
        have ho : o.isSome = false := by simpa using this
        rw [List.all_toArray]
        rw [Bool.eq_false_iff]
        intro hall
        have := List.all_eq_true.mp hall o (List.mem_of_getElem? hx)
        rw [ho] at this; cases this
    rw [← hds]
    by_cases hx0 : x0 = []
    · -- one type
      refine ⟨oneType', lt true oneType' (fun x y => keyLt'_oneType x y), fun h2 E Q hq => ?_⟩
      rw [keyKind'_eq, List.mapM_toArray, map_eq_pure_bind]
      refine wpAny_bind (wpAny_bind (firsts_opt vs ds e ht fun fs hl hf => wpAny_pure ?_))
      rw [if_neg (by rw [notall fs hl hf]; simp)]
      have h0 : (fs.toArray[0]?.bind id).isSome = false := by
        have := hf 0 x0 hfst
        rw [List.getElem?_toArray]
        cases hx : fs[0]? with
        | none => rfl
        | some o =>
          rw [hx] at this
          subst hx0
          simpa using this
      rw [if_neg (by rw [h0]; simp)]
      rw [oneTypeOnly'_eq, List.mapM_toArray, map_eq_pure_bind]
      refine wpAny_bind (wpAny_bind (wpAny_bind (kas_mapM (r := Value.type "tuple") _ (fun v hv Q' hq => (tys _ v hv).here hq) (wpAny_pure ?_))))
      obtain ⟨v1, vr, rfl⟩ : ∃ v1 vr, vs = v1 :: vr := by
        cases vs with
        | nil => simp at h2
        | cons a b => exact ⟨a, b, rfl⟩
      have hall : ((List.map (fun _ => Value.type "tuple") (v1 :: vr)).toArray.all fun x => x == Value.type "tuple") = true := by
        simp only [List.all_toArray, List.all_map, List.all_eq_true]
        intro _ _
        exact (beq_self_eq_true _)
      have h0' : (List.map (fun _ => Value.type "tuple") (v1 :: vr)).toArray[0]? = some (Value.type "tuple") := by simp
      rw [h0']
      simp only [hall, if_true]
      exact wpAny_pure (wpAny_pure hq)
    · refine ⟨general', lt false general' keyLt_general, fun h2 E Q hq => ?_⟩
      rw [keyKind'_eq, List.mapM_toArray, map_eq_pure_bind]
      refine wpAny_bind (wpAny_bind (firsts_opt vs ds e ht fun fs hl hf => wpAny_pure ?_))
      rw [if_neg (by rw [notall fs hl hf]; simp)]
      have h0 : (fs.toArray[0]?.bind id).isSome = true := by
        have := hf 0 x0 hfst
        rw [List.getElem?_toArray]
        cases hx : fs[0]? with
        | none => rw [hx] at this; simp at this
        | some o =>
          rw [hx] at this
          cases x0 with
          | nil => exact absurd rfl hx0
          | cons a b => simpa using this
      rw [if_pos h0]
      exact wpAny_pure hq
theorem sorted_tups {prog : Program} {w : World} {A : Around} {E : Value → Shared → Prop} {s : Shared} {β : Type} {vs : List Value} {bs : List β} {enc : β → PyData} {R : Value → β → Prop} {l : Addr} {Q : Value → Shared → Prop} (hl : s.heap.IsList l vs.toArray) (e : EachIs R vs bs) (er : EachIs (fun v b => ∃ as, Reads s.heap v (enc b) as) vs bs) (hal : AllAlike (bs.map enc)) (hk : ∀ d ∈ bs.map enc, ∃ xs, d = .tuple xs) (hL : bs.length ≤ sizeLine)
    (hu : ∀ b, b ∈ bs → A.units + 2 + (enc b).depth < cLine) (h : ∀ out, out.length = bs.length → EachIs R out (bs.mergeSort (dataLe false enc)) → Q (.ref (s.heap.objs.size + 1)) { s with heap := sortedAll s.heap vs (List.toArray out) }) :
    wpAny (model prog w) A (call (.builtin "sorted") [.ref l]) Q E s := by
  have er' : EachIs (fun v b => ∃ as, Reads (sortingHeap (copyHeap s.heap vs) (s.heap.objs.size + 1) vs) v (enc b) as) vs bs := er.mono fun _ _ ⟨as, r⟩ => ⟨as, PyProof.Rows.Reads.keeps (fun _ _ => sorting_copy_old) r⟩
  exact sorted_vals hl (sortsAt_tups (s := { s with heap := sortingHeap (copyHeap s.heap vs) (s.heap.objs.size + 1) vs }) (each_map (R := fun v d => ∃ as, Reads (sortingHeap (copyHeap s.heap vs) (s.heap.objs.size + 1) vs) v d as) enc er') hal hk (bound_map hu)) (by rw [e.length]; exact hL)
    (h _ (by rw [sortVals_length false rfl]; exact e.length) (sortVals_data false e er' hal))
end
end DN
set_option Elab.async false
set_option linter.all false
set_option maxRecDepth 100000
set_option maxHeartbeats 4000000
namespace DN
open PySem PySem.Spec PyProof.Rows L2 RZ
variable {B : Sto}
/-! ## sorted -/
def leS (a b : Str) : Bool := !ltCps b.cps.toList a.cps.toList
theorem leS_iff {a b : Str} : leS a b = true ↔ a.cps.toList ≤ b.cps.toList := by
  unfold leS
  rw [PyProof.Rows.ltCps_eq]
  simp [List.not_lt]
theorem leS_trans (a b c : Str) (h1 : leS a b = true) (h2 : leS b c = true) : leS a c = true := leS_iff.mpr (List.le_trans (leS_iff.mp h1) (leS_iff.mp h2))
theorem leS_total (a b : Str) : (leS a b || leS b a) = true := by
  rw [Bool.or_eq_true, leS_iff, leS_iff]
  exact List.le_total _ _
theorem leS_anti {a b : Str} (h1 : leS a b = true) (h2 : leS b a = true) : a = b := by
  have := List.le_antisymm (leS_iff.mp h1) (leS_iff.mp h2)
  cases a with | mk x => cases b with | mk y =>
    simp only at this
    congr 1
    exact Array.ext' this
def sortS (xs : List Str) : List Str := xs.mergeSort leS
theorem rising_pair : ∀ {l : List Str} {p : Str}, risingS p l = true → (p :: l).Pairwise fun a b => leS a b = true
  | [], p, _ => by simp
  | x :: r, p, h => by
    unfold risingS at h
    rw [Bool.and_eq_true] at h
    have ih := rising_pair h.2
    refine List.pairwise_cons.mpr ⟨fun y hy => ?_, ih⟩
    rcases List.mem_cons.mp hy with rfl | hy
    · exact h.1
    · exact leS_trans _ _ _ h.1 ((List.pairwise_cons.mp ih).1 y hy)
theorem sortedS_pair : ∀ {l : List Str}, sortedS l = true → l.Pairwise fun a b => leS a b = true
  | [], _ => .nil
  | _ :: _, h => rising_pair h
theorem sortS_uniq {ys xs : List Str} (h : ys.Perm xs) (s : sortedS ys = true) : ys = sortS xs := by
  refine List.Perm.eq_of_pairwise (le := fun a b => leS a b = true) (fun a b _ _ h1 h2 => leS_anti h1 h2) (sortedS_pair s) (List.pairwise_mergeSort leS_trans leS_total xs) (h.trans (List.mergeSort_perm xs leS).symm)
def strsOf : List D → Option (List Str)
  | [] => some []
  | .str x :: ds => (strsOf ds).map fun r => x :: r
  | _ :: _ => none
theorem strsOf_eq : ∀ {ds : List D} {xs : List Str}, strsOf ds = some xs → ds = xs.map D.str
  | [], _, e => by cases e; rfl
  | d :: ds, xs, e => by
    cases d <;> (unfold strsOf at e; try (cases e; done))
    obtain ⟨r, h1, h2⟩ := Option.map_eq_some_iff.mp e
    subst h2
    rw [strsOf_eq h1]
    rfl
/-- sorted of a dict's keys, texts -/
def sortKD : D → Option D
  | .dct ks _ => (strsOf ks).bind fun xs => if xs.length < 64 then some (.lst ((sortS xs).map .str)) else none
  | _ => none
theorem keyD_str {kvs : List (Key × V)} {xs : List Str} (h : (kvs.map fun p => keyD p.1) = xs.map D.str) : kvs.map (·.1) = xs.map Sum.inr := by
  induction kvs generalizing xs with
  | nil => cases xs with
    | nil => rfl
    | cons => cases h
  | cons p kvs ih =>
    cases xs with
    | nil => cases h
    | cons x xs =>
      rw [List.map_cons, List.map_cons, List.cons.injEq] at h
      obtain ⟨h1, h2⟩ := h
      rw [List.map_cons, List.map_cons, ih h2]
      congr 1
      cases hk : p.1 with
      | inl i => rw [hk] at h1; cases h1
      | inr y => rw [hk] at h1; cases h1; rfl
section
variable {K : PySem.W.Frag} {cl : CTab} {Z : Hp}
theorem strs_rep : ∀ {ys : List Str}, (∀ y ∈ ys, y.length ≤ sizeLine ∧ PyData.strOk y = true) → RepL K cl Z (ys.map V.str) (ys.map D.str)
  | [], _ => .nil
  | y :: ys, h => .cons (.str (h y List.mem_cons_self).1 (h y List.mem_cons_self).2) (strs_rep fun z hz => h z (List.mem_cons_of_mem _ hz))
end
section
variable {cl : CTab} {md : Bool} {W : WX} {X : Cx}
/-- sorted({..}): texts -/
theorem de_sortedX {e : Expr} {f : Env → M B D} {p pos : Pos} (hc : X.calm = true) (hg : Gl X "sorted") (hm : X.mg "sorted" = none) (he : DX cl B md W X e f) (hs : starEach [e] X.env = (false, eval e X.env) :: starEach [] X.env := by rfl) (hpl : (backTo pos (starEach [] X.env)).any (·.1) = false := by rfl) :
    DE cl B md W X (.Call (.Name "sorted" p) [e] [] pos) fun ρ => M.bind (f ρ) fun d => lift (sortKD d) := by
  refine PE.weak (pe_callB (call_sortedD hc) hg hm boot_sorted (pa_cons he pa_nil hs) (by decide) (by decide) hs hpl) fun σ H Q ⟨Z, C, s, ρ, w, e, pp⟩ => ?_
  refine ⟨Z, C, s, ρ, w, e, ?_⟩
  unfold M.bind at pp
  cases hf : f ρ s with
  | stuck => simp only [hf] at pp; exact pp
  | err x s1 => simp only [hf] at pp; exact pp
  | ok d s1 =>
    simp only [hf] at pp
    intro a Z1 C1 H1 w1 n1 ha hz hcn o
    have p1 := Post.step n1 w.ch w1.ch pp
    obtain ⟨d2, hd, q⟩ := post_lift w1 p1
    cases d with
    | dct ks ds =>
      have hd : ((strsOf ks).bind fun xs => if xs.length < 64 then some (.lst ((sortS xs).map .str)) else none) = some d2 := hd
      obtain ⟨kvs, h1, h2, h3, h4⟩ := o
      cases hx : strsOf ks with
      | none => rw [hx] at hd; cases hd
      | some xs =>
        rw [hx] at hd
        simp only [Option.bind_some] at hd
        split at hd <;> cases hd
        rename_i h64
        have hk := keyD_str (h2.symm.trans (strsOf_eq hx))
        refine ⟨a, kvs, xs, rfl, .inl h1, hk, h64, fun ys pn hperm hsort hp => ?_⟩
        have hu := sortS_uniq hperm hsort
        have ok : ∀ y ∈ ys, y.length ≤ sizeLine ∧ PyData.strOk y = true := fun y hy => by
          have hy2 : Sum.inr y ∈ kvs.map (·.1) := by rw [hk]; exact List.mem_map.mpr ⟨y, hperm.mem_iff.mp hy, rfl⟩
          obtain ⟨pr, hpr, e1⟩ := List.mem_map.mp hy2
          have := h3.2 pr hpr
          rw [e1] at this
          exact this
        have al : Al Z1 H1 (upd Z1 pn (.lst (ys.map V.str))) (upd H1 pn (.lst (ys.map V.str))) := .new w1.zh hp (fun _ z => nomatch z)
        rw [← hu] at q
        refine q _ _ _ al (.lst upd_same ?_ (strs_rep ok))
        rw [List.length_map, hperm.length_eq, sizeLine_eq]
        omega
    | _ => cases hd
end
/-! ### by the library's order -/
def alikeAllD (xs : List D) : Bool := xs.all fun x => xs.all fun y => PySem.W.alike x.py y.py
def tupCons : D → Bool
  | .tup _ => true
  | _ => false
def SortableT (ds : List PyData) : Prop := (∀ d ∈ ds, ∃ xs, d = .tuple xs) ∨ ∀ d, d ∈ ds → d ≠ .none ∧ ∀ xs, d ≠ .tuple xs
def noTup : D → Bool
  | .tup _ => false
  | .non => false
  | _ => true
def sortableD (xs : List D) : Bool := xs.all D.okc && alikeAllD xs && (xs.all tupCons || xs.all noTup)
noncomputable def leData (x y : D) : Bool := PySem.W.dataLe false D.py x y
noncomputable def sortDL (xs : List D) : List D := xs.mergeSort leData
noncomputable def sortedDD : List D → Option D
  | [.lst xs] => if sortableD xs = true then some (.lst (sortDL xs)) else none
  | _ => none
def rSortDat (K : PySem.W.Frag) : List V → Hp → VK → Prop := fun vs H Q => ∃ (a : Addr) (L : List (V × D)), vs = [V.ref a] ∧ SqL K H a (L.map (·.1)) ∧ (∀ b ∈ L, Dp K H b.1 b.2.py ∧ b.2.py.depth ≤ 60) ∧ PySem.W.AllAlike (L.map fun b => b.2.py) ∧ SortableT (L.map fun b => b.2.py) ∧
  ∀ p, H p = none → Q (.ref p) (upd H p (.lst ((L.mergeSort (PySem.W.dataLe false fun b => b.2.py)).map (·.1))))
theorem each_of {R : Value → V × D → Prop} : ∀ {L : List (V × D)} {its : List Value}, Vals (L.map (·.1)) its → (∀ b ∈ L, ∀ u, RelV b.1 u → R u b) → PySem.W.EachIs R its L
  | [], _, h, _ => by cases h; exact .nil
  | b :: L, _, h, q => by
    cases h with
    | cons r t => exact .cons (q b List.mem_cons_self _ r) (each_of t fun b' hb => q b' (List.mem_cons_of_mem _ hb))
theorem vals_of_each : ∀ {L : List (V × D)} {its : List Value}, PySem.W.EachIs (fun u (b : V × D) => RelV b.1 u) its L → Vals (L.map (·.1)) its
  | [], _, h => by cases h; exact .nil
  | b :: L, _, h => by cases h with | cons r t => exact .cons r (vals_of_each t)
theorem cr_sortDat {X : Cx} (hu : X.A.units + 65 < cLine) : CallR X (.builtin "sorted") (rSortDat X.K) := by
  intro pins s σ H vs us Q I r h
  obtain ⟨a, L, rfl, hs, hL, hal, hk, q⟩ := h
  obtain ⟨its, rv, hl, hz⟩ := I.list hs
  rw [Vals.ref1 r]
  have key : ∀ {Q' : Value → Shared → Prop}, (∀ out, out.length = L.length → PySem.W.EachIs (fun u (b : V × D) => RelV b.1 u) out (L.mergeSort (PySem.W.dataLe false fun b => b.2.py)) → Q' (.ref (s.heap.objs.size + 1)) { s with heap := sortedAll s.heap its (List.toArray out) }) → wpAny (model X.prog X.w) X.A (call (.builtin "sorted") [.ref a]) Q' X.xe s := by
    intro Q' hq'
    rcases hk with hk | hk
    · exact sorted_tups (R := fun u (b : V × D) => RelV b.1 u) (enc := fun b : V × D => b.2.py) hl.isList (each_of rv fun b _ u r => r) (each_of rv fun b hb u r => Dp.reads I b.2.py b.1 u (hL b hb).1 r) hal hk (by rw [List.length_map] at hz; exact hz) (fun b hb => by have := (hL b hb).2; omega) hq'
    · exact PySem.W.sorted_data (R := fun u (b : V × D) => RelV b.1 u) (enc := fun b : V × D => b.2.py) hl.isList (each_of rv fun b _ u r => r) (each_of rv fun b hb u r => Dp.reads I b.2.py b.1 u (hL b hb).1 r) hal (.inr hk) (by rw [List.length_map] at hz; exact hz) (fun b hb => by have := (hL b hb).2; omega) hq'
  refine key fun out h1 h2 => ?_
  obtain ⟨ep, he'⟩ := PyProof.Rows.sortedAll_at s.heap its out.toArray
  have hlen : ((L.mergeSort (PySem.W.dataLe false fun b => b.2.py)).map (·.1)).length ≤ sizeLine := by
    rw [List.length_map, List.length_mergeSort]
    rw [List.length_map] at hz
    exact hz
  exact ⟨.ref _, upd H (s.heap.objs.size + 1) (.lst ((L.mergeSort (PySem.W.dataLe false fun b => b.2.py)).map (·.1))), I.laid (t' := s.toks) (fun _ _ => PyProof.Rows.sortedAll_old) (Nat.le_succ _) ⟨hlen, out, ep, vals_of_each h2, he'⟩, rfl, q _ (I.hok.fresh (Nat.le_succ _))⟩
section
variable {K : PySem.W.Frag} {cl : CTab}
theorem zip_fst : ∀ {vs : List V} {ds : List D}, vs.length = ds.length → (vs.zip ds).map (·.1) = vs
  | [], [], _ => rfl
  | v :: vs, d :: ds, h => by simp at h; simp [zip_fst h]
theorem zip_snd : ∀ {vs : List V} {ds : List D}, vs.length = ds.length → (vs.zip ds).map (·.2) = ds
  | [], [], _ => rfl
  | v :: vs, d :: ds, h => by simp at h; simp [zip_snd h]
theorem zip_mem {Z : Hp} : ∀ {vs : List V} {ds : List D}, RepL K cl Z vs ds → ∀ b ∈ vs.zip ds, Rep K cl Z b.1 b.2 ∧ b.2 ∈ ds
  | _, _, .nil, b, h => by simp at h
  | _, _, .cons r t, b, h => by
    rcases List.mem_cons.mp h with rfl | h
    · exact ⟨r, List.mem_cons_self⟩
    · exact ⟨(zip_mem t b h).1, List.mem_cons_of_mem _ (zip_mem t b h).2⟩
theorem repL_of {Z : Hp} : ∀ {L : List (V × D)}, (∀ b ∈ L, Rep K cl Z b.1 b.2) → RepL K cl Z (L.map (·.1)) (L.map (·.2))
  | [], _ => .nil
  | b :: L, h => .cons (h b List.mem_cons_self) (repL_of fun c hc => h c (List.mem_cons_of_mem _ hc))
theorem v_sorted : CallV K cl (rSortDat K) sortedDD := by
  intro Z H xs dxs d Q h r e q
  unfold sortedDD at e
  split at e
  case h_2 => cases e
  split at e
  case isFalse => cases e
  cases e
  rename_i ds ho
  unfold sortableD at ho
  simp only [Bool.and_eq_true] at ho
  obtain ⟨⟨o1, o2⟩, o3⟩ := ho
  cases r with
  | cons r1 r2 =>
    cases r2
    cases r1 with
    | lst a b c =>
      rename_i aa vs
      have hl := c.len
      have hsnd := zip_snd hl
      have hpy : (vs.zip ds).map (fun b => b.2.py) = ds.map D.py := by
        conv => rhs; rw [← hsnd]
        rw [List.map_map]; rfl
      refine ⟨aa, vs.zip ds, rfl, ?_, fun b hb => ?_, ?_, ?_, fun p hp => ?_⟩
      · rw [zip_fst hl]; exact SqL.of (h _ _ a)
      · obtain ⟨q1, q2⟩ := zip_mem c b hb
        have := List.all_eq_true.mp o1 b.2 q2
        obtain ⟨z1, _, _, z4⟩ := okc_shaped h this q1
        exact ⟨z1, z4⟩
      · rw [hpy]
        intro x hx y hy
        obtain ⟨x', hx', rfl⟩ := List.mem_map.mp hx
        obtain ⟨y', hy', rfl⟩ := List.mem_map.mp hy
        exact List.all_eq_true.mp (List.all_eq_true.mp o2 x' hx') y' hy'
      · rw [hpy]
        rw [Bool.or_eq_true] at o3
        rcases o3 with o3 | o3
        · refine .inl fun x hx => ?_
          obtain ⟨x', hx', rfl⟩ := List.mem_map.mp hx
          have := List.all_eq_true.mp o3 x' hx'
          unfold tupCons at this
          split at this
          · exact ⟨_, by rw [D.py]⟩
          · cases this
        · refine .inr fun x hx => ?_
          obtain ⟨x', hx', rfl⟩ := List.mem_map.mp hx
          have := List.all_eq_true.mp o3 x' hx'
          cases x' <;> first | (simp [noTup] at this; done) | (refine ⟨?_, fun xs => ?_⟩ <;> simp [D.py])
      · have eL : ((vs.zip ds).mergeSort (PySem.W.dataLe false fun b => b.2.py)).map (·.2) = sortDL ds := by
          conv => rhs; rw [← hsnd]
          unfold sortDL
          exact List.map_mergeSort (fun x _ y _ => rfl)
        have al : Al Z H (upd Z p (.lst (((vs.zip ds).mergeSort (PySem.W.dataLe false fun b => b.2.py)).map (·.1)))) (upd H p (.lst (((vs.zip ds).mergeSort (PySem.W.dataLe false fun b => b.2.py)).map (·.1)))) := .new h hp (fun _ z => nomatch z)
        refine q _ _ _ al (.lst upd_same ?_ ?_)
        · rw [List.length_map, List.length_mergeSort, List.length_zip]; omega
        · rw [← eL]
          refine RepL.mono al.zz _ (repL_of fun b hb => (zip_mem c b ?_).1)
          exact (List.mergeSort_perm _ _).mem_iff.mp hb
end
end DN
set_option Elab.async false
set_option linter.all false
set_option maxRecDepth 100000
set_option maxHeartbeats 4000000
namespace DN
open PySem PySem.Spec PyProof.Rows L2 RZ
variable {B : Sto}
/-! ## names for meanings -/
@[simp] abbrev xOp (g : D → D → Option D) (f1 f2 : Env → M B D) : Env → M B D := fun ρ => M.bind (f1 ρ) fun x => M.bind (f2 ρ) fun y => lift (g x y)
@[simp] abbrev xUn (g : D → Option D) (f1 : Env → M B D) : Env → M B D := fun ρ => M.bind (f1 ρ) fun x => lift (g x)
@[simp] abbrev aN : Env → M B (List D) := fun _ => M.pure []
@[simp] abbrev aC (f : Env → M B D) (g : Env → M B (List D)) : Env → M B (List D) := fun ρ => M.bind (f ρ) fun x => M.bind (g ρ) fun xs => M.pure (x :: xs)
@[simp] abbrev xTup (f : Env → M B (List D)) : Env → M B D := fun ρ => M.bind (f ρ) fun xs => M.pure (.tup xs)
@[simp] abbrev xLst (f : Env → M B (List D)) : Env → M B D := fun ρ => M.bind (f ρ) fun xs => M.pure (.lst xs)
@[simp] abbrev tTr (f : Env → M B D) : Env → M B Bool := fun ρ => M.bind (f ρ) fun x => lift (truthD x)
@[simp] abbrev tCm (g : D → D → Option D) (f1 f2 : Env → M B D) : Env → M B Bool := fun ρ => M.bind (f1 ρ) fun x => M.bind (f2 ρ) fun y => lift ((g x y).bind D.asB)
@[simp] abbrev tNt (f : Env → M B Bool) : Env → M B Bool := fun ρ => M.bind (f ρ) fun b => M.pure (!b)
@[simp] abbrev tAn (f g : Env → M B Bool) : Env → M B Bool := fun ρ => M.bind (f ρ) fun k => if k = true then g ρ else M.pure false
@[simp] abbrev tOo (f g : Env → M B Bool) : Env → M B Bool := fun ρ => M.bind (f ρ) fun k => if k = true then M.pure true else g ρ
@[simp] abbrev xAn (f g : Env → M B D) : Env → M B D := fun ρ => M.bind (f ρ) fun x => M.bind (lift (truthD x)) fun k => if k = true then g ρ else M.pure x
@[simp] abbrev xOr (f g : Env → M B D) : Env → M B D := fun ρ => M.bind (f ρ) fun x => M.bind (lift (truthD x)) fun k => if k = true then M.pure x else g ρ
@[simp] abbrev xNt (f : Env → M B D) : Env → M B D := fun ρ => M.bind (f ρ) fun x => M.bind (lift (truthD x)) fun k => M.pure (.bl (!k))
@[simp] abbrev xIf (t : Env → M B Bool) (f g : Env → M B D) : Env → M B D := fun ρ => M.bind (t ρ) fun k => if k = true then f ρ else g ρ
@[simp] abbrev xCh (g g' : D → D → Option D) (f1 f2 f3 : Env → M B D) : Env → M B D := fun ρ => M.bind (f1 ρ) fun x => M.bind (f2 ρ) fun y => M.bind (lift ((g x y).bind D.asB)) fun k => if k = true then M.bind (f3 ρ) fun z => lift (g' y z) else M.pure (.bl false)
@[simp] abbrev tCh (g g' : D → D → Option D) (f1 f2 f3 : Env → M B D) : Env → M B Bool := fun ρ => M.bind (f1 ρ) fun x => M.bind (f2 ρ) fun y => M.bind (lift ((g x y).bind D.asB)) fun k => if k = true then M.bind (f3 ρ) fun z => lift ((g' y z).bind D.asB) else M.pure false
@[simp] abbrev xIx (f1 f2 : Env → M B D) : Env → M B D := xOp ixD f1 f2
@[simp] abbrev oN : Env → M B (Option Int) := fun _ => M.pure none
@[simp] abbrev oS (f : Env → M B D) : Env → M B (Option Int) := fun ρ => M.bind (f ρ) fun x => lift (x.asI.map some)
@[simp] abbrev xSl (f : Env → M B D) (gl gh : Env → M B (Option Int)) : Env → M B D := fun ρ => M.bind (f ρ) fun x => M.bind (gl ρ) fun l => M.bind (gh ρ) fun u => lift (slD x l u)
@[simp] abbrev xB (g : List D → Option D) (f : Env → M B (List D)) : Env → M B D := fun ρ => M.bind (f ρ) fun xs => lift (g xs)
@[simp] abbrev xCall (g : List D → M B D) (f : Env → M B (List D)) : Env → M B D := fun ρ => M.bind (f ρ) g
@[simp] abbrev iOf (g : D → Option (List D)) (f : Env → M B D) : Env → M B (List D) := fun ρ => M.bind (f ρ) fun x => lift (g x)
@[simp] abbrev iOf2 (g : D → D → Option (List D)) (f f' : Env → M B D) : Env → M B (List D) := fun ρ => M.bind (f ρ) fun x => M.bind (f' ρ) fun y => lift (g x y)
@[simp] abbrev xLc (own : List Nat) (b : D → Option Asg) (t : Env → M B Bool) (fe : Env → M B D) (src : Env → M B (List D)) : Env → M B D := fun ρ => M.bind (src ρ) fun ds => M.bind (compL (compF b t fe (wipeE ρ own)) ds) fun r => M.pure (.lst r)
@[simp] abbrev xDc (own : List Nat) (b : D → Option Asg) (t : Env → M B Bool) (fk fe : Env → M B D) (src : Env → M B (List D)) : Env → M B D := fun ρ => M.bind (src ρ) fun ds => M.bind (compL (compFD b t fk fe (wipeE ρ own)) ds) fun r => lift (putAll [] [] r)
@[simp] abbrev tY : Env → M B Bool := fun _ => M.pure true
@[simp] abbrev xCount (fo f : Env → M B D) : Env → M B D := fun ρ => M.bind (fo ρ) fun x => M.bind (lift (asL x)) fun ds => M.bind (f ρ) fun y => lift (countD ds y)
@[simp] abbrev xRg (c : List D → D) (f : Env → M B D) : Env → M B D := fun ρ => M.bind (f ρ) fun x => lift ((range1 x).map c)
section
variable {K : PySem.W.Frag} {cl : CTab}
@[simp] abbrev xIxM (f1 f2 : Env → M (MemS K cl) D) : Env → M (MemS K cl) D := fun ρ => M.bind (f1 ρ) fun x => M.bind (f2 ρ) fun y => match x with
      | .ref a => ixM (.ref a) y
      | _ => fun _ => .stuck
@[simp] abbrev xLenM (f : Env → M (MemS K cl) D) : Env → M (MemS K cl) D := fun ρ => M.bind (f ρ) fun x => lenM x
@[simp] abbrev xFld (c : Str) (i : Nat) (f : Env → M (MemS K cl) D) : Env → M (MemS K cl) D := fun ρ => M.bind (f ρ) (fldM c i)
@[simp] abbrev xMeth (c : Str) (f : List D → M (MemS K cl) D) (fo : Env → M (MemS K cl) D) (fa : Env → M (MemS K cl) (List D)) : Env → M (MemS K cl) D := fun ρ => M.bind (fo ρ) fun x => M.bind (insM c x) fun _ => M.bind (fa ρ) fun ds => f (x :: ds)
@[simp] abbrev xMeth0 (c : Str) (f : List D → M (MemS K cl) D) (fo : Env → M (MemS K cl) D) : Env → M (MemS K cl) D := fun ρ => M.bind (fo ρ) fun x => M.bind (insM c x) fun _ => f [x]
@[simp] abbrev xMake (c : Str) (n : Nat) (fi : List D → IR) (fa : Env → M (MemS K cl) (List D)) : Env → M (MemS K cl) D := fun ρ => M.bind (fa ρ) fun ds => mkM c n (fi ds)
@[simp] abbrev sSetM (p : D → Bool) (fo fi f : Env → M (MemS K cl) D) : SEnv → M (MemS K cl) Fl := fun ρ => M.bind (f (seeE p ρ)) fun d => M.bind (fo (seeE pHide ρ)) fun x => M.bind (fi (seeE pHide ρ)) fun y => M.bind (setM x y d) fun _ => M.pure (.nx ρ)
@[simp] abbrev sSetF (p : D → Bool) (c : Str) (i : Nat) (fo f : Env → M (MemS K cl) D) : SEnv → M (MemS K cl) Fl := fun ρ => M.bind (f (seeE p ρ)) fun d => M.bind (fo (seeE pHide ρ)) fun x => M.bind (setfM c i x d) fun _ => M.pure (.nx ρ)
end
@[simp] abbrev sPass : SEnv → M B Fl := fun ρ => M.pure (.nx ρ)
@[simp] abbrev sBrk : SEnv → M B Fl := fun ρ => M.pure (.bk ρ)
@[simp] abbrev sCnt : SEnv → M B Fl := fun ρ => M.pure (.ct ρ)
@[simp] abbrev sRet (p : D → Bool) (f : Env → M B D) : SEnv → M B Fl := fun ρ => M.bind (f (seeE p ρ)) fun d => M.pure (.rt d)
@[simp] abbrev sRetN : SEnv → M B Fl := fun _ => M.pure (.rt .non)
@[simp] abbrev sSet (i : Nat) (f : Env → M B D) : SEnv → M B Fl := fun ρ => M.bind (f (seeE pHide ρ)) fun d => M.pure (.nx (ρ.set i (.val d)))
@[simp] abbrev sAsg (a : D → Option Asg) (f : Env → M B D) : SEnv → M B Fl := fun ρ => M.bind (f (seeE pHide ρ)) fun d => M.bind (lift (a d)) fun as => M.pure (.nx (setsS ρ as))
@[simp] abbrev sAug (p q : D → Bool) (i : Nat) (g : D → D → Option D) (f : Env → M B D) : SEnv → M B Fl := fun ρ => M.bind (eVar i (seeE pHide ρ)) fun o => M.bind (f (seeE p ρ)) fun d => M.bind (lift (g o d)) fun z => guardM (q z) (M.pure (.nx (ρ.set i (.val z))))
@[simp] abbrev sEx (p : D → Bool) (f : Env → M B D) : SEnv → M B Fl := fun ρ => M.bind (f (seeE p ρ)) fun _ => M.pure (.nx ρ)
@[simp] abbrev sIf (p : D → Bool) (t : Env → M B Bool) (F G : SEnv → M B Fl) : SEnv → M B Fl := fun ρ => M.bind (t (seeE p ρ)) fun k => if k = true then F ρ else G ρ
@[simp] abbrev sFor (a : D → Option Asg) (src : Env → M B (List D)) (F : SEnv → M B Fl) : SEnv → M B Fl := fun ρ => M.bind (src (seeE pHide ρ)) fun ds => forL a F ds ρ
@[simp] abbrev sNv : SEnv → M B Fl := fun _ _ => .stuck
@[simp] abbrev yes : D → Bool := fun _ => true
section
variable {cl : CTab} {md : Bool} {W : WX} {X : Cx}
theorem de_int {i j pos} : DE cl B md W X (.Constant (.int i) j pos) (eC (.int i)) := de_c pe_int fun _ => .int _
theorem de_bl {b j pos} : DE cl B md W X (.Constant (.bool b) j pos) (eC (.bl b)) := de_c pe_bl fun _ => .bl _
theorem de_non {j pos} : DE cl B md W X (.Constant .none j pos) (eC .non) := de_c pe_non fun _ => .non
theorem de_str {x j pos} (h : x.length ≤ sizeLine := by decide) (h2 : PyData.strOk x = true := by decide +kernel) : DE cl B md W X (.Constant (.str x) j pos) (eC (.str x)) := de_c pe_str fun _ => .str h h2
/-- a module's constant -/
structure GlC (K : PySem.W.Frag) (mg : Str → Option Value) (cl : CTab) (x : Str) (d : D) : Prop where
  ex : ∃ u v, mg x = some u ∧ RelV v u ∧ ∀ Z, Rep K cl Z v d
theorem de_gl {x : Str} {d : D} {pos : Pos} (g : GlC X.K X.mg cl x d) (hg : Gl X x) (hd : (x == ("__debug__" : Str)) = false := by decide) : DE cl B md W X (.Name x pos) (eC d) := by
  obtain ⟨u, v, h1, h2, h3⟩ := g.ex
  exact de_c (pe_glob hg h1 h2 hd) h3
theorem glInt {K : PySem.W.Frag} {mg : Str → Option Value} {x : Str} {i : Int} {t : Tok} (h : mg x = some (.int i t)) : GlC K mg cl x (.int i) := ⟨⟨_, .int i, h, ⟨t, rfl⟩, fun _ => .int _⟩⟩
theorem glStr {K : PySem.W.Frag} {mg : Str → Option Value} {x : Str} {z : Str} {t : Tok} (h : mg x = some (.str z t)) (h1 : z.length ≤ sizeLine := by decide) (h2 : PyData.strOk z = true := by decide +kernel) : GlC K mg cl x (.str z) := ⟨⟨_, .str z, h, ⟨t, rfl⟩, fun _ => .str h1 h2⟩⟩
/-- name = [..] on one line -/
theorem ds_setLc {i : Nat} {y : Str} {py : Pos} {elt tg iter : Expr} {ifs : List Expr} {scope : Scope} {own : List (Str × Nat)} {pos spos : Pos} {src : Env → M B (List D)} {b : D → Option Asg} {t : Env → M B Bool} {fe : Env → M B D} (hc : X.calm = true) (hN : X.N.Nodup) (hy : X.N[i]? = some y) (hyl : X.env.scope.names.lookup y = some .local)
    (hsw : swapsWith (.ListComp elt [⟨tg, iter, ifs, 0⟩] scope pos) (some (.Name y py)) spos.line X.env = pure true) (hi : DI cl B true W X tg iter src) (ok : BlkOk X.N X.env.scope scope own)
    (hg : ∀ (s : Shared) (H : Hp) (C : Addr) (cs : List (Str × Addr)) (fp : List Addr), DG cl (X.blk s H scope (compEnvC scope cs C X.env) fp) tg b) (hin : TgIn (own.map (·.2)) b)
    (ht : ∀ (s : Shared) (H : Hp) (C : Addr) (cs : List (Str × Addr)) (fp : List Addr), DTs cl B true (X.blk s H scope (compEnvC scope cs C X.env) fp) ifs t)
    (he : ∀ (s : Shared) (H : Hp) (C : Addr) (cs : List (Str × Addr)) (fp : List Addr), DE cl B true W0 (X.blk s H scope (compEnvC scope cs C X.env) fp) elt fe) (hs : ∀ x, foldedSetIterable iter X.env x = pure x := by intro _; rfl) :
    DS cl B W X (.Assign [.Name y py] (.ListComp elt [⟨tg, iter, ifs, 0⟩] scope pos) spos) (sSet i (xLc (own.map (·.2)) b t fe src)) :=
  PS.weak (ps_setLc (g := tDG X.K cl b) (tt := tG X.K cl B true RpE W0 t) (te := tG X.K cl B true (RpD X.K cl) W0 fe) hc hN hy hyl hsw hi ok hg ht he hs) fun E σ H h => comp_core (md := true) (W := W) hin (own_core (md := true) (W := W) comp_list (set_core h))
theorem fn_stuck {P : Program} {w : World} {K : PySem.W.Frag} {mg : Str → Option Value} {base : Heap} {CX : CXT} {k n : Nat} {f : Addr} {fd : FuncData} {ps : List Str} (hn : ps.length = n) : FnOk P w K mg base CX k f fd ps (spD K cl B n (fun _ _ => .stuck)) :=
  ⟨spD_len hn, fun A outer s H args us vs Q E hr he hb hv hs => by
    obtain ⟨Z, C, sb, ds, wd, r, l, p⟩ := hs
    exact False.elim p⟩
end
end DN
set_option Elab.async false
set_option linter.all false
set_option maxRecDepth 100000
set_option maxHeartbeats 4000000
namespace DN
open PySem PySem.Spec PyProof.Rows L2 RZ
variable {B : Sto} {α β γ : Type}
/-! ## reckoning with meanings -/
theorem bind_assoc (m : M B α) (f : α → M B β) (g : β → M B γ) : M.bind (M.bind m f) g = M.bind m fun a => M.bind (f a) g := by
  funext s
  unfold M.bind
  cases m s <;> rfl
@[simp] theorem bind_pure (a : α) (f : α → M B β) : M.bind (M.pure a) f = f a := rfl
@[simp] theorem bind_some (a : α) (f : α → M B β) : M.bind (lift (some a)) f = f a := rfl
theorem lift_some (a : α) : (lift (some a) : M B α) = M.pure a := rfl
theorem pure_app (a : α) (s : B.T) : (M.pure a : M B α) s = .ok a s := rfl
theorem bind_if (c : Prop) [Decidable c] (a b : M B α) (f : α → M B β) : M.bind (if c then a else b) f = if c then M.bind a f else M.bind b f := by split <;> rfl
/-- it ends, and R holds of the end -/
def wp (m : M B α) (R : α → B.T → Prop) (s : B.T) : Prop := match m s with
  | .ok a s' => R a s'
  | _ => False
theorem wp_pure {a : α} {R : α → B.T → Prop} {s : B.T} (h : R a s) : wp (M.pure a : M B α) R s := h
theorem wp_bind {m : M B α} {k : α → M B β} {R : β → B.T → Prop} {s : B.T} (h : wp m (fun a s' => wp (k a) R s') s) : wp (M.bind m k) R s := by
  unfold wp M.bind at *
  cases e : m s with
  | ok a s' => rw [e] at h; exact h
  | err x s' => rw [e] at h; exact h
  | stuck => rw [e] at h; exact h
theorem wp_mono {m : M B α} {R R' : α → B.T → Prop} {s : B.T} (h : wp m R s) (q : ∀ a s', R a s' → R' a s') : wp m R' s := by
  unfold wp at *
  cases e : m s with
  | ok a s' => rw [e] at h; exact q _ _ h
  | err x s' => rw [e] at h; exact h
  | stuck => rw [e] at h; exact h
theorem wp_ok {m : M B α} {R : α → B.T → Prop} {s : B.T} (h : wp m R s) : ∃ a s', m s = .ok a s' ∧ R a s' := by
  unfold wp at h
  cases e : m s with
  | ok a s' => rw [e] at h; exact ⟨a, s', rfl, h⟩
  | err x s' => rw [e] at h; exact False.elim h
  | stuck => rw [e] at h; exact False.elim h
theorem wp_of {m : M B α} {R : α → B.T → Prop} {s s' : B.T} {a : α} (h : m s = .ok a s') (q : R a s') : wp m R s := by
  unfold wp
  rw [h]
  exact q
theorem wp_noErr {m : M B α} {R : α → B.T → Prop} {s : B.T} (h : wp m R s) : wp (noErr m) R s := by
  obtain ⟨a, s', e, r⟩ := wp_ok h
  refine wp_of (a := a) (s' := s') ?_ r
  unfold noErr
  rw [e]
/-- over a list -/
theorem wp_compL {f : α → M B (Option β)} (Inv : B.T → Prop) (Rel : α → Option β → Prop) : ∀ {ds : List α} {R : List β → B.T → Prop} {s : B.T}, Inv s → (∀ d ∈ ds, ∀ s, Inv s → wp (f d) (fun o s' => Inv s' ∧ Rel d o) s) →
    (∀ (os : List (Option β)) s', Inv s' → os.length = ds.length → (∀ (i : Nat) d o, ds[i]? = some d → os[i]? = some o → Rel d o) → R (os.filterMap id) s') → wp (compL f ds) R s
  | [], R, s, hi, hf, hr => hr [] s hi rfl (fun i d o h => by simp at h)
  | d :: ds, R, s, hi, hf, hr => by
    unfold compL
    refine wp_bind (wp_mono (hf d List.mem_cons_self s hi) fun o s1 ⟨i1, r1⟩ => ?_)
    refine wp_bind (wp_compL Inv Rel (ds := ds) i1 (fun d' hd => hf d' (List.mem_cons_of_mem _ hd)) fun os s2 i2 l2 q2 => ?_)
    refine wp_pure ?_
    have := hr (o :: os) s2 i2 (by simp [l2]) (fun i d' o' h1 h2 => by
      cases i with
      | zero => simp at h1 h2; subst h1; subst h2; exact r1
      | succ i => exact q2 i d' o' (by simpa using h1) (by simpa using h2))
    cases o with
    | none => simpa [consO] using this
    | some x => simpa [consO] using this
/-- a for whose turns keep Inv and never leave -/
theorem wp_forL {a : D → Option Asg} {F : SEnv → M B Fl} (Inv : SEnv → B.T → Prop) : ∀ {ds : List D} {R : Fl → B.T → Prop} {ρ : SEnv} {s : B.T}, Inv ρ s →
    (∀ d ∈ ds, ∀ ρ s, Inv ρ s → ∃ as, a d = some as ∧ wp (F (setsS ρ as)) (fun fl s' => ∃ ρ', (fl = .nx ρ' ∨ fl = .ct ρ') ∧ Inv ρ' s') s) → (∀ ρ' s', Inv ρ' s' → R (.nx ρ') s') → wp (forL a F ds ρ) R s
  | [], R, ρ, s, hi, hf, hr => hr ρ s hi
  | d :: ds, R, ρ, s, hi, hf, hr => by
    obtain ⟨as, ha, hw⟩ := hf d List.mem_cons_self ρ s hi
    unfold forL
    rw [ha, bind_some]
    refine wp_bind (wp_mono hw fun fl s1 ⟨ρ', h1, h2⟩ => ?_)
    rcases h1 with rfl | rfl
    · exact wp_forL Inv h2 (fun d' hd => hf d' (List.mem_cons_of_mem _ hd)) hr
    · exact wp_forL Inv h2 (fun d' hd => hf d' (List.mem_cons_of_mem _ hd)) hr
/-! ### the tape -/
section
variable {K : PySem.W.Frag} {cl : CTab}
def tapeM (sc t : Addr) (ns : List Int) (pos carry seed cnt : Int) : Mem := fun x => if x = t then some (.lst [.ref sc, .int pos, .int carry, .int seed, .int cnt]) else if x = sc then some (.lst (ns.map .int)) else none
/-- the tape at t, whatever is left of it -/
def Tape (t : Addr) (m : Mem) : Prop := ∃ sc ns pos carry seed cnt, sc ≠ t ∧ 0 ≤ pos ∧ m = tapeM sc t ns pos carry seed cnt
theorem tapeM_t {sc t : Addr} {ns : List Int} {p c s n : Int} : tapeM sc t ns p c s n t = some (.lst [.ref sc, .int p, .int c, .int s, .int n]) := if_pos rfl
theorem tapeM_sc {sc t : Addr} {ns : List Int} {p c s n : Int} (h : sc ≠ t) : tapeM sc t ns p c s n sc = some (.lst (ns.map .int)) := by
  unfold tapeM
  rw [if_neg h, if_pos rfl]
theorem tapeM_upd {sc t : Addr} {ns : List Int} {p c s n p' c' s' n' : Int} : updM (tapeM sc t ns p c s n) t (some (.lst [.ref sc, .int p', .int c', .int s', .int n'])) = tapeM sc t ns p' c' s' n' := by
  funext x
  unfold updM tapeM
  by_cases hx : x = t <;> simp [hx]
end
/-! ### rules for simp -/
@[simp] theorem wp_bind_iff {m : M B α} {k : α → M B β} {R : β → B.T → Prop} {s : B.T} : wp (M.bind m k) R s ↔ wp m (fun a s' => wp (k a) R s') s := by
  unfold wp M.bind
  cases m s <;> exact Iff.rfl
@[simp] theorem wp_pure_iff {a : α} {R : α → B.T → Prop} {s : B.T} : wp (M.pure a : M B α) R s ↔ R a s := Iff.rfl
@[simp] theorem wp_lift_iff {a : α} {R : α → B.T → Prop} {s : B.T} : wp (lift (some a) : M B α) R s ↔ R a s := Iff.rfl
@[simp] theorem wp_if_iff {c : Prop} [Decidable c] {a b : M B α} {R : α → B.T → Prop} {s : B.T} : wp (if c then a else b) R s ↔ if c then wp a R s else wp b R s := by split <;> exact Iff.rfl
@[simp] theorem wp_guard_iff {m : M B α} {R : α → B.T → Prop} {s : B.T} : wp (guardM true m) R s ↔ wp m R s := Iff.rfl
section
variable {K : PySem.W.Frag} {cl : CTab} {sc t : Addr} {ns : List Int} {p c z n : Int} {α : Type}
theorem wp_t0 {R : D → Mem → Prop} : wp (ixM (K := K) (cl := cl) (.ref t) (.int 0)) R (tapeM sc t ns p c z n) ↔ R (.ref sc) (tapeM sc t ns p c z n) := by
  simp [wp, ixM, rdM, M.bind, tapeM_t, atI, ixN, lift, M.pure]
theorem wp_t1 {R : D → Mem → Prop} : wp (ixM (K := K) (cl := cl) (.ref t) (.int 1)) R (tapeM sc t ns p c z n) ↔ R (.int p) (tapeM sc t ns p c z n) := by
  simp [wp, ixM, rdM, M.bind, tapeM_t, atI, ixN, lift, M.pure]
theorem wp_t2 {R : D → Mem → Prop} : wp (ixM (K := K) (cl := cl) (.ref t) (.int 2)) R (tapeM sc t ns p c z n) ↔ R (.int c) (tapeM sc t ns p c z n) := by
  simp [wp, ixM, rdM, M.bind, tapeM_t, atI, ixN, lift, M.pure]
theorem wp_t3 {R : D → Mem → Prop} : wp (ixM (K := K) (cl := cl) (.ref t) (.int 3)) R (tapeM sc t ns p c z n) ↔ R (.int z) (tapeM sc t ns p c z n) := by
  simp [wp, ixM, rdM, M.bind, tapeM_t, atI, ixN, lift, M.pure]
theorem wp_t4 {R : D → Mem → Prop} : wp (ixM (K := K) (cl := cl) (.ref t) (.int 4)) R (tapeM sc t ns p c z n) ↔ R (.int n) (tapeM sc t ns p c z n) := by
  simp [wp, ixM, rdM, M.bind, tapeM_t, atI, ixN, lift, M.pure]
theorem wp_len (h : sc ≠ t) {R : D → Mem → Prop} : wp (lenM (K := K) (cl := cl) (.ref sc)) R (tapeM sc t ns p c z n) ↔ R (.int ns.length) (tapeM sc t ns p c z n) := by
  simp [wp, lenM, rdM, M.bind, tapeM_sc h, lift, M.pure]
theorem wp_cell (h : sc ≠ t) {i : Int} (h0 : 0 ≤ i) (h1 : i < ns.length) {R : D → Mem → Prop} (q : ∀ x, R (.int x) (tapeM sc t ns p c z n)) : wp (ixM (K := K) (cl := cl) (.ref sc) (.int i)) R (tapeM sc t ns p c z n) := by
  obtain ⟨k, rfl⟩ : ∃ k : Nat, i = k := ⟨i.toNat, by omega⟩
  have hk : k < ns.length := by omega
  simp [wp, ixM, rdM, M.bind, tapeM_sc h, atI, ixN, lift, M.pure, hk, q]
theorem wp_s1 {x : Int} {R : Unit → Mem → Prop} : wp (setM (K := K) (cl := cl) (.ref t) (.int 1) (.int x)) R (tapeM sc t ns p c z n) ↔ R () (tapeM sc t ns x c z n) := by
  simp [wp, setM, tapeM_t, ixN, D.imm, tapeM_upd]
theorem wp_s2 {x : Int} {R : Unit → Mem → Prop} : wp (setM (K := K) (cl := cl) (.ref t) (.int 2) (.int x)) R (tapeM sc t ns p c z n) ↔ R () (tapeM sc t ns p x z n) := by
  simp [wp, setM, tapeM_t, ixN, D.imm, tapeM_upd]
theorem wp_s3 {x : Int} {R : Unit → Mem → Prop} : wp (setM (K := K) (cl := cl) (.ref t) (.int 3) (.int x)) R (tapeM sc t ns p c z n) ↔ R () (tapeM sc t ns p c x n) := by
  simp [wp, setM, tapeM_t, ixN, D.imm, tapeM_upd]
theorem wp_s4 {x : Int} {R : Unit → Mem → Prop} : wp (setM (K := K) (cl := cl) (.ref t) (.int 4) (.int x)) R (tapeM sc t ns p c z n) ↔ R () (tapeM sc t ns p c z x) := by
  simp [wp, setM, tapeM_t, ixN, D.imm, tapeM_upd]
end
section
variable {a b : Int} {x y : Bool} {p : D → Bool} {d e : D} {i : Nat} {ρ : SEnv} {ε : Env} {ds : List D}
@[simp] theorem s_gtI : gtI (.int a) (.int b) = some (.bl (decide (b < a))) := rfl
@[simp] theorem s_ltI : ltI (.int a) (.int b) = some (.bl (decide (a < b))) := rfl
@[simp] theorem s_leI : leI (.int a) (.int b) = some (.bl (decide (a ≤ b))) := rfl
@[simp] theorem s_geI : geI (.int a) (.int b) = some (.bl (decide (b ≤ a))) := rfl
@[simp] theorem s_asB : D.asB (.bl x) = some x := rfl
@[simp] theorem s_asI : D.asI (.int a) = some a := rfl
@[simp] theorem s_addI : addD (.int a) (.int b) = some (.int (a + b)) := rfl
@[simp] theorem s_iaddI : iaddD (.int a) (.int b) = some (.int (a + b)) := rfl
@[simp] theorem s_subI : subD (.int a) (.int b) = some (.int (a - b)) := rfl
@[simp] theorem s_negI : negD (.int a) = some (.int (-a)) := rfl
@[simp] theorem s_mulI : mulD (.int a) (.int b) = if (-(2 ^ 64) < a ∧ a < 2 ^ 64) ∨ (-(2 ^ 64) < b ∧ b < 2 ^ 64) then some (.int (a * b)) else none := rfl
@[simp] theorem s_modI : modD (.int a) (.int b) = if 0 < b then some (.int (a % b)) else none := rfl
@[simp] theorem s_fdivI : fdivD (.int a) (.int b) = if 0 < b ∧ b < 1073741824 then some (.int (a / b)) else none := rfl
@[simp] theorem s_shlI : shlD (.int a) (.int b) = if 0 ≤ b ∧ b ≤ 1000000 ∧ a.natAbs < 2 ^ 64 then some (.int (a * 2 ^ b.toNat)) else none := rfl
@[simp] theorem s_shrI : shrD (.int a) (.int b) = if 0 ≤ b then some (.int (a / 2 ^ b.toNat)) else none := rfl
@[simp] theorem s_andI : andD (.int a) (.int b) = some (.int (Builtin.bitAnd a b)) := rfl
@[simp] theorem s_orI : orD (.int a) (.int b) = some (.int (Builtin.bitOr a b)) := rfl
@[simp] theorem s_powI : powD (.int a) (.int b) = if 0 ≤ b ∧ b ≤ 1000000 ∧ a.natAbs < 2 ^ 64 then some (.int (a ^ b.toNat)) else none := rfl
@[simp] theorem s_trN : truthD .non = some false := rfl
@[simp] theorem s_trB : truthD (.bl x) = some x := rfl
@[simp] theorem s_trI : truthD (.int a) = some (a != 0) := rfl
@[simp] theorem s_trT : truthD (.tup ds) = some (!ds.isEmpty) := rfl
@[simp] theorem s_trL : truthD (.lst ds) = some (!ds.isEmpty) := rfl
@[simp] theorem s_int : intD [.int a] = some (.int a) := rfl
@[simp] theorem s_lenT : lenD [.tup ds] = some (.int ds.length) := rfl
@[simp] theorem s_lenL : lenD [.lst ds] = some (.int ds.length) := rfl
@[simp] theorem s_lenS {z : Str} : lenD [.str z] = some (.int z.length) := rfl
@[simp] theorem s_tupT : tupleD [.tup ds] = some (.tup ds) := rfl
@[simp] theorem s_tupL : tupleD [.lst ds] = some (.tup ds) := rfl
@[simp] theorem s_lstT : listD [.tup ds] = some (.lst ds) := rfl
@[simp] theorem s_lstL : listD [.lst ds] = some (.lst ds) := rfl
@[simp] theorem s_aName : aName i d = some [(i, d)] := rfl
@[simp] theorem s_setsS0 : setsS ρ [] = ρ := rfl
@[simp] theorem s_setsS1 {as : Asg} : setsS ρ ((i, d) :: as) = setsS (ρ.set i (.val d)) as := rfl
@[simp] theorem s_setsE0 : setsE ε [] = ε := rfl
@[simp] theorem s_setsE1 {as : Asg} : setsE ε ((i, d) :: as) = setsE (ε.set i (some d)) as := rfl
@[simp] theorem s_see0 : seeE p [] = [] := rfl
@[simp] theorem s_seeV : seeE p (.val d :: ρ) = some d :: seeE p ρ := rfl
@[simp] theorem s_seeN : seeE p (.no :: ρ) = none :: seeE p ρ := rfl
@[simp] theorem s_seeO : seeE pHide (.own d :: ρ) = none :: seeE pHide ρ := rfl
@[simp] theorem s_eVar {ε : Env} : (eVar i : Env → M B D) ε = lift ((ε[i]?).bind id) := rfl
@[simp] theorem s_eC {ε : Env} : (eC d : Env → M B D) ε = M.pure d := rfl
@[simp] theorem s_seq {F G : SEnv → M B Fl} : seqF F G ρ = M.bind (F ρ) fun fl => match fl with
  | .nx ρ' => G ρ'
  | o => M.pure o := rfl
@[simp] theorem s_ret1 : (retF (.rt d) : M B D) = M.pure d := rfl
@[simp] theorem s_ret2 : (retF (.nx ρ) : M B D) = M.pure .non := rfl
@[simp] theorem s_isN : isN d .non = some (.bl d.isNon) := rfl
@[simp] theorem s_isNotN : isNotN d .non = some (.bl (!d.isNon)) := rfl
@[simp] theorem s_non1 : D.isNon .non = true := rfl
@[simp] theorem s_non2 : D.isNon (.int a) = false := rfl
@[simp] theorem s_non3 : D.isNon (.tup ds) = false := rfl
@[simp] theorem s_non4 : D.isNon (.bl x) = false := rfl
@[simp] theorem s_isBl : isBl (.bl x) (.bl y) = some (.bl (decide (x = y))) := rfl
@[simp] theorem s_isNotBl : isNotBl (.bl x) (.bl y) = some (.bl (!decide (x = y))) := rfl
@[simp] theorem s_aNil : aNil [] = some [] := rfl
@[simp] theorem s_aCons {a0 : D → Option Asg} {b0 : List D → Option Asg} : aCons a0 b0 (d :: ds) = (a0 d).bind fun x => (b0 ds).map fun y => x ++ y := rfl
@[simp] theorem s_aTup {b0 : List D → Option Asg} : aTup b0 (.tup ds) = b0 ds := rfl
end
end DN
set_option Elab.async false
set_option linter.all false
set_option maxRecDepth 100000
set_option maxHeartbeats 4000000
namespace DN
open PySem PySem.Spec PyProof.Rows L2 RZ
/-! ## how a law starts -/
/-- what _law_tape promises -/
def spTape (K : PySem.W.Frag) : Sp := fun vs H Q _ => ∃ (a : Addr) (ns : List Int), vs = [.ref a] ∧ SqL K H a (ns.map V.int) ∧ ns.length ≤ 63 ∧
  ∀ sc t, sc ≠ t → Q (.ref t) (upd (upd H sc (.lst (ns.map V.int))) t (.lst [.ref sc, .int 0, .int 0, .int 1, .int 0]))
theorem spTape_len {K : PySem.W.Frag} : ∀ vs H Q E, spTape K vs H Q E → vs.length = ["_law_script"].length := by
  rintro vs H Q E ⟨a, ns, rfl, _⟩
  rfl
/-- what a law promises -/
def spLaw (K : PySem.W.Frag) : Sp := fun vs H Q _ => ∃ (a : Addr) (ns : List Int), vs = [.ref a] ∧ SqL K H a (ns.map V.int) ∧ ns.length ≤ 63 ∧ ∀ H', Q (.bl true) H'
theorem spLaw_len {K : PySem.W.Frag} : ∀ vs H Q E, spLaw K vs H Q E → vs.length = ["_law_script"].length := by
  rintro vs H Q E ⟨a, ns, rfl, _⟩
  rfl
def startL (m : Nat) (t : Addr) : SEnv := .no :: .val (.ref t) :: List.replicate (m - 2) .no
theorem repL_num {K : PySem.W.Frag} {cl : CTab} {Z : Hp} : ∀ ns : List Int, RepL K cl Z (ns.map V.int) (ns.map D.int)
  | [] => .nil
  | n :: ns => .cons (.int n) (repL_num ns)
theorem immL_num : ∀ ns : List Int, D.immL (ns.map D.int) = true
  | [] => rfl
  | n :: ns => by simp [D.immL, D.imm, immL_num ns]
theorem law_start {K : PySem.W.Frag} {cl : CTab} {m : Nat} {a sc t : Addr} {H : Hp} {ns : List Int} {W : WX} {F : SEnv → M (MemS K cl) Fl} {E : Ends} {σ : L2.St} (hσ : σ = some (.ref a) :: some (.ref t) :: List.replicate (m - 2) none)
    (hF : ∃ s', F (startL m t) (tapeM sc t ns 0 0 1 0) = .ok (.rt (.bl true)) s') (hne : sc ≠ t) (hl : ns.length ≤ 63) (hE : ∀ H', E.rt (.bl true) H') :
    tS K cl (MemS K cl) W F E σ (upd (upd H sc (.lst (ns.map V.int))) t (.lst [.ref sc, .int 0, .int 0, .int 1, .int 0])) := by
  subst hσ
  let C : Hp := fun x => if x = t then some (.lst [.ref sc, .int 0, .int 0, .int 1, .int 0]) else if x = sc then some (.lst (ns.map V.int)) else none
  have ct : C t = some (.lst [.ref sc, .int 0, .int 0, .int 1, .int 0]) := if_pos rfl
  have cs : C sc = some (.lst (ns.map V.int)) := (if_neg hne).trans (if_pos rfl)
  have ch : Sub C (upd (upd H sc (.lst (ns.map V.int))) t (.lst [.ref sc, .int 0, .int 0, .int 1, .int 0])) := fun x o e => by
    by_cases h1 : x = t
    · subst h1
      rw [ct] at e
      rw [upd_same]; exact e
    · rw [upd_ne h1]
      by_cases h2 : x = sc
      · subst h2
        rw [cs] at e
        rw [upd_same]; exact e
      · have : C x = none := (if_neg h1).trans (if_neg h2)
        rw [this] at e; cases e
  have w : Wd (MemS K cl) true (fun _ => none) C (upd (upd H sc (.lst (ns.map V.int))) t (.lst [.ref sc, .int 0, .int 0, .int 1, .int 0])) (tapeM sc t ns 0 0 1 0) := by
    refine { zh := (fun x o e => nomatch e), ch := ch, dj := fun _ _ => rfl, sr := fun x => ?_, zd := (fun _ x kvs e => nomatch e) }
    by_cases h1 : x = t
    · subst h1
      rw [tapeM_t]
      exact ⟨rfl, _, ct, by show 5 ≤ sizeLine; decide, .cons (.ref _) (.cons (.int _) (.cons (.int _) (.cons (.int _) (.cons (.int _) .nil))))⟩
    · by_cases h2 : x = sc
      · subst h2
        rw [tapeM_sc hne]
        exact ⟨immL_num ns, _, cs, by rw [List.length_map]; exact Nat.le_trans hl (by decide), repL_num ns⟩
      · have e : tapeM sc t ns 0 0 1 0 x = none := (if_neg h1).trans (if_neg h2)
        rw [e]
        exact (if_neg h1).trans (if_neg h2)
  refine ⟨fun _ => none, C, _, fun _ => none, C, tapeM sc t ns 0 0 1 0, startL m t, fun _ _ => False, ch, w, .refl .., ?_, ?_⟩
  · have noown : ∀ (i : Nat) (d : D), (startL m t)[i]? ≠ some (.own d) := fun i d q => by
      unfold startL at q
      match i with
      | 0 => simp at q
      | 1 => simp at q
      | i + 2 =>
        simp only [List.getElem?_cons_succ, List.getElem?_replicate] at q
        split at q <;> cases q
    refine ⟨by simp [startL], fun i d q => ?_, fun i d q => absurd q (noown i d), fun i d x q => absurd q (noown i d), fun i j d e x q => absurd q (noown i d)⟩
    unfold startL at q
    match i with
    | 0 => simp at q
    | 1 =>
      simp at q
      subst q
      exact ⟨_, rfl, .ref t⟩
    | i + 2 =>
      simp only [List.getElem?_cons_succ, List.getElem?_replicate] at q
      split at q <;> cases q
  · obtain ⟨s', e⟩ := hF
    rw [e]
    intro v Z1 C1 H1 _ _ r
    cases r
    exact hE H1
end DN
set_option Elab.async false
set_option linter.all false
set_option maxRecDepth 100000
set_option maxHeartbeats 4000000
namespace DN
open PySem PySem.Spec PyProof.Rows L2 RZ
variable {B : Sto} {α β γ : Type}
/-! ## evaluation -/
section
variable {a b : Int} {x y : Bool} {u v : Str} {d e : D} {i : Nat} {ds es ks vs : List D} {c : Str} {ad : Addr}
theorem beq_dec {α : Type} [BEq α] [LawfulBEq α] [DecidableEq α] {a b : α} : (a == b) = decide (a = b) := by
  by_cases h : a = b <;> simp [h]
theorem okc_int : D.okc (.int a) = true := by simp [D.okc, D.plain, D.py, PyData.depth]
theorem okc_bl : D.okc (.bl x) = true := by simp [D.okc, D.plain, D.py, PyData.depth]
theorem okc_str : D.okc (.str u) = true := by simp [D.okc, D.plain, D.py, PyData.depth]
theorem okc_non : D.okc .non = true := by simp [D.okc, D.plain, D.py, PyData.depth]
@[simp] theorem s_eqI : eqD (.int a) (.int b) = some (.bl (decide (a = b))) := by
  unfold eqD; rw [okc_int, okc_int]; simp only [D.py, PyData.eqv, Bool.and_self, if_true]; congr 2
@[simp] theorem s_eqB : eqD (.bl x) (.bl y) = some (.bl (decide (x = y))) := by
  unfold eqD; rw [okc_bl, okc_bl]; cases x <;> cases y <;> simp [D.py, PyData.eqv]
@[simp] theorem s_eqS : eqD (.str u) (.str v) = some (.bl (decide (u = v))) := by
  unfold eqD; rw [okc_str, okc_str]; simp only [D.py, PyData.eqv, Bool.and_self, if_true]; congr 2
@[simp] theorem s_neI : neD (.int a) (.int b) = some (.bl (!decide (a = b))) := by
  unfold neD; rw [okc_int, okc_int]; simp only [D.py, PyData.eqv, Bool.and_self, if_true]; congr 3
@[simp] theorem s_neB : neD (.bl x) (.bl y) = some (.bl (!decide (x = y))) := by
  unfold neD; rw [okc_bl, okc_bl]; cases x <;> cases y <;> simp [D.py, PyData.eqv]
@[simp] theorem s_neS : neD (.str u) (.str v) = some (.bl (!decide (u = v))) := by
  unfold neD; rw [okc_str, okc_str]; simp only [D.py, PyData.eqv, Bool.and_self, if_true]; congr 3
theorem k_NoneType_int : kitB "NoneType" "int" = some false := by with_unfolding_all rfl
@[simp] theorem s_is_int_N : isD "int" .non = some (.bl false) := by show (kitB "NoneType" "int").map D.bl = _; rw [k_NoneType_int]; rfl
theorem k_bool_int : kitB "bool" "int" = some true := by with_unfolding_all rfl
@[simp] theorem s_is_int_B : isD "int" (.bl x) = some (.bl true) := by show (kitB "bool" "int").map D.bl = _; rw [k_bool_int]; rfl
theorem k_int_int : kitB "int" "int" = some true := by with_unfolding_all rfl
@[simp] theorem s_is_int_I : isD "int" (.int a) = some (.bl true) := by show (kitB "int" "int").map D.bl = _; rw [k_int_int]; rfl
theorem k_str_int : kitB "str" "int" = some false := by with_unfolding_all rfl
@[simp] theorem s_is_int_S : isD "int" (.str u) = some (.bl false) := by show (kitB "str" "int").map D.bl = _; rw [k_str_int]; rfl
theorem k_tuple_int : kitB "tuple" "int" = some false := by with_unfolding_all rfl
@[simp] theorem s_is_int_T : isD "int" (.tup ds) = some (.bl false) := by show (kitB "tuple" "int").map D.bl = _; rw [k_tuple_int]; rfl
theorem k_list_int : kitB "list" "int" = some false := by with_unfolding_all rfl
@[simp] theorem s_is_int_L : isD "int" (.lst ds) = some (.bl false) := by show (kitB "list" "int").map D.bl = _; rw [k_list_int]; rfl
theorem k_dict_int : kitB "dict" "int" = some false := by with_unfolding_all rfl
@[simp] theorem s_is_int_D : isD "int" (.dct ks ds) = some (.bl false) := by show (kitB "dict" "int").map D.bl = _; rw [k_dict_int]; rfl
theorem k_NoneType_bool : kitB "NoneType" "bool" = some false := by with_unfolding_all rfl
@[simp] theorem s_is_bool_N : isD "bool" .non = some (.bl false) := by show (kitB "NoneType" "bool").map D.bl = _; rw [k_NoneType_bool]; rfl
theorem k_bool_bool : kitB "bool" "bool" = some true := by with_unfolding_all rfl
@[simp] theorem s_is_bool_B : isD "bool" (.bl x) = some (.bl true) := by show (kitB "bool" "bool").map D.bl = _; rw [k_bool_bool]; rfl
theorem k_int_bool : kitB "int" "bool" = some false := by with_unfolding_all rfl
@[simp] theorem s_is_bool_I : isD "bool" (.int a) = some (.bl false) := by show (kitB "int" "bool").map D.bl = _; rw [k_int_bool]; rfl
theorem k_str_bool : kitB "str" "bool" = some false := by with_unfolding_all rfl
@[simp] theorem s_is_bool_S : isD "bool" (.str u) = some (.bl false) := by show (kitB "str" "bool").map D.bl = _; rw [k_str_bool]; rfl
theorem k_tuple_bool : kitB "tuple" "bool" = some false := by with_unfolding_all rfl
@[simp] theorem s_is_bool_T : isD "bool" (.tup ds) = some (.bl false) := by show (kitB "tuple" "bool").map D.bl = _; rw [k_tuple_bool]; rfl
theorem k_list_bool : kitB "list" "bool" = some false := by with_unfolding_all rfl
@[simp] theorem s_is_bool_L : isD "bool" (.lst ds) = some (.bl false) := by show (kitB "list" "bool").map D.bl = _; rw [k_list_bool]; rfl
theorem k_dict_bool : kitB "dict" "bool" = some false := by with_unfolding_all rfl
@[simp] theorem s_is_bool_D : isD "bool" (.dct ks ds) = some (.bl false) := by show (kitB "dict" "bool").map D.bl = _; rw [k_dict_bool]; rfl
theorem k_NoneType_str : kitB "NoneType" "str" = some false := by with_unfolding_all rfl
@[simp] theorem s_is_str_N : isD "str" .non = some (.bl false) := by show (kitB "NoneType" "str").map D.bl = _; rw [k_NoneType_str]; rfl
theorem k_bool_str : kitB "bool" "str" = some false := by with_unfolding_all rfl
@[simp] theorem s_is_str_B : isD "str" (.bl x) = some (.bl false) := by show (kitB "bool" "str").map D.bl = _; rw [k_bool_str]; rfl
theorem k_int_str : kitB "int" "str" = some false := by with_unfolding_all rfl
@[simp] theorem s_is_str_I : isD "str" (.int a) = some (.bl false) := by show (kitB "int" "str").map D.bl = _; rw [k_int_str]; rfl
theorem k_str_str : kitB "str" "str" = some true := by with_unfolding_all rfl
@[simp] theorem s_is_str_S : isD "str" (.str u) = some (.bl true) := by show (kitB "str" "str").map D.bl = _; rw [k_str_str]; rfl
theorem k_tuple_str : kitB "tuple" "str" = some false := by with_unfolding_all rfl
@[simp] theorem s_is_str_T : isD "str" (.tup ds) = some (.bl false) := by show (kitB "tuple" "str").map D.bl = _; rw [k_tuple_str]; rfl
theorem k_list_str : kitB "list" "str" = some false := by with_unfolding_all rfl
@[simp] theorem s_is_str_L : isD "str" (.lst ds) = some (.bl false) := by show (kitB "list" "str").map D.bl = _; rw [k_list_str]; rfl
theorem k_dict_str : kitB "dict" "str" = some false := by with_unfolding_all rfl
@[simp] theorem s_is_str_D : isD "str" (.dct ks ds) = some (.bl false) := by show (kitB "dict" "str").map D.bl = _; rw [k_dict_str]; rfl
theorem k_NoneType_tuple : kitB "NoneType" "tuple" = some false := by with_unfolding_all rfl
@[simp] theorem s_is_tuple_N : isD "tuple" .non = some (.bl false) := by show (kitB "NoneType" "tuple").map D.bl = _; rw [k_NoneType_tuple]; rfl
theorem k_bool_tuple : kitB "bool" "tuple" = some false := by with_unfolding_all rfl
@[simp] theorem s_is_tuple_B : isD "tuple" (.bl x) = some (.bl false) := by show (kitB "bool" "tuple").map D.bl = _; rw [k_bool_tuple]; rfl
theorem k_int_tuple : kitB "int" "tuple" = some false := by with_unfolding_all rfl
@[simp] theorem s_is_tuple_I : isD "tuple" (.int a) = some (.bl false) := by show (kitB "int" "tuple").map D.bl = _; rw [k_int_tuple]; rfl
theorem k_str_tuple : kitB "str" "tuple" = some false := by with_unfolding_all rfl
@[simp] theorem s_is_tuple_S : isD "tuple" (.str u) = some (.bl false) := by show (kitB "str" "tuple").map D.bl = _; rw [k_str_tuple]; rfl
theorem k_tuple_tuple : kitB "tuple" "tuple" = some true := by with_unfolding_all rfl
@[simp] theorem s_is_tuple_T : isD "tuple" (.tup ds) = some (.bl true) := by show (kitB "tuple" "tuple").map D.bl = _; rw [k_tuple_tuple]; rfl
theorem k_list_tuple : kitB "list" "tuple" = some false := by with_unfolding_all rfl
@[simp] theorem s_is_tuple_L : isD "tuple" (.lst ds) = some (.bl false) := by show (kitB "list" "tuple").map D.bl = _; rw [k_list_tuple]; rfl
theorem k_dict_tuple : kitB "dict" "tuple" = some false := by with_unfolding_all rfl
@[simp] theorem s_is_tuple_D : isD "tuple" (.dct ks ds) = some (.bl false) := by show (kitB "dict" "tuple").map D.bl = _; rw [k_dict_tuple]; rfl
theorem k_NoneType_list : kitB "NoneType" "list" = some false := by with_unfolding_all rfl
@[simp] theorem s_is_list_N : isD "list" .non = some (.bl false) := by show (kitB "NoneType" "list").map D.bl = _; rw [k_NoneType_list]; rfl
theorem k_bool_list : kitB "bool" "list" = some false := by with_unfolding_all rfl
@[simp] theorem s_is_list_B : isD "list" (.bl x) = some (.bl false) := by show (kitB "bool" "list").map D.bl = _; rw [k_bool_list]; rfl
theorem k_int_list : kitB "int" "list" = some false := by with_unfolding_all rfl
@[simp] theorem s_is_list_I : isD "list" (.int a) = some (.bl false) := by show (kitB "int" "list").map D.bl = _; rw [k_int_list]; rfl
theorem k_str_list : kitB "str" "list" = some false := by with_unfolding_all rfl
@[simp] theorem s_is_list_S : isD "list" (.str u) = some (.bl false) := by show (kitB "str" "list").map D.bl = _; rw [k_str_list]; rfl
theorem k_tuple_list : kitB "tuple" "list" = some false := by with_unfolding_all rfl
@[simp] theorem s_is_list_T : isD "list" (.tup ds) = some (.bl false) := by show (kitB "tuple" "list").map D.bl = _; rw [k_tuple_list]; rfl
theorem k_list_list : kitB "list" "list" = some true := by with_unfolding_all rfl
@[simp] theorem s_is_list_L : isD "list" (.lst ds) = some (.bl true) := by show (kitB "list" "list").map D.bl = _; rw [k_list_list]; rfl
theorem k_dict_list : kitB "dict" "list" = some false := by with_unfolding_all rfl
@[simp] theorem s_is_list_D : isD "list" (.dct ks ds) = some (.bl false) := by show (kitB "dict" "list").map D.bl = _; rw [k_dict_list]; rfl
theorem k_NoneType_dict : kitB "NoneType" "dict" = some false := by with_unfolding_all rfl
@[simp] theorem s_is_dict_N : isD "dict" .non = some (.bl false) := by show (kitB "NoneType" "dict").map D.bl = _; rw [k_NoneType_dict]; rfl
theorem k_bool_dict : kitB "bool" "dict" = some false := by with_unfolding_all rfl
@[simp] theorem s_is_dict_B : isD "dict" (.bl x) = some (.bl false) := by show (kitB "bool" "dict").map D.bl = _; rw [k_bool_dict]; rfl
theorem k_int_dict : kitB "int" "dict" = some false := by with_unfolding_all rfl
@[simp] theorem s_is_dict_I : isD "dict" (.int a) = some (.bl false) := by show (kitB "int" "dict").map D.bl = _; rw [k_int_dict]; rfl
theorem k_str_dict : kitB "str" "dict" = some false := by with_unfolding_all rfl
@[simp] theorem s_is_dict_S : isD "dict" (.str u) = some (.bl false) := by show (kitB "str" "dict").map D.bl = _; rw [k_str_dict]; rfl
theorem k_tuple_dict : kitB "tuple" "dict" = some false := by with_unfolding_all rfl
@[simp] theorem s_is_dict_T : isD "dict" (.tup ds) = some (.bl false) := by show (kitB "tuple" "dict").map D.bl = _; rw [k_tuple_dict]; rfl
theorem k_list_dict : kitB "list" "dict" = some false := by with_unfolding_all rfl
@[simp] theorem s_is_dict_L : isD "dict" (.lst ds) = some (.bl false) := by show (kitB "list" "dict").map D.bl = _; rw [k_list_dict]; rfl
theorem k_dict_dict : kitB "dict" "dict" = some true := by with_unfolding_all rfl
@[simp] theorem s_is_dict_D : isD "dict" (.dct ks ds) = some (.bl true) := by show (kitB "dict" "dict").map D.bl = _; rw [k_dict_dict]; rfl
@[simp] theorem s_anyT : anyI (.tup ds) = some ds := rfl
@[simp] theorem s_anyL : anyI (.lst ds) = some ds := rfl
theorem pyL_map : ∀ {ds : List D}, D.pyL ds = ds.map D.py
  | [] => rfl
  | d :: ds => by rw [D.pyL, pyL_map, List.map_cons]
/-- lists of numbers -/
@[simp] theorem bools_map {f : α → Bool} : ∀ {as : List α}, bools (as.map fun a => .bl (f a)) = some (as.map f)
  | [] => rfl
  | a :: as => by simp [bools, bools_map]
@[simp] theorem allD_map {f : α → Bool} {as : List α} : allD [.lst (as.map fun a => .bl (f a))] = some (.bl (as.all f)) := by
  simp [allD]
@[simp] theorem anyD_map {f : α → Bool} {as : List α} : anyD [.lst (as.map fun a => .bl (f a))] = some (.bl (as.any f)) := by
  simp [anyD]
theorem flVs_bl {f : α → Bool} : ∀ {as : List α}, flVs (as.map fun a => .bl (f a)) = some (as.map fun a => .bl (f a))
  | [] => rfl
  | a :: as => by simp [flVs, flV, flVs_bl]
end
/-! ### wp and equations -/
theorem eq_of_wp {m : M B α} {v : α} {s : B.T} (h : wp m (fun a s' => a = v ∧ s' = s) s) : m s = .ok v s := by
  obtain ⟨a, s', e, rfl, rfl⟩ := wp_ok h
  exact e
theorem pure_of_wp {m : M B α} {v : α} (h : ∀ s, wp m (fun a s' => a = v ∧ s' = s) s) : m = M.pure v := funext fun s => eq_of_wp (h s)
@[simp] theorem noErr_pure {a : α} : (noErr (M.pure a) : M B α) = M.pure a := rfl
@[simp] theorem if_pure {c : Prop} [Decidable c] {a b : α} : (if c then M.pure a else M.pure b : M B α) = M.pure (if c then a else b) := by split <;> rfl
/-- a comprehension that only reckons -/
theorem compL_pure {f : α → M B (Option β)} {g : α → Option β} : ∀ {ds : List α}, (∀ d ∈ ds, f d = M.pure (g d)) → compL f ds = M.pure (ds.filterMap g)
  | [], _ => rfl
  | d :: ds, h => by
    unfold compL
    rw [h d List.mem_cons_self, bind_pure, compL_pure (fun d hd => h d (List.mem_cons_of_mem _ hd)), bind_pure]
    cases e : g d <;> simp [consO, List.filterMap_cons, e]
theorem compL_map {f : β → M B (Option γ)} {g : α → β} {k : α → γ} {as : List α} (h : ∀ a ∈ as, f (g a) = M.pure (some (k a))) : compL f (as.map g) = M.pure (as.map k) := by
  have : ∀ d ∈ as, (fun a => f (g a)) d = M.pure ((fun a => some (k a)) d) := h
  have q := compL_pure this
  rw [show as.filterMap (fun a => some (k a)) = as.map k from by simp] at q
  rw [← q]
  clear q this h
  induction as with
  | nil => rfl
  | cons a as ih => simp only [List.map_cons, compL, ih]
theorem compL_all {f : D → M B (Option D)} {k : D → D} {ds : List D} (h : ∀ d ∈ ds, f d = M.pure (some (k d))) : compL f ds = M.pure (ds.map k) := by
  have := compL_map (g := id) (as := ds) h
  simpa using this
/-- a for with places -/
theorem wp_forI {a : D → Option Asg} {F : SEnv → M B Fl} {R : Fl → B.T → Prop} (I : List D → SEnv → B.T → Prop) : ∀ {ds : List D} {ρ : SEnv} {s : B.T}, I ds ρ s →
    (∀ d r ρ s, I (d :: r) ρ s → ∃ as, a d = some as ∧ wp (F (setsS ρ as)) (fun fl s' => match fl with
      | .nx ρ' => I r ρ' s'
      | .ct ρ' => I r ρ' s'
      | .bk ρ' => R (.nx ρ') s'
      | .rt d => R (.rt d) s'
      | .ro d => R (.ro d) s') s) → (∀ ρ' s', I [] ρ' s' → R (.nx ρ') s') → wp (forL a F ds ρ) R s
  | [], ρ, s, hi, hf, hr => hr ρ s hi
  | d :: ds, ρ, s, hi, hf, hr => by
    obtain ⟨as, ha, hw⟩ := hf d ds ρ s hi
    unfold forL
    rw [ha, bind_some]
    refine wp_bind (wp_mono hw fun fl s1 h => ?_)
    cases fl with
    | nx ρ' => exact wp_forI I h hf hr
    | ct ρ' => exact wp_forI I h hf hr
    | bk ρ' => exact h
    | rt d => exact h
    | ro d => exact h
@[simp] theorem s_ixT0 {d : D} {ds : List D} : ixD (.tup (d :: ds)) (.int 0) = some d := by
  have : (0 : Int) < ds.length + 1 := by omega
  simp [ixD, atI, ixN, this]
@[simp] theorem s_ixT1 {d e : D} {ds : List D} : ixD (.tup (d :: e :: ds)) (.int 1) = some e := by
  have : (1 : Int) < ds.length + 1 + 1 := by omega
  simp [ixD, atI, ixN, this]
@[simp] theorem s_ixT2 {d e f : D} {ds : List D} : ixD (.tup (d :: e :: f :: ds)) (.int 2) = some f := by
  have : (2 : Int) < ds.length + 1 + 1 + 1 := by omega
  simp [ixD, atI, ixN, this]
@[simp] theorem s_ixTm {d : D} : ixD (.tup [d]) (.int (-1)) = some d := by simp [ixD, atI, ixN]
@[simp] theorem s_ixTm2 {d e : D} : ixD (.tup [d, e]) (.int (-1)) = some e := by simp [ixD, atI, ixN]
@[simp] theorem s_ixTm3 {d e f : D} : ixD (.tup [d, e, f]) (.int (-1)) = some f := by simp [ixD, atI, ixN]
@[simp] theorem compF_eq {a : D → Option Asg} {t : Env → M B Bool} {e : Env → M B D} {ρ : Env} {d : D} :
    compF a t e ρ d = noErr (M.bind (lift ((a d).map (setsE ρ))) fun ρ' => M.bind (t ρ') fun k => if k = true then M.bind (e ρ') fun x => M.pure (some x) else M.pure none) := rfl
@[simp] theorem s_runF {m : Nat} {F : SEnv → M B Fl} {ds : List D} : runF m F ds = M.bind (F (startE m ds)) retF := rfl
@[simp] theorem lift_some' {a : α} : (lift (some a) : M B α) = M.pure a := rfl
/-! ### comprehensions that draw -/
theorem wp_compLx {f : α → M B (Option γ)} (Inv : B.T → Prop) (P : β → Prop) (g : β → γ) : ∀ {ds : List α} {R : List γ → B.T → Prop} {s : B.T}, Inv s → (∀ d ∈ ds, ∀ s, Inv s → wp (f d) (fun o s' => Inv s' ∧ ∃ b, P b ∧ o = some (g b)) s) →
    (∀ (bs : List β) s', Inv s' → bs.length = ds.length → (∀ b ∈ bs, P b) → R (bs.map g) s') → wp (compL f ds) R s
  | [], R, s, hi, hf, hr => hr [] s hi rfl (fun b h => nomatch h)
  | d :: ds, R, s, hi, hf, hr => by
    unfold compL
    refine wp_bind (wp_mono (hf d List.mem_cons_self s hi) fun o s1 ⟨i1, b, pb, eb⟩ => ?_)
    refine wp_bind (wp_compLx Inv P g (ds := ds) i1 (fun d' hd => hf d' (List.mem_cons_of_mem _ hd)) fun bs s2 i2 l2 q2 => ?_)
    subst eb
    refine wp_pure ?_
    exact hr (b :: bs) s2 i2 (by simp [l2]) (fun x hx => by
      rcases List.mem_cons.mp hx with rfl | h
      · exact pb
      · exact q2 x h)
theorem wp_compLf {f : D → M B (Option D)} (Inv : B.T → Prop) (must : α → Prop) (g : α → D) : ∀ {as : List α} {R : List D → B.T → Prop} {s : B.T}, Inv s → (∀ a ∈ as, ∀ s, Inv s → wp (f (g a)) (fun o s' => Inv s' ∧ ((o = none ∧ ¬ must a) ∨ o = some (g a))) s) →
    (∀ (bs : List α) s', Inv s' → bs.Sublist as → (∀ a ∈ as, must a → a ∈ bs) → R (bs.map g) s') → wp (compL f (as.map g)) R s
  | [], R, s, hi, hf, hr => hr [] s hi (List.Sublist.refl _) (fun b h => nomatch h)
  | a :: as, R, s, hi, hf, hr => by
    rw [List.map_cons]
    unfold compL
    refine wp_bind (wp_mono (hf a List.mem_cons_self s hi) fun o s1 ⟨i1, h1⟩ => ?_)
    refine wp_bind (wp_compLf Inv must g (as := as) i1 (fun d' hd => hf d' (List.mem_cons_of_mem _ hd)) fun bs s2 i2 l2 q2 => ?_)
    refine wp_pure ?_
    rcases h1 with ⟨rfl, nm⟩ | rfl
    · refine hr bs s2 i2 (List.Sublist.cons _ l2) fun x hx hm => ?_
      rcases List.mem_cons.mp hx with rfl | h
      · exact absurd hm nm
      · exact q2 x h hm
    · refine hr (a :: bs) s2 i2 (List.Sublist.cons_cons _ l2) fun x hx hm => ?_
      rcases List.mem_cons.mp hx with rfl | h
      · exact List.mem_cons_self
      · exact List.mem_cons_of_mem _ (q2 x h hm)
/-! ### bits -/
theorem bitOr_nn (a b : Nat) : Builtin.bitOr (a : Int) (b : Int) = ((a ||| b : Nat) : Int) := by
  have h1 : ∀ x : Int, Builtin.bitNot x = -x - 1 := fun x => by unfold Builtin.bitNot; omega
  have h2 : ∀ x : Nat, decide (0 ≤ (-(x : Int) - 1)) = false := fun x => by simp; omega
  have e : ∀ x : Nat, (-(-(x : Int) - 1) - 1).toNat = x := fun x => by omega
  unfold Builtin.bitOr Builtin.bitAnd
  simp only [h1, h2, e]
  generalize a ||| b = c
  omega
theorem bit_test (m i : Nat) : decide (Builtin.bitAnd ((m : Int) / 2 ^ i) 1 = 1) = m.testBit i := by
  rw [bitAnd_m1, Nat.testBit_eq_decide_div_mod_eq]
  have : ((m : Int) / 2 ^ i % 2) = ((m / 2 ^ i % 2 : Nat) : Int) := by push_cast; rfl
  rw [this]
  congr 1
  apply propext
  omega
def maskN (l : List Nat) : Nat := l.foldl (fun m b => m ||| 2 ^ b) 0
theorem mask_fold : ∀ (l : List Nat) (m i : Nat), (l.foldl (fun m b => m ||| 2 ^ b) m).testBit i = (m.testBit i || decide (i ∈ l))
  | [], m, i => by simp
  | b :: l, m, i => by
    rw [List.foldl_cons, mask_fold l, Nat.testBit_or, Nat.testBit_two_pow]
    by_cases h : i = b
    · subst h; simp
    · have h' : ¬ b = i := fun z => h z.symm
      simp [h, h']
theorem mask_bit (l : List Nat) (i : Nat) : (maskN l).testBit i = decide (i ∈ l) := by
  unfold maskN
  rw [mask_fold]; simp
@[simp] theorem asB_bl {b : Bool} : (some (D.bl b)).bind D.asB = some b := rfl
@[simp] theorem anyI_tup {ds : List D} : anyI (.tup ds) = some ds := rfl
@[simp] theorem zipI_tup {xs ys : List D} : zipI (.tup xs) (.tup ys) = some (zipL xs ys) := rfl
@[simp] theorem ltDT_int {a b : Int} : ltDT (.int a) (.int b) = some (.bl (decide (a < b))) := by
  unfold ltDT
  rw [okc_int, okc_int]
  have h1 : PySem.W.alike (D.int a).py (D.int b).py = true := by
    have := PySem.W.alike_ints [a] [b]
    simpa [PySem.W.alikeAll, D.py] using this
  rw [h1]
  simp only [D.isNon, D.py, Bool.and_self, Bool.not_false, if_true]
  rw [PySem.W.dataLt_int]
@[simp] theorem map_some {a : α} {f : α → β} : Option.map f (some a) = some (f a) := rfl
theorem plainL_int {f : α → Int} : ∀ {as : List α}, D.plainL (as.map fun a => .int (f a)) = true
  | [] => rfl
  | a :: as => by simp [D.plainL, D.plain, plainL_int]
theorem depthAll_int {f : α → Int} : ∀ {as : List α}, PyData.depthAll (D.pyL (as.map fun a => .int (f a))) = 0
  | [] => rfl
  | a :: as => by
    rw [List.map_cons, D.pyL, PyData.depthAll, depthAll_int]
    rfl
theorem inSeq_int {x : Int} {f : α → Int} {as : List α} : inSeq (.int x) (as.map fun a => .int (f a)) = some (as.any fun a => f a == x) := by
  unfold inSeq
  rw [okc_int]
  have h : (D.lst (as.map fun a => D.int (f a))).okc = true := by
    unfold D.okc
    rw [show (D.lst (as.map fun a => D.int (f a))).plain = true from plainL_int]
    rw [D.py, PyData.depth, depthAll_int]
    rfl
  rw [h]
  simp only [Bool.and_self, if_true]
  rw [pyL_map, List.map_map, List.any_map]
  congr 1
theorem char_inj : ∀ x y : Char, x.toNat = y.toNat → x = y := fun x y h => by
  apply Char.ext
  apply UInt32.toNat_inj.mp
  exact h
@[simp] theorem ofString_inj {a b : String} : Str.ofString a = Str.ofString b ↔ a = b := by
  rw [Str.ofString_eq_toList, Str.ofString_eq_toList]
  constructor
  · intro h
    have h1 : a.toList.map Char.toNat = b.toList.map Char.toNat := by simpa using h
    have h2 : a.toList = b.toList := (List.map_inj_right char_inj).mp h1
    exact String.toList_inj.mp h2
  · rintro rfl; rfl
theorem okc_strs {ds : List D} (h : ∀ d ∈ ds, ∃ x, d = .str x) : (D.lst ds).okc = true := by
  have h1 : ∀ ds : List D, (∀ d ∈ ds, ∃ x, d = .str x) → D.plainL ds = true ∧ PyData.depthAll (D.pyL ds) = 0 := by
    intro ds
    induction ds with
    | nil => intro _; exact ⟨rfl, rfl⟩
    | cons d ds ih =>
      intro h
      obtain ⟨x, rfl⟩ := h d List.mem_cons_self
      obtain ⟨a, b⟩ := ih fun e he => h e (List.mem_cons_of_mem _ he)
      exact ⟨by simp [D.plainL, D.plain, a], by rw [D.pyL, PyData.depthAll, b]; rfl⟩
  obtain ⟨a, b⟩ := h1 ds h
  unfold D.okc
  rw [show (D.lst ds).plain = true from a, D.py, PyData.depth, b]
  rfl
theorem okc_nums {ds : List D} (h : ∀ d ∈ ds, ∃ x, d = .int x) : (D.lst ds).okc = true := by
  have h1 : ∀ ds : List D, (∀ d ∈ ds, ∃ x, d = .int x) → D.plainL ds = true ∧ PyData.depthAll (D.pyL ds) = 0 := by
    intro ds
    induction ds with
    | nil => intro _; exact ⟨rfl, rfl⟩
    | cons d ds ih =>
      intro h
      obtain ⟨x, rfl⟩ := h d List.mem_cons_self
      obtain ⟨a, b⟩ := ih fun e he => h e (List.mem_cons_of_mem _ he)
      exact ⟨by simp [D.plainL, D.plain, a], by rw [D.pyL, PyData.depthAll, b]; rfl⟩
  obtain ⟨a, b⟩ := h1 ds h
  unfold D.okc
  rw [show (D.lst ds).plain = true from a, D.py, PyData.depth, b]
  rfl

theorem inSeqS1 {a z : Str} : inSeq (.str z) [.str a] = some (decide (a = z)) := by
  unfold inSeq
  rw [okc_str, okc_strs (by simp)]
  simp [D.pyL, D.py, PyData.eqv, beq_dec, Bool.or_assoc]
@[simp] theorem s_inS1 {a z : Str} : inD (.str z) (.tup [.str a]) = some (.bl (decide (a = z))) := by
  show (inSeq (.str z) [.str a]).map D.bl = _
  rw [inSeqS1]; rfl
@[simp] theorem s_notInS1 {a z : Str} : notInD (.str z) (.tup [.str a]) = some (.bl (!(decide (a = z)))) := by
  show (inSeq (.str z) [.str a]).map (fun b => D.bl (!b)) = _
  rw [inSeqS1]; rfl
theorem inSeqS2 {a b z : Str} : inSeq (.str z) [.str a, .str b] = some (decide (a = z) || decide (b = z)) := by
  unfold inSeq
  rw [okc_str, okc_strs (by simp)]
  simp [D.pyL, D.py, PyData.eqv, beq_dec, Bool.or_assoc]
@[simp] theorem s_inS2 {a b z : Str} : inD (.str z) (.tup [.str a, .str b]) = some (.bl (decide (a = z) || decide (b = z))) := by
  show (inSeq (.str z) [.str a, .str b]).map D.bl = _
  rw [inSeqS2]; rfl
@[simp] theorem s_notInS2 {a b z : Str} : notInD (.str z) (.tup [.str a, .str b]) = some (.bl (!(decide (a = z) || decide (b = z)))) := by
  show (inSeq (.str z) [.str a, .str b]).map (fun b => D.bl (!b)) = _
  rw [inSeqS2]; rfl
theorem inSeqS3 {a b c z : Str} : inSeq (.str z) [.str a, .str b, .str c] = some (decide (a = z) || decide (b = z) || decide (c = z)) := by
  unfold inSeq
  rw [okc_str, okc_strs (by simp)]
  simp [D.pyL, D.py, PyData.eqv, beq_dec, Bool.or_assoc]
@[simp] theorem s_inS3 {a b c z : Str} : inD (.str z) (.tup [.str a, .str b, .str c]) = some (.bl (decide (a = z) || decide (b = z) || decide (c = z))) := by
  show (inSeq (.str z) [.str a, .str b, .str c]).map D.bl = _
  rw [inSeqS3]; rfl
@[simp] theorem s_notInS3 {a b c z : Str} : notInD (.str z) (.tup [.str a, .str b, .str c]) = some (.bl (!(decide (a = z) || decide (b = z) || decide (c = z)))) := by
  show (inSeq (.str z) [.str a, .str b, .str c]).map (fun b => D.bl (!b)) = _
  rw [inSeqS3]; rfl
theorem inSeqS4 {a b c d z : Str} : inSeq (.str z) [.str a, .str b, .str c, .str d] = some (decide (a = z) || decide (b = z) || decide (c = z) || decide (d = z)) := by
  unfold inSeq
  rw [okc_str, okc_strs (by simp)]
  simp [D.pyL, D.py, PyData.eqv, beq_dec, Bool.or_assoc]
@[simp] theorem s_inS4 {a b c d z : Str} : inD (.str z) (.tup [.str a, .str b, .str c, .str d]) = some (.bl (decide (a = z) || decide (b = z) || decide (c = z) || decide (d = z))) := by
  show (inSeq (.str z) [.str a, .str b, .str c, .str d]).map D.bl = _
  rw [inSeqS4]; rfl
@[simp] theorem s_notInS4 {a b c d z : Str} : notInD (.str z) (.tup [.str a, .str b, .str c, .str d]) = some (.bl (!(decide (a = z) || decide (b = z) || decide (c = z) || decide (d = z)))) := by
  show (inSeq (.str z) [.str a, .str b, .str c, .str d]).map (fun b => D.bl (!b)) = _
  rw [inSeqS4]; rfl
theorem inSeqS5 {a b c d e z : Str} : inSeq (.str z) [.str a, .str b, .str c, .str d, .str e] = some (decide (a = z) || decide (b = z) || decide (c = z) || decide (d = z) || decide (e = z)) := by
  unfold inSeq
  rw [okc_str, okc_strs (by simp)]
  simp [D.pyL, D.py, PyData.eqv, beq_dec, Bool.or_assoc]
@[simp] theorem s_inS5 {a b c d e z : Str} : inD (.str z) (.tup [.str a, .str b, .str c, .str d, .str e]) = some (.bl (decide (a = z) || decide (b = z) || decide (c = z) || decide (d = z) || decide (e = z))) := by
  show (inSeq (.str z) [.str a, .str b, .str c, .str d, .str e]).map D.bl = _
  rw [inSeqS5]; rfl
@[simp] theorem s_notInS5 {a b c d e z : Str} : notInD (.str z) (.tup [.str a, .str b, .str c, .str d, .str e]) = some (.bl (!(decide (a = z) || decide (b = z) || decide (c = z) || decide (d = z) || decide (e = z)))) := by
  show (inSeq (.str z) [.str a, .str b, .str c, .str d, .str e]).map (fun b => D.bl (!b)) = _
  rw [inSeqS5]; rfl
theorem inSeqI1 {a z : Int} : inSeq (.int z) [.int a] = some (decide (a = z)) := by
  unfold inSeq
  rw [okc_int, okc_nums (by simp)]
  simp [D.pyL, D.py, PyData.eqv, beq_dec, Bool.or_assoc]
@[simp] theorem s_inI1 {a z : Int} : inD (.int z) (.tup [.int a]) = some (.bl (decide (a = z))) := by
  show (inSeq (.int z) [.int a]).map D.bl = _
  rw [inSeqI1]; rfl
@[simp] theorem s_notInI1 {a z : Int} : notInD (.int z) (.tup [.int a]) = some (.bl (!(decide (a = z)))) := by
  show (inSeq (.int z) [.int a]).map (fun b => D.bl (!b)) = _
  rw [inSeqI1]; rfl
theorem inSeqI2 {a b z : Int} : inSeq (.int z) [.int a, .int b] = some (decide (a = z) || decide (b = z)) := by
  unfold inSeq
  rw [okc_int, okc_nums (by simp)]
  simp [D.pyL, D.py, PyData.eqv, beq_dec, Bool.or_assoc]
@[simp] theorem s_inI2 {a b z : Int} : inD (.int z) (.tup [.int a, .int b]) = some (.bl (decide (a = z) || decide (b = z))) := by
  show (inSeq (.int z) [.int a, .int b]).map D.bl = _
  rw [inSeqI2]; rfl
@[simp] theorem s_notInI2 {a b z : Int} : notInD (.int z) (.tup [.int a, .int b]) = some (.bl (!(decide (a = z) || decide (b = z)))) := by
  show (inSeq (.int z) [.int a, .int b]).map (fun b => D.bl (!b)) = _
  rw [inSeqI2]; rfl
theorem inSeqI3 {a b c z : Int} : inSeq (.int z) [.int a, .int b, .int c] = some (decide (a = z) || decide (b = z) || decide (c = z)) := by
  unfold inSeq
  rw [okc_int, okc_nums (by simp)]
  simp [D.pyL, D.py, PyData.eqv, beq_dec, Bool.or_assoc]
@[simp] theorem s_inI3 {a b c z : Int} : inD (.int z) (.tup [.int a, .int b, .int c]) = some (.bl (decide (a = z) || decide (b = z) || decide (c = z))) := by
  show (inSeq (.int z) [.int a, .int b, .int c]).map D.bl = _
  rw [inSeqI3]; rfl
@[simp] theorem s_notInI3 {a b c z : Int} : notInD (.int z) (.tup [.int a, .int b, .int c]) = some (.bl (!(decide (a = z) || decide (b = z) || decide (c = z)))) := by
  show (inSeq (.int z) [.int a, .int b, .int c]).map (fun b => D.bl (!b)) = _
  rw [inSeqI3]; rfl
theorem inSeqI4 {a b c d z : Int} : inSeq (.int z) [.int a, .int b, .int c, .int d] = some (decide (a = z) || decide (b = z) || decide (c = z) || decide (d = z)) := by
  unfold inSeq
  rw [okc_int, okc_nums (by simp)]
  simp [D.pyL, D.py, PyData.eqv, beq_dec, Bool.or_assoc]
@[simp] theorem s_inI4 {a b c d z : Int} : inD (.int z) (.tup [.int a, .int b, .int c, .int d]) = some (.bl (decide (a = z) || decide (b = z) || decide (c = z) || decide (d = z))) := by
  show (inSeq (.int z) [.int a, .int b, .int c, .int d]).map D.bl = _
  rw [inSeqI4]; rfl
@[simp] theorem s_notInI4 {a b c d z : Int} : notInD (.int z) (.tup [.int a, .int b, .int c, .int d]) = some (.bl (!(decide (a = z) || decide (b = z) || decide (c = z) || decide (d = z)))) := by
  show (inSeq (.int z) [.int a, .int b, .int c, .int d]).map (fun b => D.bl (!b)) = _
  rw [inSeqI4]; rfl
theorem inSeqI5 {a b c d e z : Int} : inSeq (.int z) [.int a, .int b, .int c, .int d, .int e] = some (decide (a = z) || decide (b = z) || decide (c = z) || decide (d = z) || decide (e = z)) := by
  unfold inSeq
  rw [okc_int, okc_nums (by simp)]
  simp [D.pyL, D.py, PyData.eqv, beq_dec, Bool.or_assoc]
@[simp] theorem s_inI5 {a b c d e z : Int} : inD (.int z) (.tup [.int a, .int b, .int c, .int d, .int e]) = some (.bl (decide (a = z) || decide (b = z) || decide (c = z) || decide (d = z) || decide (e = z))) := by
  show (inSeq (.int z) [.int a, .int b, .int c, .int d, .int e]).map D.bl = _
  rw [inSeqI5]; rfl
@[simp] theorem s_notInI5 {a b c d e z : Int} : notInD (.int z) (.tup [.int a, .int b, .int c, .int d, .int e]) = some (.bl (!(decide (a = z) || decide (b = z) || decide (c = z) || decide (d = z) || decide (e = z)))) := by
  show (inSeq (.int z) [.int a, .int b, .int c, .int d, .int e]).map (fun b => D.bl (!b)) = _
  rw [inSeqI5]; rfl
theorem ok_of_wp {m : M B α} {v : α} {s t : B.T} (h : wp m (fun a s' => a = v ∧ s' = t) s) : m s = .ok v t := by
  obtain ⟨a, s', e, rfl, rfl⟩ := wp_ok h
  exact e
section
variable {K : PySem.W.Frag} {cl : CTab} {c : Str} {i : Nat} {ds : List D} {d : D} {p : Addr} {s : Mem}
@[simp] theorem updM_same {o : Option D} : updM s p o p = o := if_pos rfl
@[simp] theorem updM_upd {o o' : Option D} : updM (updM s p o) p o' = updM s p o' := by
  funext x
  unfold updM
  split <;> rfl
theorem wp_setf {R : Unit → Mem → Prop} (h : s p = some (.ins c ds)) (hi : i = ds.length) (im : d.imm = true) : wp (setfM (K := K) (cl := cl) c i (.ref p) d) R s ↔ R () (updM s p (some (.ins c (ds ++ [d])))) := by
  simp [wp, setfM, h, im, hi]
theorem wp_fldr {R : D → Mem → Prop} (h : s p = some (.ins c ds)) (hi : ds[i]? = some d) : wp (fldM (K := K) (cl := cl) c i (.ref p)) R s ↔ R d s := by
  simp [wp, fldM, rdM, M.bind, h, hi, lift, M.pure]
theorem wp_insr {R : Unit → Mem → Prop} (h : s p = some (.ins c ds)) : wp (insM (K := K) (cl := cl) c (.ref p)) R s ↔ R () s := by
  simp [wp, insM, rdM, M.bind, h, M.pure]
@[simp] theorem fld_ins : fldM (K := K) (cl := cl) c i (.ins c ds) = lift ds[i]? := by simp [fldM]
@[simp] theorem ins_ins : insM (K := K) (cl := cl) c (.ins c ds) = M.pure () := by simp [insM]
end
end DN
set_option Elab.async false
set_option linter.all false
set_option maxRecDepth 100000
set_option maxHeartbeats 4000000
namespace DN
open PySem PySem.Spec PyProof.Rows L2 RZ
/-! ## more evaluation -/
def see1 (p : D → Bool) (s : Sl) : Option D := match s with
  | .val d => some d
  | .own d => if p d = true then some (D.strip (.ins "" [d])) else none
  | .no => none
section
variable {p : D → Bool} {s : Sl} {ρ : SEnv} {d : D}
@[simp] theorem seeE_cons : seeE p (s :: ρ) = see1 p s :: seeE p ρ := by
  cases s <;> rfl
@[simp] theorem see1_val : see1 p (.val d) = some d := rfl
@[simp] theorem see1_no : see1 p .no = none := rfl
@[simp] theorem see1_own : see1 pHide (.own d) = none := rfl
end
end DN
set_option Elab.async false
set_option linter.all false
set_option maxRecDepth 100000
set_option maxHeartbeats 4000000
namespace DN
open PySem PySem.Spec PyProof.Rows L2 RZ
variable {B : Sto}
/-! ## lists of a frame's own -/
section
variable {K : PySem.W.Frag} {cl : CTab} {Z C H H0 Z0 C0 : Hp} {ρ : SEnv} {σ : L2.St} {α : Nat → Addr → Prop} {s : B.T} {p : Addr} {o : HO} {d : D} {i : Nat}
theorem own_new (w : Wd B true Z C H s) (n : Nx Z0 C0 H0 Z C H) (r : SRel K cl Z C H H0 ρ σ α) (hp : H p = none) (hm : immO o = false) (o' : OwnT K cl Z (upd H p o) (fun x => x = p) (.ref p) (.ins "" [d])) :
    Wd B true Z C (upd H p o) s ∧ Nx Z0 C0 H0 Z C (upd H p o) ∧ SRel K cl Z C (upd H p o) H0 (ρ.set i (.own d)) (σ.set i (some (.ref p))) (upd1 α i (fun x => x = p)) := by
  have h0 : H0 p = none := n.back w.ch hp
  have zp := none_of_sub w.zh hp
  have cp := none_of_sub w.ch hp
  refine ⟨w.mut zp cp, n.mut h0, r.setOwn (fun j e x ob q hj hx ho => by rw [upd_ne (ne_of_none ho hp)]; exact ho) (fun x hx => ?_) (fun j e x q hj hx hx2 => ?_) o'⟩
  · have hx : x = p := hx
    subst hx
    exact ⟨h0, zp, cp, o, upd_same, hm⟩
  · have hx : x = p := hx
    subst hx
    obtain ⟨_, _, _, u, hu, _⟩ := r.fp j e x q hx2
    rw [hp] at hu; cases hu
/-- one's own, changed at a place of its own; new places may come to it -/
theorem own_mut {a : Addr} {v : V} {d' : D} {F : Addr → Prop} (w : Wd B true Z C H s) (n : Nx Z0 C0 H0 Z C H) (r : SRel K cl Z C H H0 ρ σ α) (h : ρ[i]? = some (.own d)) (hv : σ[i]? = some (some v)) (ha : α i a) (hm : immO o = false)
    (hF : ∀ x, F x → α i x) (o' : OwnT K cl Z (upd H a o) F v (.ins "" [d'])) :
    Wd B true Z C (upd H a o) s ∧ Nx Z0 C0 H0 Z C (upd H a o) ∧ SRel K cl Z C (upd H a o) H0 (ρ.set i (.own d')) σ (upd1 α i F) := by
  obtain ⟨h0, zp, cp, _⟩ := r.fp i d a h ha
  have := r.setOwn (i := i) (v := v) (F := F) (d := d') (H' := upd H a o) (fun j e x ob q hj hx ho => by
      have hne : x ≠ a := fun z => hj (r.dj j i e d x q h hx (by rw [z]; exact ha))
      rw [upd_ne hne]; exact ho) (fun x hx => by
      obtain ⟨g1, g2, g3, ob, g4, g5⟩ := r.fp i d x h (hF x hx)
      by_cases hxa : x = a
      · subst hxa; exact ⟨g1, g2, g3, o, upd_same, hm⟩
      · exact ⟨g1, g2, g3, ob, by rw [upd_ne hxa]; exact g4, g5⟩) (fun j e x q hj hx hx2 => hj (r.dj j i e d x q h hx2 (hF x hx))) o'
  rw [set_self hv] at this
  exact ⟨w.mut zp cp, n.mut h0, this⟩
theorem own_lst {ds : List D} (r : SRel K cl Z C H H0 ρ σ α) (h : ρ[i]? = some (.own (.lst ds))) : ∃ a vs, σ[i]? = some (some (.ref a)) ∧ α i a ∧ H a = some (.lst vs) ∧ vs.length ≤ sizeLine ∧ OwnTL K cl Z H (fun x => α i x ∧ x ≠ a) vs ds := by
  obtain ⟨v, hv, o⟩ := r.own i _ h
  cases o with
  | leaf i _ => simp [D.isMut] at i
  | lst fa ha l t => exact ⟨_, _, hv, fa, ha, l, t⟩
theorem own_dct {ks ds : List D} (r : SRel K cl Z C H H0 ρ σ α) (h : ρ[i]? = some (.own (.dct ks ds))) : ∃ a kvs, σ[i]? = some (some (.ref a)) ∧ α i a ∧ H a = some (.dK kvs) ∧ ks = kvs.map (fun p => keyD p.1) ∧ KNd kvs ∧
    OwnTL K cl Z H (fun x => α i x ∧ x ≠ a) (kvs.map (·.2)) ds := by
  obtain ⟨v, hv, o⟩ := r.own i _ h
  cases o with
  | leaf i _ => simp [D.isMut] at i
  | dct fa ha e n t => exact ⟨_, _, hv, fa, ha, e, n, t⟩
theorem own_frz (w : Wd B true Z C H s) (n : Nx Z0 C0 H0 Z C H) (r : SRel K cl Z C H H0 ρ σ α) (h : ρ[i]? = some (.own d)) :
    ∃ Z1, Wd B true Z1 C H s ∧ Nx Z0 C0 H0 Z1 C H ∧ SRel K cl Z1 C H H0 (ρ.set i (.val (D.strip (.ins "" [d])))) σ α := by
  classical
  let Z1 : Hp := fun x => if α i x then H x else Z x
  have zin : ∀ x, α i x → Z1 x = H x := fun x hx => if_pos hx
  have zout : ∀ x, ¬ α i x → Z1 x = Z x := fun x hx => if_neg hx
  have sz : Sub Z Z1 := fun x ob e => by
    by_cases hx : α i x
    · rw [(r.fp i d x h hx).2.1] at e; cases e
    · rw [zout x hx]; exact e
  refine ⟨Z1, ⟨fun x u e => ?_, w.ch, fun x e => ?_, B.mono w.sr sz.imm, fun _ _ _ _ => trivial⟩, ⟨n.zz.trans sz, n.hh, fun x e => ?_, n.cf, n.cp, fun _ _ _ => trivial⟩, r.freeze h sz zout zin⟩
  · by_cases hx : α i x
    · rw [zin x hx] at e; exact e
    · rw [zout x hx] at e; exact w.zh x u e
  · by_cases hx : α i x
    · exact absurd (r.fp i d x h hx).2.2.1 e
    · rw [zout x hx]; exact w.dj x e
  · by_cases hx : α i x
    · exact .inr (r.fp i d x h hx).1
    · rw [zout x hx] at e; exact n.zf x e
end
/-- x = [] -/
@[simp] def sNewL (i : Nat) : SEnv → M B Fl := fun ρ => M.pure (.nx (ρ.set i (.own (.lst []))))
/-- x = {} -/
@[simp] def sNewD (i : Nat) : SEnv → M B Fl := fun ρ => M.pure (.nx (ρ.set i (.own (.dct [] []))))
/-- x.append(e) -/
@[simp] def sApp (p q : D → Bool) (i : Nat) (f : Env → M B D) : SEnv → M B Fl := fun ρ => match ρ[i]? with
  | some (.own (.lst ds)) => M.bind (f (seeE p ρ)) fun d => guardM (q d && !d.isMut && decide (ds.length < sizeLine)) (M.pure (.nx (ρ.set i (.own (.lst (ds ++ [d]))))))
  | _ => fun _ => .stuck
/-- d[k] = e -/
@[simp] def sPut (p q : D → Bool) (i : Nat) (fk f : Env → M B D) : SEnv → M B Fl := fun ρ => match ρ[i]? with
  | some (.own (.dct ks ds)) => M.bind (f (seeE p ρ)) fun d => M.bind (fk (seeE pHide ρ)) fun k => M.bind (lift k.key) fun k => guardM (q d && !d.isMut && decide (ks.length < sizeLine)) (M.pure (.nx (ρ.set i (.own (.dct (putKs ks k) (putVs ks ds k d))))))
  | _ => fun _ => .stuck
/-- what stands at k, of those in order -/
def ixK : List D → Key → Option Nat
  | [], _ => none
  | x :: ks, k => if x.key = some k then some 0 else (ixK ks k).map (· + 1)
/-- d[k].append(e) -/
@[simp] def sAppAt (p q : D → Bool) (i : Nat) (fk f : Env → M B D) : SEnv → M B Fl := fun ρ => match ρ[i]? with
  | some (.own (.dct ks ds)) => M.bind (fk (seeE pHide ρ)) fun k => M.bind (lift (k.key.bind fun k => ixK ks k)) fun j => match ds[j]? with
    | some (.ins c [.lst es]) => M.bind (f (seeE p ρ)) fun d => guardM (decide (c = "") && q d && !d.isMut && decide (es.length < sizeLine)) (M.pure (.nx (ρ.set i (.own (.dct ks (ds.set j (.ins "" [.lst (es ++ [d])])))))))
    | _ => fun _ => .stuck
  | _ => fun _ => .stuck
/-- d.setdefault(k, []).append(e) -/
@[simp] def sAppSd (p q : D → Bool) (i : Nat) (fk f : Env → M B D) : SEnv → M B Fl := fun ρ => match ρ[i]? with
  | some (.own (.dct ks ds)) => M.bind (fk (seeE pHide ρ)) fun k => M.bind (lift k.key) fun k => match ixK ks k with
    | some j => match ds[j]? with
      | some (.ins c [.lst es]) => M.bind (f (seeE p ρ)) fun d => guardM (decide (c = "") && q d && !d.isMut && decide (es.length < sizeLine) && decide (ks.length < sizeLine)) (M.pure (.nx (ρ.set i (.own (.dct ks (ds.set j (.ins "" [.lst (es ++ [d])])))))))
      | _ => fun _ => .stuck
    | none => M.bind (f (seeE p ρ)) fun d => guardM (q d && !d.isMut && decide (ks.length < sizeLine)) (M.pure (.nx (ρ.set i (.own (.dct (ks ++ [keyD k]) (ds ++ [.ins "" [.lst [d]]]))))))
  | _ => fun _ => .stuck
/-- x = e, where e may give something of one's own -/
def ownS (d : D) : Sl := match d with
  | .ins c [d'] => if c = "" then .own d' else .val d
  | d => .val d
@[simp] def sOwn (i : Nat) (f : Env → M B D) : SEnv → M B Fl := fun ρ => M.bind (f (seeE pHide ρ)) fun d => M.pure (.nx (ρ.set i (ownS d)))
/-- return x, of one's own -/
@[simp] def sRetO (i : Nat) : SEnv → M B Fl := fun ρ => match ρ[i]? with
  | some (.own d) => M.pure (.ro d)
  | some (.val d) => M.pure (.rt d)
  | _ => fun _ => .stuck
def frzS (i : Nat) (ρ : SEnv) : SEnv := match ρ[i]? with
  | some (.own d) => ρ.set i (.val (D.strip (.ins "" [d])))
  | _ => ρ
@[simp] def sFrz (i : Nat) (G : SEnv → M B Fl) : SEnv → M B Fl := fun ρ => G (frzS i ρ)
section
variable {cl : CTab} {md : Bool} {W : WX} {X : Cx} {p q : D → Bool} {i : Nat} {x : Str}
theorem ds_newL {pos pos' p2 : Pos} (hN : X.N.Nodup) (hi : X.N[i]? = some x) (hx : Loc X.env.scope x) (hs : swapsWith (.List [] p2) (some (.Name x pos')) pos.line X.env = pure false := by rfl)
    (hf : X.fn x = true ∨ X.env.scope.names.lookup x = some .local := by first | exact .inl rfl | exact .inr rfl | assumption) : DS cl B W X (.Assign [.Name x pos'] (.List [] p2) pos) (sNewL i) := by
  refine PS.weak (ps_set hN hi hx (pe_lst pa_nil) hs hf) fun E σ H ⟨Z0, C0, H0, Z, C, s, ρ, α, c0, w, n, r, q⟩ => ?_
  refine ⟨Nat.zero_le _, fun p hp => ?_⟩
  obtain ⟨w1, n1, r1⟩ := own_new (i := i) (o := .lst []) (d := .lst []) w n r hp rfl (.lst rfl upd_same (Nat.zero_le _) .nil)
  exact q _ _ _ _ _ w1 n1 r1
theorem ds_newD {pos pos' p2 : Pos} (hN : X.N.Nodup) (hi : X.N[i]? = some x) (hx : Loc X.env.scope x) (hs : swapsWith (.Dict [] [] p2) (some (.Name x pos')) pos.line X.env = pure false := by rfl)
    (hf : X.fn x = true ∨ X.env.scope.names.lookup x = some .local := by first | exact .inl rfl | exact .inr rfl | assumption) : DS cl B W X (.Assign [.Name x pos'] (.Dict [] [] p2) pos) (sNewD i) := by
  refine PS.weak (ps_set hN hi hx pe_dnewK hs hf) fun E σ H ⟨Z0, C0, H0, Z, C, s, ρ, α, c0, w, n, r, q⟩ => ?_
  intro p hp
  obtain ⟨w1, n1, r1⟩ := own_new (i := i) (o := .dK []) (d := .dct [] []) w n r hp rfl (.dct rfl upd_same rfl ⟨List.nodup_nil, fun _ h => nomatch h⟩ .nil)
  exact q _ _ _ _ _ w1 n1 r1
/-- x = e -/
theorem ds_own {e : Expr} {f : Env → M B D} {pos pos' : Pos} (hN : X.N.Nodup) (hi : X.N[i]? = some x) (hx : Loc X.env.scope x) (h : DM cl B true W X e f) (hs : swapsWith e (some (.Name x pos')) pos.line X.env = pure false := by rfl)
    (hf : X.fn x = true ∨ X.env.scope.names.lookup x = some .local := by first | exact .inl rfl | exact .inr rfl | assumption) : DS cl B W X (.Assign [.Name x pos'] e pos) (sOwn i f) := by
  refine PS.weak (ps_set hN hi hx h hs hf) fun E σ H ⟨Z0, C0, H0, Z, C, s, ρ, α, c0, w, n, r, q⟩ => ?_
  have wd := see_wd (md := true) w r seeHide.nd
  have en := see_env seeHide r
  have key : ∀ {Z1 C1 H1 : Hp} {s1 : B.T}, Wd B true Z1 C1 H1 s1 → Nx (seeZ pHide ρ α Z H) C H Z1 C1 H1 → Nx Z0 C0 H0 Z1 C1 H1 ∧ SRel X.K cl Z1 C1 H1 H0 ρ σ α := fun w1 n1 => by
    have u := see_un seeHide w c0 n r w1 n1
    have u2 := u.nx; have u3 := u.rel
    rw [unZ_hide pHide_no] at u2 u3
    exact ⟨u2, u3⟩
  refine ⟨seeZ pHide ρ α Z H, C, s, seeE pHide ρ, wd, en, ?_⟩
  unfold sOwn M.bind at q
  cases ef : f (seeE pHide ρ) s with
  | stuck => simp only [ef] at q; exact q
  | err x s1 =>
    simp only [ef] at q
    intro c dx Z1 C1 H1 w1 n1 ex
    obtain ⟨u2, _⟩ := key w1 n1
    exact q c dx σ Z1 C1 H1 w1 u2 ex
  | ok d s1 =>
    simp only [ef] at q
    intro v F Z1 C1 H1 w1 n1 hF o
    obtain ⟨u2, u3⟩ := key w1 n1
    have q : PostS X.K cl W Z0 C0 H0 (.ok (.nx (ρ.set i (ownS d))) s1) E := q
    have isV : d.isMut = false → E.nx (σ.set i (some v)) H1 := fun hd => by
      have e1 : ownS d = .val d := by
        unfold ownS
        split
        · rename_i c d'
          rw [if_neg (show ¬ _ by simpa [D.isMut] using hd)]
        · rfl
      rw [e1] at q
      cases o with
      | leaf _ rv => exact q _ Z1 C1 H1 α w1 u2 (u3.setVal rv)
      | lst => simp [D.isMut] at hd
      | dct => simp [D.isMut] at hd
    have isO : ∀ d', d = .ins "" [d'] → E.nx (σ.set i (some v)) H1 := fun d' hd => by
      subst hd
      have q : PostS X.K cl W Z0 C0 H0 (.ok (.nx (ρ.set i (.own d'))) s1) E := q
      exact q _ Z1 C1 H1 _ w1 u2 (u3.setOwn (fun _ _ _ _ _ _ _ h => h) (fun x hx => ⟨n.back w.ch (hF x hx).1, (hF x hx).2⟩) (fun j e x qq _ hx hx2 => by
        obtain ⟨_, _, _, u, hu, _⟩ := r.fp j e x qq hx2
        rw [(hF x hx).1] at hu; cases hu) o)
    cases o with
    | leaf hd _ => exact isV hd
    | lst a b c t => exact isO _ rfl
    | dct a b c n t => exact isO _ rfl
theorem ds_retO {px pos : Pos} (hv : PE X (.Name x px) (tVar i)) : DS cl B W X (.Return (some (.Name x px)) pos) (sRetO i) := by
  refine PS.weak (ps_ret hv) fun E σ H ⟨Z0, C0, H0, Z, C, s, ρ, α, c0, w, n, r, q⟩ => ?_
  unfold sRetO at q
  cases hρ : ρ[i]? with
  | none => simp only [hρ] at q; exact False.elim q
  | some sl =>
    cases sl with
    | no => simp only [hρ] at q; exact False.elim q
    | val d =>
      simp only [hρ] at q
      obtain ⟨v, h1, h2⟩ := r.val i d hρ
      exact ⟨v, h1, q v Z C H w n h2⟩
    | own d =>
      simp only [hρ] at q
      obtain ⟨v, h1, h2⟩ := r.own i d hρ
      exact ⟨v, h1, q v (α i) Z C H w n (fun y hy => r.fp i d y hρ hy) h2⟩
theorem ds_app {e : Expr} {f : Env → M B D} {px apos cpos pos : Pos} (sp : See p md) (kp : Kp p q) (hv : PE X (.Name x px) (tVar i)) (he : DE cl B md W X e f)
    (hbase : attributeBase (.Name x px) "append" X.env (eval (.Name x px) X.env) = eval (.Name x px) X.env := by rfl)
    (hfew : ((backTo cpos (starEach [e] X.env)).all (fun x => !x.1) && (backToKw cpos (keywordEach [] X.env)).all (fun x => x.1.isSome)
      && decide ([e].length + ([] : List Keyword).length + (if ([] : List Keyword).isEmpty then 0 else 1) < 30)) = true := by rfl)
    (hline : (apos.endLine == cpos.line) = true := by rfl) (hs : starEach [e] X.env = (false, eval e X.env) :: starEach [] X.env := by rfl) (hplain : (backTo cpos (starEach [] X.env)).any (·.1) = false := by rfl)
    (hsw : swapsWith (.Call (.Attribute (.Name x px) "append" apos) [e] [] cpos) none pos.line X.env = pure false := by rfl) :
    DS cl B W X (.Expr (.Call (.Attribute (.Name x px) "append" apos) [e] [] cpos) pos) (sApp p q i f) := by
  refine PS.weak (ps_expr (pe_bm PySem.F.plainAttrs_list PySem.F.slot_list_append PySem.F.type_list_append mt_append hv (pa_cons he pa_nil hs) hbase hfew hline hs hplain) hsw) fun E σ H ⟨Z0, C0, H0, Z, C, s, ρ, α, c0, w, n, r, q0⟩ => ?_
  unfold sApp at q0
  cases hρ : ρ[i]? with
  | none => simp only [hρ] at q0; exact False.elim q0
  | some sl =>
    cases sl with
    | no => simp only [hρ] at q0; exact False.elim q0
    | val d => simp only [hρ] at q0; exact False.elim q0
    | own d =>
      cases d <;> (try (simp only [hρ] at q0; exact False.elim q0))
      rename_i ds
      simp only [hρ] at q0
      obtain ⟨a, vs, hσ, fa, h1, h2, h3⟩ := own_lst r hρ
      refine ⟨_, hσ, .inl ⟨rfl, vs, SqL.of h1⟩, ?_⟩
      refine ⟨seeZ p ρ α Z H, C, s, seeE p ρ, see_wd w r sp.nd, see_env sp r, PostS.seq sp w c0 n r q0 fun d s1 v Z1 C1 H1 w1 n1 r1 q1 => ?_⟩
      have u := see_un sp w c0 n r w1 n1
      unfold guardM at q1
      split at q1
      · rename_i hq
        rw [Bool.and_eq_true, Bool.and_eq_true] at hq
        have hl : ds.length < sizeLine := of_decide_eq_true hq.2
        obtain ⟨a', vs', hσ', fa', h1', h2', h3'⟩ := own_lst u.rel hρ
        obtain rfl : a' = a := by rw [hσ] at hσ'; cases hσ'; rfl
        refine ⟨a', vs', v, rfl, rfl, h1', by rw [h3'.len]; exact hl, ?_⟩
        have rv := u.rep kp hq.1.1 r1
        obtain ⟨w2, n2, r2⟩ := own_mut (i := i) (o := .lst (vs' ++ [v])) (d' := .lst (ds ++ [d])) u.wd u.nx u.rel hρ hσ fa' rfl (fun _ h => h) (.lst fa' upd_same (by rw [List.length_append, h3'.len]; exact hl)
          ((h3'.move (.refl _) fun x ob hx ho => by rw [upd_ne hx.2]; exact ho).app (fun e he => by rw [List.mem_singleton.mp he]; simpa using hq.1.2) (.cons rv .nil)))
        exact q1 σ _ _ _ _ w2 n2 r2
      · exact False.elim q1
/-- from here on the list stays as it is -/
theorem dss_frz {rest : List Stmt} {G : SEnv → M B Fl} (h : DSs cl B W X rest G) : DSs cl B W X rest (sFrz i G) := by
  refine PSs.weak h fun E σ H ⟨Z0, C0, H0, Z, C, s, ρ, α, c0, w, n, r, q⟩ => ?_
  unfold sFrz frzS at q
  cases hρ : ρ[i]? with
  | none => simp only [hρ] at q; exact ⟨Z0, C0, H0, Z, C, s, ρ, α, c0, w, n, r, q⟩
  | some sl =>
    cases sl with
    | no => simp only [hρ] at q; exact ⟨Z0, C0, H0, Z, C, s, ρ, α, c0, w, n, r, q⟩
    | val d => simp only [hρ] at q; exact ⟨Z0, C0, H0, Z, C, s, ρ, α, c0, w, n, r, q⟩
    | own d =>
      simp only [hρ] at q
      obtain ⟨Z1, w1, n1, r1⟩ := own_frz w n r hρ
      exact ⟨Z0, C0, H0, Z1, C, s, _, α, c0, w1, n1, r1, q⟩
end
end DN
set_option Elab.async false
set_option linter.all false
set_option maxRecDepth 100000
set_option maxHeartbeats 4000000
namespace DN
open PySem PySem.Spec PyProof.Rows L2 RZ
variable {B : Sto}
/-! ## raise -/
section
variable {X : Cx} {C : Addr} {bmB : List Value} {Bn newId initId : String}
theorem pmk_own0 {x : Str} {p pos : Pos} (F : ExcBaseFacts Bn newId initId bmB) (q : PySem.W.excIn X.K C bmB newId = true) (gC : X.mg x = some (.ref C)) (kC : PySem.W.keepIn X.K (.ref C) = true) (r : Raises X (.ref C)) (hg : Gl X x)
    (hdb : (x == ("__debug__" : Str)) = false := by decide) : PMk X (.Call (.Name x p) [] [] pos) (fun _ H Q => Q (.ref C) none H) := by
  intro pins s σ H Q I h
  refine wpAny_Call_Name_kw (ld_glob I hg gC ?_ hdb)
  refine PySem.W.callWith_K0 (first := []) I.kIn kC ?_
  show wpAny _ _ (call (.ref C) []) _ _ _
  obtain ⟨bm, N, nm, qn, bs, hdct, sn, sub, ab, col, dd, k0, k1, k2, k3, k5, mN, hC, hN, hni, T⟩ := exc_obj I.kIn q
  refine wpAny_call_exc_subT F T hC hN hni (fun h' e hm => ?_) (Nat.zero_le _)
  exact mk_of I hm r h (I.hok.gone hm.new)
end
/-- an own error without a field -/
structure RaiseAt (K : PySem.W.Frag) (mg : Str → Option Value) (cl : CTab) (x : Str) (C : Addr) : Prop where
  c : cl x = some (C, [])
  mg : mg x = some (.ref C)
  xf : PySem.W.excIn K C [.type "ValueError", .type "Exception", .type "BaseException", .type "object"] "ValueError.__new__" = true
  kc : PySem.W.keepIn K (.ref C) = true
  bf : PySem.W.subIn K (.ref C) (.type "BaseException") = some true
  tf : PySem.W.typeIn K (.ref C) = some (.type "type")
def sRaise (x : Str) : SEnv → M B Fl := fun _ s => .err ⟨x, none⟩ s
section
variable {cl : CTab} {W : WX} {X : Cx} {x : Str} {C : Addr}
theorem ds_raise0 {p pos pos' : Pos} (R : RaiseAt X.K X.mg cl x C) (hc : X.calm = true) (tk : Takes X W) (hg : Gl X x) (hdb : (x == ("__debug__" : Str)) = false := by decide) :
    DS cl B W X (.Raise (some (.Call (.Name x p) [] [] pos)) none pos') (sRaise x) :=
  PS.weak (ps_raise hc tk (pmk_own0 PySem.F.excBase_ValueError R.xf R.mg R.kc (raises_own R.bf R.tf) hg hdb)) fun E σ H ⟨Z0, C0, H0, Z, C1, s, ρ, α, c0, w, n, r, q⟩ =>
    q (.ref C) none σ Z C1 H w n ⟨C, [], R.c, rfl, rfl, rfl⟩
end
/-! ## a try's body: where it raises is told with the locals there -/
inductive Fx where
  | fl (f : Fl) | ex (x : Exn) (ρ : SEnv)
def PostX (K : PySem.W.Frag) (cl : CTab) (W : WX) (Z0 C0 H0 : Hp) (r : Res B.T Fx) (E : Ends) : Prop :=
  match r with
  | .ok (.fl f) s => PostS (B := B) K cl W Z0 C0 H0 (.ok f s) E
  | .ok (.ex x ρ) s => ∀ c dx σ Z C H α, Wd B true Z C H s → Nx Z0 C0 H0 Z C H → SRel K cl Z C H H0 ρ σ α → ExR K cl Z x c dx H → W c dx σ H
  | .err _ _ => False
  | .stuck => False
def tX (K : PySem.W.Frag) (cl : CTab) (B : Sto) (W : WX) (F : SEnv → M B Fx) : TS := fun E σ H => ∃ Z0 C0 H0 Z C s ρ α, Sub C0 H0 ∧ Wd B true Z C H s ∧ Nx Z0 C0 H0 Z C H ∧ SRel K cl Z C H H0 ρ σ α ∧ PostX K cl W Z0 C0 H0 (F ρ s) E
def DX1 (cl : CTab) (B : Sto) (W : WX) (X : Cx) (st : Stmt) (F : SEnv → M B Fx) : Prop := PS X st (tX X.K cl B W F)
def DXs (cl : CTab) (B : Sto) (W : WX) (X : Cx) (st : List Stmt) (F : SEnv → M B Fx) : Prop := PSs X st (tX X.K cl B W F)
def catchX {α : Type} (ρ : SEnv) (m : M B α) (k : α → M B Fx) : M B Fx := fun s => match m s with
  | .ok a s' => k a s'
  | .err x s' => .ok (.ex x ρ) s'
  | .stuck => .stuck
@[simp] def xSeq (F G : SEnv → M B Fx) : SEnv → M B Fx := fun ρ => M.bind (F ρ) fun r => match r with
  | .fl (.nx ρ') => G ρ'
  | o => M.pure o
@[simp] def xSet (i : Nat) (f : Env → M B D) : SEnv → M B Fx := fun ρ => catchX ρ (f (seeE pHide ρ)) fun d => M.pure (.fl (.nx (ρ.set i (.val d))))
@[simp] def xEx (f : Env → M B D) : SEnv → M B Fx := fun ρ => catchX ρ (f (seeE pHide ρ)) fun _ => M.pure (.fl (.nx ρ))
@[simp] def xRet (f : Env → M B D) : SEnv → M B Fx := fun ρ => catchX ρ (f (seeE pHide ρ)) fun d => M.pure (.fl (.rt d))
@[simp] def xIff (t : Env → M B Bool) (F G : SEnv → M B Fx) : SEnv → M B Fx := fun ρ => catchX ρ (t (seeE pHide ρ)) fun k => if k = true then F ρ else G ρ
@[simp] def xPass : SEnv → M B Fx := fun ρ => M.pure (.fl (.nx ρ))
section
variable {cl : CTab} {W : WX} {X : Cx}
theorem unZ_pHide {ρ : SEnv} {α : Nat → Addr → Prop} {Z1 : Hp} : unZ pHide ρ α Z1 = Z1 := unZ_hide pHide_no
theorem PostX.seq {K : PySem.W.Frag} {Z C H H0 Z0 C0 : Hp} {ρ : SEnv} {σ : L2.St} {α : Nat → Addr → Prop} {s : B.T} {υ β : Type} {Rp : Hp → υ → β → Prop} {m : M B β} {k : β → M B Fx} {E : Ends} {Q1 : υ → Hp → Prop} (w : Wd B true Z C H s) (c0 : Sub C0 H0) (n : Nx Z0 C0 H0 Z C H) (r : SRel K cl Z C H H0 ρ σ α)
    (h : PostX K cl W Z0 C0 H0 (catchX ρ m k s) E)
    (hk : ∀ a s1 v Z1 C1 H1, Wd B true Z1 C1 H1 s1 → Nx Z0 C0 H0 Z1 C1 H1 → SRel K cl Z1 C1 H1 H0 ρ σ α → Rp Z1 v a → PostX K cl W Z0 C0 H0 (k a s1) E → Q1 v H1) : Post K cl true Rp W σ (seeZ pHide ρ α Z H) C H (m s) Q1 := by
  unfold catchX at h
  have key : ∀ {Z1 C1 H1 : Hp} {s1 : B.T}, Wd B true Z1 C1 H1 s1 → Nx (seeZ pHide ρ α Z H) C H Z1 C1 H1 → Nx Z0 C0 H0 Z1 C1 H1 ∧ SRel K cl Z1 C1 H1 H0 ρ σ α := fun w1 n1 => by
    have u := see_un seeHide w c0 n r w1 n1
    have u2 := u.nx; have u3 := u.rel
    rw [unZ_pHide] at u2 u3
    exact ⟨u2, u3⟩
  cases e : m s with
  | ok a s1 =>
    simp only [e] at h
    exact fun v Z1 C1 H1 w1 n1 r1 => by
      obtain ⟨u2, u3⟩ := key w1 n1
      exact hk a s1 v Z1 C1 H1 w1 u2 u3 r1 h
  | err x s1 =>
    simp only [e] at h
    intro c dx Z1 C1 H1 w1 n1 ex
    obtain ⟨u2, u3⟩ := key w1 n1
    exact h c dx σ Z1 C1 H1 α w1 u2 u3 ex
  | stuck => simp only [e] at h; exact h
theorem dxs_nil : DXs cl B W X [] xPass := PSs.weak pss_nil fun E σ H ⟨Z0, C0, H0, Z, C, s, ρ, α, c0, w, n, r, p⟩ => p σ Z C H α w n r
theorem dxs_one {st : Stmt} {F : SEnv → M B Fx} (h : DX1 cl B W X st F) : DXs cl B W X [st] F := pss_one h
theorem dxs_cons {st : Stmt} {rest : List Stmt} {F G : SEnv → M B Fx} (h : DX1 cl B W X st F) (t : DXs cl B W X rest G) : DXs cl B W X (st :: rest) (xSeq F G) := by
  refine PSs.weak (pss_cons h t) fun E σ H ⟨Z0, C0, H0, Z, C, s, ρ, α, c0, w, n, r, p⟩ => ?_
  refine ⟨Z0, C0, H0, Z, C, s, ρ, α, c0, w, n, r, ?_⟩
  unfold xSeq M.bind at p
  cases hF : F ρ s with
  | stuck => simp only [hF] at p; exact p
  | err x s1 => simp only [hF] at p; exact p
  | ok fl s1 =>
    simp only [hF] at p
    cases fl with
    | ex x ρ1 => exact p
    | fl f =>
      cases f with
      | nx ρ1 => exact fun σ1 Z1 C1 H1 α1 w1 n1 r1 => ⟨Z0, C0, H0, Z1, C1, s1, ρ1, α1, c0, w1, n1, r1, p⟩
      | rt d => exact p
      | ro d => exact p
      | bk ρ1 => exact p
      | ct ρ1 => exact p
theorem dx_set {i : Nat} {x : Str} {e : Expr} {f : Env → M B D} {pos pos' : Pos} (hN : X.N.Nodup) (hi : X.N[i]? = some x) (hx : Loc X.env.scope x) (h : DE cl B true W X e f) (hs : swapsWith e (some (.Name x pos')) pos.line X.env = pure false := by rfl)
    (hf : X.fn x = true ∨ X.env.scope.names.lookup x = some .local := by first | exact .inl rfl | exact .inr rfl | assumption) : DX1 cl B W X (.Assign [.Name x pos'] e pos) (xSet i f) := by
  refine PS.weak (ps_set hN hi hx h hs hf) fun E σ H ⟨Z0, C0, H0, Z, C, s, ρ, α, c0, w, n, r, q⟩ => ?_
  refine ⟨seeZ pHide ρ α Z H, C, s, seeE pHide ρ, see_wd w r seeHide.nd, see_env seeHide r, PostX.seq w c0 n r q fun d s1 v Z1 C1 H1 w1 n1 r1 rv q1 => ?_⟩
  exact q1 _ Z1 C1 H1 α w1 n1 (r1.setVal rv)
theorem dx_expr {e : Expr} {f : Env → M B D} {pos : Pos} (h : DE cl B true W X e f) (hs : swapsWith e none pos.line X.env = pure false := by rfl) : DX1 cl B W X (.Expr e pos) (xEx f) := by
  refine PS.weak (ps_expr h hs) fun E σ H ⟨Z0, C0, H0, Z, C, s, ρ, α, c0, w, n, r, q⟩ => ?_
  refine ⟨seeZ pHide ρ α Z H, C, s, seeE pHide ρ, see_wd w r seeHide.nd, see_env seeHide r, PostX.seq w c0 n r q fun d s1 v Z1 C1 H1 w1 n1 r1 rv q1 => ?_⟩
  exact q1 σ Z1 C1 H1 α w1 n1 r1
theorem dx_ret {e : Expr} {f : Env → M B D} {pos : Pos} (h : DE cl B true W X e f) : DX1 cl B W X (.Return (some e) pos) (xRet f) := by
  refine PS.weak (ps_ret h) fun E σ H ⟨Z0, C0, H0, Z, C, s, ρ, α, c0, w, n, r, q⟩ => ?_
  refine ⟨seeZ pHide ρ α Z H, C, s, seeE pHide ρ, see_wd w r seeHide.nd, see_env seeHide r, PostX.seq w c0 n r q fun d s1 v Z1 C1 H1 w1 n1 r1 rv q1 => ?_⟩
  exact q1 v Z1 C1 H1 w1 n1 rv
theorem dx_if {c : Expr} {a b : List Stmt} {t : Env → M B Bool} {F G : SEnv → M B Fx} {pos : Pos} (hc : DT cl B true W X c t) (ha : DXs cl B W X a F) (hb : DXs cl B W X b G) : DX1 cl B W X (.If c a b pos) (xIff t F G) := by
  refine PS.weak (ps_if hc ha hb) fun E σ H ⟨Z0, C0, H0, Z, C, s, ρ, α, c0, w, n, r, q⟩ => ?_
  refine ⟨seeZ pHide ρ α Z H, C, s, seeE pHide ρ, see_wd w r seeHide.nd, see_env seeHide r, PostX.seq w c0 n r q fun k s1 v Z1 C1 H1 w1 n1 r1 rv q1 => ?_⟩
  have rv : v = k := rv
  subst rv
  cases v with
  | true => exact ⟨Z0, C0, H0, Z1, C1, s1, ρ, α, c0, w1, n1, r1, q1⟩
  | false => exact ⟨Z0, C0, H0, Z1, C1, s1, ρ, α, c0, w1, n1, r1, q1⟩
end
/-! ## try -/
/-- what a clause catches -/
abbrev Hnd (B : Sto) := (Str → Option Bool) × (SEnv → M B Fl)
def hGo : List (Hnd B) → Exn → SEnv → M B Fl
  | [], x, _ => fun s => .err x s
  | (t, G) :: r, x, ρ => match t x.c with
    | some true => noErr (G ρ)
    | some false => hGo r x ρ
    | none => fun _ => .stuck
@[simp] def sTry (F : SEnv → M B Fx) (hs : List (Hnd B)) : SEnv → M B Fl := fun ρ => M.bind (noErr (F ρ)) fun r => match r with
  | .fl f => M.pure f
  | .ex x ρ' => hGo hs x ρ'
/-- the class at C catches what t says -/
def CatchAt (K : PySem.W.Frag) (cl : CTab) (t : Str → Option Bool) (C : Addr) : Prop := ∀ x A fs b, t x = some b → cl x = some (A, fs) → PySem.W.exmOne K (.ref A) (.ref C) = some b
section
variable {cl : CTab} {W : WX} {X : Cx}
inductive HOkD (cl : CTab) (B : Sto) (X : Cx) : List ExceptHandler → List (Hnd B) → Prop
  | nil : HOkD cl B X [] []
  | cons {x : Str} {C : Addr} {t : Str → Option Bool} {G : SEnv → M B Fl} {b₀ : Stmt} {suite : List Stmt} {np pos' : Pos} {hds : List ExceptHandler} {l : List (Hnd B)} (hg : Gl X x) (hm : X.mg x = some (.ref C)) (hc : CatchAt X.K cl t C)
      (hsu : ∀ (a : Addr) (pn : List (Addr × Obj)), DSs cl B W0 (X.suite a pn) (b₀ :: suite) G) (r : HOkD cl B X hds l) (hdb : (x == ("__debug__" : Str)) = false := by decide) :
      HOkD cl B X (.ExceptHandler (some (.Name x np)) none (b₀ :: suite) pos' :: hds) ((t, G) :: l)
theorem hgo_ok {hds : List ExceptHandler} {l : List (Hnd B)} (h : HOkD cl B X hds l) : ∃ l', HdsOk X hds l' ∧ ∀ (E : Ends) (x : Exn) (ρ : SEnv) (s : B.T) (Z0 C0 H0 : Hp), Sub C0 H0 → PostS X.K cl W Z0 C0 H0 (hGo l x ρ s) E →
    ∀ c dx σ Z C H α, Wd B true Z C H s → Nx Z0 C0 H0 Z C H → SRel X.K cl Z C H H0 ρ σ α → ExR X.K cl Z x c dx H → wMany X.K W E l' c dx σ H := by
  induction h with
  | nil => exact ⟨[], .nil, fun E x ρ s Z0 C0 H0 c0 p c dx σ Z C H α w n r ex => p c dx σ Z C H w n ex⟩
  | @cons x C t G b₀ suite np pos' hds l hg hm hc hsu r hdb ih =>
    obtain ⟨l', h1, h2⟩ := ih
    refine ⟨(.ref C, fun _ _ _ => tS X.K cl B W0 G) :: l', .cons ⟨hg, hdb, .inl hm⟩ (fun a oe cls d pn _ _ => hsu a _) h1, fun E x1 ρ s Z0 C0 H0 c0 p c dx σ Z Ch H α w n r1 ex => ?_⟩
    obtain ⟨A, fs, e1, e2, e3⟩ := id ex
    unfold hGo at p
    cases ht : t x1.c with
    | none => rw [ht] at p; exact False.elim p
    | some b =>
      rw [ht] at p
      refine ⟨b, by rw [e2]; exact hc _ _ _ _ ht e1, fun hb a ha => ?_, fun hb => ?_⟩
      · subst hb
        simp only at p
        refine ⟨Z0, C0, H0, Z, Ch, s, ρ, α, c0, w, n, r1, ?_⟩
        unfold noErr at p
        cases hG : G ρ s with
        | ok f s1 => simp only [hG] at p; cases f <;> exact p
        | err y s1 => simp only [hG] at p; exact False.elim p
        | stuck => simp only [hG] at p; exact False.elim p
      · subst hb
        exact h2 E x1 ρ s Z0 C0 H0 c0 p c dx σ Z Ch H α w n r1 ex
theorem ds_try {body : List Stmt} {h₀ : ExceptHandler} {hds : List ExceptHandler} {pos : Pos} {F : SEnv → M B Fx} {l : List (Hnd B)} (hs : X.stack = X.env :: X.outer) (hf : X.env.frame = some X.env.locals) (tk : Takes X W)
    (hb : ∀ (W : WX) (pn : List (Addr × Obj)) (xe : Value → Shared → Prop), Takes (X.tr pn xe) W → PassesOwn (model X.prog X.w) X.A X.env xe → DXs cl B W (X.tr pn xe) body F) (hh : HOkD cl B X (h₀ :: hds) l) :
    DS cl B W X (.Try body (h₀ :: hds) [] [] pos) (sTry F l) := by
  obtain ⟨l', h1, h2⟩ := hgo_ok (W := W) hh
  refine PS.weak (ps_try_many (tb := fun W => tX X.K cl B W F) hs hf tk (fun W pn xe tk ps => hb W pn xe tk ps) h1) fun E σ H ⟨Z0, C0, H0, Z, C, s, ρ, α, c0, w, n, r, q⟩ => ?_
  refine ⟨Z0, C0, H0, Z, C, s, ρ, α, c0, w, n, r, ?_⟩
  unfold sTry M.bind noErr at q
  cases hF : F ρ s with
  | stuck => simp only [hF] at q; exact q
  | err x s1 => simp only [hF] at q; exact False.elim q
  | ok fl s1 =>
    simp only [hF] at q
    cases fl with
    | fl f => cases f <;> exact q
    | ex x ρ1 => exact fun c dx σ1 Z1 C1 H1 α1 w1 n1 r1 ex => h2 E x ρ1 s1 Z0 C0 H0 c0 q c dx σ1 Z1 C1 H1 α1 w1 n1 r1 ex
end
end DN
set_option Elab.async false
set_option linter.all false
set_option maxRecDepth 100000
set_option maxHeartbeats 4000000
namespace DN
open PySem PySem.Spec PyProof.Rows L2 RZ
variable {B : Sto}
/-! ## fields of several classes -/
def fldMs {K : PySem.W.Frag} {cl : CTab} (cs : List Str) (i : Nat) (x : D) : M (MemS K cl) D := match x with
  | .ins c' ds => lift (if c' ∈ cs then ds[i]? else none)
  | .ref a => M.bind (rdM a) fun l => lift (match l with
    | .ins c' ds => if c' ∈ cs then ds[i]? else none
    | _ => none)
  | _ => fun _ => .stuck
@[simp] abbrev xFlds {K : PySem.W.Frag} {cl : CTab} (cs : List Str) (i : Nat) (f : Env → M (MemS K cl) D) : Env → M (MemS K cl) D := fun ρ => M.bind (f ρ) (fldMs cs i)
section
variable {cl : CTab} {md : Bool} {W : WX} {X : Cx}
theorem de_flds {e : Expr} {f : Env → M (MemS X.K cl) D} {cs : List Str} {fl : Str} {i : Nat} {pos : Pos} (F : ∀ c ∈ cs, FldAt X.K cl c fl i) (h0 : cs ≠ []) (he : DE cl (MemS X.K cl) md W X e f) (hb : attributeBase e fl X.env (eval e X.env) = eval e X.env := by rfl) :
    DE cl (MemS X.K cl) md W X (.Attribute e fl pos) (xFlds cs i f) := by
  refine ⟨fun pins s σ H Q I ⟨Z, C, st, ρ, w, en, p⟩ => ?_⟩
  have use : ∀ c ∈ cs, Post X.K cl md (RpD X.K cl) W σ Z C H (M.bind (f ρ) (fldM c i) st) Q → wpAny (model X.prog X.w) X.A (eval (.Attribute e fl pos) X.env) (EP X pins σ Q) X.xe s := fun c hc p' =>
    (de_fld (F c hc) he hb).run pins s σ H Q I ⟨Z, C, st, ρ, w, en, p'⟩
  obtain ⟨c0, hc0⟩ : ∃ c, c ∈ cs := by
    cases cs with
    | nil => exact absurd rfl h0
    | cons c cs => exact ⟨c, List.mem_cons_self⟩
  have p : Post X.K cl md (RpD X.K cl) W σ Z C H (M.bind (f ρ) (fldMs cs i) st) Q := p
  unfold M.bind at p
  cases ef : f ρ st with
  | stuck => simp only [ef] at p; exact False.elim p
  | err x s1 =>
    simp only [ef] at p
    refine use c0 hc0 ?_
    unfold M.bind
    simp only [ef]
    exact p
  | ok d s1 =>
    simp only [ef] at p
    have go : ∀ c ∈ cs, fldMs cs i d s1 = fldM (K := X.K) (cl := cl) c i d s1 → wpAny (model X.prog X.w) X.A (eval (.Attribute e fl pos) X.env) (EP X pins σ Q) X.xe s := fun c hc eq => by
      refine use c hc ?_
      unfold M.bind
      simp only [ef]
      rw [← eq]
      exact p
    cases d <;> (try (exact False.elim p))
    · rename_i c' ds
      by_cases hc : c' ∈ cs
      · exact go c' hc (by simp [fldMs, fldM, hc])
      · simp only [fldMs, hc, if_false] at p
        exact False.elim p
    · rename_i a
      cases em : s1 a with
      | none => simp only [fldMs, rdM, M.bind, em] at p; exact False.elim p
      | some l =>
        cases l <;> (try (simp only [fldMs, rdM, M.bind, em] at p; exact False.elim p))
        rename_i c' ds
        by_cases hc : c' ∈ cs
        · exact go c' hc (by simp [fldMs, fldM, rdM, M.bind, em, hc])
        · simp only [fldMs, rdM, M.bind, em, hc, if_false] at p
          exact False.elim p
end
section
variable {K : PySem.W.Frag} {cl : CTab} {c : Str} {cs : List Str} {i : Nat} {ds : List D} {d : D} {p : Addr} {s : Mem}
@[simp] theorem flds_ins (h : c ∈ cs) : fldMs (K := K) (cl := cl) cs i (.ins c ds) = lift ds[i]? := by simp [fldMs, h]
theorem wp_fldsr {R : D → Mem → Prop} (h : s p = some (.ins c ds)) (hc : c ∈ cs) (hi : ds[i]? = some d) : wp (fldMs (K := K) (cl := cl) cs i (.ref p)) R s ↔ R d s := by
  simp [wp, fldMs, rdM, M.bind, h, hi, hc, lift, M.pure]
end
/-! ## dict displays -/
abbrev RpP (K : PySem.W.Frag) (cl : CTab) : Hp → List (V × V) → List (D × D) → Prop := fun Z ps ds => RepL K cl Z (ps.map (·.1)) (ds.map (·.1)) ∧ RepL K cl Z (ps.map (·.2)) (ds.map (·.2))
def DP (cl : CTab) (B : Sto) (md : Bool) (W : WX) (X : Cx) (pos : Pos) (ks : List (Option Expr)) (vs : List Expr) (f : Env → M B (List (D × D))) : Prop :=
  ∃ trs, PPs X pos ks vs trs ∧ ∀ σ H Q, tG X.K cl B md (RpP X.K cl) W f σ H Q → tPairs trs σ H Q
@[simp] abbrev pN : Env → M B (List (D × D)) := fun _ => M.pure []
@[simp] abbrev pC (f g : Env → M B D) (h : Env → M B (List (D × D))) : Env → M B (List (D × D)) := fun ρ => M.bind (f ρ) fun x => M.bind (g ρ) fun y => M.bind (h ρ) fun r => M.pure ((x, y) :: r)
@[simp] abbrev xDct (f : Env → M B (List (D × D))) : Env → M B D := fun ρ => M.bind (f ρ) fun ps => lift (DN.putAll [] [] ps)
section
variable {cl : CTab} {md : Bool} {W : WX} {X : Cx}
theorem dp_nil {pos : Pos} : DP cl B md W X pos [] [] pN := ⟨[], pps_nil, fun σ H Q ⟨Z, C, s, ρ, w, e, p⟩ => p [] Z C H w (.refl ..) ⟨.nil, .nil⟩⟩
theorem dp_cons {pos : Pos} {k v : Expr} {ks : List (Option Expr)} {vs : List Expr} {f g : Env → M B D} {h : Env → M B (List (D × D))} (hk : DE cl B md W X k f) (hv : DE cl B md W X v g) (hr : DP cl B md W X pos ks vs h) :
    DP cl B md W X pos (some k :: ks) (v :: vs) (pC f g h) := by
  obtain ⟨trs, h1, h2⟩ := hr
  refine ⟨_, pps_cons hk hv h1, fun σ H Q ⟨Z, C, s, ρ, w, e, p⟩ => ?_⟩
  refine ⟨Z, C, s, ρ, w, e, Post.seq w.ch p fun dx s1 x Z1 C1 H1 w1 n1 r1 p1 => ?_⟩
  refine ⟨Z1, C1, s1, ρ, w1, e.mono n1.zz, Post.seq w1.ch p1 fun dy s2 y Z2 C2 H2 w2 n2 r2 p2 => ?_⟩
  refine h2 σ H2 _ ⟨Z2, C2, s2, ρ, w2, (e.mono n1.zz).mono n2.zz, Post.seq w2.ch p2 fun dr s3 r Z3 C3 H3 w3 n3 r3 p3 => ?_⟩
  exact p3 ((x, y) :: r) Z3 C3 H3 w3 (.refl ..) ⟨.cons ((r1.mono n2.zz).mono n3.zz) r3.1, .cons (r2.mono n3.zz) r3.2⟩
theorem putAll_rep {K : PySem.W.Frag} {Z : Hp} : ∀ {dps : List (D × D)} {ps : List (V × V)} {kvs : List (Key × V)} {ks ds : List D} {d : D}, RpP K cl Z ps dps → ks = kvs.map (fun p => keyD p.1) → KNd kvs → RepL K cl Z (kvs.map (·.2)) ds → DN.putAll ks ds dps = some d →
    ∃ more : List (Key × V), ps = more.map (fun kv => (kV kv.1, kv.2)) ∧ ∃ ks' ds', d = .dct ks' ds' ∧ ks' = (mergeK kvs more).map (fun p => keyD p.1) ∧ KNd (mergeK kvs more) ∧ RepL K cl Z ((mergeK kvs more).map (·.2)) ds'
  | [], ps, kvs, ks, ds, d, r, e, nd, h, q => by
    cases ps with
    | cons a b => cases r.1
    | nil =>
      cases q
      exact ⟨[], rfl, ks, ds, rfl, e, nd, h⟩
  | (k, v) :: dps, ps, kvs, ks, ds, d, r, e, nd, h, q => by
    cases ps with
    | nil => cases r.1
    | cons a ps =>
      obtain ⟨r1, r2⟩ := r
      cases r1 with
      | cons ra rb =>
        cases r2 with
        | cons rc rd =>
          unfold DN.putAll at q
          cases hk : k.key with
          | none => rw [hk] at q; cases q
          | some kk =>
            rw [hk] at q
            have q : DN.putAll (putKs ks kk) (putVs ks ds kk v) dps = some d := q
            cases key_eq hk
            obtain ⟨h1, h2, h3, _⟩ := put_rep (keyOk_rep ra) rc e nd h
            obtain ⟨more, h4, h5⟩ := putAll_rep (kvs := putK kvs kk a.2) ⟨rb, rd⟩ h1 h2 h3 q
            refine ⟨(kk, a.2) :: more, ?_, h5⟩
            rw [List.map_cons, ← h4, ← kV_of_rep ra]
theorem putAll_len : ∀ {dps : List (D × D)} {ps : List (V × V)} {K : PySem.W.Frag} {Z : Hp}, RpP K cl Z ps dps → ps.length = dps.length := by
  intro dps ps K Z r
  have := r.1.len
  rw [List.length_map, List.length_map] at this
  exact (by omega)
theorem de_disp {pos : Pos} {ks : List (Option Expr)} {vs : List Expr} {f : Env → M B (List (D × D))} (h : DP cl B md W X pos ks vs f) (hall : ks.all (·.isSome) = true) (hl : ks.length = vs.length) (h0 : ks ≠ []) (h15 : ks.length ≤ 15) (hlen : ∀ ρ s ps s', f ρ s = .ok ps s' → ps.length ≤ 15) :
    DE cl B md W X (.Dict ks vs pos) (xDct f) := by
  obtain ⟨trs, h1, h2⟩ := h
  refine PE.weak (pe_disp h1 hall hl h0 h15) fun σ H Q ⟨Z, C, s, ρ, w, e, p⟩ => ?_
  intro px hp
  have zp := none_of_sub w.zh hp
  have cp := none_of_sub w.ch hp
  have n0 : Nx Z C H Z C (upd H px (.dK [])) := (Nx.refl Z C H).mut hp
  have w0 : Wd B md Z C (upd H px (.dK [])) s := w.mut zp cp
  have p : Post X.K cl md (RpD X.K cl) W σ Z C H (M.bind (f ρ) (fun ps => lift (DN.putAll [] [] ps)) s) Q := p
  have p0 := Post.step n0 w.ch w0.ch p
  have hl2 := hlen ρ s
  refine h2 σ _ _ ⟨Z, C, s, ρ, w0, e, ?_⟩
  unfold M.bind at p0 p
  cases ef : f ρ s with
  | stuck => simp only [ef] at p0; exact p0
  | err x s1 => simp only [ef] at p0; exact p0
  | ok dps s1 =>
    simp only [ef] at p
    intro ps Z2 C2 H2 w2 n2 r2
    obtain ⟨hh, hz, hc⟩ := n2.own upd_same zp cp
    cases hd : DN.putAll [] [] dps with
    | none => rw [hd] at p; exact False.elim p
    | some d =>
      rw [hd] at p
      obtain ⟨more, h4, ks', ds', h5, h6, h7, h8⟩ := putAll_rep (kvs := []) (ks := []) (ds := []) r2 rfl ⟨List.nodup_nil, fun _ h => nomatch h⟩ .nil hd
      refine ⟨hh, more, h4, ?_, ?_⟩
      · have := hl2 dps s1 ef
        rw [← putAll_len r2, h4, List.length_map] at this
        exact this
      · subst h5
        have sz : Sub Z2 (upd Z2 px (.dK (mergeK [] more))) := Sub.upd hz
        have back : ∀ x, x ≠ px → upd H px (.dK []) x = none → H x = none := fun x hx q => by rwa [upd_ne hx] at q
        refine p (.ref px) (upd Z2 px (.dK (mergeK [] more))) C2 _ ⟨fun x u q => ?_, fun x u q => ?_, fun x q => ?_, B.mono w2.sr sz.imm, fun _ _ _ _ => trivial⟩ ⟨n2.zz.trans sz, fun x u q hcx => ?_, fun x q => ?_, fun x q => ?_, n2.cp, fun _ _ _ => trivial⟩ (.dct (.inl upd_same) h6 h7 (h8.mono sz))
        · by_cases hx : x = px
          · rw [hx, upd_same] at q ⊢; exact q
          · rw [upd_ne hx] at q ⊢; exact w2.zh x u q
        · by_cases hx : x = px
          · rw [hx, hc] at q; cases q
          · rw [upd_ne hx]; exact w2.ch x u q
        · by_cases hx : x = px
          · rw [hx] at q; exact absurd hc q
          · rw [upd_ne hx]; exact w2.dj x q
        · have hx : x ≠ px := fun z => by rw [z, hp] at q; cases q
          rw [upd_ne hx]
          exact n2.hh x u (by rw [upd_ne hx]; exact q) hcx
        · by_cases hx : x = px
          · rw [hx]; exact .inr hp
          · rw [upd_ne hx] at q
            exact (n2.zf x q).imp id (back x hx)
        · by_cases hx : x = px
          · rw [hx]; exact .inr hp
          · exact (n2.cf x q).imp id (back x hx)
/-- {} -/
theorem de_dct0 {pos : Pos} : DE cl B md W X (.Dict [] [] pos) (fun _ => M.pure (.dct [] [])) := by
  refine PE.weak pe_dnewK fun σ H Q ⟨Z, C, s, ρ, w, e, p⟩ => ?_
  intro px hp
  have zp := none_of_sub w.zh hp
  have sz : Sub Z (upd Z px (.dK [])) := Sub.upd zp
  have al : Al Z H (upd Z px (.dK [])) (upd H px (.dK [])) := by
    refine ⟨sz, Sub.upd hp, fun x u q => ?_, fun x q => ?_, fun _ _ _ => trivial⟩
    · by_cases hx : x = px
      · rw [hx, upd_same] at q ⊢; exact q
      · rw [upd_ne hx] at q ⊢; exact w.zh x u q
    · by_cases hx : x = px
      · rw [hx]; exact .inr hp
      · rw [upd_ne hx] at q; exact .inl q
  exact p (.ref px) _ C _ (al.wd w) al.nx (.dct (.inl upd_same) rfl ⟨List.nodup_nil, fun _ h => nomatch h⟩ .nil)

/-- so many pairs -/
def PL (f : Env → M B (List (D × D))) (n : Nat) : Prop := ∀ ρ s ps s', f ρ s = .ok ps s' → ps.length = n
theorem pl_nil : PL (B := B) pN 0 := fun ρ s ps s' h => by cases h; rfl
theorem pl_cons {f g : Env → M B D} {h : Env → M B (List (D × D))} {n : Nat} (q : PL h n) : PL (pC f g h) (n + 1) := fun ρ s ps s' e => by
  have e : M.bind (f ρ) (fun x => M.bind (g ρ) fun y => M.bind (h ρ) fun r => M.pure ((x, y) :: r)) s = .ok ps s' := e
  unfold M.bind at e
  cases e1 : f ρ s with
  | stuck => simp only [e1] at e; cases e
  | err x s1 => simp only [e1] at e; cases e
  | ok x s1 =>
    simp only [e1] at e
    cases e2 : g ρ s1 with
    | stuck => simp only [e2] at e; cases e
    | err x s1 => simp only [e2] at e; cases e
    | ok y s2 =>
      simp only [e2] at e
      cases e3 : h ρ s2 with
      | stuck => simp only [e3] at e; cases e
      | err x s1 => simp only [e3] at e; cases e
      | ok r s3 =>
        simp only [e3] at e
        cases e
        rw [List.length_cons, q _ _ _ _ e3]
theorem de_dispN {pos : Pos} {ks : List (Option Expr)} {vs : List Expr} {f : Env → M B (List (D × D))} {n : Nat} (h : DP cl B md W X pos ks vs f) (pl : PL f n) (hn : n ≤ 15 := by decide) (hall : ks.all (·.isSome) = true := by rfl) (hl : ks.length = vs.length := by rfl) (h0 : ks ≠ [] := by exact List.cons_ne_nil _ _) (h15 : ks.length ≤ 15 := by decide) :
    DE cl B md W X (.Dict ks vs pos) (xDct f) := de_disp h hall hl h0 h15 fun ρ s ps s' e => by rw [pl ρ s ps s' e]; exact hn
/-- a store into a field of one of several classes -/
def setfMs {K : PySem.W.Frag} {cl : CTab} (cs : List Str) (i : Nat) (x d : D) : M (MemS K cl) Unit := fun m => match x with
  | .ref a => match m a with
    | some (.ins c' ds) => if c' ∈ cs ∧ d.imm = true ∧ i = ds.length then .ok () (updM m a (some (.ins c' (ds ++ [d])))) else .stuck
    | _ => .stuck
  | _ => .stuck
@[simp] abbrev sSetFs {K : PySem.W.Frag} {cl : CTab} (p : D → Bool) (cs : List Str) (i : Nat) (fo f : Env → M (MemS K cl) D) : SEnv → M (MemS K cl) Fl := fun ρ => M.bind (f (seeE p ρ)) fun d => M.bind (fo (seeE pHide ρ)) fun x => M.bind (setfMs cs i x d) fun _ => M.pure (.nx ρ)
theorem wp_setfs {K : PySem.W.Frag} {cl : CTab} {c : Str} {cs : List Str} {i : Nat} {ds : List D} {d : D} {p : Addr} {s : Mem} {R : Unit → Mem → Prop} (h : s p = some (.ins c ds)) (hc : c ∈ cs) (hi : i = ds.length) (im : d.imm = true) : wp (setfMs (K := K) (cl := cl) cs i (.ref p) d) R s ↔ R () (updM s p (some (.ins c (ds ++ [d])))) := by
  simp [wp, setfMs, h, im, hi, hc]
end
section
variable {cl : CTab} {md : Bool} {W : WX} {X : Cx} {p : D → Bool}
theorem ds_setfs {fl : Str} {i : Nat} {cs : List Str} {o e : Expr} {fo f : Env → M (MemS X.K cl) D} {apos pos : Pos} (F : ∀ c ∈ cs, FldAt X.K cl c fl i) (h0 : cs ≠ []) (hds : ∀ c ∈ cs, DS cl (MemS X.K cl) W X (.Assign [.Attribute o fl apos] e pos) (sSetF p c i fo f)) :
    DS cl (MemS X.K cl) W X (.Assign [.Attribute o fl apos] e pos) (sSetFs p cs i fo f) := by
  refine ⟨fun pins s σ H E I ⟨Z0, C0, H0, Z, C, st, ρ, α, c0, w, n, r, q⟩ => ?_⟩
  obtain ⟨c1, hc1⟩ := List.exists_mem_of_ne_nil cs h0
  have q : PostS X.K cl W Z0 C0 H0 (sSetFs (K := X.K) (cl := cl) p cs i fo f ρ st) E := q
  have key : ∃ c ∈ cs, (sSetFs (K := X.K) (cl := cl) p cs i fo f ρ st = sSetF (K := X.K) (cl := cl) p c i fo f ρ st) ∨ sSetFs (K := X.K) (cl := cl) p cs i fo f ρ st = .stuck := by
    cases e1 : f (seeE p ρ) st with
    | stuck => exact ⟨c1, hc1, .inl (by simp [sSetFs, sSetF, M.bind, e1])⟩
    | err x s1 => exact ⟨c1, hc1, .inl (by simp [sSetFs, sSetF, M.bind, e1])⟩
    | ok d s1 =>
      cases e2 : fo (seeE pHide ρ) s1 with
      | stuck => exact ⟨c1, hc1, .inl (by simp [sSetFs, sSetF, M.bind, e1, e2])⟩
      | err x s1 => exact ⟨c1, hc1, .inl (by simp [sSetFs, sSetF, M.bind, e1, e2])⟩
      | ok x s2 =>
        cases x <;> (try (refine ⟨c1, hc1, .inr ?_⟩; simp [sSetFs, M.bind, e1, e2, setfMs]; done))
        rename_i a
        cases em : s2 a with
        | none => exact ⟨c1, hc1, .inr (by simp [sSetFs, M.bind, e1, e2, setfMs, em])⟩
        | some l =>
          cases l <;> (try (refine ⟨c1, hc1, .inr ?_⟩; simp [sSetFs, M.bind, e1, e2, setfMs, em]; done))
          rename_i c' ds
          by_cases hc : c' ∈ cs
          · exact ⟨c', hc, .inl (by simp [sSetFs, sSetF, M.bind, e1, e2, setfMs, setfM, em, hc])⟩
          · exact ⟨c1, hc1, .inr (by simp [sSetFs, M.bind, e1, e2, setfMs, em, hc])⟩
  obtain ⟨c, hc, eq | eq⟩ := key
  · rw [eq] at q
    exact (hds c hc).run pins s σ H E I ⟨Z0, C0, H0, Z, C, st, ρ, α, c0, w, n, r, q⟩
  · rw [eq] at q; exact False.elim q
end
theorem exm_is {K : PySem.W.Frag} {A S : Addr} {b : Bool} (h1 : PySem.W.subIn K (.ref S) (.type "BaseException") = some true) (h2 : PySem.W.isClsIn K S = true) (h3 : PySem.W.typeIn K (.ref S) = some (.type "type")) (h4 : PySem.W.subIn K (.ref A) (.ref S) = some b) :
    PySem.W.exmOne K (.ref A) (.ref S) = some b := by
  have e1 : (PySem.W.subIn K (.ref S) (.type "BaseException") == some true) = true := by rw [h1] <;> rfl
  have e2 : ((PySem.W.clsIn K S).isSome && PySem.W.typeIn K (.ref S) == some (.type "type")) = true := by
    have h2' : (PySem.W.clsIn K S).isSome = true := h2
    rw [h2', h3] <;> rfl
  show (if (PySem.W.subIn K (.ref S) (.type "BaseException") == some true) = true then (if ((PySem.W.clsIn K S).isSome && PySem.W.typeIn K (.ref S) == some (.type "type")) = true then PySem.W.subIn K (.ref A) (.ref S) else none) else none) = some b
  rw [if_pos e1, if_pos e2]
  exact h4
end DN
set_option Elab.async false
set_option linter.all false
set_option maxRecDepth 100000
set_option maxHeartbeats 4000000
namespace DN
open PySem PySem.Spec PyProof.Rows L2 RZ
/-! ## boards and their names -/
def boardName : D → Option D
  | .tup [n, _, _] => some n
  | _ => none
def nmL : List D → Option (List D)
  | [] => some []
  | b :: bs => (boardName b).bind fun n => (nmL bs).map fun r => n :: r
noncomputable def namesD (bs : List D) : Option D := (nmL bs).bind fun ns => (DN.putAll [] [] (ns.map fun n => (n, .bl true))).bind sortKD
noncomputable def i_keep (bs : List D) : IR := match namesD bs with
  | some (.lst ns) => if (D.immL bs && D.immL ns) = true then .ok [.tup bs, .tup ns] else .stuck
  | _ => .stuck
def lettersD : D := .str "abcdefghijklmnopqrstuvwxyz"
def WordOk (m : Nat) (z : Str) : Prop := 1 ≤ z.length ∧ z.length ≤ m ∧ ∀ c ∈ z.cps.toList, inD (.str ⟨#[c]⟩) lettersD = some (.bl true)
def boardD (n : Str) (s : Int) (r : List Str) : D := .tup [.str n, .int s, .tup (r.map .str)]
def BoardOk (b : D) : Prop := ∃ n s r, b = boardD n s r ∧ WordOk 8 n ∧ 0 ≤ s ∧ s ≤ 1 ∧ r.length ≤ 20 ∧ ∀ w ∈ r, WordOk 20 w
theorem immL_str : ∀ r : List Str, D.immL (r.map .str) = true
  | [] => rfl
  | a :: r => by simp [D.immL, D.imm, immL_str r]
theorem BoardOk.imm {b : D} (h : BoardOk b) : b.imm = true := by
  obtain ⟨n, s, r, rfl, _⟩ := h
  simp [boardD, D.imm, D.immL, immL_str]
theorem immL_all : ∀ {ds : List D}, (∀ d ∈ ds, d.imm = true) → D.immL ds = true
  | [], _ => rfl
  | d :: ds, h => by
    rw [D.immL, h d List.mem_cons_self, immL_all fun e he => h e (List.mem_cons_of_mem _ he)]
    rfl
theorem putAll_str : ∀ (ns : List Str) (ks : List Str) (vs : List D), ∃ ks' : List Str, ∃ vs', DN.putAll (ks.map .str) vs (ns.map fun n => (.str n, .bl true)) = some (.dct (ks'.map .str) vs') ∧ ks'.length ≤ ks.length + ns.length
  | [], ks, vs => ⟨ks, vs, rfl, by simp⟩
  | n :: ns, ks, vs => by
    have e : ∃ k2 : List Str, putKs (ks.map D.str) (.inr n) = k2.map D.str ∧ k2.length ≤ ks.length + 1 := by
      unfold putKs
      split
      · exact ⟨ks, rfl, by omega⟩
      · exact ⟨ks ++ [n], by simp [keyD], by simp⟩
    obtain ⟨k2, e1, e2⟩ := e
    obtain ⟨ks', vs', e3, e4⟩ := putAll_str ns k2 (putVs (ks.map D.str) vs (.inr n) (.bl true))
    refine ⟨ks', vs', ?_, by rw [List.length_cons]; omega⟩
    rw [List.map_cons, DN.putAll]
    show DN.putAll (putKs (ks.map D.str) (.inr n)) (putVs (ks.map D.str) vs (.inr n) (.bl true)) _ = _
    rw [e1]
    exact e3
theorem strsOf_map : ∀ ks : List Str, strsOf (ks.map D.str) = some ks
  | [] => rfl
  | k :: ks => by simp [strsOf, strsOf_map ks]
theorem nmL_ok : ∀ {bs : List D}, (∀ b ∈ bs, BoardOk b) → ∃ ns : List Str, nmL bs = some (ns.map .str) ∧ ns.length = bs.length
  | [], _ => ⟨[], rfl, rfl⟩
  | b :: bs, h => by
    obtain ⟨ns, e1, e2⟩ := nmL_ok fun c hc => h c (List.mem_cons_of_mem _ hc)
    obtain ⟨n, s, r, rfl, _⟩ := h b List.mem_cons_self
    exact ⟨n :: ns, by simp [nmL, boardName, boardD, e1], by simp [e2]⟩
theorem names_ok {bs : List D} (h : ∀ b ∈ bs, BoardOk b) (hl : bs.length ≤ 60) : ∃ ns : List Str, namesD bs = some (.lst (ns.map .str)) := by
  obtain ⟨ns, e1, e2⟩ := nmL_ok h
  obtain ⟨ks, vs, e3, e4⟩ := putAll_str ns [] []
  refine ⟨sortS ks, ?_⟩
  unfold namesD
  rw [e1, Option.bind_some, List.map_map]
  have e3' : DN.putAll [] [] (ns.map ((fun n => (n, D.bl true)) ∘ D.str)) = some (.dct (ks.map .str) vs) := e3
  rw [e3', Option.bind_some]
  show (strsOf (ks.map D.str)).bind (fun xs => if xs.length < 64 then some (D.lst (List.map D.str (sortS xs))) else none) = _
  rw [strsOf_map, Option.bind_some, if_pos (by simp at e4; omega)]
theorem keep_ok {bs : List D} (h : ∀ b ∈ bs, BoardOk b) (hl : bs.length ≤ 60) : ∃ ns : List Str, namesD bs = some (.lst (ns.map .str)) ∧ i_keep bs = .ok [.tup bs, .tup (ns.map .str)] := by
  obtain ⟨ns, e⟩ := names_ok h hl
  refine ⟨ns, e, ?_⟩
  unfold i_keep
  rw [e]
  simp only
  rw [if_pos]
  rw [immL_all fun d hd => (h d hd).imm, immL_str]
  rfl
theorem nmL_inv : ∀ {bs ns : List D}, nmL bs = some ns → ∀ b ∈ bs, ∃ n x y, b = .tup [n, x, y]
  | [], _, _, b, hb => nomatch hb
  | b :: bs, ns, e, c, hc => by
    unfold nmL at e
    cases e1 : boardName b with
    | none => rw [e1] at e; cases e
    | some n =>
      rw [e1] at e
      cases e2 : nmL bs with
      | none => rw [e2] at e; cases e
      | some r =>
        rcases List.mem_cons.mp hc with rfl | hc
        · unfold boardName at e1
          split at e1
          · exact ⟨_, _, _, rfl⟩
          · cases e1
        · exact nmL_inv e2 c hc
theorem nmL_map : ∀ {bs ns : List D}, nmL bs = some ns → ∀ f : D → Option (D × D), (∀ n x y, D.tup [n, x, y] ∈ bs → f (.tup [n, x, y]) = some (n, .bl true)) → bs.filterMap f = ns.map fun n => (n, .bl true)
  | [], _, e, f, h => by cases e; rfl
  | b :: bs, ns, e, f, h => by
    obtain ⟨n, x, y, rfl⟩ := nmL_inv e b List.mem_cons_self
    unfold nmL boardName at e
    simp only [Option.bind_some] at e
    cases e2 : nmL bs with
    | none => rw [e2] at e; cases e
    | some r =>
      rw [e2] at e
      cases e
      rw [List.filterMap_cons, h n x y List.mem_cons_self, List.map_cons, nmL_map e2 f fun n x y hm => h n x y (List.mem_cons_of_mem _ hm)]
/-- what the data here is made of, so many deep -/
def Pt : Nat → D → Prop
  | 0, _ => False
  | k + 1, d => (∃ i, d = .int i) ∨ (∃ x, d = .str x) ∨ (∃ b, d = .bl b) ∨ (∃ ds, d = .tup ds ∧ ∀ x ∈ ds, Pt k x) ∨ ∃ ds, d = .lst ds ∧ ∀ x ∈ ds, Pt k x
theorem Pt.up : ∀ {k : Nat} {d : D}, Pt k d → Pt (k + 1) d
  | 0, _, h => False.elim h
  | k + 1, d, h => by
    rcases h with ⟨i, rfl⟩ | ⟨x, rfl⟩ | ⟨b, rfl⟩ | ⟨ds, rfl, h⟩ | ⟨ds, rfl, h⟩
    · exact .inl ⟨i, rfl⟩
    · exact .inr (.inl ⟨x, rfl⟩)
    · exact .inr (.inr (.inl ⟨b, rfl⟩))
    · exact .inr (.inr (.inr (.inl ⟨ds, rfl, fun x hx => (h x hx).up⟩)))
    · exact .inr (.inr (.inr (.inr ⟨ds, rfl, fun x hx => (h x hx).up⟩)))
theorem Pt.le {k k' : Nat} {d : D} (h : Pt k d) (l : k ≤ k') : Pt k' d := by
  induction l with
  | refl => exact h
  | step _ ih => exact ih.up
theorem plainL_all : ∀ {ds : List D}, (∀ d ∈ ds, d.plain = true) → D.plainL ds = true
  | [], _ => rfl
  | d :: ds, h => by
    rw [D.plainL, h d List.mem_cons_self, plainL_all fun e he => h e (List.mem_cons_of_mem _ he)]
    rfl
theorem depthAll_le {n : Nat} : ∀ {ds : List D}, (∀ d ∈ ds, d.py.depth ≤ n) → PyData.depthAll (D.pyL ds) ≤ n
  | [], _ => Nat.zero_le _
  | d :: ds, h => by
    rw [D.pyL, PyData.depthAll]
    exact Nat.max_le.mpr ⟨h d List.mem_cons_self, depthAll_le fun e he => h e (List.mem_cons_of_mem _ he)⟩
theorem eqvAll_self : ∀ {ds : List D}, (∀ d ∈ ds, PyData.eqv d.py d.py = true) → PyData.eqvAll (D.pyL ds) (D.pyL ds) = true
  | [], _ => rfl
  | d :: ds, h => by
    rw [D.pyL, PyData.eqvAll, h d List.mem_cons_self, eqvAll_self fun e he => h e (List.mem_cons_of_mem _ he)]
    rfl
theorem Pt.facts : ∀ {k : Nat} {d : D}, Pt k d → d.plain = true ∧ d.py.depth ≤ k ∧ PyData.eqv d.py d.py = true
  | 0, _, h => False.elim h
  | k + 1, d, h => by
    rcases h with ⟨i, rfl⟩ | ⟨x, rfl⟩ | ⟨b, rfl⟩ | ⟨ds, rfl, h⟩ | ⟨ds, rfl, h⟩
    · exact ⟨rfl, by simp [D.py, PyData.depth], by simp [D.py, PyData.eqv]⟩
    · exact ⟨rfl, by simp [D.py, PyData.depth], by simp [D.py, PyData.eqv]⟩
    · exact ⟨rfl, by simp [D.py, PyData.depth], by simp [D.py, PyData.eqv]⟩
    · exact ⟨plainL_all fun x hx => (h x hx).facts.1, by rw [D.py, PyData.depth]; exact Nat.succ_le_succ (depthAll_le fun x hx => (h x hx).facts.2.1), by rw [D.py, PyData.eqv]; exact eqvAll_self fun x hx => (h x hx).facts.2.2⟩
    · exact ⟨plainL_all fun x hx => (h x hx).facts.1, by rw [D.py, PyData.depth]; exact Nat.succ_le_succ (depthAll_le fun x hx => (h x hx).facts.2.1), by rw [D.py, PyData.eqv]; exact eqvAll_self fun x hx => (h x hx).facts.2.2⟩
theorem Pt.okc {k : Nat} {d : D} (h : Pt k d) (hk : k ≤ 60) : d.okc = true := by
  obtain ⟨a, b, _⟩ := h.facts
  unfold D.okc
  rw [a, decide_eq_true (by omega)]
  rfl
theorem Pt.eq {k : Nat} {d : D} (h : Pt k d) (hk : k ≤ 60) : eqD d d = some (.bl true) := by
  unfold eqD
  rw [h.okc hk, h.facts.2.2]
  rfl
theorem Pt.ne {k : Nat} {d : D} (h : Pt k d) (hk : k ≤ 60) : neD d d = some (.bl false) := by
  unfold neD
  rw [h.okc hk, h.facts.2.2]
  rfl
theorem zipL_self : ∀ ds : List D, zipL ds ds = ds.map fun d => .tup [d, d]
  | [] => rfl
  | d :: ds => by rw [zipL, zipL_self ds]; rfl
theorem rng (n : Nat) (h : n ≤ 100000) : range1 (.int (n : Int)) = some ((List.range n).map fun i : Nat => .int (i : Int)) := by
  show (if _ then _ else _) = _
  rw [if_pos (by omega)]
  rfl
end DN
set_option Elab.async false
set_option linter.all false
set_option maxRecDepth 100000
set_option maxHeartbeats 4000000
namespace DN
open PySem PySem.Spec PyProof.Rows L2 RZ
variable {B : Sto}
theorem fam_2 {P : Str → Prop} {a b : Str} (ha : P a) (hb : P b) : ∀ c ∈ ([a, b] : List Str), P c := fun c hc => by
  simp only [List.mem_cons, List.not_mem_nil, or_false] at hc
  rcases hc with rfl | rfl
  · exact ha
  · exact hb
theorem famS_2 {P : Str → Prop} {a b : Str} (ha : P a) (hb : P b) : ∀ c ∈ ([a, b] : List Str), P c := fam_2 ha hb
theorem compL_filter {α β γ : Type} {f : β → M B (Option γ)} {g : α → β} {k : α → γ} {p : α → Bool} : ∀ {as : List α}, (∀ a ∈ as, f (g a) = M.pure (if p a = true then some (k a) else none)) → compL f (as.map g) = M.pure ((as.filter p).map k)
  | [], _ => rfl
  | a :: as, h => by
    rw [List.map_cons]
    unfold compL
    rw [h a List.mem_cons_self, bind_pure, compL_filter (fun b hb => h b (List.mem_cons_of_mem _ hb)), bind_pure]
    cases hp : p a <;> simp [consO, hp]
/-- return e, where e may give something of one's own -/
def retS (d : D) : Fl := match d with
  | .ins c [d'] => if c = "" then .ro d' else .rt d
  | d => .rt d
@[simp] def sRetM (f : Env → M B D) : SEnv → M B Fl := fun ρ => M.bind (f (seeE pHide ρ)) fun d => M.pure (retS d)
section
variable {cl : CTab} {W : WX} {X : Cx} {p q : D → Bool} {i : Nat} {x : Str} {md : Bool}
theorem ds_retM {e : Expr} {f : Env → M B D} {pos : Pos} (h : DM cl B true W X e f) : DS cl B W X (.Return (some e) pos) (sRetM f) := by
  refine PS.weak (ps_ret h) fun E σ H ⟨Z0, C0, H0, Z, C, s, ρ, α, c0, w, n, r, q⟩ => ?_
  have wd := see_wd (md := true) w r seeHide.nd
  have en := see_env seeHide r
  have key : ∀ {Z1 C1 H1 : Hp} {s1 : B.T}, Wd B true Z1 C1 H1 s1 → Nx (seeZ pHide ρ α Z H) C H Z1 C1 H1 → Nx Z0 C0 H0 Z1 C1 H1 := fun w1 n1 => by
    have u := see_un seeHide w c0 n r w1 n1
    have u2 := u.nx
    rw [unZ_hide pHide_no] at u2
    exact u2
  refine ⟨seeZ pHide ρ α Z H, C, s, seeE pHide ρ, wd, en, ?_⟩
  unfold sRetM M.bind at q
  cases ef : f (seeE pHide ρ) s with
  | stuck => simp only [ef] at q; exact q
  | err x s1 =>
    simp only [ef] at q
    intro c dx Z1 C1 H1 w1 n1 ex
    exact q c dx σ Z1 C1 H1 w1 (key w1 n1) ex
  | ok d s1 =>
    simp only [ef] at q
    intro v F Z1 C1 H1 w1 n1 hF o
    have u2 := key w1 n1
    have q : PostS X.K cl W Z0 C0 H0 (.ok (retS d) s1) E := q
    have isV : d.isMut = false → E.rt v H1 := fun hd => by
      have e1 : retS d = .rt d := by
        unfold retS
        split
        · rename_i c d'
          rw [if_neg (show ¬ _ by simpa [D.isMut] using hd)]
        · rfl
      rw [e1] at q
      cases o with
      | leaf _ rv => exact q v Z1 C1 H1 w1 u2 rv
      | lst => simp [D.isMut] at hd
      | dct => simp [D.isMut] at hd
    have isO : ∀ d', d = .ins "" [d'] → E.rt v H1 := fun d' hd => by
      subst hd
      have q : PostS X.K cl W Z0 C0 H0 (.ok (.ro d') s1) E := q
      exact q v F Z1 C1 H1 w1 u2 (fun y hy => ⟨n.back w.ch (hF y hy).1, (hF y hy).2⟩) o
    cases o with
    | leaf hd _ => exact isV hd
    | lst a b c t => exact isO _ rfl
    | dct a b c n t => exact isO _ rfl
/-! ### dicts of one's own -/
theorem OwnTL.repV {K : PySem.W.Frag} {Z H : Hp} {k : Key} {v : V} {d : D} (hd : d.isMut = false) (r : Rep K cl Z v d) : ∀ {kvs : List (Key × V)} {F : Addr → Prop} {ds : List D}, OwnTL K cl Z H F (kvs.map (·.2)) ds →
    OwnTL K cl Z H F ((kvs.map fun kv => if kv.1 = k then (kv.1, v) else kv).map (·.2)) (DN.repV (kvs.map fun p => keyD p.1) ds k d)
  | [], F, ds, t => by cases t; exact .nil
  | kv :: kvs, F, ds, t => by
    cases t with
    | cons a b c o f =>
      rename_i F1 F2 d1 ds1
      have ih := OwnTL.repV (k := k) hd r f
      by_cases h : kv.1 = k
      · simp only [List.map_cons, DN.repV, key_keyD, h, if_true]
        exact .cons (F1 := fun _ => False) (F2 := F2) (fun _ q => q.elim) b (fun _ q _ => q) (.leaf hd r) ih
      · simp only [List.map_cons, DN.repV, key_keyD, if_neg h, Option.some.injEq]
        exact .cons a b c o ih
theorem OwnTL.put {K : PySem.W.Frag} {Z H : Hp} {F : Addr → Prop} {k : Key} {v : V} {d : D} (hd : d.isMut = false) (r : Rep K cl Z v d) {kvs : List (Key × V)} {ds : List D} (t : OwnTL K cl Z H F (kvs.map (·.2)) ds) :
    OwnTL K cl Z H F ((putK kvs k v).map (·.2)) (putVs (kvs.map fun p => keyD p.1) ds k d) := by
  unfold putVs putK
  rw [hasK_eq]
  split
  · exact t.repV hd r
  · rw [List.map_append]
    exact t.app (fun e he => by rw [List.mem_singleton.mp he]; exact hd) (.cons r .nil)
theorem put_keys {k : Key} {v : V} (kok : KeyOk k) {kvs : List (Key × V)} {ks : List D} (e : ks = kvs.map fun p => keyD p.1) (nd : KNd kvs) : putKs ks k = (putK kvs k v).map (fun p => keyD p.1) ∧ KNd (putK kvs k v) := by
  subst e
  unfold putKs putK
  rw [hasK_eq]
  split
  · refine ⟨?_, by rw [fst_map]; exact nd.1, fun p hp => ?_⟩
    · show kvs.map (keyD ∘ Prod.fst) = (kvs.map fun kv => if kv.1 = k then (kv.1, v) else kv).map (keyD ∘ Prod.fst)
      rw [← List.map_map, ← List.map_map]
      exact congrArg (List.map keyD) (fst_map k v kvs).symm
    · obtain ⟨q, hq, rfl⟩ := List.mem_map.mp hp
      have := nd.2 q hq
      split <;> exact this
  · rename_i hn
    refine ⟨by simp, ?_, fun p hp => ?_⟩
    · rw [List.map_append, List.map_cons, List.map_nil, List.nodup_append]
      refine ⟨nd.1, by simp, fun a ha b hb => ?_⟩
      have hb' : b = k := by simpa using hb
      subst hb'
      intro z
      subst z
      obtain ⟨p, hp, rfl⟩ := List.mem_map.mp ha
      exact hn (List.any_eq_true.mpr ⟨p, hp, by simp⟩)
    · rcases List.mem_append.mp hp with hp | hp
      · exact nd.2 p hp
      · rw [List.mem_singleton.mp hp]; exact kok
/-- d[k] = e -/
theorem ds_put {e k : Expr} {f fk : Env → M B D} {px pos' pos : Pos} (sp : See p md) (kp : Kp p q) (hu : X.A.units + 1 < cLine) (hv : PE X (.Name x px) (tVar i)) (hk : DE cl B true W X k fk) (he : DE cl B md W X e f)
    (hs : swapsWith e (some (.Subscript (.Name x px) k pos')) pos.line X.env = pure false := by rfl) : DS cl B W X (.Assign [.Subscript (.Name x px) k pos'] e pos) (sPut p q i fk f) := by
  refine PS.weak (ps_dput hu hv hk he hs) fun E σ H ⟨Z0, C0, H0, Z, C, s, ρ, α, c0, w, n, r, q0⟩ => ?_
  unfold sPut at q0
  cases hρ : ρ[i]? with
  | none => simp only [hρ] at q0; exact False.elim q0
  | some sl =>
    cases sl with
    | no => simp only [hρ] at q0; exact False.elim q0
    | val d => simp only [hρ] at q0; exact False.elim q0
    | own d =>
      cases d <;> (try (simp only [hρ] at q0; exact False.elim q0))
      rename_i ks ds
      simp only [hρ] at q0
      obtain ⟨a, _, hσ, _⟩ := own_dct r hρ
      refine ⟨seeZ p ρ α Z H, C, s, seeE p ρ, see_wd w r sp.nd, see_env sp r, PostS.seq sp w c0 n r q0 fun d s1 v Z1 C1 H1 w1 n1 r1 q1 => ?_⟩
      have u := see_un sp w c0 n r w1 n1
      refine ⟨_, hσ, ?_⟩
      have q1 : PostS X.K cl W Z0 C0 H0 (M.bind (fk (seeE pHide ρ)) (fun k => M.bind (lift k.key) fun k => guardM (q d && !d.isMut && decide (ks.length < sizeLine)) (M.pure (.nx (ρ.set i (.own (.dct (putKs ks k) (putVs ks ds k d))))))) s1) E := q1
      have uw := u.wd; have un := u.nx; have ur := u.rel
      have rvu : q d = true → Rep X.K cl (unZ p ρ α Z1) v d := fun hq => u.rep kp hq r1
      generalize unZ p ρ α Z1 = Zu at uw un ur rvu
      refine ⟨seeZ pHide ρ α Zu H1, C1, s1, seeE pHide ρ, see_wd uw ur seeHide.nd, see_env seeHide ur, PostS.seq seeHide uw c0 un ur q1 fun kd s2 vk Z2 C2 H2 w2 n2 r2 q2 => ?_⟩
      have u2 := see_un seeHide uw c0 un ur w2 n2
      have uw2 := u2.wd; have un2 := u2.nx; have ur2 := u2.rel
      rw [seeZ_hide pHide_no] at n2
      rw [unZ_hide pHide_no] at uw2 un2 ur2
      have q2 : PostS X.K cl W Z0 C0 H0 (M.bind (lift kd.key) (fun k => guardM (q d && !d.isMut && decide (ks.length < sizeLine)) (M.pure (.nx (ρ.set i (.own (.dct (putKs ks k) (putVs ks ds k d)))))) ) s2) E := q2
      cases hkk : kd.key with
      | none => rw [hkk] at q2; exact False.elim q2
      | some kk =>
        rw [hkk] at q2
        have q3 : PostS X.K cl W Z0 C0 H0 (guardM (q d && !d.isMut && decide (ks.length < sizeLine)) (M.pure (.nx (ρ.set i (.own (.dct (putKs ks kk) (putVs ks ds kk d)))))) s2) E := q2
        unfold guardM at q3
        split at q3
        · rename_i hq
          rw [Bool.and_eq_true, Bool.and_eq_true] at hq
          have hl : ks.length < sizeLine := of_decide_eq_true hq.2
          obtain rfl := key_eq hkk
          have ev := kV_of_rep r2
          have kok := keyOk_rep r2
          subst ev
          obtain ⟨a', kvs, hσ', fa', h1', h2', h3', h4'⟩ := own_dct ur2 hρ
          obtain rfl : a' = a := by rw [hσ] at hσ'; cases hσ'; rfl
          have rv := (rvu hq.1.1).mono n2.zz
          have hml : d.isMut = false := by simpa using hq.1.2
          obtain ⟨g1, g2⟩ := put_keys (v := v) kok h2' h3'
          have hlen : kvs.length < sizeLine := by rw [h2', List.length_map] at hl; exact hl
          refine ⟨a', _, rfl, DPut.k h1' hlen, ?_⟩
          obtain ⟨w3, n3, r3⟩ := own_mut (i := i) (o := .dK (putK kvs kk v)) (d' := .dct (putKs (kvs.map fun p => keyD p.1) kk) (putVs (kvs.map fun p => keyD p.1) ds kk d)) uw2 un2 ur2 hρ hσ fa' rfl (fun _ h => h)
            (.dct fa' upd_same (by rw [← g1, h2']) g2 (((h4'.move (.refl _) fun x ob hx ho => by rw [upd_ne hx.2]; exact ho)).put hml rv))
          rw [h2'] at q3
          exact q3 σ _ _ _ _ w3 n3 r3
        · exact False.elim q3
/-! ### in -/
/-- x in y, also of dicts -/
def inK (x : D) : D → Option D
  | .dct ks _ => x.key.map fun k => .bl (hasK ks k)
  | y => inD x y
def notInK (x : D) : D → Option D
  | .dct ks _ => x.key.map fun k => .bl (!hasK ks k)
  | y => notInD x y
@[simp] theorem inK_T {x : D} {ys : List D} : inK x (.tup ys) = inD x (.tup ys) := rfl
@[simp] theorem inK_L {x : D} {ys : List D} : inK x (.lst ys) = inD x (.lst ys) := rfl
@[simp] theorem inK_S {x : D} {y : Str} : inK x (.str y) = inD x (.str y) := rfl
@[simp] theorem notInK_T {x : D} {ys : List D} : notInK x (.tup ys) = notInD x (.tup ys) := rfl
@[simp] theorem notInK_L {x : D} {ys : List D} : notInK x (.lst ys) = notInD x (.lst ys) := rfl
@[simp] theorem notInK_S {x : D} {y : Str} : notInK x (.str y) = notInD x (.str y) := rfl
def rInDict (neg : Bool) : R2 := fun x y H Q => ∃ a o, y = .ref a ∧ DGet H a x o ∧ Q (.bl (if neg then !o.isSome else o.isSome)) H
theorem op_inDict (hu : X.A.units + 1 < cLine) : OpR X (compareOp .In) (rInDict false) := by
  intro pins s σ H x y v u Q I rx ry ⟨a, o, ey, g, q⟩
  subst ey
  obtain rfl : u = Value.ref a := ry
  exact d_in hu I g rx fun s3 I3 => ⟨.bl o.isSome, H, I3, rfl, q⟩
theorem op_notInDict (hu : X.A.units + 1 < cLine) : OpR X (compareOp .NotIn) (rInDict true) := by
  intro pins s σ H x y v u Q I rx ry ⟨a, o, ey, g, q⟩
  subst ey
  obtain rfl : u = Value.ref a := ry
  exact d_notIn hu I g rx fun s3 I3 => ⟨.bl (!o.isSome), H, I3, rfl, q⟩
abbrev rInK (K : PySem.W.Frag) : R2 := fun x y H Q => rInA K x y H Q ∨ rInDict false x y H Q
abbrev rNotInK (K : PySem.W.Frag) : R2 := fun x y H Q => rNotInA K x y H Q ∨ rInDict true x y H Q
theorem op_inK (hu : X.A.units + 65 < cLine) : OpR X (compareOp .In) (rInK X.K) := (op_inA hu).or (op_inDict (by omega))
theorem op_notInK (hu : X.A.units + 65 < cLine) : OpR X (compareOp .NotIn) (rNotInK X.K) := (op_notInA hu).or (op_notInDict (by omega))
theorem hasK_val {kvs : List (Key × V)} {k : Key} : hasK (kvs.map fun p => keyD p.1) k = (valV kvs k).isSome := by rw [hasK_eq, valV_any]
theorem dget_rd {H : Hp} {a : Addr} {kvs : List (Key × V)} {k : Key} (e : Rd H a (.dK kvs)) : DGet H a (kV k) (valV kvs k) := .inl ⟨kvs, k, e, rfl, rfl⟩
theorem v_inK {K : PySem.W.Frag} : OpV K cl (rInK K) inK := by
  intro Z H x y dx dy d Q h rx ry e q
  cases dy with
  | dct ks ds =>
    obtain ⟨k, hk, he⟩ := Option.map_eq_some_iff.mp (show (dx.key.map fun k => D.bl (hasK ks k)) = some d from e)
    obtain rfl := key_eq hk
    have := kV_of_rep rx
    subst this
    cases ry with
    | dct a b n c =>
      subst b; subst he
      exact .inr ⟨_, _, rfl, dget_rd (sub_rd h a), by rw [hasK_val] at q; exact q _ Z H (.refl h) (.bl _)⟩
  | _ => exact .inl (v_in Z H x y dx _ d Q h rx ry e q)
theorem v_notInK {K : PySem.W.Frag} : OpV K cl (rNotInK K) notInK := by
  intro Z H x y dx dy d Q h rx ry e q
  cases dy with
  | dct ks ds =>
    obtain ⟨k, hk, he⟩ := Option.map_eq_some_iff.mp (show (dx.key.map fun k => D.bl (!hasK ks k)) = some d from e)
    obtain rfl := key_eq hk
    have := kV_of_rep rx
    subst this
    cases ry with
    | dct a b n c =>
      subst b; subst he
      exact .inr ⟨_, _, rfl, dget_rd (sub_rd h a), by rw [hasK_val] at q; exact q _ Z H (.refl h) (.bl _)⟩
  | _ => exact .inl (v_notIn Z H x y dx _ d Q h rx ry e q)
end
@[simp] abbrev xStrip (f : Env → M B D) : Env → M B D := fun ρ => M.bind (f ρ) fun d => M.pure d.strip
@[simp] abbrev xFl (f : Env → M B D) : Env → M B D := fun ρ => M.bind (f ρ) fun d => guardM (flatB d) (M.pure (.ins "" [d]))
@[simp] abbrev xNm (f : Env → M B D) : Env → M B D := fun ρ => M.bind (f ρ) fun d => guardM (!d.isMut) (M.pure d)
theorem fn_stuckO {P : Program} {w : World} {K : PySem.W.Frag} {cl : CTab} {mg : Str → Option Value} {base : Heap} {CX : CXT} {k n : Nat} {f : Addr} {fd : FuncData} {ps : List Str} (hn : ps.length = n) : FnOk P w K mg base CX k f fd ps (spDO K cl B n (fun _ _ => .stuck)) :=
  ⟨spDO_len hn, fun A outer s H args us vs Q E hr he hb hv hs => by
    obtain ⟨Z, C, sb, ds, wd, r, l, p⟩ := hs
    exact False.elim p⟩
/-- a block, cut behind its first statement -/
theorem wp_cut {A REST : SEnv → M B Fl} {ρ : SEnv} {s : B.T} {R : Fl → B.T → Prop} (P : SEnv → B.T → Prop) (h : wp (A ρ) (fun fl s' => match fl with
      | .nx ρ' => P ρ' s'
      | .rt d => R (.rt d) s'
      | .bk ρ' => R (.bk ρ') s'
      | .ct ρ' => R (.ct ρ') s'
      | .ro d => R (.ro d) s') s) (hr : ∀ ρ' s', P ρ' s' → wp (REST ρ') R s') : wp (seqF A REST ρ) R s := by
  rw [s_seq]
  refine wp_bind (wp_mono h fun fl s' q => ?_)
  cases fl with
  | nx ρ' => exact hr ρ' s' q
  | rt d => exact q
  | bk ρ' => exact q
  | ct ρ' => exact q
  | ro d => exact q
end DN
set_option Elab.async false
set_option linter.all false
set_option maxRecDepth 100000
set_option maxHeartbeats 4000000
namespace DN
open PySem PySem.Spec PyProof.Rows L2 RZ
/-! ## fields of classes, some of which may not be there -/
structure FldO (K : PySem.W.Frag) (cl : CTab) (c : Str) (f : Str) (i : Nat) : Prop where
  ex : FldAt K cl c f i ∨ cl c = none
theorem FldAt.o {K : PySem.W.Frag} {cl : CTab} {c f : Str} {i : Nat} (h : FldAt K cl c f i) : FldO K cl c f i := ⟨.inl h⟩
section
variable {cl : CTab} {md : Bool} {W : WX} {X : Cx} {p : D → Bool}
theorem de_fldo {e : Expr} {f : Env → M (MemS X.K cl) D} {cs : List Str} {fl : Str} {i : Nat} {pos : Pos} (F : ∀ c ∈ cs, FldO X.K cl c fl i) (he : DE cl (MemS X.K cl) md W X e f) (hb : attributeBase e fl X.env (eval e X.env) = eval e X.env := by rfl) :
    DE cl (MemS X.K cl) md W X (.Attribute e fl pos) (xFlds cs i f) := by
  refine PE.weak (pe_fld he hb) fun σ H Q ⟨Z, C, s, ρ, w, e, p⟩ => ?_
  refine ⟨Z, C, s, ρ, w, e, Post.seq w.ch p fun dx s1 x Z1 C1 H1 w1 n1 r1 p1 => ?_⟩
  have fin : ∀ {names : List Str} {ds : List D} {fs : List (Str × V)} {d : D}, names[i]? = some fl → names.Nodup → fs.map (·.1) = names.take ds.length → RepL X.K cl Z1 (fs.map (·.2)) ds → ds[i]? = some d → ∃ v, fs.lookup fl = some v ∧ Rep X.K cl Z1 v d := by
    intro names ds fs d hi nd e1 e2 e3
    obtain ⟨v, h1, h2⟩ := e2.get e3
    refine ⟨v, lookup_at e1 (nd.sublist (List.take_sublist _ _)) ?_ h1, h2⟩
    have hlt : i < ds.length := (List.getElem?_eq_some_iff.mp e3).1
    rw [List.getElem?_take_of_lt hlt]
    exact hi
  cases dx <;> (try (exact False.elim p1))
  · rename_i c' ds
    have p1 : Post X.K cl md (RpD X.K cl) W σ Z1 C1 H1 (lift (B := MemS X.K cl) (if c' ∈ cs then ds[i]? else none) s1) Q := p1
    obtain ⟨d, hd, q⟩ := post_lift w1 p1
    split at hd
    case isFalse => cases hd
    rename_i ec
    cases r1 with
    | ins a b c2 =>
      rename_i ad C0 dx fs
      rcases (F c' ec).ex with F1 | F1
      · obtain ⟨Cc, names, hc, hi, nd, _, C9, NA⟩ := F1.ex
        rw [hc] at a
        obtain ⟨rfl, hnm⟩ : C0 = _ ∧ fs.map (·.1) = names := by
          have := Option.some.inj a
          rw [Prod.mk.injEq] at this
          exact ⟨this.1.symm, this.2.symm⟩
        have hlen : names.length = ds.length := by rw [← hnm, List.length_map, ← c2.len, List.length_map]
        obtain ⟨v, h1, h2⟩ := fin hi nd (by rw [← hlen, List.take_length]; exact hnm) c2 hd
        exact ⟨ad, _, dx, fs, v, rfl, w1.zh _ _ b, by assumption, NA, h1, q v Z1 H1 (.refl w1.zh) h2⟩
      · rw [F1] at a; cases a
  · rename_i ad
    cases r1
    unfold fldMs rdM M.bind at p1
    cases hm : s1 ad with
    | none => simp only [hm] at p1; exact False.elim p1
    | some l =>
      simp only [hm] at p1
      have mr := mem_at w1 hm
      cases l <;> (try (exact False.elim p1))
      rename_i c' ds
      obtain ⟨im, C0, dx, fs, ns, h1, h2, h3, h4⟩ := mr
      obtain ⟨d, hd, q⟩ := post_lift w1 p1
      simp only at hd
      split at hd
      case isFalse => cases hd
      rename_i ec
      rcases (F c' ec).ex with F1 | F1
      · obtain ⟨Cc, names, hc, hi, nd, _, C9, NA⟩ := F1.ex
        rw [hc] at h1
        obtain ⟨rfl, rfl⟩ : C0 = _ ∧ ns = names := by
          have := Option.some.inj h1
          rw [Prod.mk.injEq] at this
          exact ⟨this.1.symm, this.2.symm⟩
        obtain ⟨v, h5, h6⟩ := fin hi nd h3 h4 hd
        exact ⟨ad, _, dx, fs, v, rfl, w1.ch _ _ h2, by assumption, NA, h5, q v Z1 H1 (.refl w1.zh) h6⟩
      · rw [F1] at h1; cases h1
theorem ds_setf_none {o e : Expr} {f fo : Env → M (MemS X.K cl) D} {c fl : Str} {i : Nat} {tpos pos : Pos} (h0 : cl c = none) (sp : See p md) (he : DE cl (MemS X.K cl) md W X e f) (ho : DE cl (MemS X.K cl) true W X o fo)
    (hs : swapsWith e (some (.Attribute o fl tpos)) pos.line X.env = pure false := by rfl) :
    DS cl (MemS X.K cl) W X (.Assign [.Attribute o fl tpos] e pos) fun ρ => M.bind (f (seeE p ρ)) fun d => M.bind (fo (seeE pHide ρ)) fun x => M.bind (setfM c i x d) fun _ => M.pure (.nx ρ) := by
  refine PS.weak (ps_fld ho he hs) fun E σ H ⟨Z0, C0, H0, Z, C, s, ρ, α, c0, w, n, r, q⟩ => ?_
  refine ⟨seeZ p ρ α Z H, C, s, seeE p ρ, see_wd w r sp.nd, see_env sp r, PostS.seq sp w c0 n r q fun d s1 v Z1 C1 H1 w1 n1 r1 q1 => ?_⟩
  have u := see_un sp w c0 n r w1 n1
  have uw := u.wd; have un := u.nx; have ur := u.rel
  generalize unZ p ρ α Z1 = Zu at uw un ur
  refine ⟨seeZ pHide ρ α Zu H1, C1, s1, seeE pHide ρ, see_wd uw ur seeHide.nd, see_env seeHide ur, PostS.seq seeHide uw c0 un ur q1 fun x s2 vx Z2 C2 H2 w2 n2 r2 q2 => ?_⟩
  have u2 := see_un seeHide uw c0 un ur w2 n2
  have uw2 := u2.wd; have un2 := u2.nx; have ur2 := u2.rel
  rw [seeZ_hide pHide_no] at n2
  rw [unZ_hide pHide_no] at uw2 un2 ur2
  unfold setfM M.bind at q2
  cases x <;> (try (exact False.elim q2))
  rename_i ad
  cases hm : s2 ad with
  | none => simp only [hm] at q2; exact False.elim q2
  | some l =>
    cases l <;> (simp only [hm] at q2; try (exact False.elim q2))
    rename_i c' ds
    by_cases hd : c' = c ∧ d.imm = true ∧ i = ds.length
    · obtain ⟨rfl, hd, hil⟩ := hd
      obtain ⟨im, C7, dx, fs, ns, e0, e1, e2, e3⟩ := mem_at uw2 hm
      rw [h0] at e0; cases e0
    · simp only [if_neg hd] at q2; exact False.elim q2
theorem ds_setfo {fl : Str} {i : Nat} {cs : List Str} {o e : Expr} {fo f : Env → M (MemS X.K cl) D} {apos pos : Pos} (F : ∀ c ∈ cs, FldO X.K cl c fl i) (h0 : cs ≠ []) (sp : See p md) (he : DE cl (MemS X.K cl) md W X e f) (ho : DE cl (MemS X.K cl) true W X o fo)
    (hs : swapsWith e (some (.Attribute o fl apos)) pos.line X.env = pure false := by rfl) :
    DS cl (MemS X.K cl) W X (.Assign [.Attribute o fl apos] e pos) (sSetFs p cs i fo f) := by
  refine ⟨fun pins s σ H E I ⟨Z0, C0, H0, Z, C, st, ρ, α, c0, w, n, r, q⟩ => ?_⟩
  have hds : ∀ c ∈ cs, DS cl (MemS X.K cl) W X (.Assign [.Attribute o fl apos] e pos) (sSetF p c i fo f) := fun c hc => by
    rcases (F c hc).ex with h | h
    · exact ds_setf h sp he ho hs
    · exact ds_setf_none h sp he ho hs
  obtain ⟨c1, hc1⟩ := List.exists_mem_of_ne_nil cs h0
  have q : PostS X.K cl W Z0 C0 H0 (sSetFs (K := X.K) (cl := cl) p cs i fo f ρ st) E := q
  have key : ∃ c ∈ cs, (sSetFs (K := X.K) (cl := cl) p cs i fo f ρ st = sSetF (K := X.K) (cl := cl) p c i fo f ρ st) ∨ sSetFs (K := X.K) (cl := cl) p cs i fo f ρ st = .stuck := by
    cases e1 : f (seeE p ρ) st with
    | stuck => exact ⟨c1, hc1, .inl (by simp [sSetFs, sSetF, M.bind, e1])⟩
    | err x s1 => exact ⟨c1, hc1, .inl (by simp [sSetFs, sSetF, M.bind, e1])⟩
    | ok d s1 =>
      cases e2 : fo (seeE pHide ρ) s1 with
      | stuck => exact ⟨c1, hc1, .inl (by simp [sSetFs, sSetF, M.bind, e1, e2])⟩
      | err x s1 => exact ⟨c1, hc1, .inl (by simp [sSetFs, sSetF, M.bind, e1, e2])⟩
      | ok x s2 =>
        cases x <;> (try (refine ⟨c1, hc1, .inr ?_⟩; simp [sSetFs, M.bind, e1, e2, setfMs]; done))
        rename_i a
        cases em : s2 a with
        | none => exact ⟨c1, hc1, .inr (by simp [sSetFs, M.bind, e1, e2, setfMs, em])⟩
        | some l =>
          cases l <;> (try (refine ⟨c1, hc1, .inr ?_⟩; simp [sSetFs, M.bind, e1, e2, setfMs, em]; done))
          rename_i c' ds
          by_cases hc : c' ∈ cs
          · exact ⟨c', hc, .inl (by simp [sSetFs, sSetF, M.bind, e1, e2, setfMs, setfM, em, hc])⟩
          · exact ⟨c1, hc1, .inr (by simp [sSetFs, M.bind, e1, e2, setfMs, em, hc])⟩
  obtain ⟨c, hc, eq | eq⟩ := key
  · rw [eq] at q
    exact (hds c hc).run pins s σ H E I ⟨Z0, C0, H0, Z, C, st, ρ, α, c0, w, n, r, q⟩
  · rw [eq] at q; exact False.elim q
end
end DN
set_option Elab.async false
set_option linter.all false
set_option maxRecDepth 100000
set_option maxHeartbeats 4000000
namespace DN
open PySem PySem.Spec PyProof.Rows L2 RZ
theorem fam_1 {P : Str → Prop} {a : Str} (ha : P a) : ∀ c ∈ ([a] : List Str), P c := fun c hc => by
  simp only [List.mem_cons, List.not_mem_nil, or_false] at hc
  subst hc
  exact ha
theorem fam_3 {P : Str → Prop} {a b c : Str} (ha : P a) (hb : P b) (hc : P c) : ∀ d ∈ ([a, b, c] : List Str), P d := fun d hd => by
  simp only [List.mem_cons, List.not_mem_nil, or_false] at hd
  rcases hd with rfl | rfl | rfl <;> assumption
/-! ## which own errors are caught -/
def errNames : List Str := ((["HallError", "NoRow", "NoGame", "NoRows", "TooMany", "NoSide", "BadHall", "NoLot", "NoAim", "NoNumber", "NoGames"] ++ ["NoBoard", "NoWord", "NotTurn", "NotLet", "NothingDone", "NoLog", "NoMove", "NoAnswer", "NoPairing", "NotSpoiled", "Over", "NotFresh", "NoChoice", "NoSorts", "NoPoints", "NoStocks", "NoPrices", "NoRelay", "NoName", "Full", "BadText", "NoText", "NoLine", "NoKey"] : List String)).map Str.ofString
def t_of (x y : Str) : Option Bool := if y = x then some true else if y ∈ errNames then some false else none
def t_all (y : Str) : Option Bool := if y ∈ errNames then some true else none
@[simp] theorem t_of_self {x : Str} : t_of x x = some true := if_pos rfl
theorem t_of_ne {x y : Str} (h : y ≠ x) (m : y ∈ errNames) : t_of x y = some false := by unfold t_of; rw [if_neg h, if_pos m]
/-- a def that is called -/
structure Cal (K : PySem.W.Frag) (mg : Str → Option Value) (x : Str) (g : Addr) (fd : FuncData) (ps : List Str) : Prop where
  mg : mg x = some (.ref g)
  kp : PySem.W.keepIn K (.ref g) = true
  b : Binds K fd ps []
structure CalM (K : PySem.W.Frag) (fd : FuncData) (ps : List Str) : Prop where
  b : Binds K fd ps []
structure CalC (K : PySem.W.Frag) (mg : Str → Option Value) (x : Str) (C : Addr) (fd : FuncData) (ps : List Str) : Prop where
  mg : mg x = some (.ref C)
  b : Binds K fd ps []
/-! ## halls -/
open Classical in
noncomputable def i_Hall : List D → IR
  | [.tup bs] => if 1 ≤ bs.length ∧ bs.length ≤ 12 ∧ ∀ b ∈ bs, BoardOk b then i_keep bs else .stuck
  | _ => .stuck
noncomputable def i_RawHall : List D → IR
  | [.tup bs] => i_keep bs
  | _ => .stuck
end DN
set_option Elab.async false
set_option linter.all false
set_option maxRecDepth 100000
set_option maxHeartbeats 4000000
namespace LW
open PySem PySem.Spec PyProof.Rows L2 RZ DN
section
variable {K : PySem.W.Frag} {cl : CTab}
noncomputable def b_Hall_keep : SEnv → M (MemS K cl) Fl := seqF (sSetFs pHide ["Hall", "RawHall"] 0 (eVar 0) (eVar 1)) (sSetFs pHide ["Hall", "RawHall"] 1 (eVar 0) (xB tupleD (aC (xUn sortKD (xDc [2, 3, 4] (aTup (aCons (aName 2) (aCons (aName 3) (aCons (aName 4) (aNil))))) (tY) (eVar 2) (eC (.bl true)) (iOf anyI (eVar 1)))) (aN))))
noncomputable def m_Hall_keep : List D → M (MemS K cl) D := runF 5 b_Hall_keep
noncomputable def b_is_letters : SEnv → M (MemS K cl) Fl := seqF (sIf pHide (tOo (tNt (tTr (xUn (isD "str") (eVar 0)))) (tNt (tCh leI leI (eC (.int 1)) (xB lenD (aC (eVar 0) (aN))) (eVar 1)))) (sRet pHide (eC (.bl false))) (sPass)) (sRet pHide (xB allD (aC (xLc [2] (aName 2) (tY) (xOp inK (eVar 2) (eC (.str "abcdefghijklmnopqrstuvwxyz"))) (iOf anyI (eVar 0))) (aN))))
noncomputable def m_is_letters : List D → M (MemS K cl) D := runF 3 b_is_letters
noncomputable def b_is_name : SEnv → M (MemS K cl) Fl := sRet pHide (xCall m_is_letters (aC (eVar 0) (aC (eC (.int 8)) (aN))))
noncomputable def m_is_name : List D → M (MemS K cl) D := runF 1 b_is_name
noncomputable def b_is_integer : SEnv → M (MemS K cl) Fl := sRet pHide (xAn (xUn (isD "int") (eVar 0)) (xNt (xUn (isD "bool") (eVar 0))))
noncomputable def m_is_integer : List D → M (MemS K cl) D := runF 1 b_is_integer
noncomputable def b_is_within : SEnv → M (MemS K cl) Fl := sRet pHide (xAn (xCall m_is_integer (aC (eVar 0) (aN))) (xCh leI leI (eVar 1) (eVar 0) (eVar 2)))
noncomputable def m_is_within : List D → M (MemS K cl) D := runF 3 b_is_within
noncomputable def b_is_word : SEnv → M (MemS K cl) Fl := sRet pHide (xCall m_is_letters (aC (eVar 0) (aC (eC (.int 20)) (aN))))
noncomputable def m_is_word : List D → M (MemS K cl) D := runF 1 b_is_word
noncomputable def b_is_words : SEnv → M (MemS K cl) Fl := sRet pHide (xAn (xUn (isD "tuple") (eVar 0)) (xAn (xOp leI (xB lenD (aC (eVar 0) (aN))) (eVar 1)) (xB allD (aC (xLc [2] (aName 2) (tY) (xCall m_is_word (aC (eVar 2) (aN))) (iOf anyI (eVar 0))) (aN)))))
noncomputable def m_is_words : List D → M (MemS K cl) D := runF 3 b_is_words
noncomputable def b_is_board : SEnv → M (MemS K cl) Fl := seqF (sIf pHide (tOo (tNt (tTr (xUn (isD "tuple") (eVar 0)))) (tCm neD (xB lenD (aC (eVar 0) (aN))) (eC (.int 3)))) (sRet pHide (eC (.bl false))) (sPass)) (sRet pHide (xAn (xCall m_is_name (aC (xIx (eVar 0) (eC (.int 0))) (aN))) (xAn (xCall m_is_within (aC (xIx (eVar 0) (eC (.int 1))) (aC (eC (.int 0)) (aC (eC (.int 1)) (aN))))) (xCall m_is_words (aC (xIx (eVar 0) (eC (.int 2))) (aC (eC (.int 20)) (aN)))))))
noncomputable def m_is_board : List D → M (MemS K cl) D := runF 1 b_is_board
noncomputable def b_Hall_init : SEnv → M (MemS K cl) Fl := seqF (sIf pHide (tOo (tNt (tTr (xUn (isD "tuple") (eVar 1)))) (tNt (tCh leI leI (eC (.int 1)) (xB lenD (aC (eVar 1) (aN))) (eC (.int 12))))) (sNv) (sPass)) (seqF (sFor (aTup (aCons (aName 2) (aCons (aName 3) (aNil)))) (iOf enumI (eVar 1)) (sIf pHide (tNt (tTr (xCall m_is_board (aC (eVar 3) (aN))))) (sNv) (sPass))) (sEx pHide (xMeth "Hall" m_Hall_keep (eVar 0) (aC (eVar 1) (aN)))))
noncomputable def m_Hall_init : List D → M (MemS K cl) D := runF 4 b_Hall_init
noncomputable def b_RawHall_init : SEnv → M (MemS K cl) Fl := sEx pHide (xMeth "RawHall" m_Hall_keep (eVar 0) (aC (eVar 1) (aN)))
noncomputable def m_RawHall_init : List D → M (MemS K cl) D := runF 2 b_RawHall_init
noncomputable def b_joined : SEnv → M (MemS K cl) Fl := sRet pHide (xMake "RawHall" 2 i_RawHall (aC (xOp addD (xFlds ["Hall", "RawHall"] 0 (eVar 0)) (xFlds ["Hall", "RawHall"] 0 (eVar 1))) (aN)))
noncomputable def m_joined : List D → M (MemS K cl) D := runF 2 b_joined
noncomputable def b__law_pick : SEnv → M (MemS K cl) Fl := seqF (sIf pHide (tCm gtI (xIxM (eVar 0) (eC (.int 2))) (eC (.int 1))) (seqF (sSet 4 (xOp modD (xB intD (aC (xIxM (eVar 0) (eC (.int 2))) (aN))) (eVar 1))) (seqF (sSetM pHide (eVar 0) (eC (.int 2)) (xOp fdivD (xIxM (eVar 0) (eC (.int 2))) (eVar 1))) (sRet pHide (eVar 4)))) (sPass)) (seqF (sSetM pHide (eVar 0) (eC (.int 4)) (xOp addD (xIxM (eVar 0) (eC (.int 4))) (eC (.int 1)))) (seqF (sSet 2 (eC (.int 0))) (seqF (sIf pHide (tCm ltI (xIxM (eVar 0) (eC (.int 1))) (xLenM (xIxM (eVar 0) (eC (.int 0))))) (seqF (sSet 2 (xIxM (xIxM (eVar 0) (eC (.int 0))) (xIxM (eVar 0) (eC (.int 1))))) (sSetM pHide (eVar 0) (eC (.int 1)) (xOp addD (xIxM (eVar 0) (eC (.int 1))) (eC (.int 1))))) (sPass)) (seqF (sIf pHide (tCm geI (eVar 2) (xOp powD (eC (.int 10)) (eC (.int 18)))) (seqF (sSetM pHide (eVar 0) (eC (.int 2)) (xOp fdivD (eVar 2) (eVar 1))) (sRet pHide (xOp modD (xB intD (aC (eVar 2) (aN))) (eVar 1)))) (sPass)) (seqF (sSet 3 (xOp modD (xB intD (aC (xOp addD (xOp addD (xOp mulD (xIxM (eVar 0) (eC (.int 3))) (eC (.int 48271))) (xOp modD (xB intD (aC (eVar 2) (aN))) (eC (.int 2147483629)))) (xOp mulD (xIxM (eVar 0) (eC (.int 4))) (eC (.int 69621)))) (aN))) (eC (.int 2147483647)))) (seqF (sSet 3 (xOp modD (xB intD (aC (xOp mulD (eVar 3) (xOp addD (xOp fdivD (eVar 3) (eC (.int 1009))) (eC (.int 40692)))) (aN))) (eC (.int 2147483399)))) (seqF (sSetM pHide (eVar 0) (eC (.int 3)) (eVar 3)) (sRet pHide (xOp modD (xB intD (aC (xOp fdivD (eVar 3) (eC (.int 16))) (aN))) (eVar 1))))))))))
noncomputable def m__law_pick : List D → M (MemS K cl) D := runF 5 b__law_pick
noncomputable def b__law_aim (self_m : List D → M (MemS K cl) D) : SEnv → M (MemS K cl) Fl := seqF (sIf pHide (tOo (tCm ltI (eVar 2) (eC (.int 2))) (tCm eqD (xCall m__law_pick (aC (eVar 0) (aC (eC (.int 4)) (aN)))) (eC (.int 0)))) (sRet pHide (xCall m__law_pick (aC (eVar 0) (aC (eVar 1) (aN))))) (sPass)) (seqF (sSet 3 (xB tupleD (aC (xLc [4] (aName 4) (tY) (xCall self_m (aC (eVar 0) (aC (eVar 1) (aC (xOp subD (eVar 2) (eC (.int 1))) (aN))))) (iOf range1 (xIx (xLst (aC (eC (.int 2)) (aC (eC (.int 2)) (aC (eC (.int 3)) (aC (eC (.int 2)) (aC (eC (.int 1)) (aC (eC (.int 3)) (aC (eC (.int 0)) (aN))))))))) (xCall m__law_pick (aC (eVar 0) (aC (eC (.int 7)) (aN))))))) (aN)))) (seqF (sIf pHide (tCm eqD (xCall m__law_pick (aC (eVar 0) (aC (eC (.int 4)) (aN)))) (eC (.int 0))) (sRet pHide (xTup (aC (eC (.str "least")) (aC (xCall m__law_pick (aC (eVar 0) (aC (xOp addD (xB lenD (aC (eVar 3) (aN))) (eC (.int 2))) (aN)))) (aC (eVar 3) (aN)))))) (sPass)) (sRet pHide (xTup (aC (xIx (xLst (aC (eC (.str "all")) (aC (eC (.str "some")) (aN)))) (xCall m__law_pick (aC (eVar 0) (aC (eC (.int 2)) (aN))))) (aC (eVar 3) (aN)))))))
noncomputable def m__law_aim : Nat → List D → M (MemS K cl) D
  | 0 => fun _ _ => .stuck
  | n + 1 => runF 5 (b__law_aim (m__law_aim n))
noncomputable def b_check_number : SEnv → M (MemS K cl) Fl := sIf pHide (tNt (tTr (xCall m_is_within (aC (eVar 0) (aC (eVar 1) (aC (eVar 2) (aN))))))) (sRaise "NoNumber") (sPass)
noncomputable def m_check_number : List D → M (MemS K cl) D := runF 3 b_check_number
noncomputable def b_moved_by (self_m : List D → M (MemS K cl) D) : SEnv → M (MemS K cl) Fl := seqF (sIf pHide (tNt (tTr (xUn (isD "tuple") (eVar 0)))) (sRet pHide (xOp addD (eVar 0) (eVar 1))) (sPass)) (sRet pHide (xOp addD (xSl (eVar 0) (oN) (oS (xUn negD (eC (.int 1))))) (xTup (aC (xB tupleD (aC (xLc [2] (aName 2) (tY) (xCall self_m (aC (eVar 2) (aC (eVar 1) (aN)))) (iOf anyI (xIx (eVar 0) (xUn negD (eC (.int 1)))))) (aN))) (aN)))))
noncomputable def m_moved_by : Nat → List D → M (MemS K cl) D
  | 0 => fun _ _ => .stuck
  | n + 1 => runF 3 (b_moved_by (m_moved_by n))
noncomputable def b_aims_in : SEnv → M (MemS K cl) Fl := seqF (sIf pHide (tOo (tNt (tTr (xUn (isD "tuple") (eVar 0)))) (tOo (tCm notInK (xB lenD (aC (eVar 0) (aN))) (xTup (aC (eC (.int 2)) (aC (eC (.int 3)) (aN))))) (tNt (tTr (xUn (isD "str") (xIx (eVar 0) (eC (.int 0)))))))) (sRet pHide (eC .non)) (sPass)) (seqF (sIf pHide (tAn (tCm eqD (xB lenD (aC (eVar 0) (aN))) (eC (.int 2))) (tCm notInK (xIx (eVar 0) (eC (.int 0))) (xTup (aC (eC (.str "all")) (aC (eC (.str "some")) (aN)))))) (sRet pHide (eC .non)) (sPass)) (seqF (sIf pHide (tAn (tCm eqD (xB lenD (aC (eVar 0) (aN))) (eC (.int 3))) (tOo (tCm neD (xIx (eVar 0) (eC (.int 0))) (eC (.str "least"))) (tNt (tTr (xCall m_is_within (aC (xIx (eVar 0) (eC (.int 1))) (aC (eC (.int 0)) (aC (eC (.int 25)) (aN))))))))) (sRet pHide (eC .non)) (sPass)) (seqF (sIf pHide (tOo (tNt (tTr (xUn (isD "tuple") (xIx (eVar 0) (xUn negD (eC (.int 1))))))) (tCm gtI (xB lenD (aC (xIx (eVar 0) (xUn negD (eC (.int 1)))) (aN))) (eC (.int 24)))) (sRet pHide (eC .non)) (sPass)) (sRet pHide (xIx (eVar 0) (xUn negD (eC (.int 1))))))))
noncomputable def m_aims_in : List D → M (MemS K cl) D := runF 1 b_aims_in
noncomputable def b_parts_of (self_m : List D → M (MemS K cl) D) : SEnv → M (MemS K cl) Fl := seqF (sIf pHide (tTr (xCall m_is_within (aC (eVar 0) (aC (eC (.int 0)) (aC (eVar 1) (aN)))))) (sRet pHide (eC (.int 1))) (sPass)) (seqF (sSet 3 (xCall m_aims_in (aC (eVar 0) (aN)))) (seqF (sIf pHide (tOo (tCm isN (eVar 3) (eC .non)) (tAn (tCm eqD (eVar 2) (eC (.int 1))) (tCm gtI (xB lenD (aC (eVar 3) (aN))) (eC (.int 0))))) (sRet pHide (eC .non)) (sPass)) (seqF (sSet 4 (eC (.int 1))) (seqF (sFor (aName 5) (iOf anyI (eVar 3)) (seqF (sSet 6 (xCall self_m (aC (eVar 5) (aC (eVar 1) (aC (xOp subD (eVar 2) (eC (.int 1))) (aN)))))) (seqF (sIf pHide (tOo (tCm isN (eVar 6) (eC .non)) (tCm gtI (xOp addD (eVar 4) (eVar 6)) (eC (.int 200)))) (sRet pHide (eC .non)) (sPass)) (sAug pHide yes 4 iaddD (eVar 6))))) (sRet pHide (eVar 4))))))
noncomputable def m_parts_of : Nat → List D → M (MemS K cl) D
  | 0 => fun _ _ => .stuck
  | n + 1 => runF 7 (b_parts_of (m_parts_of n))
noncomputable def b_is_any_aim : SEnv → M (MemS K cl) Fl := sRet pHide (xOp isNotN (xCall (m_parts_of 10) (aC (eVar 0) (aC (eVar 1) (aC (eC (.int 8)) (aN))))) (eC .non))
noncomputable def m_is_any_aim : List D → M (MemS K cl) D := runF 2 b_is_any_aim
noncomputable def b_moved : SEnv → M (MemS K cl) Fl := seqF (sIf pHide (tNt (tTr (xCall m_is_any_aim (aC (eVar 0) (aC (eC (.int 1000000)) (aN)))))) (sRaise "NoAim") (sPass)) (seqF (sEx pHide (xCall m_check_number (aC (eVar 1) (aC (eC (.int 0)) (aC (eC (.int 1000)) (aN)))))) (seqF (sSet 2 (xCall (m_moved_by 10) (aC (eVar 0) (aC (eVar 1) (aN))))) (seqF (sIf pHide (tNt (tTr (xCall m_is_any_aim (aC (eVar 2) (aC (eC (.int 1000000)) (aN)))))) (sRaise "NoNumber") (sPass)) (sRet pHide (eVar 2)))))
noncomputable def m_moved : List D → M (MemS K cl) D := runF 3 b_moved
noncomputable def b__law_moved (self_m : List D → M (MemS K cl) D) : SEnv → M (MemS K cl) Fl := seqF (sIf pHide (tNt (tTr (xUn (isD "tuple") (eVar 0)))) (sRet pHide (xOp addD (eVar 0) (eVar 1))) (sPass)) (sRet pHide (xOp addD (xSl (eVar 0) (oN) (oS (xUn negD (eC (.int 1))))) (xTup (aC (xB tupleD (aC (xLc [2] (aName 2) (tY) (xCall self_m (aC (eVar 2) (aC (eVar 1) (aN)))) (iOf anyI (xIx (eVar 0) (xUn negD (eC (.int 1)))))) (aN))) (aN)))))
noncomputable def m__law_moved : Nat → List D → M (MemS K cl) D
  | 0 => fun _ _ => .stuck
  | n + 1 => runF 3 (b__law_moved (m__law_moved n))
noncomputable def b__law_told : SEnv → M (MemS K cl) Fl := seqF (sSet 2 (eC (.str "none"))) (seqF (sTry (xSet 2 (xCall m_moved (aC (eVar 0) (aC (eVar 1) (aN))))) (((t_of "NoNumber"), sSet 2 (eC (.str "none"))) :: [])) (sRet pHide (eVar 2)))
noncomputable def m__law_told : List D → M (MemS K cl) D := runF 3 b__law_told
noncomputable def b__law_is (self_m : List D → M (MemS K cl) D) : SEnv → M (MemS K cl) Fl := seqF (sIf pHide (tTr (xUn (isD2 "tuple" "list") (eVar 1))) (seqF (sIf pHide (tOo (tCm neD (xUn (isD "tuple") (eVar 0)) (xUn (isD "tuple") (eVar 1))) (tNt (tTr (xUn (isD2 "tuple" "list") (eVar 0))))) (sRet pHide (eC (.bl false))) (sPass)) (sRet pHide (xAn (xOp eqD (xB lenD (aC (eVar 0) (aN))) (xB lenD (aC (eVar 1) (aN)))) (xB allD (aC (xLc [2, 3] (aTup (aCons (aName 2) (aCons (aName 3) (aNil)))) (tY) (xCall self_m (aC (eVar 2) (aC (eVar 3) (aN)))) (iOf2 zipI (eVar 0) (eVar 1))) (aN)))))) (sPass)) (sRet pHide (xAn (xOp eqD (xUn (isD "bool") (eVar 0)) (xUn (isD "bool") (eVar 1))) (xOp eqD (eVar 0) (eVar 1))))
noncomputable def m__law_is : Nat → List D → M (MemS K cl) D
  | 0 => fun _ _ => .stuck
  | n + 1 => runF 4 (b__law_is (m__law_is n))
noncomputable def b_is_aim : SEnv → M (MemS K cl) Fl := sRet pHide (xCall m_is_any_aim (aC (eVar 1) (aC (xOp subD (xB lenD (aC (xFlds ["Hall", "RawHall"] 0 (eVar 0)) (aN))) (eC (.int 1))) (aN))))
noncomputable def m_is_aim : List D → M (MemS K cl) D := runF 2 b_is_aim
noncomputable def b_check_aim : SEnv → M (MemS K cl) Fl := sIf pHide (tNt (tTr (xCall m_is_aim (aC (eVar 0) (aC (eVar 1) (aN)))))) (sRaise "NoAim") (sPass)
noncomputable def m_check_aim : List D → M (MemS K cl) D := runF 2 b_check_aim
noncomputable def b_holds (self_m : List D → M (MemS K cl) D) : SEnv → M (MemS K cl) Fl := seqF (sIf pHide (tNt (tTr (xUn (isD "tuple") (eVar 0)))) (sRet pHide (xOp eqD (xOp andD (xOp shrD (eVar 1) (eVar 0)) (eC (.int 1))) (eC (.int 1)))) (sPass)) (seqF (sSet 2 (xLc [3] (aName 3) (tY) (xCall self_m (aC (eVar 3) (aC (eVar 1) (aN)))) (iOf anyI (xIx (eVar 0) (xUn negD (eC (.int 1))))))) (seqF (sIf pHide (tCm eqD (xIx (eVar 0) (eC (.int 0))) (eC (.str "all"))) (sRet pHide (xB allD (aC (eVar 2) (aN)))) (sPass)) (seqF (sIf pHide (tCm eqD (xIx (eVar 0) (eC (.int 0))) (eC (.str "some"))) (sRet pHide (xB anyD (aC (eVar 2) (aN)))) (sPass)) (sRet pHide (xOp geI (xCount (eVar 2) (eC (.bl true))) (xIx (eVar 0) (eC (.int 1))))))))
noncomputable def m_holds : Nat → List D → M (MemS K cl) D
  | 0 => fun _ _ => .stuck
  | n + 1 => runF 4 (b_holds (m_holds n))
noncomputable def b_is_ascending : SEnv → M (MemS K cl) Fl := sRet pHide (xB allD (aC (xLc [1, 2] (aTup (aCons (aName 1) (aCons (aName 2) (aNil)))) (tY) (xOp ltDT (eVar 1) (eVar 2)) (iOf2 zipI (eVar 0) (xSl (eVar 0) (oS (eC (.int 1))) (oN)))) (aN)))
noncomputable def m_is_ascending : List D → M (MemS K cl) D := runF 3 b_is_ascending
noncomputable def b_is_lot : SEnv → M (MemS K cl) Fl := seqF (sIf pHide (tOo (tNt (tTr (xUn (isD "tuple") (eVar 0)))) (tNt (tTr (xB allD (aC (xLc [2] (aName 2) (tY) (xCall m_is_within (aC (eVar 2) (aC (eC (.int 0)) (aC (xOp subD (eVar 1) (eC (.int 1))) (aN))))) (iOf anyI (eVar 0))) (aN)))))) (sRet pHide (eC (.bl false))) (sPass)) (sRet pHide (xCall m_is_ascending (aC (eVar 0) (aN))))
noncomputable def m_is_lot : List D → M (MemS K cl) D := runF 3 b_is_lot
noncomputable def b_mask_of : SEnv → M (MemS K cl) Fl := seqF (sSet 1 (eC (.int 0))) (seqF (sFor (aName 2) (iOf anyI (eVar 0)) (sSet 1 (xOp orD (eVar 1) (xOp shlD (eC (.int 1)) (eVar 2))))) (sRet pHide (eVar 1)))
noncomputable def m_mask_of : List D → M (MemS K cl) D := runF 3 b_mask_of
noncomputable def b_reached : SEnv → M (MemS K cl) Fl := seqF (sEx pHide (xCall m_check_aim (aC (eVar 0) (aC (eVar 1) (aN))))) (seqF (sIf pHide (tNt (tTr (xCall m_is_lot (aC (eVar 2) (aC (xB lenD (aC (xFlds ["Hall", "RawHall"] 0 (eVar 0)) (aN))) (aN)))))) (sRaise "NoLot") (sPass)) (sRet pHide (xCall (m_holds 10) (aC (eVar 1) (aC (xCall m_mask_of (aC (eVar 2) (aN))) (aN))))))
noncomputable def m_reached : List D → M (MemS K cl) D := runF 3 b_reached
noncomputable def b__law_moves : SEnv → M (MemS K cl) Fl := seqF (sSet 1 (xOp addD (eC (.int 1)) (xCall m__law_pick (aC (eVar 0) (aC (eC (.int 6)) (aN)))))) (seqF (sSet 2 (xOp addD (eC (.int 1)) (xCall m__law_pick (aC (eVar 0) (aC (eC (.int 6)) (aN)))))) (seqF (sSet 3 (xMake "Hall" 2 i_Hall (aC (xOp mulD (xTup (aC (xTup (aC (eC (.str "p")) (aC (eC (.int 1)) (aC (xTup (aN)) (aN))))) (aN))) (eVar 1)) (aN)))) (seqF (sSet 4 (xCall m_joined (aC (xMake "Hall" 2 i_Hall (aC (xOp mulD (xTup (aC (xTup (aC (eC (.str "q")) (aC (eC (.int 0)) (aC (xTup (aN)) (aN))))) (aN))) (eVar 2)) (aN))) (aC (eVar 3) (aN))))) (seqF (sFor (aName 5) (iOf range1 (eC (.int 4))) (seqF (sSet 6 (xCall (m__law_aim 8) (aC (eVar 0) (aC (eVar 1) (aC (eC (.int 5)) (aN)))))) (seqF (sSet 7 (xIx (xLst (aC (eC (.int 0)) (aC (eC (.int 1)) (aC (eC (.int 1000)) (aC (xCall m__law_pick (aC (eVar 0) (aC (eC (.int 1001)) (aN)))) (aN)))))) (xCall m__law_pick (aC (eVar 0) (aC (eC (.int 4)) (aN)))))) (seqF (sSet 8 (xCall m__law_pick (aC (eVar 0) (aC (eC (.int 1001)) (aN))))) (seqF (sIf pHide (tOo (tNt (tTr (xCall (m__law_is 30) (aC (xCall m_moved (aC (eVar 6) (aC (eVar 7) (aN)))) (aC (xCall (m__law_moved 10) (aC (eVar 6) (aC (eVar 7) (aN)))) (aN)))))) (tCm neD (xCall m_moved (aC (eVar 6) (aC (eC (.int 0)) (aN)))) (eVar 6))) (sRet pHide (eC (.bl false))) (sPass)) (seqF (sIf pHide (tCm neD (xCall m_moved (aC (xCall m_moved (aC (eVar 6) (aC (eVar 7) (aN)))) (aC (eVar 8) (aN)))) (xCall (m__law_moved 10) (aC (eVar 6) (aC (xOp addD (eVar 7) (eVar 8)) (aN))))) (sRet pHide (eC (.bl false))) (sPass)) (seqF (sFor (aName 9) (iOf range1 (eC (.int 4))) (seqF (sSet 14 (xB tupleD (aC (xLc [16] (aName 16) (tCm eqD (xCall m__law_pick (aC (eVar 0) (aC (eC (.int 2)) (aN)))) (eC (.int 0))) (eVar 16) (iOf range1 (eVar 1))) (aN)))) (seqF (sSet 15 (xB tupleD (aC (xLc [16] (aName 16) (tY) (xOp addD (eVar 16) (eVar 2)) (iOf anyI (eVar 14))) (aN)))) (seqF (sIf pHide (tCm eqD (xCall m__law_pick (aC (eVar 0) (aC (eC (.int 2)) (aN)))) (eC (.int 0))) (sSet 15 (xOp addD (xTup (aC (eC (.int 0)) (aN))) (eVar 15))) (sPass)) (sIf pHide (tCm neD (xCall m_reached (aC (eVar 4) (aC (xCall m_moved (aC (eVar 6) (aC (eVar 2) (aN)))) (aC (eVar 15) (aN))))) (xCall m_reached (aC (eVar 3) (aC (eVar 6) (aC (eVar 14) (aN)))))) (sRet pHide (eC (.bl false))) (sPass)))))) (seqF (sSet 10 (xIx (xLst (aC (xUn negD (eC (.int 1))) (aC (eC (.int 1001)) (aC (eC .non) (aC (eC (.bl true)) (aC (eC (.str "1")) (aC (xTup (aC (eC (.int 1)) (aN))) (aC (xOp powD (eC (.int 10)) (eC (.int 40))) (aC (eC (.bl false)) (aN)))))))))) (xCall m__law_pick (aC (eVar 0) (aC (eC (.int 8)) (aN)))))) (seqF (sIf pHide (tCm neD (xCall m__law_told (aC (eVar 6) (aC (eVar 10) (aN)))) (eC (.str "none"))) (sRet pHide (eC (.bl false))) (sPass)) (seqF (sSet 11 (xTup (aC (eC (.str "some")) (aC (xTup (aC (xOp subD (xOp powD (eC (.int 10)) (eC (.int 6))) (xCall m__law_pick (aC (eVar 0) (aC (eC (.int 3)) (aN))))) (aC (eC (.int 5)) (aN)))) (aN))))) (seqF (sSet 12 (xCall m__law_pick (aC (eVar 0) (aC (eC (.int 4)) (aN))))) (seqF (sSet 13 (eC (.str "none"))) (seqF (sIf pHide (tCm leI (xOp addD (xIx (xIx (eVar 11) (eC (.int 1))) (eC (.int 0))) (eVar 12)) (xOp powD (eC (.int 10)) (eC (.int 6)))) (sSet 13 (xCall (m__law_moved 10) (aC (eVar 11) (aC (eVar 12) (aN))))) (sPass)) (sIf pHide (tNt (tTr (xCall (m__law_is 30) (aC (xCall m__law_told (aC (eVar 11) (aC (eVar 12) (aN)))) (aC (eVar 13) (aN)))))) (sRet pHide (eC (.bl false))) (sPass))))))))))))))) (sRet pHide (eC (.bl true)))))))
noncomputable def m__law_moves : List D → M (MemS K cl) D := runF 17 b__law_moves
noncomputable def b_dual_of (self_m : List D → M (MemS K cl) D) : SEnv → M (MemS K cl) Fl := seqF (sIf pHide (tNt (tTr (xUn (isD "tuple") (eVar 0)))) (sRet pHide (eVar 0)) (sPass)) (seqF (sSet 1 (xB tupleD (aC (xLc [2] (aName 2) (tY) (xCall self_m (aC (eVar 2) (aN))) (iOf anyI (xIx (eVar 0) (xUn negD (eC (.int 1)))))) (aN)))) (seqF (sIf pHide (tCm eqD (xIx (eVar 0) (eC (.int 0))) (eC (.str "all"))) (sRet pHide (xTup (aC (eC (.str "some")) (aC (eVar 1) (aN))))) (sPass)) (seqF (sIf pHide (tCm eqD (xIx (eVar 0) (eC (.int 0))) (eC (.str "some"))) (sRet pHide (xTup (aC (eC (.str "all")) (aC (eVar 1) (aN))))) (sPass)) (sRet pHide (xTup (aC (eC (.str "least")) (aC (xB max2D (aC (eC (.int 0)) (aC (xOp addD (xOp subD (xB lenD (aC (eVar 1) (aN))) (xIx (eVar 0) (eC (.int 1)))) (eC (.int 1))) (aN)))) (aC (eVar 1) (aN)))))))))
noncomputable def m_dual_of : Nat → List D → M (MemS K cl) D
  | 0 => fun _ _ => .stuck
  | n + 1 => runF 3 (b_dual_of (m_dual_of n))
noncomputable def b_dual : SEnv → M (MemS K cl) Fl := seqF (sEx pHide (xCall m_check_aim (aC (eVar 0) (aC (eVar 1) (aN))))) (sRet pHide (xCall (m_dual_of 10) (aC (eVar 1) (aN))))
noncomputable def m_dual : List D → M (MemS K cl) D := runF 2 b_dual
noncomputable def b_check_listed : SEnv → M (MemS K cl) Fl := sIf pHide (tCm gtI (xB lenD (aC (xFlds ["Hall", "RawHall"] 0 (eVar 0)) (aN))) (eC (.int 12))) (sNv) (sPass)
noncomputable def m_check_listed : List D → M (MemS K cl) D := runF 1 b_check_listed
noncomputable def b_same_aims : SEnv → M (MemS K cl) Fl := seqF (sEx pHide (xCall m_check_aim (aC (eVar 0) (aC (eVar 1) (aN))))) (seqF (sEx pHide (xCall m_check_aim (aC (eVar 0) (aC (eVar 2) (aN))))) (seqF (sEx pHide (xCall m_check_listed (aC (eVar 0) (aN)))) (sRet pHide (xB allD (aC (xLc [3] (aName 3) (tY) (xOp eqD (xCall (m_holds 10) (aC (eVar 1) (aC (eVar 3) (aN)))) (xCall (m_holds 10) (aC (eVar 2) (aC (eVar 3) (aN))))) (iOf range1 (xOp shlD (eC (.int 1)) (xB lenD (aC (xFlds ["Hall", "RawHall"] 0 (eVar 0)) (aN)))))) (aN))))))
noncomputable def m_same_aims : List D → M (MemS K cl) D := runF 4 b_same_aims
noncomputable def b__law_dual (self_m : List D → M (MemS K cl) D) : SEnv → M (MemS K cl) Fl := seqF (sIf pHide (tNt (tTr (xUn (isD "tuple") (eVar 0)))) (sRet pHide (eVar 0)) (sPass)) (seqF (sSet 1 (xB tupleD (aC (xLc [2] (aName 2) (tY) (xCall self_m (aC (eVar 2) (aN))) (iOf anyI (xIx (eVar 0) (xUn negD (eC (.int 1)))))) (aN)))) (seqF (sIf pHide (tCm eqD (xIx (eVar 0) (eC (.int 0))) (eC (.str "least"))) (sRet pHide (xTup (aC (eC (.str "least")) (aC (xB max2D (aC (eC (.int 0)) (aC (xOp subD (xOp addD (xB lenD (aC (eVar 1) (aN))) (eC (.int 1))) (xIx (eVar 0) (eC (.int 1)))) (aN)))) (aC (eVar 1) (aN)))))) (sPass)) (sRet pHide (xTup (aC (xIx (xDct (pC (eC (.str "all")) (eC (.str "some")) (pC (eC (.str "some")) (eC (.str "all")) (pN)))) (xIx (eVar 0) (eC (.int 0)))) (aC (eVar 1) (aN)))))))
noncomputable def m__law_dual : Nat → List D → M (MemS K cl) D
  | 0 => fun _ _ => .stuck
  | n + 1 => runF 3 (b__law_dual (m__law_dual n))
noncomputable def b__law_holds (self_m : List D → M (MemS K cl) D) : SEnv → M (MemS K cl) Fl := seqF (sIf pHide (tNt (tTr (xUn (isD "tuple") (eVar 0)))) (sRet pHide (xOp inK (eVar 0) (eVar 1))) (sPass)) (seqF (sSet 2 (xLc [3] (aName 3) (tY) (xCall self_m (aC (eVar 3) (aC (eVar 1) (aN)))) (iOf anyI (xIx (eVar 0) (xUn negD (eC (.int 1))))))) (seqF (sIf pHide (tCm eqD (xIx (eVar 0) (eC (.int 0))) (eC (.str "all"))) (sRet pHide (xB allD (aC (eVar 2) (aN)))) (sPass)) (seqF (sIf pHide (tCm eqD (xIx (eVar 0) (eC (.int 0))) (eC (.str "some"))) (sRet pHide (xB anyD (aC (eVar 2) (aN)))) (sPass)) (sRet pHide (xOp geI (xCount (eVar 2) (eC (.bl true))) (xIx (eVar 0) (eC (.int 1))))))))
noncomputable def m__law_holds : Nat → List D → M (MemS K cl) D
  | 0 => fun _ _ => .stuck
  | n + 1 => runF 4 (b__law_holds (m__law_holds n))
noncomputable def b_L17_law : SEnv → M (MemS K cl) Fl := seqF (sIf pHide (tNt (tTr (xCall m__law_moves (aC (eVar 1) (aN))))) (sRet pHide (eC (.bl false))) (sPass)) (seqF (sSet 2 (xOp addD (eC (.int 1)) (xCall m__law_pick (aC (eVar 1) (aC (eC (.int 8)) (aN)))))) (seqF (sSet 3 (xMake "Hall" 2 i_Hall (aC (xOp mulD (xTup (aC (xTup (aC (eC (.str "p")) (aC (eC (.int 1)) (aC (xTup (aN)) (aN))))) (aN))) (eVar 2)) (aN)))) (seqF (sFor (aName 4) (iOf range1 (eC (.int 3))) (seqF (sSet 5 (xCall (m__law_aim 8) (aC (eVar 1) (aC (eVar 2) (aC (xIx (xLst (aC (eC (.int 3)) (aC (eC (.int 4)) (aC (eC (.int 6)) (aN))))) (eVar 4)) (aN)))))) (seqF (sIf pHide (tCm eqD (xCall m__law_pick (aC (eVar 1) (aC (eC (.int 4)) (aN)))) (eC (.int 0))) (sSet 5 (xTup (aC (eC (.str "least")) (aC (xIx (xLst (aC (eC (.int 0)) (aC (eC (.int 1)) (aC (eC (.int 25)) (aC (eC (.int 24)) (aN)))))) (xCall m__law_pick (aC (eVar 1) (aC (eC (.int 4)) (aN))))) (aC (xOp mulD (xTup (aC (eVar 5) (aN))) (xCall m__law_pick (aC (eVar 1) (aC (eC (.int 5)) (aN))))) (aN)))))) (sPass)) (seqF (sIf pHide (tNt (tTr (xCall m_is_aim (aC (eVar 3) (aC (eVar 5) (aN)))))) (sCnt) (sPass)) (seqF (sSet 6 (xCall m_dual (aC (eVar 3) (aC (eVar 5) (aN))))) (seqF (sIf pHide (tOo (tNt (tTr (xCall (m__law_is 30) (aC (eVar 6) (aC (xCall (m__law_dual 10) (aC (eVar 5) (aN))) (aN)))))) (tCm isNotBl (xCall m_is_aim (aC (eVar 3) (aC (eVar 6) (aN)))) (eC (.bl true)))) (sRet pHide (eC (.bl false))) (sPass)) (seqF (sFor (aName 7) (iOf range1 (xOp shlD (eC (.int 1)) (eVar 2))) (seqF (sSet 8 (xB tupleD (aC (xLc [10] (aName 10) (tCm eqD (xOp andD (xOp shrD (eVar 7) (eVar 10)) (eC (.int 1))) (eC (.int 1))) (eVar 10) (iOf range1 (eVar 2))) (aN)))) (seqF (sSet 9 (xB tupleD (aC (xLc [10] (aName 10) (tCm notInK (eVar 10) (eVar 8)) (eVar 10) (iOf range1 (eVar 2))) (aN)))) (sIf pHide (tOo (tCm eqD (xCall (m__law_holds 10) (aC (eVar 6) (aC (eVar 8) (aN)))) (xCall (m__law_holds 10) (aC (eVar 5) (aC (eVar 9) (aN))))) (tCm eqD (xCall m_reached (aC (eVar 3) (aC (eVar 6) (aC (eVar 8) (aN))))) (xCall m_reached (aC (eVar 3) (aC (eVar 5) (aC (eVar 9) (aN))))))) (sRet pHide (eC (.bl false))) (sPass))))) (sIf pHide (tCm isNotBl (xCall m_same_aims (aC (eVar 3) (aC (xCall m_dual (aC (eVar 3) (aC (eVar 6) (aN)))) (aC (eVar 5) (aN))))) (eC (.bl true))) (sRet pHide (eC (.bl false))) (sPass))))))))) (sRet pHide (eC (.bl true))))))
end
end LW
set_option Elab.async false
set_option linter.all false
set_option maxRecDepth 100000
set_option maxHeartbeats 4000000
namespace LW
open PySem PySem.Spec PyProof.Rows L2 RZ DN
section
variable {K : PySem.W.Frag} {cl : CTab}
theorem wp_pick {t : Addr} {n : Int} {R : D → Mem → Prop} {s : Mem} (ht : Tape t s) (h1 : 1 ≤ n) (h2 : n ≤ 1000000) (q : ∀ k s', 0 ≤ k → k < n → Tape t s' → R (.int k) s') : wp (m__law_pick (K := K) (cl := cl) [.ref t, .int n]) R s := by
  obtain ⟨sc, ns, p, c, z, cn, hne, hp, rfl⟩ := ht
  have fin : ∀ {k p' c' z' n'}, 0 ≤ k → k < n → 0 ≤ p' → R (.int k) (tapeM sc t ns p' c' z' n') := fun a b d => q _ _ a b ⟨sc, ns, _, _, _, _, hne, d, rfl⟩
  have mod0 : ∀ x : Int, 0 ≤ x % n ∧ x % n < n := fun x => ⟨Int.emod_nonneg _ (by omega), Int.emod_lt_of_pos _ (by omega)⟩
  have hn0 : 0 < n := by omega
  have hn1 : n < 1073741824 := by omega
  unfold m__law_pick b__law_pick
  have e18 : (10 : Int) ^ 18 = 1000000000000000000 := by decide
  by_cases hc : 1 < c
  · simp [runF, startE, wp_t2, hc, hn0, hn1, wp_s2]
    exact fin (mod0 c).1 (mod0 c).2 hp
  · simp [runF, startE, wp_t2, hc, hn0, hn1, wp_s2, wp_t4, wp_s4, wp_t1, wp_t0, wp_len hne]
    by_cases hpl : p < ns.length
    · simp [hpl, wp_t0, wp_t1]
      refine wp_cell hne hp hpl fun x => ?_
      simp [wp_t1, wp_s1]
      by_cases hx : 1000000000000000000 ≤ x
      · simp [hx, hn0, hn1, wp_s2]
        exact fin (mod0 _).1 (mod0 _).2 (by omega)
      · simp [hx, wp_t3, wp_t4]
        split
        · simp [wp_s3, hn0]
          exact fin (mod0 _).1 (mod0 _).2 (by omega)
        · exfalso; omega
    · simp [hpl, wp_t3, wp_t4]
      split
      · simp [wp_s3, hn0]
        exact fin (mod0 _).1 (mod0 _).2 (by omega)
      · exfalso; omega
end
end LW
set_option Elab.async false
set_option linter.all false
set_option maxRecDepth 100000
set_option maxHeartbeats 4000000
namespace LW
open PySem PySem.Spec PyProof.Rows L2 RZ DN
/-! ## numbers and lots -/
section
variable {K : PySem.W.Frag} {cl : CTab}
theorem e_integer_I {i : Int} : (m_is_integer [.int i] : M (MemS K cl) D) = M.pure (.bl true) := by simp [m_is_integer, b_is_integer, startE]
theorem e_integer_T {ds : List D} : (m_is_integer [.tup ds] : M (MemS K cl) D) = M.pure (.bl false) := by simp [m_is_integer, b_is_integer, startE]
theorem e_within_I {i a b : Int} : (m_is_within [.int i, .int a, .int b] : M (MemS K cl) D) = M.pure (.bl (decide (a ≤ i ∧ i ≤ b))) := by
  simp [m_is_within, b_is_within, startE, e_integer_I]
  split <;> simp [*]
theorem e_within_T {ds : List D} {a b : Int} : (m_is_within [.tup ds, .int a, .int b] : M (MemS K cl) D) = M.pure (.bl false) := by
  simp [m_is_within, b_is_within, startE, e_integer_T]

theorem cutL_one {ds : List D} : cutL ds (some 1) none = ds.drop 1 := by
  unfold cutL
  have e : HT.sIx ds.length 0 (some 1) = min 1 ds.length := HT.sIx_nat ds.length 0 1
  rw [e, HT.sIx_none]
  cases ds with
  | nil => rfl
  | cons d ds => simp
theorem zip_int : ∀ {l r : List Int}, zipL (l.map .int) (r.map .int) = (l.zip r).map fun p => .tup [.int p.1, .int p.2]
  | [], _ => by simp [zipL]
  | _ :: _, [] => by simp [zipL]
  | a :: l, b :: r => by simp [zipL, zip_int]
theorem chain_all : ∀ {l : List Int}, ((l.zip (l.drop 1)).all fun p => decide (p.1 < p.2)) = decide (l.Pairwise (· < ·))
  | [] => by simp
  | [a] => by simp
  | a :: b :: l => by
    have ih := chain_all (l := b :: l)
    simp only [List.drop_succ_cons, List.drop_zero, List.zip_cons_cons, List.all_cons] at ih ⊢
    rw [ih, Bool.eq_iff_iff]
    simp only [Bool.and_eq_true, decide_eq_true_eq, List.pairwise_cons, List.mem_cons, forall_eq_or_imp]
    constructor
    · rintro ⟨h1, h2, h3⟩
      exact ⟨⟨h1, fun c hc => Int.lt_trans h1 (h2 c hc)⟩, h2, h3⟩
    · rintro ⟨⟨h1, _⟩, h2, h3⟩
      exact ⟨h1, h2, h3⟩
theorem e_ascending {l : List Int} : (m_is_ascending [.tup (l.map .int)] : M (MemS K cl) D) = M.pure (.bl (decide (l.Pairwise (· < ·)))) := by
  have e : (l.map D.int).drop 1 = (l.drop 1).map D.int := by simp
  simp only [m_is_ascending, b_is_ascending, s_runF, startE]
  simp [slD, cutL_one]
  rw [← List.drop_one, e, zip_int, compL_map (k := fun p => .bl (decide (p.1 < p.2)))]
  · have := chain_all (l := l)
    rw [List.drop_one] at this
    simp [this]
  · intro p hp
    simp [setsE, wipeE]
theorem e_lot {l : List Int} {n : Int} (h : ∀ i ∈ l, 0 ≤ i ∧ i < n) : (m_is_lot [.tup (l.map .int), .int n] : M (MemS K cl) D) = M.pure (.bl (decide (l.Pairwise (· < ·)))) := by
  simp only [m_is_lot, b_is_lot, s_runF, startE]
  simp
  rw [compL_map (k := fun _ => .bl true)]
  · have : allD [.lst (l.map fun _ => D.bl true)] = some (.bl true) := by
      rw [show (l.map fun _ => D.bl true) = l.map fun a => .bl ((fun _ => true) a) from rfl, allD_map]
      simp
    simp [this, e_ascending]
  · intro i hi
    simp [wipeE, e_within_I]
    have := h i hi
    have h1 : 0 ≤ i := this.1
    have h2 : i ≤ n - 1 := by omega
    simp [h1, h2]
theorem e_mask {l : List Nat} (h : ∀ i ∈ l, i ≤ 1000) : (m_mask_of [.tup (l.map fun b : Nat => .int b)] : M (MemS K cl) D) = M.pure (.int (maskN l)) := by
  refine pure_of_wp fun s => ?_
  simp only [m_mask_of, b_mask_of, s_runF, startE]
  simp
  refine wp_forI (fun r ρ s' => ∃ (l' : List Nat) (m : Nat) (d : D) (x : Sl), (∀ i ∈ l', i ≤ 1000) ∧ r = l'.map (fun b : Nat => .int b) ∧ ρ = [.val d, .val (.int m), x] ∧ l'.foldl (fun m b => m ||| 2 ^ b) m = maskN l ∧ s' = s) ⟨l, 0, _, _, h, rfl, rfl, rfl, rfl⟩ ?_ ?_
  · rintro d r ρ s' ⟨l', m, d0, x, hl, e, rfl, ef, rfl⟩
    cases l' with
    | nil => cases e
    | cons b l' =>
      rw [List.map_cons, List.cons.injEq] at e
      obtain ⟨rfl, rfl⟩ := e
      have hb := hl b List.mem_cons_self
      have hb2 : (b : Int) ≤ 1000000 := by omega
      refine ⟨_, s_aName, ?_⟩
      simp [hb2]
      refine ⟨l', fun i hi => hl i (List.mem_cons_of_mem _ hi), rfl, m ||| 2 ^ b, ?_, ef⟩
      rw [← DN.bitOr_nn]
      push_cast
      rfl
  · rintro ρ s' ⟨l', m, d0, x, hl, e, rfl, ef, rfl⟩
    cases l' with
    | nil => simp; exact congrArg Int.ofNat ef
    | cons b l' => cases e

end
/-! ## aims -/
inductive Kd where
  | all | some | least (n : Nat)
inductive Aim where
  | at (b : Nat) | node (k : Kd) (as : List Aim)
def Kd.d (k : Kd) (ds : List D) : D := match k with
  | .all => .tup [.str "all", .tup ds]
  | .some => .tup [.str "some", .tup ds]
  | .least n => .tup [.str "least", .int n, .tup ds]
mutual
def Aim.d : Aim → D
  | .at b => .int b
  | .node k as => k.d (Aim.dL as)
def Aim.dL : List Aim → List D
  | [] => []
  | a :: as => a.d :: Aim.dL as
end
theorem dL_map : ∀ as : List Aim, Aim.dL as = as.map Aim.d
  | [] => rfl
  | a :: as => by rw [Aim.dL, dL_map as]; rfl
def Kd.holds (k : Kd) (bs : List Bool) : Bool := match k with
  | .all => bs.all id
  | .some => bs.any id
  | .least n => decide (n ≤ bs.countP id)
mutual
def Aim.holds (p : Nat → Bool) : Aim → Bool
  | .at b => p b
  | .node k as => k.holds (Aim.holdsL p as)
def Aim.holdsL (p : Nat → Bool) : List Aim → List Bool
  | [] => []
  | a :: as => a.holds p :: Aim.holdsL p as
end
theorem holdsL_map (p : Nat → Bool) : ∀ as : List Aim, Aim.holdsL p as = as.map (Aim.holds p)
  | [] => rfl
  | a :: as => by rw [Aim.holdsL, holdsL_map p as]; rfl
theorem holds_node {p : Nat → Bool} {k : Kd} {as : List Aim} : (Aim.node k as).holds p = k.holds (as.map (Aim.holds p)) := by rw [Aim.holds, holdsL_map]
theorem d_node {k : Kd} {as : List Aim} : (Aim.node k as).d = k.d (as.map Aim.d) := by rw [Aim.d, dL_map]
theorem d_at {b : Nat} : (Aim.at b).d = .int b := by rw [Aim.d]
mutual
def Aim.parts : Aim → Nat
  | .at _ => 1
  | .node _ as => 1 + Aim.partsL as
def Aim.partsL : List Aim → Nat
  | [] => 0
  | a :: as => a.parts + Aim.partsL as
end
/-- at most so deep, at most w wide, boards below many -/
def Gd (many w : Nat) : Nat → Aim → Prop
  | 0, _ => False
  | _ + 1, .at b => b < many
  | k + 1, .node kd as => (match kd with | .least n => n ≤ 25 | _ => True) ∧ as.length ≤ w ∧ ∀ a ∈ as, Gd many w k a
theorem Gd.up {many w : Nat} : ∀ {k : Nat} {a : Aim}, Gd many w k a → Gd many w (k + 1) a
  | 0, _, h => False.elim h
  | k + 1, .at b, h => h
  | k + 1, .node kd as, h => ⟨h.1, h.2.1, fun a ha => (h.2.2 a ha).up⟩
theorem Gd.le {many w k k' : Nat} {a : Aim} (h : Gd many w k a) (l : k ≤ k') : Gd many w k' a := by
  induction l with
  | refl => exact h
  | step _ ih => exact ih.up
def most (w : Nat) : Nat → Nat
  | 0 => 1
  | k + 1 => 1 + w * most w k
theorem most_pos (w k : Nat) : 1 ≤ most w k := by
  cases k <;> simp [most]
theorem Gd.parts {many w : Nat} : ∀ {k : Nat} {a : Aim}, Gd many w k a → a.parts ≤ most w (k - 1)
  | 0, _, h => False.elim h
  | k + 1, .at b, h => by rw [Aim.parts]; exact most_pos _ _
  | k + 1, .node kd as, h => by
    obtain ⟨_, h2, h3⟩ := h
    cases k with
    | zero =>
      cases as with
      | nil => simp [Aim.parts, Aim.partsL, most]
      | cons a as => exact False.elim (h3 a List.mem_cons_self)
    | succ k =>
      have key : ∀ as : List Aim, (∀ a ∈ as, Gd many w (k + 1) a) → Aim.partsL as ≤ as.length * most w k := by
        intro as
        induction as with
        | nil => intro _; simp [Aim.partsL]
        | cons a as ih =>
          intro h
          have h1 := (h a List.mem_cons_self).parts
          have h2 := ih fun b hb => h b (List.mem_cons_of_mem _ hb)
          rw [Aim.partsL, List.length_cons, Nat.succ_mul]
          simp only [Nat.add_sub_cancel] at h1
          omega
      have h4 := key as h3
      have h5 : as.length * most w k ≤ w * most w k := Nat.mul_le_mul_right _ h2
      rw [Aim.parts]
      show _ ≤ 1 + w * most w k
      omega
section
variable {K : PySem.W.Frag} {cl : CTab}
theorem e_aims_at {i : Int} : (m_aims_in [.int i] : M (MemS K cl) D) = M.pure .non := by
  simp [m_aims_in, b_aims_in, startE]
theorem ne_some_all : ¬ (("some" : Str) = "all") := by decide +kernel
theorem ne_least_all : ¬ (("least" : Str) = "all") := by decide +kernel
theorem ne_least_some : ¬ (("least" : Str) = "some") := by decide +kernel
theorem e_aims {k : Kd} {ds : List D} (hk : match k with | .least n => n ≤ 25 | _ => True) (hl : ds.length ≤ 24) : (m_aims_in [k.d ds] : M (MemS K cl) D) = M.pure (.tup ds) := by
  have hl2 : ¬ (24 : Int) < ds.length := by omega
  cases k with
  | all => simp [m_aims_in, b_aims_in, startE, Kd.d, hl2]
  | some => simp [m_aims_in, b_aims_in, startE, Kd.d, hl2]
  | least n =>
    have hn : (n : Int) ≤ 25 := by
      have : n ≤ 25 := hk
      omega
    simp [m_aims_in, b_aims_in, startE, Kd.d, hl2, hn, e_within_I]
end
end LW
set_option Elab.async false
set_option linter.all false
set_option maxRecDepth 100000
set_option maxHeartbeats 4000000
namespace LW
open PySem PySem.Spec PyProof.Rows L2 RZ DN
section
variable {K : PySem.W.Frag} {cl : CTab} {many w : Nat}
/-- so high at most -/
def Ht : Nat → Aim → Prop
  | 0, _ => False
  | _ + 1, .at _ => True
  | k + 1, .node _ as => ∀ a ∈ as, Ht k a
theorem Ht.up : ∀ {k : Nat} {a : Aim}, Ht k a → Ht (k + 1) a
  | 0, _, h => False.elim h
  | k + 1, .at b, h => trivial
  | k + 1, .node kd as, h => fun a ha => Ht.up (h a ha)
theorem Ht.le {k k' : Nat} {a : Aim} (h : Ht k a) (l : k ≤ k') : Ht k' a := by
  induction l with
  | refl => exact h
  | step _ ih => exact ih.up
theorem Gd.ht {many w : Nat} : ∀ {k : Nat} {a : Aim}, Gd many w k a → Ht k a
  | 0, _, h => False.elim h
  | k + 1, .at b, h => trivial
  | k + 1, .node kd as, h => fun a ha => (h.2.2 a ha).ht
/-! ## what the program counts -/
def Kd.ok (k : Kd) : Bool := match k with
  | .least n => decide (n ≤ 25)
  | _ => true
mutual
def Aim.pts (m : Nat) : Nat → Aim → Option Nat
  | _, .at b => if b ≤ m then some 1 else none
  | d, .node k as => if k.ok = true ∧ as.length ≤ 24 ∧ ¬ (d = 1 ∧ 0 < as.length) then Aim.ptsL m (d - 1) 1 as else none
def Aim.ptsL (m : Nat) (d : Nat) : Nat → List Aim → Option Nat
  | acc, [] => some acc
  | acc, a :: as => match Aim.pts m d a with
    | none => none
    | some p => if 200 < acc + p then none else Aim.ptsL m d (acc + p) as
end
def optD : Option Nat → D
  | none => .non
  | some n => .int n
theorem countD_bl {α : Type} {f : α → Bool} {as : List α} : countD (as.map fun a => .bl (f a)) (.bl true) = some (.int ((as.map f).countP id : Nat)) := by
  unfold countD
  rw [flVs_bl]
  simp only [flV, Option.bind_some, Option.map_some]
  congr 3
  rw [List.countP_map, List.countP_map]
  congr 1
  funext a
  show eqV (.bl (f a)) (.bl true) = f a
  cases f a <;> simp [eqV]
theorem map_bl {α : Type} {f : α → Bool} {as : List α} : as.map (fun a => D.bl (f a)) = (as.map f).map D.bl := by simp
theorem e_holds {m : Nat} : ∀ {k n : Nat} {a : Aim}, Ht k a → k ≤ n → (m_holds n [a.d, .int m] : M (MemS K cl) D) = M.pure (.bl (a.holds m.testBit))
  | 0, _, _, h, _ => False.elim h
  | k + 1, 0, _, _, h => absurd h (by omega)
  | k + 1, n + 1, .at b, h, hn => by
    simp [m_holds, b_holds, d_at, startE, Aim.holds]
    rw [bit_test]
  | k + 1, n + 1, .node kd as, h, hn => by
    have h3 := h
    have ih : ∀ a ∈ as, (m_holds n [a.d, .int m] : M (MemS K cl) D) = M.pure (.bl (a.holds m.testBit)) := fun a ha => e_holds (h3 a ha) (by omega)
    rw [d_node, holds_node]
    cases kd <;> simp [m_holds, b_holds, startE, Kd.d, Kd.holds]
    all_goals rw [compL_map (k := fun a => .bl (a.holds m.testBit)) (fun a ha => by simp [wipeE, ih a ha])]
    all_goals simp [asL, countD_bl]
theorem e_lholds {l : List Nat} : ∀ {k n : Nat} {a : Aim}, Ht k a → k ≤ n → (m__law_holds n [a.d, .tup (l.map fun b : Nat => .int b)] : M (MemS K cl) D) = M.pure (.bl (a.holds fun b => decide (b ∈ l)))
  | 0, _, _, h, _ => False.elim h
  | k + 1, 0, _, _, h => absurd h (by omega)
  | k + 1, n + 1, .at b, h, hn => by
    have e : inD (.int (b : Int)) (.tup (l.map fun b : Nat => .int b)) = some (.bl (decide (b ∈ l))) := by
      show (inSeq _ _).map D.bl = _
      rw [inSeq_int (f := fun b : Nat => (b : Int))]
      simp only [Option.map_some]
      congr 2
      rw [Bool.eq_iff_iff]
      simp
      exact ⟨fun ⟨x, hx, e⟩ => by rwa [show b = x by omega], fun h => ⟨b, h, rfl⟩⟩
    simp [m__law_holds, b__law_holds, d_at, startE, Aim.holds, e]
  | k + 1, n + 1, .node kd as, h, hn => by
    have h3 := h
    have ih : ∀ a ∈ as, (m__law_holds n [a.d, .tup (l.map fun b : Nat => .int b)] : M (MemS K cl) D) = M.pure (.bl (a.holds fun b => decide (b ∈ l))) := fun a ha => e_lholds (h3 a ha) (by omega)
    rw [d_node, holds_node]
    cases kd <;> simp [m__law_holds, b__law_holds, startE, Kd.d, Kd.holds]
    all_goals rw [compL_map (k := fun a => .bl (a.holds fun b => decide (b ∈ l))) (fun a ha => by simp [wipeE, ih a ha])]
    all_goals simp [asL, countD_bl]

theorem e_aims_at' {i : Int} : (m_aims_in [.int i] : M (MemS K cl) D) = M.pure .non := e_aims_at
theorem e_aims_no {k : Kd} {ds : List D} (hk : k.ok = false ∨ 24 < ds.length) : (m_aims_in [k.d ds] : M (MemS K cl) D) = M.pure .non := by
  cases k with
  | all =>
    have hl2 : (24 : Int) < ds.length := by rcases hk with h | h <;> first | cases h | omega
    simp [m_aims_in, b_aims_in, startE, Kd.d, hl2]
  | some =>
    have hl2 : (24 : Int) < ds.length := by rcases hk with h | h <;> first | cases h | omega
    simp [m_aims_in, b_aims_in, startE, Kd.d, hl2]
  | least n =>
    by_cases hn : n ≤ 25
    · have hn2 : (n : Int) ≤ 25 := by omega
      have hl2 : (24 : Int) < ds.length := by
        rcases hk with h | h
        · simp [Kd.ok, hn] at h
        · omega
      simp [m_aims_in, b_aims_in, startE, Kd.d, hl2, hn2, e_within_I]
    · have hn2 : ¬ (n : Int) ≤ 25 := by omega
      simp [m_aims_in, b_aims_in, startE, Kd.d, hn2, e_within_I]
theorem e_pts {m : Nat} : ∀ {k n : Nat} {a : Aim} {d : Nat}, Ht k a → k ≤ n → 1 ≤ d → (m_parts_of n [a.d, .int m, .int d] : M (MemS K cl) D) = M.pure (optD (a.pts m d))
  | 0, _, _, _, h, _, _ => False.elim h
  | k + 1, 0, _, _, _, h, _ => absurd h (by omega)
  | k + 1, n + 1, .at b, d, h, hn, hd => by
    by_cases hb : b ≤ m
    · have hb2 : (b : Int) ≤ m := by omega
      simp [m_parts_of, b_parts_of, d_at, startE, e_within_I, hb2, Aim.pts, optD, hb]
    · have hb2 : ¬ (b : Int) ≤ m := by omega
      simp [m_parts_of, b_parts_of, d_at, startE, e_within_I, hb2, Aim.pts, optD, hb, e_aims_at]
  | k + 1, n + 1, .node kd as, d, h, hn, hd => by
    have h3 : ∀ a ∈ as, Ht k a := h
    have e1 : (m_is_within [(Aim.node kd as).d, .int 0, .int m] : M (MemS K cl) D) = M.pure (.bl false) := by
      rw [d_node]
      cases kd <;> exact e_within_T
    by_cases hok : kd.ok = true ∧ as.length ≤ 24
    · have e2 : (m_aims_in [(Aim.node kd as).d] : M (MemS K cl) D) = M.pure (.tup (as.map Aim.d)) := by
        rw [d_node]
        refine e_aims ?_ (by rw [List.length_map]; exact hok.2)
        have := hok.1
        cases kd with
        | least n => simpa [Kd.ok] using this
        | _ => trivial
      by_cases hz : d = 1 ∧ 0 < as.length
      · have hz2 : ((d : Int) = 1 ∧ 0 < as.length) := ⟨by omega, hz.2⟩
        rw [Aim.pts, if_neg (by rintro ⟨_, _, z⟩; exact z hz)]
        simp [m_parts_of, b_parts_of, startE, e1, e2, hz2, optD]
      · have hz2 : ¬ ((d : Int) = 1 ∧ 0 < as.length) := fun ⟨x, y⟩ => hz ⟨by omega, y⟩
        rw [Aim.pts, if_pos ⟨hok.1, hok.2, hz⟩]
        refine pure_of_wp fun s => ?_
        simp [m_parts_of, b_parts_of, startE, e1, e2]
        simp only [hz2, if_false]
        simp
        refine wp_forI (fun r ρ s' => ∃ (as' : List Aim) (acc : Nat) (x5 x6 : Sl), (∀ a ∈ as', Ht k a) ∧ as'.length ≤ as.length ∧ r = as'.map Aim.d ∧ Aim.ptsL m (d - 1) acc as' = Aim.ptsL m (d - 1) 1 as ∧
          ρ = [.val (Aim.node kd as).d, .val (.int m), .val (.int d), .val (.tup (as.map Aim.d)), .val (.int acc), x5, x6] ∧ s' = s) ⟨as, 1, _, _, h3, Nat.le_refl _, rfl, rfl, rfl, rfl⟩ ?_ ?_
        · rintro dd r ρ s' ⟨as', acc, x5, x6, hg, hlen, er, ea, rfl, rfl⟩
          cases as' with
          | nil => cases er
          | cons a as' =>
            rw [List.map_cons, List.cons.injEq] at er
            obtain ⟨rfl, rfl⟩ := er
            have hd1 : 1 ≤ d - 1 := by
              rw [List.length_cons] at hlen
              have : ¬ d = 1 := fun z => hz ⟨z, by omega⟩
              omega
            have ih := e_pts (m := m) (n := n) (d := d - 1) (hg a List.mem_cons_self) (by omega) hd1
            have ed : (((d - 1 : Nat)) : Int) = (d : Int) - 1 := by omega
            rw [ed] at ih
            rw [Aim.ptsL] at ea
            refine ⟨_, s_aName, ?_⟩
            cases hp : a.pts m (d - 1) with
            | none =>
              rw [hp] at ih ea
              simp only at ea
              simp [ih, optD, ← ea]
            | some p =>
              rw [hp] at ih ea
              simp only at ea
              by_cases h200 : 200 < acc + p
              · rw [if_pos h200] at ea
                have h2 : (200 : Int) < (acc : Int) + p := by omega
                simp [ih, optD, ← ea, h2]
              · rw [if_neg h200] at ea
                have h2 : ¬ (200 : Int) < (acc : Int) + p := by omega
                simp [ih, optD, h2]
                exact ⟨as', fun b hb => hg b (List.mem_cons_of_mem _ hb), by rw [List.length_cons] at hlen; omega, rfl, acc + p, ea, by omega⟩
        · rintro ρ s' ⟨as', acc, x5, x6, hg, hlen, er, ea, rfl, rfl⟩
          cases as' with
          | cons a as' => cases er
          | nil =>
            rw [Aim.ptsL] at ea
            simp [← ea, optD]
    · have e2 : (m_aims_in [(Aim.node kd as).d] : M (MemS K cl) D) = M.pure .non := by
        rw [d_node]
        refine e_aims_no ?_
        rw [List.length_map]
        by_cases h1 : kd.ok = true
        · exact .inr (by
            have : ¬ as.length ≤ 24 := fun z => hok ⟨h1, z⟩
            omega)
        · exact .inl (by simpa using h1)
      rw [Aim.pts, if_neg (by rintro ⟨a, b, _⟩; exact hok ⟨a, b⟩)]
      simp [m_parts_of, b_parts_of, startE, e1, e2, optD]
theorem e_anyaim {m k : Nat} {a : Aim} (h : Ht k a) (hn : k ≤ 10) : (m_is_any_aim [a.d, .int m] : M (MemS K cl) D) = M.pure (.bl (a.pts m 8).isSome) := by
  have := e_pts (K := K) (cl := cl) (m := m) (d := 8) h hn (by omega)
  have e8 : ((8 : Nat) : Int) = 8 := rfl
  rw [e8] at this
  cases hp : a.pts m 8 <;> simp [m_is_any_aim, b_is_any_aim, startE, this, hp, optD]
end
end LW
set_option Elab.async false
set_option linter.all false
set_option maxRecDepth 100000
set_option maxHeartbeats 4000000
namespace LW
open PySem PySem.Spec PyProof.Rows L2 RZ DN
/-! ## turned about -/
def Kd.dual (k : Kd) (len : Nat) : Kd := match k with
  | .all => .some
  | .some => .all
  | .least n => .least (len + 1 - n)
mutual
def Aim.dual : Aim → Aim
  | .at b => .at b
  | .node k as => .node (k.dual as.length) (Aim.dualL as)
def Aim.dualL : List Aim → List Aim
  | [] => []
  | a :: as => a.dual :: Aim.dualL as
end
theorem dualL_map : ∀ as : List Aim, Aim.dualL as = as.map Aim.dual
  | [] => rfl
  | a :: as => by rw [Aim.dualL, dualL_map as]; rfl
theorem dual_node {k : Kd} {as : List Aim} : (Aim.node k as).dual = .node (k.dual as.length) (as.map Aim.dual) := by rw [Aim.dual, dualL_map]
theorem holds_dual {p : Nat → Bool} : ∀ {k : Nat} {a : Aim}, Ht k a → a.dual.holds p = !(a.holds fun b => !p b)
  | 0, _, h => False.elim h
  | k + 1, .at b, h => by rw [Aim.dual, Aim.holds, Aim.holds]; simp
  | k + 1, .node kd as, h => by
    have ih : ∀ a ∈ as, a.dual.holds p = !(a.holds fun b => !p b) := fun a ha => holds_dual (h a ha)
    rw [dual_node, holds_node, holds_node, List.map_map]
    have e : as.map (Aim.holds p ∘ Aim.dual) = as.map fun a => !(a.holds fun b => !p b) := List.map_congr_left ih
    rw [e]
    generalize (fun b => !p b) = q
    cases kd with
    | all =>
      simp only [Kd.dual, Kd.holds, List.any_map, List.all_map]
      induction as with
      | nil => rfl
      | cons a as ih => clear ih; simp [← List.not_all_eq_any_not, Function.comp_def]
    | some =>
      simp only [Kd.dual, Kd.holds, List.any_map, List.all_map]
      induction as with
      | nil => rfl
      | cons a as ih => clear ih; simp [← List.not_any_eq_all_not, Function.comp_def]
    | least n =>
      simp only [Kd.dual, Kd.holds, List.countP_map]
      rw [show (id ∘ fun a => !Aim.holds q a) = fun a => !Aim.holds q a from rfl, show (id ∘ Aim.holds q) = Aim.holds q from rfl]
      have e2 : ∀ as : List Aim, List.countP (fun a => !Aim.holds q a) as + List.countP (Aim.holds q) as = as.length := by
        intro as
        induction as with
        | nil => rfl
        | cons a as ih =>
          rw [List.countP_cons, List.countP_cons, List.length_cons]
          cases hq : Aim.holds q a <;> simp [hq] <;> omega
      have := e2 as
      rw [← decide_not]
      congr 1
      apply propext
      omega
theorem Ht.dual : ∀ {k : Nat} {a : Aim}, Ht k a → Ht k a.dual
  | 0, _, h => False.elim h
  | k + 1, .at b, h => by rw [Aim.dual]; trivial
  | k + 1, .node kd as, h => by
    rw [dual_node]
    intro a ha
    obtain ⟨b, hb, rfl⟩ := List.mem_map.mp ha
    exact Ht.dual (h b hb)
theorem pts_dual {m : Nat} : ∀ {k : Nat} {a : Aim} {d p : Nat}, Ht k a → a.pts m d = some p → a.dual.pts m d = some p
  | 0, _, _, _, h, _ => False.elim h
  | k + 1, .at b, d, p, h, e => by rw [Aim.dual]; exact e
  | k + 1, .node kd as, d, p, h, e => by
    rw [dual_node]
    rw [Aim.pts] at e ⊢
    split at e
    · rename_i hc
      obtain ⟨h1, h2, h3⟩ := hc
      rw [if_pos]
      · have key : ∀ (as : List Aim) (acc : Nat), (∀ a ∈ as, Ht k a) → Aim.ptsL m (d - 1) acc as = some p → Aim.ptsL m (d - 1) acc (as.map Aim.dual) = some p := by
          intro as
          induction as with
          | nil => intro acc _ e; exact e
          | cons a as ih =>
            intro acc hh e
            rw [Aim.ptsL] at e
            rw [List.map_cons, Aim.ptsL]
            cases ea : a.pts m (d - 1) with
            | none => rw [ea] at e; cases e
            | some q =>
              rw [ea] at e
              rw [pts_dual (hh a List.mem_cons_self) ea]
              simp only at e ⊢
              split at e
              · cases e
              · rename_i h200
                rw [if_neg h200]
                exact ih _ (fun b hb => hh b (List.mem_cons_of_mem _ hb)) e
        exact key as 1 h e
      · refine ⟨?_, by rw [List.length_map]; exact h2, by rw [List.length_map]; exact h3⟩
        cases kd with
        | all => rfl
        | some => rfl
        | least n => simp [Kd.dual, Kd.ok]; omega
    · cases e
/-! ## moved -/
mutual
def Aim.mv (s : Nat) : Aim → Aim
  | .at b => .at (b + s)
  | .node k as => .node k (Aim.mvL s as)
def Aim.mvL (s : Nat) : List Aim → List Aim
  | [] => []
  | a :: as => a.mv s :: Aim.mvL s as
end
theorem mvL_map (s : Nat) : ∀ as : List Aim, Aim.mvL s as = as.map (Aim.mv s)
  | [] => rfl
  | a :: as => by rw [Aim.mvL, mvL_map s as]; rfl
theorem mv_node {s : Nat} {k : Kd} {as : List Aim} : (Aim.node k as).mv s = .node k (as.map (Aim.mv s)) := by rw [Aim.mv, mvL_map]
theorem holds_mv {s : Nat} {p : Nat → Bool} : ∀ {k : Nat} {a : Aim}, Ht k a → (a.mv s).holds p = a.holds fun b => p (b + s)
  | 0, _, h => False.elim h
  | k + 1, .at b, h => by rw [Aim.mv, Aim.holds, Aim.holds]
  | k + 1, .node kd as, h => by
    rw [mv_node, holds_node, holds_node, List.map_map]
    congr 1
    exact List.map_congr_left fun a ha => holds_mv (h a ha)
theorem Ht.mv {s : Nat} : ∀ {k : Nat} {a : Aim}, Ht k a → Ht k (a.mv s)
  | 0, _, h => False.elim h
  | k + 1, .at b, h => by rw [Aim.mv]; trivial
  | k + 1, .node kd as, h => by
    rw [mv_node]
    intro a ha
    obtain ⟨b, hb, rfl⟩ := List.mem_map.mp ha
    exact Ht.mv (h b hb)
theorem mv_mv {s t : Nat} : ∀ {k : Nat} {a : Aim}, Ht k a → (a.mv s).mv t = a.mv (s + t)
  | 0, _, h => False.elim h
  | k + 1, .at b, h => by rw [Aim.mv, Aim.mv, Aim.mv, Nat.add_assoc]
  | k + 1, .node kd as, h => by
    rw [mv_node, mv_node, mv_node, List.map_map]
    congr 1
    exact List.map_congr_left fun a ha => mv_mv (h a ha)
theorem mv_zero : ∀ {k : Nat} {a : Aim}, Ht k a → a.mv 0 = a
  | 0, _, h => False.elim h
  | k + 1, .at b, h => by rw [Aim.mv, Nat.add_zero]
  | k + 1, .node kd as, h => by
    rw [mv_node]
    congr 1
    exact (List.map_congr_left fun a ha => mv_zero (h a ha)).trans (List.map_id' as)
theorem Gd.mv {many w s : Nat} : ∀ {k : Nat} {a : Aim}, Gd many w k a → Gd (many + s) w k (a.mv s)
  | 0, _, h => False.elim h
  | k + 1, .at b, h => by
    rw [Aim.mv]
    exact Nat.add_lt_add_right h s
  | k + 1, .node kd as, h => by
    rw [mv_node]
    refine ⟨h.1, by rw [List.length_map]; exact h.2.1, fun a ha => ?_⟩
    obtain ⟨b, hb, rfl⟩ := List.mem_map.mp ha
    exact (h.2.2 b hb).mv
theorem Gd.many {m m' w : Nat} (l : m ≤ m') : ∀ {k : Nat} {a : Aim}, Gd m w k a → Gd m' w k a
  | 0, _, h => False.elim h
  | k + 1, .at b, h => Nat.lt_of_lt_of_le h l
  | k + 1, .node kd as, h => ⟨h.1, h.2.1, fun a ha => (h.2.2 a ha).many l⟩
/-- good aims are let -/
theorem Gd.pts {many w m : Nat} (hw : w ≤ 24) (hm : many ≤ m + 1) : ∀ {k : Nat} {a : Aim} {d : Nat}, Gd many w k a → k ≤ d → most w (k - 1) ≤ 200 → a.pts m d = some a.parts
  | 0, _, _, h, _, _ => False.elim h
  | k + 1, .at b, d, h, hd, h200 => by
    have : b < many := h
    rw [Aim.pts, if_pos (by omega), Aim.parts]
  | k + 1, .node kd as, d, h, hd, h200 => by
    have hp := Gd.parts (k := k + 1) (a := .node kd as) h
    obtain ⟨h1, h2, h3⟩ := h
    rw [Aim.pts, if_pos]
    · have key : ∀ (as : List Aim) (acc : Nat), (∀ a ∈ as, Gd many w k a) → as.length ≤ w → acc + Aim.partsL as ≤ 200 → Aim.ptsL m (d - 1) acc as = some (acc + Aim.partsL as) := by
        intro as
        induction as with
        | nil => intro acc _ _ _; simp [Aim.ptsL, Aim.partsL]
        | cons a as ih =>
          intro acc hh hl h2
          rw [Aim.partsL] at h2 ⊢
          rw [Aim.ptsL]
          have ga := hh a List.mem_cons_self
          have hk : most w (k - 1) ≤ 200 := by
            cases k with
            | zero => exact False.elim ga
            | succ k =>
              have e : most w (k + 1) = 1 + w * most w k := rfl
              simp only [Nat.add_sub_cancel] at h200 ⊢
              rw [List.length_cons] at hl
              have := Nat.le_mul_of_pos_left (most w k) (show 0 < w by omega)
              omega
          rw [Gd.pts hw hm ga (by omega) hk]
          simp only
          rw [if_neg (by omega), ih _ (fun b hb => hh b (List.mem_cons_of_mem _ hb)) (by rw [List.length_cons] at hl; omega) (by omega)]
          congr 1
          omega
      have e : (Aim.node kd as).parts = 1 + Aim.partsL as := by rw [Aim.parts]
      rw [e]
      exact key as 1 h3 h2 (by omega)
    · refine ⟨?_, by omega, ?_⟩
      · cases kd with
        | least n => simpa [Kd.ok] using h1
        | _ => rfl
      · rintro ⟨hd1, hl⟩
        cases as with
        | nil => exact absurd hl (by simp)
        | cons a as =>
          have := h3 a List.mem_cons_self
          cases k with
          | zero => exact False.elim this
          | succ k => omega
end LW
set_option Elab.async false
set_option linter.all false
set_option maxRecDepth 100000
set_option maxHeartbeats 4000000
namespace LW
open PySem PySem.Spec PyProof.Rows L2 RZ DN
section
variable {K : PySem.W.Frag} {cl : CTab} {many w : Nat} {t : Addr}
theorem wp_aim : ∀ {deep n : Nat} {R : D → Mem → Prop} {s : Mem}, 1 ≤ deep → deep ≤ n → 1 ≤ many → many ≤ 1000000 → Tape t s → (∀ a s', Gd many 3 deep a → Tape t s' → R a.d s') → wp (m__law_aim (K := K) (cl := cl) n [.ref t, .int many, .int deep]) R s
  | 0, _, _, _, h, _, _, _, _, _ => absurd h (by omega)
  | deep + 1, 0, _, _, _, h, _, _, _, _ => absurd h (by omega)
  | deep + 1, n + 1, R, s, h1, hn, hm1, hm2, ht, q => by
    have leaf : ∀ s', Tape t s' → wp (m__law_pick (K := K) (cl := cl) [.ref t, .int many]) R s' := fun s' ht' => wp_pick ht' (by omega) (by omega) fun k s'' k0 k1 ht'' => by
      obtain ⟨b, rfl⟩ : ∃ b : Nat, k = b := ⟨k.toNat, by omega⟩
      have := q (.at b) s'' (show b < many by omega) ht''
      rwa [d_at] at this
    by_cases hd : deep = 0
    · subst hd
      simp [m__law_aim, b__law_aim, startE]
      exact leaf s ht
    · have hd2 : ¬ ((deep : Int) + 1 < 2) := by omega
      simp [m__law_aim, b__law_aim, startE, hd2]
      refine wp_pick ht (by omega) (by omega) fun k s1 k0 k1 ht1 => ?_
      by_cases hk : k = 0
      · simp [hk]
        exact leaf s1 ht1
      · simp [hk]
        refine wp_pick ht1 (by omega) (by omega) fun k2 s2 k20 k21 ht2 => ?_
        have hix : ∃ v : Nat, v ≤ 3 ∧ ixD (.lst [.int 2, .int 2, .int 3, .int 2, .int 1, .int 3, .int 0]) (.int k2) = some (.int v) := by
          have : k2 = 0 ∨ k2 = 1 ∨ k2 = 2 ∨ k2 = 3 ∨ k2 = 4 ∨ k2 = 5 ∨ k2 = 6 := by omega
          rcases this with rfl | rfl | rfl | rfl | rfl | rfl | rfl
          · exact ⟨2, by omega, rfl⟩
          · exact ⟨2, by omega, rfl⟩
          · exact ⟨3, by omega, rfl⟩
          · exact ⟨2, by omega, rfl⟩
          · exact ⟨1, by omega, rfl⟩
          · exact ⟨3, by omega, rfl⟩
          · exact ⟨0, by omega, rfl⟩
        obtain ⟨v, hv, ev⟩ := hix
        have er : range1 (.int v) = some ((List.range v).map fun i : Nat => .int (i : Int)) := by
          show (if _ then _ else _) = _
          rw [if_pos (by omega)]
          rfl
        simp [ev, er]
        refine wp_compLx (Tape t) (Gd many 3 deep) Aim.d ht2 ?_ ?_
        · intro d hd s3 ht3
          obtain ⟨i, hi, rfl⟩ := List.mem_map.mp hd
          simp [wipeE]
          refine wp_noErr ?_
          simp
          have e1 : (deep : Int) + 1 - 1 = (deep : Int) := by omega
          refine wp_aim (n := n) (by omega) (by omega) hm1 hm2 ht3 fun a s4 ha ht4 => ?_
          exact ⟨ht4, a, ha, rfl⟩
        · intro as s3 ht3 hl hg
          rw [List.length_map, List.length_range] at hl
          simp
          refine wp_pick ht3 (by omega) (by omega) fun k3 s4 k30 k31 ht4 => ?_
          by_cases hk3 : k3 = 0
          · simp [hk3]
            refine wp_pick ht4 (by omega) (by omega) fun k4 s5 k40 k41 ht5 => ?_
            obtain ⟨b, rfl⟩ : ∃ b : Nat, k4 = b := ⟨k4.toNat, by omega⟩
            have := q (.node (.least b) as) s5 ⟨show b ≤ 25 by omega, by omega, hg⟩ ht5
            rwa [d_node] at this
          · simp [hk3]
            refine wp_pick ht4 (by omega) (by omega) fun k4 s5 k40 k41 ht5 => ?_
            have : k4 = 0 ∨ k4 = 1 := by omega
            rcases this with rfl | rfl
            · have := q (.node .all as) s5 ⟨trivial, by omega, hg⟩ ht5
              rw [d_node] at this
              simpa [Kd.d, ixD, atI, ixN] using this
            · have := q (.node .some as) s5 ⟨trivial, by omega, hg⟩ ht5
              rw [d_node] at this
              simpa [Kd.d, ixD, atI, ixN] using this

theorem in_lot {i : Nat} {l : List Nat} : inD (.int (i : Int)) (.tup (l.map fun b : Nat => .int b)) = some (.bl (decide (i ∈ l))) := by
  show (inSeq _ _).map D.bl = _
  rw [inSeq_int (f := fun b : Nat => (b : Int))]
  simp only [Option.map_some]
  congr 2
  rw [Bool.eq_iff_iff]
  simp
  exact ⟨fun ⟨x, hx, e⟩ => by rwa [show i = x by omega], fun h => ⟨i, h, rfl⟩⟩

@[simp] theorem s_is2T {ds : List D} : isD2 "tuple" "list" (.tup ds) = some (.bl true) := by show (kitB "tuple" "tuple").bind (fun a => (kitB "tuple" "list").map fun b => D.bl (a || b)) = _; rw [k_tuple_tuple, k_tuple_list]; rfl
@[simp] theorem s_is2I {i : Int} : isD2 "tuple" "list" (.int i) = some (.bl false) := by show (kitB "int" "tuple").bind (fun a => (kitB "int" "list").map fun b => D.bl (a || b)) = _; rw [k_int_tuple, k_int_list]; rfl
@[simp] theorem s_is2S {i : Str} : isD2 "tuple" "list" (.str i) = some (.bl false) := by show (kitB "str" "tuple").bind (fun a => (kitB "str" "list").map fun b => D.bl (a || b)) = _; rw [k_str_tuple, k_str_list]; rfl
@[simp] theorem s_is2B {i : Bool} : isD2 "tuple" "list" (.bl i) = some (.bl false) := by show (kitB "bool" "tuple").bind (fun a => (kitB "bool" "list").map fun b => D.bl (a || b)) = _; rw [k_bool_tuple, k_bool_list]; rfl
@[simp] theorem s_is2L {ds : List D} : isD2 "tuple" "list" (.lst ds) = some (.bl true) := by show (kitB "list" "tuple").bind (fun a => (kitB "list" "list").map fun b => D.bl (a || b)) = _; rw [k_list_tuple, k_list_list]; rfl
theorem allD_true {α : Type} {as : List α} : allD [.lst (as.map fun _ => D.bl true)] = some (.bl true) := by
  have := allD_map (f := fun _ : α => true) (as := as)
  simpa using this
/-- the law's look at what is alike -/
theorem e_is : ∀ {k n : Nat} {d : D}, Pt k d → k ≤ n → (m__law_is n [d, d] : M (MemS K cl) D) = M.pure (.bl true)
  | 0, _, _, h, _ => False.elim h
  | k + 1, 0, _, _, h => absurd h (by omega)
  | k + 1, n + 1, d, h, hn => by
    rcases h with ⟨i, rfl⟩ | ⟨x, rfl⟩ | ⟨b, rfl⟩ | ⟨ds, rfl, h⟩ | ⟨ds, rfl, h⟩
    · simp [m__law_is, b__law_is, startE]
    · simp [m__law_is, b__law_is, startE]
    · simp [m__law_is, b__law_is, startE]
    · simp [m__law_is, b__law_is, startE, zipL_self]
      rw [compL_map (k := fun _ => .bl true) (fun d hd => by simp [wipeE, e_is (h d hd) (show k ≤ n by omega)])]
      have ht : (ds.all fun _ => true) = true := List.all_eq_true.mpr fun _ _ => rfl
      simp [ht]
    · simp [m__law_is, b__law_is, startE, zipL_self]
      rw [compL_map (k := fun _ => .bl true) (fun d hd => by simp [wipeE, e_is (h d hd) (show k ≤ n by omega)])]
      have ht : (ds.all fun _ => true) = true := List.all_eq_true.mpr fun _ _ => rfl
      simp [ht]
theorem pt_aim : ∀ {k : Nat} {a : Aim}, Ht k a → Pt (2 * k) a.d
  | 0, _, h => False.elim h
  | k + 1, .at b, h => by rw [d_at]; exact .inl ⟨b, rfl⟩
  | k + 1, .node kd as, h => by
    rw [d_node]
    have e : 2 * (k + 1) = (2 * k) + 1 + 1 := by omega
    have inner : Pt (2 * k + 1) (.tup (as.map Aim.d)) := .inr (.inr (.inr (.inl ⟨_, rfl, fun x hx => by
      obtain ⟨a, ha, rfl⟩ := List.mem_map.mp hx
      exact pt_aim (h a ha)⟩)))
    rw [e]
    cases kd <;> refine .inr (.inr (.inr (.inl ⟨_, rfl, fun x hx => ?_⟩)))
    · simp only [List.mem_cons, List.not_mem_nil, or_false] at hx
      rcases hx with rfl | rfl
      · exact .inr (.inl ⟨_, rfl⟩)
      · exact inner
    · simp only [List.mem_cons, List.not_mem_nil, or_false] at hx
      rcases hx with rfl | rfl
      · exact .inr (.inl ⟨_, rfl⟩)
      · exact inner
    · simp only [List.mem_cons, List.not_mem_nil, or_false] at hx
      rcases hx with rfl | rfl | rfl
      · exact .inr (.inl ⟨_, rfl⟩)
      · exact .inl ⟨_, rfl⟩
      · exact inner
@[simp] theorem s_max0 {i : Int} : max2D [.int 0, .int i] = some (.int (if 0 < i then i else 0)) := by
  simp [max2D]
theorem e_dual : ∀ {k n : Nat} {a : Aim}, Ht k a → k ≤ n → (m_dual_of n [a.d] : M (MemS K cl) D) = M.pure a.dual.d
  | 0, _, _, h, _ => False.elim h
  | k + 1, 0, _, _, h => absurd h (by omega)
  | k + 1, n + 1, .at b, h, hn => by simp [m_dual_of, b_dual_of, d_at, startE, Aim.dual]
  | k + 1, n + 1, .node kd as, h, hn => by
    have ih : ∀ a ∈ as, (m_dual_of n [a.d] : M (MemS K cl) D) = M.pure a.dual.d := fun a ha => e_dual (h a ha) (by omega)
    have e : as.map (fun a => a.dual.d) = (as.map Aim.dual).map Aim.d := by simp
    rw [dual_node, d_node, d_node]
    cases kd <;> simp [m_dual_of, b_dual_of, startE, Kd.d, Kd.dual]
    all_goals rw [compL_map (k := fun a => a.dual.d) (fun a ha => by simp [wipeE, ih a ha])]
    · simp [Function.comp_def]
    · simp [Function.comp_def]
    · simp [Function.comp_def]
      rename_i m
      have e : (if (0 : Int) < (as.length : Int) - m + 1 then (as.length : Int) - m + 1 else 0) = ((as.length + 1 - m : Nat) : Int) := by split <;> omega
      rw [e]

theorem put_turn : DN.putAll [] [] [(.str "all", .str "some"), (.str "some", .str "all")] = some (.dct [.str "all", .str "some"] [.str "some", .str "all"]) := by
  simp [DN.putAll, putKs, putVs, hasK, D.key, keyD, repV]
theorem ix_turn1 : ixD (.dct [.str "all", .str "some"] [.str "some", .str "all"]) (.str "all") = some (.str "some") := by
  simp [ixD, D.key, lookD]
theorem ix_turn2 : ixD (.dct [.str "all", .str "some"] [.str "some", .str "all"]) (.str "some") = some (.str "all") := by
  simp [ixD, D.key, lookD]
theorem e_ldual : ∀ {k n : Nat} {a : Aim}, Ht k a → k ≤ n → (m__law_dual n [a.d] : M (MemS K cl) D) = M.pure a.dual.d
  | 0, _, _, h, _ => False.elim h
  | k + 1, 0, _, _, h => absurd h (by omega)
  | k + 1, n + 1, .at b, h, hn => by simp [m__law_dual, b__law_dual, d_at, startE, Aim.dual]
  | k + 1, n + 1, .node kd as, h, hn => by
    have ih : ∀ a ∈ as, (m__law_dual n [a.d] : M (MemS K cl) D) = M.pure a.dual.d := fun a ha => e_ldual (h a ha) (by omega)
    rw [dual_node, d_node, d_node]
    cases kd <;> simp [m__law_dual, b__law_dual, startE, Kd.d, Kd.dual]
    all_goals rw [compL_map (k := fun a => a.dual.d) (fun a ha => by simp [wipeE, ih a ha])]
    · simp [Function.comp_def, put_turn, ix_turn1]
    · simp [Function.comp_def, put_turn, ix_turn2]
    · simp [Function.comp_def]
      rename_i m
      have e : (if (m : Int) < (as.length : Int) + 1 then (as.length : Int) + 1 - m else 0) = ((as.length + 1 - m : Nat) : Int) := by split <;> omega
      rw [e]
theorem cut_2 {a b : D} : slD (.tup [a, b]) none (some (-1)) = some (.tup [a]) := by with_unfolding_all rfl
theorem cut_3 {a b c : D} : slD (.tup [a, b, c]) none (some (-1)) = some (.tup [a, b]) := by with_unfolding_all rfl
theorem add_11 {a b : D} : addD (.tup [a]) (.tup [b]) = some (.tup [a, b]) := by with_unfolding_all rfl
theorem add_21 {a b c : D} : addD (.tup [a, b]) (.tup [c]) = some (.tup [a, b, c]) := by with_unfolding_all rfl
theorem e_moved_by {s : Nat} : ∀ {k n : Nat} {a : Aim}, Ht k a → k ≤ n → (m_moved_by n [a.d, .int s] : M (MemS K cl) D) = M.pure (a.mv s).d
  | 0, _, _, h, _ => False.elim h
  | k + 1, 0, _, _, h => absurd h (by omega)
  | k + 1, n + 1, .at b, h, hn => by simp [m_moved_by, b_moved_by, d_at, startE, Aim.mv]
  | k + 1, n + 1, .node kd as, h, hn => by
    have ih : ∀ a ∈ as, (m_moved_by n [a.d, .int s] : M (MemS K cl) D) = M.pure (a.mv s).d := fun a ha => e_moved_by (h a ha) (by omega)
    rw [mv_node, d_node, d_node]
    cases kd <;> simp [m_moved_by, b_moved_by, startE, Kd.d, cut_2, cut_3]
    all_goals rw [compL_map (k := fun a => (a.mv s).d) (fun a ha => by simp [wipeE, ih a ha])]
    all_goals simp [Function.comp_def, add_11, add_21]
theorem e_lmoved {s : Nat} : ∀ {k n : Nat} {a : Aim}, Ht k a → k ≤ n → (m__law_moved n [a.d, .int s] : M (MemS K cl) D) = M.pure (a.mv s).d
  | 0, _, _, h, _ => False.elim h
  | k + 1, 0, _, _, h => absurd h (by omega)
  | k + 1, n + 1, .at b, h, hn => by simp [m__law_moved, b__law_moved, d_at, startE, Aim.mv]
  | k + 1, n + 1, .node kd as, h, hn => by
    have ih : ∀ a ∈ as, (m__law_moved n [a.d, .int s] : M (MemS K cl) D) = M.pure (a.mv s).d := fun a ha => e_lmoved (h a ha) (by omega)
    rw [mv_node, d_node, d_node]
    cases kd <;> simp [m__law_moved, b__law_moved, startE, Kd.d, cut_2, cut_3]
    all_goals rw [compL_map (k := fun a => (a.mv s).d) (fun a ha => by simp [wipeE, ih a ha])]
    all_goals simp [Function.comp_def, add_11, add_21]
/-! ### moved, as the program tells -/
theorem e_moved {s k : Nat} {a : Aim} (h : Ht k a) (hk : k ≤ 10) (h1 : (a.pts 1000000 8).isSome = true) (hs : s ≤ 1000) (h2 : ((a.mv s).pts 1000000 8).isSome = true) : (m_moved [a.d, .int s] : M (MemS K cl) D) = M.pure (a.mv s).d := by
  have a1 := e_anyaim (K := K) (cl := cl) (m := 1000000) h hk
  have a2 := e_anyaim (K := K) (cl := cl) (m := 1000000) (h.mv (s := s)) hk
  have e6 : ((1000000 : Nat) : Int) = 1000000 := rfl
  have hs2 : (s : Int) ≤ 1000 := by omega
  rw [e6, h1] at a1
  rw [e6, h2] at a2
  simp [m_moved, b_moved, startE, a1, a2, e_moved_by h hk, m_check_number, b_check_number, e_within_I, hs2]
/-- what is refused -/
def errM {α : Type} {B : Sto} (x : Exn) : M B α := fun s => .err x s
@[simp] theorem raise_eq {B : Sto} {x : Str} {ρ : SEnv} : (sRaise x ρ : M B Fl) = errM ⟨x, none⟩ := rfl
@[simp] theorem bind_err {α β : Type} {B : Sto} {x : Exn} {f : α → M B β} : M.bind (errM x : M B α) f = errM x := rfl
theorem e_moved_no {d : D} {k : Nat} {a : Aim} (h : Ht k a) (hk : k ≤ 10) (h1 : (a.pts 1000000 8).isSome = true) (hd : (m_is_within [d, .int 0, .int 1000] : M (MemS K cl) D) = M.pure (.bl false)) : (m_moved [a.d, d] : M (MemS K cl) D) = errM ⟨"NoNumber", none⟩ := by
  have a1 := e_anyaim (K := K) (cl := cl) (m := 1000000) h hk
  have e6 : ((1000000 : Nat) : Int) = 1000000 := rfl
  rw [e6, h1] at a1
  simp [m_moved, b_moved, startE, a1, m_check_number, b_check_number, hd]
theorem e_moved_far {s k : Nat} {a : Aim} (h : Ht k a) (hk : k ≤ 10) (h1 : (a.pts 1000000 8).isSome = true) (hs : s ≤ 1000) (h2 : (a.mv s).pts 1000000 8 = none) : (m_moved [a.d, .int s] : M (MemS K cl) D) = errM ⟨"NoNumber", none⟩ := by
  have a1 := e_anyaim (K := K) (cl := cl) (m := 1000000) h hk
  have a2 := e_anyaim (K := K) (cl := cl) (m := 1000000) (h.mv (s := s)) hk
  have e6 : ((1000000 : Nat) : Int) = 1000000 := rfl
  have hs2 : (s : Int) ≤ 1000 := by omega
  rw [e6, h1] at a1
  rw [e6, h2] at a2
  simp [m_moved, b_moved, startE, a1, a2, e_moved_by h hk, m_check_number, b_check_number, e_within_I, hs2]
theorem e_told {d r : D} {a : D} (h : (m_moved [a, d] : M (MemS K cl) D) = M.pure r) : (m__law_told [a, d] : M (MemS K cl) D) = M.pure r := by
  refine pure_of_wp fun s => ?_
  simp [m__law_told, b__law_told, startE, h, catchX, wp, M.bind, M.pure, noErr, lift, retF]
theorem e_told_no {d a : D} (h : (m_moved [a, d] : M (MemS K cl) D) = errM ⟨"NoNumber", none⟩) : (m__law_told [a, d] : M (MemS K cl) D) = M.pure (.str "none") := by
  refine pure_of_wp fun s => ?_
  simp [m__law_told, b__law_told, startE, h, catchX, wp, M.bind, M.pure, noErr, lift, retF, hGo, t_of, errM]
end
end LW
set_option Elab.async false
set_option linter.all false
set_option maxRecDepth 100000
set_option maxHeartbeats 4000000
namespace LW
open PySem PySem.Spec PyProof.Rows L2 RZ DN
section
variable {K : PySem.W.Frag} {cl : CTab}
/-! ## halls -/
theorem allD_true' {α : Type} {as : List α} : (as.all fun _ => true) = true := List.all_eq_true.mpr fun _ _ => rfl
theorem e_letters {m : Nat} {z : Str} (h : WordOk m z) : (m_is_letters [.str z, .int m] : M (MemS K cl) D) = M.pure (.bl true) := by
  obtain ⟨h1, h2, h3⟩ := h
  have g1 : (1 : Int) ≤ z.length := by omega
  have g2 : (z.length : Int) ≤ m := by omega
  unfold lettersD at h3
  simp [m_is_letters, b_is_letters, startE, g1, g2]
  rw [compL_map (k := fun _ => .bl true) (fun c hc => by simp [wipeE, h3 c hc])]
  simp [allD_true, allD_true']
theorem e_word {z : Str} (h : WordOk 20 z) : (m_is_word [.str z] : M (MemS K cl) D) = M.pure (.bl true) := by
  have := e_letters (K := K) (cl := cl) h
  have e : ((20 : Nat) : Int) = 20 := rfl
  rw [e] at this
  simp [m_is_word, b_is_word, startE, this]
theorem e_name {z : Str} (h : WordOk 8 z) : (m_is_name [.str z] : M (MemS K cl) D) = M.pure (.bl true) := by
  have := e_letters (K := K) (cl := cl) h
  have e : ((8 : Nat) : Int) = 8 := rfl
  rw [e] at this
  simp [m_is_name, b_is_name, startE, this]
theorem e_words {r : List Str} {m : Nat} (h : ∀ w ∈ r, WordOk 20 w) (hl : r.length ≤ m) : (m_is_words [.tup (r.map .str), .int m] : M (MemS K cl) D) = M.pure (.bl true) := by
  have g : (r.length : Int) ≤ m := by omega
  simp [m_is_words, b_is_words, startE, g]
  rw [compL_map (k := fun _ => .bl true) (fun c hc => by simp [wipeE, e_word (h c hc)])]
  simp [allD_true, allD_true']
theorem e_board {b : D} (h : BoardOk b) : (m_is_board [b] : M (MemS K cl) D) = M.pure (.bl true) := by
  obtain ⟨n, s, r, rfl, h1, h2, h3, h4, h5⟩ := h
  have hw := e_words (K := K) (cl := cl) (m := 20) h5 h4
  have e : ((20 : Nat) : Int) = 20 := rfl
  rw [e] at hw
  simp [m_is_board, b_is_board, startE, boardD, e_name h1, e_within_I, h2, h3, hw]
theorem nmL_of {bs : List D} {nm : D} (h : namesD bs = some nm) : ∃ ns, nmL bs = some ns ∧ (DN.putAll [] [] (ns.map fun n => (n, .bl true))).bind sortKD = some nm := by
  unfold namesD at h
  cases e : nmL bs with
  | none => rw [e] at h; cases h
  | some ns => rw [e] at h; exact ⟨ns, rfl, h⟩
theorem e_keep {c : Str} {p : Addr} {s : Mem} {bs ns : List D} (hc : c ∈ (["Hall", "RawHall"] : List Str)) (hb : D.immL bs = true) (hn : D.immL ns = true) (h : namesD bs = some (.lst ns)) :
    wp (m_Hall_keep (K := K) (cl := cl) [.ref p, .tup bs]) (fun a s' => a = .non ∧ s' = updM s p (some (.ins c [.tup bs, .tup ns]))) (updM s p (some (.ins c []))) := by
  obtain ⟨nl, h1, h2⟩ := nmL_of h
  have im : (D.tup bs).imm = true := hb
  have im2 : (D.tup ns).imm = true := hn
  simp only [m_Hall_keep, b_Hall_keep, s_runF, startE]
  simp
  refine (wp_setfs updM_same hc rfl im).mpr ?_
  simp
  have hcomp : ∀ d ∈ bs, (compFD (B := MemS K cl) (aTup (aCons (aName 2) (aCons (aName 3) (aCons (aName 4) aNil)))) tY (eVar 2) (eC (.bl true)) (wipeE [some (D.ref p), some (D.tup bs), none, none, none] [2, 3, 4]) d) = M.pure ((fun d => match d with
      | .tup [n, x, y] => some (n, D.bl true)
      | _ => none) d) := by
    intro d hd
    obtain ⟨n, x, y, rfl⟩ := nmL_inv h1 d hd
    simp [compFD, wipeE]
  rw [compL_pure hcomp, nmL_map h1 _ (fun n x y _ => rfl)]
  cases e2 : DN.putAll [] [] (nl.map fun n => (n, D.bl true)) with
  | none => rw [e2] at h2; cases h2
  | some dd =>
    rw [e2, Option.bind_some] at h2
    simp [h2, e2]
    refine (wp_setfs updM_same hc rfl im2).mpr ?_
    simp
theorem i_keep_cases (bs : List D) : i_keep bs = .stuck ∨ ∃ ns, namesD bs = some (.lst ns) ∧ D.immL bs = true ∧ D.immL ns = true ∧ i_keep bs = .ok [.tup bs, .tup ns] := by
  unfold i_keep
  split
  · rename_i ns e
    split
    · rename_i h
      rw [Bool.and_eq_true] at h
      exact .inr ⟨ns, e, h.1, h.2, rfl⟩
    · exact .inl rfl
  · exact .inl rfl
theorem init_RawHall : InitIs "RawHall" (m_RawHall_init (K := K) (cl := cl)) i_RawHall := by
  intro p ds s hs
  have cases1 : i_RawHall ds = .stuck ∨ ∃ bs, ds = [.tup bs] ∧ i_RawHall ds = i_keep bs := by
    unfold i_RawHall
    split
    · exact .inr ⟨_, rfl, rfl⟩
    · exact .inl rfl
  rcases cases1 with h | ⟨bs, rfl, h⟩
  · rw [h]; trivial
  · rw [h]
    rcases i_keep_cases bs with h | ⟨ns, h1, h2, h3, h4⟩
    · rw [h]; trivial
    · rw [h4]
      show m_RawHall_init _ _ = _
      refine ok_of_wp (B := MemS K cl) ?_
      simp [m_RawHall_init, b_RawHall_init, startE, wp_insr]
      exact wp_mono (e_keep (by simp) h2 h3 h1) fun a s' h => h.2
theorem enumL_mem {bs : List D} : ∀ (i : Nat), ∀ d ∈ enumL i bs, ∃ (j : Int) (b : D), d = .tup [.int j, b] ∧ b ∈ bs := by
  induction bs with
  | nil => intro i d h; exact nomatch h
  | cons b bs ih =>
    intro i d h
    rw [enumL] at h
    rcases List.mem_cons.mp h with rfl | h
    · exact ⟨_, b, rfl, List.mem_cons_self⟩
    · obtain ⟨j, c, e, m⟩ := ih (i + 1) d h
      exact ⟨j, c, e, List.mem_cons_of_mem _ m⟩
theorem init_Hall : InitIs "Hall" (m_Hall_init (K := K) (cl := cl)) i_Hall := by
  intro p ds s hs
  have cases1 : i_Hall ds = .stuck ∨ ∃ bs, ds = [.tup bs] ∧ (1 ≤ bs.length ∧ bs.length ≤ 12 ∧ ∀ b ∈ bs, BoardOk b) ∧ i_Hall ds = i_keep bs := by
    unfold i_Hall
    split
    · split
      · rename_i h
        exact .inr ⟨_, rfl, h, rfl⟩
      · exact .inl rfl
    · exact .inl rfl
  rcases cases1 with h | ⟨bs, rfl, ⟨g1, g2, g3⟩, h⟩
  · rw [h]; trivial
  · rw [h]
    rcases i_keep_cases bs with h | ⟨ns, h1, h2, h3, h4⟩
    · rw [h]; trivial
    · rw [h4]
      show m_Hall_init _ _ = _
      refine ok_of_wp (B := MemS K cl) ?_
      have l1 : (1 : Int) ≤ bs.length := by omega
      have l2 : (bs.length : Int) ≤ 12 := by omega
      simp [m_Hall_init, b_Hall_init, startE, l1, l2]
      refine wp_forI (fun r ρ s' => (∀ d ∈ r, ∃ (i : Int) (b : D), d = .tup [.int i, b] ∧ b ∈ bs) ∧ s' = updM s p (some (D.ins "Hall" [])) ∧
        ∃ x y : Sl, ρ = [.val (.ref p), .val (.tup bs), x, y]) ⟨enumL_mem 0, rfl, _, _, rfl⟩ ?_ ?_
      · rintro d r ρ s' ⟨hr, rfl, x, y, rfl⟩
        obtain ⟨i, b, rfl, hb⟩ := hr d List.mem_cons_self
        refine ⟨[(2, .int i), (3, b)], by simp, ?_⟩
        simp [e_board (g3 b hb)]
        exact fun d hd => hr d (List.mem_cons_of_mem _ hd)
      · rintro ρ s' ⟨_, rfl, x, y, rfl⟩
        simp [wp_insr]
        exact wp_mono (e_keep (by simp) h2 h3 h1) fun a s' h => h.2
/-- a hall with these boards -/
def HallOf (h : D) (bs : List D) : Prop := ∃ c ns, c ∈ (["Hall", "RawHall"] : List Str) ∧ h = .ins c [.tup bs, ns]
theorem make_Hall {bs : List D} (h1 : 1 ≤ bs.length) (h2 : bs.length ≤ 12) (h3 : ∀ b ∈ bs, BoardOk b) : ∃ h, mkM (K := K) (cl := cl) "Hall" 2 (i_Hall [.tup bs]) = M.pure h ∧ HallOf h bs := by
  obtain ⟨ns, e1, e2⟩ := keep_ok h3 (by omega)
  refine ⟨.ins "Hall" [.tup bs, .tup (ns.map .str)], ?_, "Hall", _, by simp, rfl⟩
  have e : i_Hall [.tup bs] = i_keep bs := by
    unfold i_Hall
    simp only
    rw [if_pos ⟨h1, h2, h3⟩]
  rw [e, e2]
  rfl
theorem make_Raw {bs : List D} (h2 : bs.length ≤ 60) (h3 : ∀ b ∈ bs, BoardOk b) : ∃ h, mkM (K := K) (cl := cl) "RawHall" 2 (i_RawHall [.tup bs]) = M.pure h ∧ HallOf h bs := by
  obtain ⟨ns, e1, e2⟩ := keep_ok h3 h2
  refine ⟨.ins "RawHall" [.tup bs, .tup (ns.map .str)], ?_, "RawHall", _, by simp, rfl⟩
  have e : i_RawHall [.tup bs] = i_keep bs := rfl
  rw [e, e2]
  rfl
theorem e_boards {h : D} {bs : List D} (g : HallOf h bs) : (fldMs (K := K) (cl := cl) ["Hall", "RawHall"] 0 h) = M.pure (.tup bs) := by
  obtain ⟨c, ns, hc, rfl⟩ := g
  rw [flds_ins hc]
  rfl
theorem e_joined {g h : D} {bs cs : List D} (h1 : HallOf g bs) (h2 : HallOf h cs) (hl : bs.length + cs.length ≤ 60) (hb : ∀ b ∈ bs, BoardOk b) (hc : ∀ b ∈ cs, BoardOk b) : ∃ j, (m_joined [g, h] : M (MemS K cl) D) = M.pure j ∧ HallOf j (bs ++ cs) := by
  obtain ⟨j, e, hj⟩ := make_Raw (K := K) (cl := cl) (bs := bs ++ cs) (by rw [List.length_append]; exact hl) (fun b m => (List.mem_append.mp m).elim (hb b) (hc b))
  refine ⟨j, ?_, hj⟩
  have ea : addD (.tup bs) (.tup cs) = some (.tup (bs ++ cs)) := by
    show (if _ then _ else _) = _
    rw [if_pos (Nat.le_trans hl (by decide))]
  simp [m_joined, b_joined, startE, e_boards h1, e_boards h2, ea, e]
theorem e_isaim {h : D} {bs : List D} {k : Nat} {a : Aim} (g : HallOf h bs) (hb : 1 ≤ bs.length) (ha : Ht k a) (hk : k ≤ 10) : (m_is_aim [h, a.d] : M (MemS K cl) D) = M.pure (.bl (a.pts (bs.length - 1) 8).isSome) := by
  have := e_anyaim (K := K) (cl := cl) (m := bs.length - 1) ha hk
  have e : ((bs.length - 1 : Nat) : Int) = (bs.length : Int) - 1 := by omega
  rw [e] at this
  simp [m_is_aim, b_is_aim, startE, e_boards g, this]
theorem e_reached {h : D} {bs : List D} {l : List Nat} {k : Nat} {a : Aim} (g : HallOf h bs) (hb : 1 ≤ bs.length) (ha : Ht k a) (hk : k ≤ 10) (hp : (a.pts (bs.length - 1) 8).isSome = true) (h12 : bs.length ≤ 1000) (hl : ∀ i ∈ l, i < bs.length) (hs : l.Pairwise (· < ·)) :
    (m_reached [h, a.d, .tup (l.map fun b : Nat => .int b)] : M (MemS K cl) D) = M.pure (.bl (a.holds fun b => decide (b ∈ l))) := by
  have e1 := e_isaim (K := K) (cl := cl) g hb ha hk
  rw [hp] at e1
  have e2 : (m_is_lot [.tup (l.map fun b : Nat => .int b), .int bs.length] : M (MemS K cl) D) = M.pure (.bl true) := by
    have := e_lot (K := K) (cl := cl) (l := l.map fun b : Nat => (b : Int)) (n := bs.length) (fun i hi => by
      obtain ⟨b, hb, rfl⟩ := List.mem_map.mp hi
      have := hl b hb
      omega)
    rw [List.map_map] at this
    have hs2 : (l.map fun b : Nat => (b : Int)).Pairwise (· < ·) := by
      rw [List.pairwise_map]
      exact hs.imp fun h => by omega
    simp only [hs2, decide_true] at this
    exact this
  have e3 : (m_mask_of [.tup (l.map fun b : Nat => .int b)] : M (MemS K cl) D) = M.pure (.int (maskN l)) := e_mask fun i hi => by
    have := hl i hi
    omega
  have e4 := e_holds (K := K) (cl := cl) (m := maskN l) ha hk
  rw [show (maskN l).testBit = fun b => decide (b ∈ l) from funext fun i => mask_bit l i] at e4
  simp [m_reached, b_reached, startE, m_check_aim, b_check_aim, e1, e2, e3, e4, e_boards g]
theorem e_dualP {h : D} {bs : List D} {k : Nat} {a : Aim} (g : HallOf h bs) (hb : 1 ≤ bs.length) (ha : Ht k a) (hk : k ≤ 10) (hp : (a.pts (bs.length - 1) 8).isSome = true) : (m_dual [h, a.d] : M (MemS K cl) D) = M.pure a.dual.d := by
  have e1 := e_isaim (K := K) (cl := cl) g hb ha hk
  rw [hp] at e1
  simp [m_dual, b_dual, startE, m_check_aim, b_check_aim, e1, e_dual ha hk]
theorem e_same {h : D} {bs : List D} {k : Nat} {a b : Aim} (g : HallOf h bs) (hb : 1 ≤ bs.length) (h12 : bs.length ≤ 12) (ha : Ht k a) (hb' : Ht k b) (hk : k ≤ 10) (hp : (a.pts (bs.length - 1) 8).isSome = true) (hp' : (b.pts (bs.length - 1) 8).isSome = true)
    (hab : ∀ p, a.holds p = b.holds p) : (m_same_aims [h, a.d, b.d] : M (MemS K cl) D) = M.pure (.bl true) := by
  have e1 := e_isaim (K := K) (cl := cl) g hb ha hk
  have e2 := e_isaim (K := K) (cl := cl) g hb hb' hk
  rw [hp] at e1
  rw [hp'] at e2
  have hl : ¬ (12 : Int) < bs.length := by omega
  have hr : range1 (.int (2 ^ bs.length)) = some ((List.range (2 ^ bs.length)).map fun i : Nat => .int (i : Int)) := by
    have := rng (2 ^ bs.length) (Nat.le_trans (Nat.pow_le_pow_right (by omega) h12) (by decide))
    push_cast at this
    exact this
  have hl2 : (bs.length : Int) ≤ 1000000 := by omega
  simp [m_same_aims, b_same_aims, startE, m_check_aim, b_check_aim, m_check_listed, b_check_listed, e1, e2, e_boards g, hl, hl2]
  rw [hr]
  simp
  rw [compL_map (k := fun _ => .bl true)]
  · simp [allD_true, allD_true']
  · intro i hi
    simp [wipeE, e_holds ha hk, e_holds hb' hk, hab]
end
end LW
set_option Elab.async false
set_option linter.all false
set_option maxRecDepth 100000
set_option maxHeartbeats 4000000
namespace LW
open PySem PySem.Spec PyProof.Rows L2 RZ DN
section
variable {K : PySem.W.Frag} {cl : CTab}
noncomputable def b__law_word : SEnv → M (MemS K cl) Fl := seqF (sSet 1 (xLst (aC (eC (.str "a")) (aC (eC (.str "b")) (aC (eC (.str "c")) (aC (eC (.str "a")) (aC (eC (.str "b")) (aC (eC (.str "ab")) (aC (eC (.str "zz")) (aC (eC (.str "c")) (aC (eC (.str "aa")) (aC (eC (.str "qwertyuiopasdfghjklz")) (aN))))))))))))) (sRet pHide (xIx (eVar 1) (xCall m__law_pick (aC (eVar 0) (aC (eC (.int 10)) (aN))))))
noncomputable def m__law_word : List D → M (MemS K cl) D := runF 2 b__law_word
noncomputable def b__law_line : SEnv → M (MemS K cl) Fl := sRet pHide (xB tupleD (aC (xLc [2] (aName 2) (tY) (xCall m__law_word (aC (eVar 0) (aN))) (iOf range1 (eVar 1))) (aN)))
noncomputable def m__law_line : List D → M (MemS K cl) D := runF 3 b__law_line
noncomputable def b__law_some : SEnv → M (MemS K cl) Fl := sRet pHide (xIx (eVar 1) (xCall m__law_pick (aC (eVar 0) (aC (xB lenD (aC (eVar 1) (aN))) (aN)))))
noncomputable def m__law_some : List D → M (MemS K cl) D := runF 2 b__law_some
noncomputable def b__law_boards_f1 : SEnv → M (MemS K cl) Fl := seqF (sSet 9 (xTup (aN))) (seqF (sIf pHide (tAn (tTr (eVar 2)) (tCm gtI (xCall m__law_pick (aC (eVar 0) (aC (eC (.int 4)) (aN)))) (eC (.int 0)))) (sSet 9 (xSl (xCall m__law_some (aC (eVar 0) (aC (xLst (aC (eVar 5) (aC (eVar 5) (aC (eVar 6) (aN))))) (aN)))) (oN) (oS (xCall m__law_pick (aC (eVar 0) (aC (eC (.int 4)) (aN))))))) (sPass)) (sApp pHide yes 7 (xTup (aC (xCall m__law_some (aC (eVar 0) (aC (eVar 4) (aN)))) (aC (xCall m__law_pick (aC (eVar 0) (aC (eC (.int 2)) (aN)))) (aC (eVar 9) (aN)))))))
noncomputable def b__law_boards : SEnv → M (MemS K cl) Fl := seqF (sSet 3 (xOp addD (eC (.int 1)) (xB max2D (aC (xCall m__law_pick (aC (eVar 0) (aC (eVar 1) (aN)))) (aC (xCall m__law_pick (aC (eVar 0) (aC (eVar 1) (aN)))) (aN)))))) (seqF (sSet 4 (xSl (xLst (aC (eC (.str "p")) (aC (eC (.str "q")) (aC (eC (.str "pq")) (aN))))) (oN) (oS (xOp addD (eC (.int 1)) (xCall m__law_pick (aC (eVar 0) (aC (eC (.int 3)) (aN)))))))) (seqF (sSet 5 (xCall m__law_line (aC (eVar 0) (aC (eC (.int 4)) (aN))))) (seqF (sSet 6 (xOp addD (xSl (eVar 5) (oN) (oS (xOp addD (eC (.int 1)) (xCall m__law_pick (aC (eVar 0) (aC (eC (.int 3)) (aN))))))) (xCall m__law_line (aC (eVar 0) (aC (eC (.int 2)) (aN)))))) (seqF (sNewL 7) (seqF (sFor (aName 8) (iOf range1 (eVar 3)) (b__law_boards_f1)) (sFrz 7 (sRet pHide (xB tupleD (aC (eVar 7) (aN))))))))))
noncomputable def m__law_boards : List D → M (MemS K cl) D := runF 10 b__law_boards
noncomputable def b__law_are_pair : SEnv → M (MemS K cl) Fl := seqF (sIf pHide (tOo (tCm neD (xIx (eVar 0) (eC (.int 0))) (xIx (eVar 1) (eC (.int 0)))) (tCm eqD (xIx (eVar 0) (eC (.int 1))) (xIx (eVar 1) (eC (.int 1))))) (sRet pHide (eC (.bl false))) (sPass)) (seqF (sIf pHide (tCm eqD (xIx (eVar 0) (eC (.int 2))) (xIx (eVar 1) (eC (.int 2)))) (sRet pHide (eC (.bl true))) (sPass)) (seqF (sFor (aTup (aCons (aName 2) (aCons (aName 3) (aNil)))) (iOf anyI (xLst (aC (xTup (aC (eVar 0) (aC (eVar 1) (aN)))) (aC (xTup (aC (eVar 1) (aC (eVar 0) (aN)))) (aN))))) (sIf pHide (tAn (tCm eqD (xSl (xIx (eVar 2) (eC (.int 2))) (oN) (oS (xUn negD (eC (.int 1))))) (xIx (eVar 3) (eC (.int 2)))) (tCm eqD (xB lenD (aC (xIx (eVar 2) (eC (.int 2))) (aN))) (xOp addD (xB lenD (aC (xIx (eVar 3) (eC (.int 2))) (aN))) (eC (.int 1))))) (sRet pHide (xOp neD (xIx (eVar 2) (eC (.int 1))) (xOp modD (xB lenD (aC (xIx (eVar 3) (eC (.int 2))) (aN))) (eC (.int 2))))) (sPass))) (sRet pHide (eC (.bl false)))))
noncomputable def m__law_are_pair : List D → M (MemS K cl) D := runF 4 b__law_are_pair
noncomputable def b__law_pairs : SEnv → M (MemS K cl) Fl := seqF (sNewL 1) (seqF (sFor (aName 2) (iOf range1 (xB lenD (aC (eVar 0) (aN)))) (sFor (aName 3) (iOf2 range2 (xOp addD (eVar 2) (eC (.int 1))) (xB lenD (aC (eVar 0) (aN)))) (sIf pHide (tTr (xCall m__law_are_pair (aC (xIx (eVar 0) (eVar 2)) (aC (xIx (eVar 0) (eVar 3)) (aN))))) (sApp pHide yes 1 (xTup (aC (eVar 2) (aC (eVar 3) (aN))))) (sPass)))) (sFrz 1 (sRet pHide (eVar 1))))
noncomputable def m__law_pairs : List D → M (MemS K cl) D := runF 4 b__law_pairs
noncomputable def b_mover_of : SEnv → M (MemS K cl) Fl := sRet pHide (xOp modD (xB lenD (aC (eVar 0) (aN))) (eC (.int 2)))
noncomputable def m_mover_of : List D → M (MemS K cl) D := runF 1 b_mover_of
noncomputable def b_is_ahead : SEnv → M (MemS K cl) Fl := seqF (sIf pHide (tOo (tCm neD (xB lenD (aC (xIx (eVar 0) (eC (.int 2))) (aN))) (xOp addD (xB lenD (aC (xIx (eVar 1) (eC (.int 2))) (aN))) (eC (.int 1)))) (tCm neD (xSl (xIx (eVar 0) (eC (.int 2))) (oN) (oS (xUn negD (eC (.int 1))))) (xIx (eVar 1) (eC (.int 2))))) (sRet pHide (eC (.bl false))) (sPass)) (sRet pHide (xOp neD (xCall m_mover_of (aC (xIx (eVar 1) (eC (.int 2))) (aN))) (xIx (eVar 0) (eC (.int 1)))))
noncomputable def m_is_ahead : List D → M (MemS K cl) D := runF 2 b_is_ahead
noncomputable def b_are_pair : SEnv → M (MemS K cl) Fl := seqF (sIf pHide (tOo (tCm neD (xIx (eVar 0) (eC (.int 0))) (xIx (eVar 1) (eC (.int 0)))) (tCm eqD (xIx (eVar 0) (eC (.int 1))) (xIx (eVar 1) (eC (.int 1))))) (sRet pHide (eC (.bl false))) (sPass)) (sRet pHide (xOr (xOp eqD (xIx (eVar 0) (eC (.int 2))) (xIx (eVar 1) (eC (.int 2)))) (xOr (xCall m_is_ahead (aC (eVar 0) (aC (eVar 1) (aN)))) (xCall m_is_ahead (aC (eVar 1) (aC (eVar 0) (aN)))))))
noncomputable def m_are_pair : List D → M (MemS K cl) D := runF 2 b_are_pair
noncomputable def b_all_pairs : SEnv → M (MemS K cl) Fl := seqF (sNewL 1) (seqF (sFor (aTup (aCons (aName 2) (aCons (aName 3) (aNil)))) (iOf enumI (xFlds ["Hall", "RawHall"] 0 (eVar 0))) (sFor (aName 4) (iOf2 range2 (xOp addD (eVar 2) (eC (.int 1))) (xB lenD (aC (xFlds ["Hall", "RawHall"] 0 (eVar 0)) (aN)))) (sIf pHide (tTr (xCall m_are_pair (aC (eVar 3) (aC (xIx (xFlds ["Hall", "RawHall"] 0 (eVar 0)) (eVar 4)) (aN))))) (sApp pHide yes 1 (xTup (aC (eVar 2) (aC (eVar 4) (aN))))) (sPass)))) (sRetO 1))
noncomputable def m_all_pairs : List D → M (MemS K cl) D := runFO 5 b_all_pairs
noncomputable def b_pairs : SEnv → M (MemS K cl) Fl := sRetM (xCall m_all_pairs (aC (eVar 0) (aN)))
noncomputable def m_pairs : List D → M (MemS K cl) D := runFO 1 b_pairs
noncomputable def b__law_apart : SEnv → M (MemS K cl) Fl := seqF (sNewL 1) (seqF (sFor (aName 2) (iOf range1 (xB lenD (aC (eVar 0) (aN)))) (sFor (aName 3) (iOf2 range2 (xOp addD (eVar 2) (eC (.int 1))) (xB lenD (aC (eVar 0) (aN)))) (seqF (sSet 4 (xB sortedDD (aC (xLst (aC (xIx (xIx (eVar 0) (eVar 2)) (eC (.int 2))) (aC (xIx (xIx (eVar 0) (eVar 3)) (eC (.int 2))) (aN)))) (aN)))) (sIf pHide (tAn (tCm eqD (xIx (xIx (eVar 0) (eVar 2)) (eC (.int 0))) (xIx (xIx (eVar 0) (eVar 3)) (eC (.int 0)))) (tCm neD (xIx (xIx (eVar 0) (eVar 2)) (eC (.int 1))) (xIx (xIx (eVar 0) (eVar 3)) (eC (.int 1))))) (sIf pHide (tAn (tCm eqD (xB lenD (aC (xIx (eVar 4) (eC (.int 1))) (aN))) (xOp addD (xB lenD (aC (xIx (eVar 4) (eC (.int 0))) (aN))) (eC (.int 1)))) (tCm eqD (xSl (xIx (eVar 4) (eC (.int 1))) (oN) (oS (xUn negD (eC (.int 1))))) (xIx (eVar 4) (eC (.int 0))))) (sApp pHide yes 1 (xTup (aC (eVar 2) (aC (eVar 3) (aN))))) (sPass)) (sPass))))) (sFrz 1 (sRet pHide (eVar 1))))
noncomputable def m__law_apart : List D → M (MemS K cl) D := runF 5 b__law_apart
noncomputable def b_turned : SEnv → M (MemS K cl) Fl := sRet pHide (xMake "RawHall" 2 i_RawHall (aC (xB tupleD (aC (xLc [1, 2, 3] (aTup (aCons (aName 1) (aCons (aName 2) (aCons (aName 3) (aNil))))) (tY) (xTup (aC (eVar 1) (aC (xOp subD (eC (.int 1)) (eVar 2)) (aC (eVar 3) (aN))))) (iOf anyI (xFlds ["Hall", "RawHall"] 0 (eVar 0)))) (aN))) (aN)))
noncomputable def m_turned : List D → M (MemS K cl) D := runF 4 b_turned
noncomputable def b_L21_law_f1 : SEnv → M (MemS K cl) Fl := seqF (sSet 3 (xCall m__law_boards (aC (eVar 1) (aC (eC (.int 12)) (aC (xOp gtI (eVar 2) (eC (.int 0))) (aN)))))) (seqF (sSet 4 (xMake "Hall" 2 i_Hall (aC (eVar 3) (aN)))) (seqF (sSet 5 (xCall m__law_pairs (aC (eVar 3) (aN)))) (seqF (sOwn 6 (xCall m_pairs (aC (eVar 4) (aN)))) (seqF (sIf pAll (tOo (tNt (tTr (xUn (isD "list") (eVar 6)))) (tNt (tTr (xCall (m__law_is 30) (aC (eVar 6) (aC (eVar 5) (aN))))))) (sRet pHide (eC (.bl false))) (sPass)) (seqF (sApp pHide yes 6 (eC .non)) (seqF (sIf pHide (tNt (tTr (xCall (m__law_is 30) (aC (xStrip (xCall m_pairs (aC (eVar 4) (aN)))) (aC (eVar 5) (aN)))))) (sRet pHide (eC (.bl false))) (sPass)) (seqF (sSet 7 (xStrip (xCall m_pairs (aC (xCall m_turned (aC (eVar 4) (aN))) (aN))))) (seqF (sSet 8 (xCall m__law_apart (aC (eVar 3) (aN)))) (seqF (sIf pHide (tCm neD (xLc [12] (aName 12) (tCm notInK (eVar 12) (eVar 8)) (eVar 12) (iOf anyI (eVar 7))) (xLc [12] (aName 12) (tCm notInK (eVar 12) (eVar 8)) (eVar 12) (iOf anyI (eVar 5)))) (sRet pHide (eC (.bl false))) (sPass)) (seqF (sIf pHide (tTr (xB anyD (aC (xLc [12] (aName 12) (tY) (xOp eqD (xOp inK (eVar 12) (eVar 7)) (xOp inK (eVar 12) (eVar 5))) (iOf anyI (eVar 8))) (aN)))) (sRet pHide (eC (.bl false))) (sPass)) (seqF (sSet 9 (xCall m__law_boards (aC (eVar 1) (aC (eC (.int 6)) (aC (xOp gtI (eVar 2) (eC (.int 0))) (aN)))))) (seqF (sSet 10 (xStrip (xCall m_pairs (aC (xCall m_joined (aC (eVar 4) (aC (xMake "Hall" 2 i_Hall (aC (eVar 9) (aN))) (aN)))) (aN))))) (seqF (sSet 11 (xB lenD (aC (eVar 3) (aN)))) (seqF (sIf pHide (tCm neD (xLc [12] (aName 12) (tCm ltI (xIx (eVar 12) (eC (.int 1))) (eVar 11)) (eVar 12) (iOf anyI (eVar 10))) (eVar 5)) (sRet pHide (eC (.bl false))) (sPass)) (seqF (sIf pHide (tCm neD (xLc [13, 14] (aTup (aCons (aName 13) (aCons (aName 14) (aNil)))) (tCm geI (eVar 13) (eVar 11)) (xTup (aC (xOp subD (eVar 13) (eVar 11)) (aC (xOp subD (eVar 14) (eVar 11)) (aN)))) (iOf anyI (eVar 10))) (xCall m__law_pairs (aC (eVar 9) (aN)))) (sRet pHide (eC (.bl false))) (sPass)) (sIf pHide (tNt (tTr (xCall (m__law_is 30) (aC (eVar 10) (aC (xCall m__law_pairs (aC (xOp addD (eVar 3) (eVar 9)) (aN))) (aN)))))) (sRet pHide (eC (.bl false))) (sPass)))))))))))))))))
noncomputable def b_L21_law : SEnv → M (MemS K cl) Fl := seqF (sFor (aName 2) (iOf range1 (eC (.int 3))) (b_L21_law_f1)) (sRet pHide (eC (.bl true)))
end
end LW
set_option Elab.async false
set_option linter.all false
set_option maxRecDepth 100000
set_option maxHeartbeats 4000000
namespace LW
open PySem PySem.Spec PyProof.Rows L2 RZ DN
/-! ## data without flags: == is = -/
def Da : Nat → D → Prop
  | 0, _ => False
  | _ + 1, .non => True
  | _ + 1, .int _ => True
  | _ + 1, .str _ => True
  | k + 1, .tup ds => ∀ d ∈ ds, Da k d
  | k + 1, .lst ds => ∀ d ∈ ds, Da k d
  | _, _ => False
section
variable {k j : Nat} {d e : D} {ds es : List D}
@[simp] theorem da_non : Da (k + 1) .non := trivial
@[simp] theorem da_int {i : Int} : Da (k + 1) (.int i) := trivial
@[simp] theorem da_str {x : Str} : Da (k + 1) (.str x) := trivial
@[simp] theorem da_tup : Da (k + 1) (.tup ds) ↔ ∀ d ∈ ds, Da k d := by rw [Da]
@[simp] theorem da_lst : Da (k + 1) (.lst ds) ↔ ∀ d ∈ ds, Da k d := by rw [Da]
theorem da_cases (h : Da (k + 1) d) : d = .non ∨ (∃ i, d = .int i) ∨ (∃ x, d = .str x) ∨ (∃ ds, d = .tup ds ∧ ∀ x ∈ ds, Da k x) ∨ ∃ ds, d = .lst ds ∧ ∀ x ∈ ds, Da k x := by
  cases d with
  | non => exact .inl rfl
  | int i => exact .inr (.inl ⟨i, rfl⟩)
  | str x => exact .inr (.inr (.inl ⟨x, rfl⟩))
  | tup ds => exact .inr (.inr (.inr (.inl ⟨ds, rfl, da_tup.mp h⟩)))
  | lst ds => exact .inr (.inr (.inr (.inr ⟨ds, rfl, da_lst.mp h⟩)))
  | _ => simp [Da] at h
theorem Da.plain : ∀ {k : Nat} {d : D}, Da k d → d.plain = true ∧ d.py.depth ≤ k
  | 0, _, h => by simp [Da] at h
  | k + 1, d, h => by
    rcases da_cases h with rfl | ⟨i, rfl⟩ | ⟨x, rfl⟩ | ⟨ds, rfl, h⟩ | ⟨ds, rfl, h⟩
    · exact ⟨rfl, by simp [D.py, PyData.depth]⟩
    · exact ⟨rfl, by simp [D.py, PyData.depth]⟩
    · exact ⟨rfl, by simp [D.py, PyData.depth]⟩
    · exact ⟨plainL_all fun x hx => (h x hx).plain.1, by rw [D.py, PyData.depth]; exact Nat.succ_le_succ (depthAll_le fun x hx => (h x hx).plain.2)⟩
    · exact ⟨plainL_all fun x hx => (h x hx).plain.1, by rw [D.py, PyData.depth]; exact Nat.succ_le_succ (depthAll_le fun x hx => (h x hx).plain.2)⟩
theorem Da.okc (h : Da k d) (hk : k ≤ 60) : d.okc = true := by
  obtain ⟨a, b⟩ := h.plain
  unfold D.okc
  rw [a, decide_eq_true (by omega)]
  rfl
theorem eqvAll_iff : ∀ {ds es : List D}, (∀ d ∈ ds, ∀ e ∈ es, (PyData.eqv d.py e.py = true ↔ d = e)) → (PyData.eqvAll (D.pyL ds) (D.pyL es) = true ↔ ds = es)
  | [], [], _ => by simp [D.pyL, PyData.eqvAll]
  | [], e :: es, _ => by simp [D.pyL, PyData.eqvAll]
  | d :: ds, [], _ => by simp [D.pyL, PyData.eqvAll]
  | d :: ds, e :: es, h => by
    rw [D.pyL, D.pyL, PyData.eqvAll, Bool.and_eq_true, h d List.mem_cons_self e List.mem_cons_self, eqvAll_iff fun a ha b hb => h a (List.mem_cons_of_mem _ ha) b (List.mem_cons_of_mem _ hb), List.cons.injEq]
theorem Da.eqv : ∀ {k j : Nat} {d e : D}, Da k d → Da j e → (PyData.eqv d.py e.py = true ↔ d = e)
  | 0, _, _, _, h, _ => by simp [Da] at h
  | _ + 1, 0, _, _, _, h => by simp [Da] at h
  | k + 1, j + 1, d, e, h, g => by
    rcases da_cases h with rfl | ⟨i, rfl⟩ | ⟨x, rfl⟩ | ⟨ds, rfl, h⟩ | ⟨ds, rfl, h⟩ <;> rcases da_cases g with rfl | ⟨i', rfl⟩ | ⟨x', rfl⟩ | ⟨es, rfl, g⟩ | ⟨es, rfl, g⟩
    all_goals first
      | (simp [D.py, PyData.eqv]; done)
      | (rw [D.py, D.py, PyData.eqv, eqvAll_iff fun a ha b hb => (h a ha).eqv (g b hb)]; simp)
open Classical in
theorem eq_da (h : Da k d) (g : Da j e) (hk : k ≤ 60 := by decide) (hj : j ≤ 60 := by decide) : eqD d e = some (.bl (decide (d = e))) := by
  unfold eqD
  rw [h.okc hk, g.okc hj]
  simp only [Bool.and_self, if_true]
  congr 2
  rw [Bool.eq_iff_iff, h.eqv g, decide_eq_true_iff]
open Classical in
theorem ne_da (h : Da k d) (g : Da j e) (hk : k ≤ 60 := by decide) (hj : j ≤ 60 := by decide) : neD d e = some (.bl (!decide (d = e))) := by
  unfold neD
  rw [h.okc hk, g.okc hj]
  simp only [Bool.and_self, if_true]
  congr 3
  rw [Bool.eq_iff_iff, h.eqv g, decide_eq_true_iff]
theorem okc_lst (h : ∀ d ∈ ds, Da k d) (hk : k ≤ 59) : (D.lst ds).okc = true := Da.okc (k := k + 1) (da_lst.mpr h) (by omega)
open Classical in
theorem inSeq_da (h : Da k d) (g : ∀ e ∈ es, Da j e) (hk : k ≤ 60 := by decide) (hj : j ≤ 59 := by decide) : inSeq d es = some (decide (d ∈ es)) := by
  unfold inSeq
  rw [h.okc hk, okc_lst g hj]
  simp only [Bool.and_self, if_true]
  congr 1
  rw [pyL_map, List.any_map, Bool.eq_iff_iff, List.any_eq_true, decide_eq_true_iff]
  constructor
  · rintro ⟨e, he, q⟩
    rwa [← ((g e he).eqv h).mp q]
  · exact fun m => ⟨d, m, ((g d m).eqv h).mpr rfl⟩
open Classical in
theorem inT_da (h : Da k d) (g : ∀ e ∈ es, Da j e) (hk : k ≤ 60 := by decide) (hj : j ≤ 59 := by decide) : inD d (.tup es) = some (.bl (decide (d ∈ es))) := by
  show (inSeq d es).map D.bl = _
  rw [inSeq_da h g hk hj]; rfl
open Classical in
theorem inL_da (h : Da k d) (g : ∀ e ∈ es, Da j e) (hk : k ≤ 60 := by decide) (hj : j ≤ 59 := by decide) : inD d (.lst es) = some (.bl (decide (d ∈ es))) := by
  show (inSeq d es).map D.bl = _
  rw [inSeq_da h g hk hj]; rfl
open Classical in
theorem notInT_da (h : Da k d) (g : ∀ e ∈ es, Da j e) (hk : k ≤ 60 := by decide) (hj : j ≤ 59 := by decide) : notInD d (.tup es) = some (.bl (!decide (d ∈ es))) := by
  show (inSeq d es).map (fun b => D.bl (!b)) = _
  rw [inSeq_da h g hk hj]; rfl
open Classical in
theorem notInL_da (h : Da k d) (g : ∀ e ∈ es, Da j e) (hk : k ≤ 60 := by decide) (hj : j ≤ 59 := by decide) : notInD d (.lst es) = some (.bl (!decide (d ∈ es))) := by
  show (inSeq d es).map (fun b => D.bl (!b)) = _
  rw [inSeq_da h g hk hj]; rfl
theorem Da.up : ∀ {k : Nat} {d : D}, Da k d → Da (k + 1) d
  | 0, _, h => by simp [Da] at h
  | k + 1, d, h => by
    rcases da_cases h with rfl | ⟨i, rfl⟩ | ⟨x, rfl⟩ | ⟨ds, rfl, h⟩ | ⟨ds, rfl, h⟩
    · trivial
    · trivial
    · trivial
    · exact da_tup.mpr fun x hx => (h x hx).up
    · exact da_lst.mpr fun x hx => (h x hx).up
theorem Da.le (h : Da k d) (l : k ≤ j) : Da j d := by
  induction l with
  | refl => exact h
  | step _ ih => exact ih.up
theorem Da.pt : ∀ {k : Nat} {d : D}, Da k d → Pt k d ∨ d = .non ∨ True := fun _ => .inr (.inr trivial)
end
theorem da_row {r : List Str} : Da 2 (.tup (r.map .str)) := by
  rw [da_tup]; intro d hd; obtain ⟨x, _, rfl⟩ := List.mem_map.mp hd; trivial
theorem str_inj : ∀ {r s : List Str}, (r.map D.str = s.map D.str) ↔ r = s := fun {r s} => List.map_inj_right fun a b h => by cases h; rfl
/-! ## loops that gather -/
section
variable {B : Sto} {α β : Type}
theorem wp_forC {a : D → Option Asg} {F : SEnv → M B Fl} {R : Fl → B.T → Prop} {g : α → D} {f : α → List β} (N : Nat) (I : List β → SEnv → Prop) : ∀ {xs : List α} {acc : List β} {ρ : SEnv} {s : B.T}, I acc ρ → (acc ++ xs.flatMap f).length ≤ N →
    (∀ x ∈ xs, ∀ acc ρ, I acc ρ → (acc ++ f x).length ≤ N → ∃ as, a (g x) = some as ∧ wp (F (setsS ρ as)) (fun fl s' => ∃ ρ', (fl = .nx ρ' ∨ fl = .ct ρ') ∧ s' = s ∧ I (acc ++ f x) ρ') s) →
    (∀ ρ', I (acc ++ xs.flatMap f) ρ' → R (.nx ρ') s) → wp (forL a F (xs.map g) ρ) R s
  | [], acc, ρ, s, h0, _, hf, hr => hr ρ (by simpa using h0)
  | x :: xs, acc, ρ, s, h0, hN, hf, hr => by
    have hN2 : (acc ++ f x).length ≤ N := by simp at hN ⊢; omega
    obtain ⟨as, ha, hw⟩ := hf x List.mem_cons_self acc ρ h0 hN2
    rw [List.map_cons]
    unfold forL
    rw [ha, bind_some]
    refine wp_bind (wp_mono hw fun fl s1 ⟨ρ', h1, h2, h3⟩ => ?_)
    subst h2
    have go := wp_forC (a := a) (F := F) (g := g) N I (xs := xs) h3 (by simpa [List.flatMap_cons] using hN) (fun y hy => hf y (List.mem_cons_of_mem _ hy)) (R := R) (fun ρ2 i2 => hr ρ2 (by simpa [List.flatMap_cons] using i2))
    rcases h1 with rfl | rfl
    · exact go
    · exact go
theorem flatMap_len {n m : Nat} {f : α → List β} : ∀ {xs : List α}, xs.length ≤ n → (∀ x ∈ xs, (f x).length ≤ m) → (xs.flatMap f).length ≤ n * m
  | [], _, _ => by simp
  | x :: xs, h, g => by
    cases n with
    | zero => simp at h
    | succ n =>
      have h1 := g x List.mem_cons_self
      have h2 := flatMap_len (n := n) (m := m) (f := f) (xs := xs) (by simpa using h) fun y hy => g y (List.mem_cons_of_mem _ hy)
      rw [List.flatMap_cons, List.length_append, Nat.succ_mul]
      omega
end
theorem map_range2 {i n : Nat} : ((List.range ((n : Int) - (i : Int)).toNat).map fun k : Nat => D.int ((i : Int) + (k : Int))) = (List.range' i (n - i)).map fun k : Nat => .int k := by
  have : ((n : Int) - (i : Int)).toNat = n - i := by omega
  rw [this, List.range'_eq_map_range, List.map_map]
  apply List.map_congr_left
  intro k _
  simp
theorem rng2 {i n : Nat} (hi : i ≤ 100000) (hn : n ≤ 100000) : range2 (.int (i : Int)) (.int (n : Int)) = some ((List.range' i (n - i)).map fun k : Nat => .int k) := by
  show (if _ then _ else _) = _
  rw [if_pos (by omega), map_range2]
theorem rng2s {i n : Nat} (hi : i ≤ 90000) (hn : n ≤ 100000) : range2 (.int ((i : Int) + 1)) (.int (n : Int)) = some ((List.range' (i + 1) (n - (i + 1))).map fun k : Nat => .int k) := by
  have := rng2 (i := i + 1) (n := n) (by omega) hn
  push_cast at this
  exact this
theorem enumL_range {α : Type} {g : α → D} : ∀ (as : List α) (i : Nat), enumL i (as.map g) = (List.range' i as.length).map fun j => .tup [.int j, ((as[j - i]?).map g).getD .non]
  | [], i => by simp [enumL]
  | a :: as, i => by
    rw [List.map_cons, enumL, List.length_cons, List.range'_succ, List.map_cons, enumL_range as (i + 1)]
    simp only [Nat.sub_self, List.getElem?_cons_zero, Option.map_some, Option.getD_some]
    congr 1
    apply List.map_congr_left
    intro j hj
    have hj2 := List.mem_range'_1.mp hj
    have e1 : j - i = (j - (i + 1)) + 1 := by omega
    rw [e1, List.getElem?_cons_succ]
theorem cut_to {α : Type} {g : α → D} {r : List α} {n : Nat} : slD (.tup (r.map g)) none (some (n : Int)) = some (.tup ((r.take n).map g)) := by
  show some (D.tup (cutL _ _ _)) = _
  unfold cutL
  have e : HT.sIx (r.map g).length (r.map g).length (some (n : Int)) = min n (r.map g).length := HT.sIx_nat _ _ n
  rw [e, HT.sIx_none]
  simp only [List.drop_zero, Nat.sub_zero, List.map_take]
  congr 2
  rw [List.take_eq_take_iff]
  omega
theorem cut_last {α : Type} {g : α → D} {r : List α} : slD (.tup (r.map g)) none (some (-1)) = some (.tup (r.dropLast.map g)) := by
  show some (D.tup (cutL _ _ _)) = _
  unfold cutL
  rw [HT.sIx_none]
  have e : HT.sIx (r.map g).length (r.map g).length (some (-1)) = (r.map g).length - 1 := by
    unfold HT.sIx
    simp
    try omega
  rw [e]
  simp only [List.drop_zero, Nat.sub_zero, List.map_dropLast]
  rw [← List.dropLast_eq_take]
end LW
set_option Elab.async false
set_option linter.all false
set_option maxRecDepth 100000
set_option maxHeartbeats 4000000
namespace LW
open PySem PySem.Spec PyProof.Rows L2 RZ DN
/-! ## drawn words, lines, boards -/
def wordB (m : Nat) (z : Str) : Bool := decide (1 ≤ z.length) && decide (z.length ≤ m) && z.cps.toList.all fun c => !(Builtin.Str.occurrences "abcdefghijklmnopqrstuvwxyz" ⟨#[c]⟩ 0 (26 : Nat) 1).isEmpty
theorem word_ok {m : Nat} {z : Str} (h : wordB m z = true) : WordOk m z := by
  unfold wordB at h
  rw [Bool.and_eq_true, Bool.and_eq_true] at h
  obtain ⟨⟨h1, h2⟩, h3⟩ := h
  refine ⟨of_decide_eq_true h1, of_decide_eq_true h2, fun c hc => ?_⟩
  have := List.all_eq_true.mp h3 c hc
  show some (D.bl _) = _
  exact congrArg (fun b => some (D.bl b)) this
structure Bd where
  n : Str
  s : Nat
  r : List Str
def Bd.d (b : Bd) : D := .tup [.str b.n, .int b.s, .tup (b.r.map .str)]
structure Bd.Ok (b : Bd) : Prop where
  n : WordOk 8 b.n
  s : b.s ≤ 1
  l : b.r.length ≤ 20
  w : ∀ x ∈ b.r, WordOk 20 x
theorem Bd.Ok.board {b : Bd} (h : b.Ok) : BoardOk b.d := ⟨b.n, b.s, b.r, rfl, h.n, by omega, by have := h.s; omega, h.l, h.w⟩
theorem boards_ok {bs : List Bd} (h : ∀ b ∈ bs, b.Ok) : ∀ d ∈ bs.map Bd.d, BoardOk d := fun d hd => by
  obtain ⟨b, hb, rfl⟩ := List.mem_map.mp hd
  exact (h b hb).board
theorem da_bd {b : Bd} : Da 3 b.d := by
  rw [Bd.d, da_tup]; intro d hd
  simp only [List.mem_cons, List.not_mem_nil, or_false] at hd
  rcases hd with rfl | rfl | rfl
  · trivial
  · trivial
  · exact da_row
section
variable {K : PySem.W.Frag} {cl : CTab} {t : Addr}
theorem ixL {ds : List D} {k : Nat} (h : k < ds.length) : ixD (.lst ds) (.int k) = some ds[k] := by
  simp [ixD, atI, ixN, h]
theorem ixT {ds : List D} {k : Nat} (h : k < ds.length) : ixD (.tup ds) (.int k) = some ds[k] := by
  simp [ixD, atI, ixN, h]
theorem wp_some {ds : List D} {R : D → Mem → Prop} {s : Mem} (ht : Tape t s) (h1 : 1 ≤ ds.length) (h2 : ds.length ≤ 100000) (q : ∀ d ∈ ds, ∀ s', Tape t s' → R d s') : wp (m__law_some (K := K) (cl := cl) [.ref t, .lst ds]) R s := by
  simp only [m__law_some, b__law_some, s_runF, startE]
  simp
  refine wp_pick ht (by omega) (by omega) fun k s1 k0 k1 ht1 => ?_
  obtain ⟨i, rfl⟩ : ∃ i : Nat, k = i := ⟨k.toNat, by omega⟩
  have hi : i < ds.length := by omega
  rw [ixL hi, wp_lift_iff]
  exact q _ (List.getElem_mem hi) s1 ht1
theorem wp_word {R : D → Mem → Prop} {s : Mem} (ht : Tape t s) (q : ∀ z s', WordOk 20 z → z ∈ (["a", "b", "c", "ab", "zz", "aa", "qwertyuiopasdfghjklz"] : List Str) → Tape t s' → R (.str z) s') : wp (m__law_word (K := K) (cl := cl) [.ref t]) R s := by
  simp only [m__law_word, b__law_word, s_runF, startE]
  simp
  refine wp_pick ht (by omega) (by omega) fun k s1 k0 k1 ht1 => ?_
  have key : ∀ z : Str, z ∈ (["a", "b", "c", "ab", "zz", "aa", "qwertyuiopasdfghjklz"] : List Str) → WordOk 20 z := fun z hz => by
    have : ∀ z ∈ (["a", "b", "c", "ab", "zz", "aa", "qwertyuiopasdfghjklz"] : List Str), wordB 20 z = true := by decide +kernel
    exact word_ok (this z hz)
  have hk : k = 0 ∨ k = 1 ∨ k = 2 ∨ k = 3 ∨ k = 4 ∨ k = 5 ∨ k = 6 ∨ k = 7 ∨ k = 8 ∨ k = 9 := by omega
  have go : ∀ z : Str, z ∈ (["a", "b", "c", "ab", "zz", "aa", "qwertyuiopasdfghjklz"] : List Str) → R (.str z) s1 := fun z hz => q z s1 (key z hz) hz ht1
  rcases hk with rfl | rfl | rfl | rfl | rfl | rfl | rfl | rfl | rfl | rfl <;> exact go _ (by simp)
theorem wp_line {n : Nat} {R : D → Mem → Prop} {s : Mem} (ht : Tape t s) (hn : n ≤ 1000) (q : ∀ (r : List Str) s', r.length = n → (∀ w ∈ r, WordOk 20 w) → Tape t s' → R (.tup (r.map .str)) s') : wp (m__law_line (K := K) (cl := cl) [.ref t, .int n]) R s := by
  simp only [m__law_line, b__law_line, s_runF, startE]
  simp
  rw [rng n (by omega), wp_lift_iff]
  refine wp_compLx (Tape t) (fun z : Str => WordOk 20 z) (fun z => D.str z) ht ?_ ?_
  · intro d hd s1 ht1
    refine wp_noErr ?_
    simp [wipeE]
    exact wp_word ht1 fun z s' hz _ hts => ⟨hts, z, hz, rfl⟩
  · intro bs s' hts hl hb
    exact q bs s' (by simpa using hl) hb hts
theorem wp_boards {m : Nat} {b : Bool} {R : D → Mem → Prop} {s : Mem} (ht : Tape t s) (h1 : 1 ≤ m) (hm : m ≤ 1000) (q : ∀ (bs : List Bd) s', 1 ≤ bs.length → bs.length ≤ m → (∀ b ∈ bs, b.Ok) → (∀ b ∈ bs, b.r.length ≤ 3) → (b = false → ∀ b ∈ bs, b.r = []) → Tape t s' → R (.tup (bs.map Bd.d)) s') :
    wp (m__law_boards (K := K) (cl := cl) [.ref t, .int m, .bl b]) R s := by
  simp only [m__law_boards, b__law_boards, s_runF, startE]
  simp
  refine wp_pick ht (by omega) (by omega) fun k1 s1 k10 k11 ht1 => ?_
  refine wp_pick ht1 (by omega) (by omega) fun k2 s2 k20 k21 ht2 => ?_
  obtain ⟨many, hmany, hm1, hm2⟩ : ∃ v : Nat, 1 + (if k1 < k2 then k2 else k1) = (v : Int) ∧ 1 ≤ v ∧ v ≤ m := by
    refine ⟨(1 + (if k1 < k2 then k2 else k1)).toNat, ?_, ?_, ?_⟩ <;> split <;> omega
  have e1 : (max2D [.int k1, .int k2]) = some (.int (if k1 < k2 then k2 else k1)) := rfl
  rw [e1]
  simp
  rw [hmany]
  refine wp_pick ht2 (by omega) (by omega) fun kn s3 kn0 kn1 ht3 => ?_
  obtain ⟨nl, hnl1, hnl2, hcut⟩ : ∃ nl : List D, 1 ≤ nl.length ∧ (nl.length ≤ 3 ∧ ∀ d ∈ nl, ∃ z : Str, d = .str z ∧ WordOk 8 z) ∧ slD (.lst [.str "p", .str "q", .str "pq"]) none (some (1 + kn)) = some (.lst nl) := by
    have hw : ∀ z : Str, z ∈ (["p", "q", "pq"] : List Str) → WordOk 8 z := fun z hz => by
      have : ∀ z ∈ (["p", "q", "pq"] : List Str), wordB 8 z = true := by decide +kernel
      exact word_ok (this z hz)
    have : kn = 0 ∨ kn = 1 ∨ kn = 2 := by omega
    rcases this with rfl | rfl | rfl
    · exact ⟨[.str "p"], by simp, ⟨by simp, fun d hd => ⟨"p", by simpa using hd, hw _ (by simp)⟩⟩, by with_unfolding_all rfl⟩
    · refine ⟨[.str "p", .str "q"], by simp, ⟨by simp, fun d hd => ?_⟩, by with_unfolding_all rfl⟩
      simp at hd
      rcases hd with rfl | rfl
      · exact ⟨_, rfl, hw _ (by simp)⟩
      · exact ⟨_, rfl, hw _ (by simp)⟩
    · refine ⟨[.str "p", .str "q", .str "pq"], by simp, ⟨by simp, fun d hd => ?_⟩, by with_unfolding_all rfl⟩
      simp at hd
      rcases hd with rfl | rfl | rfl
      · exact ⟨_, rfl, hw _ (by simp)⟩
      · exact ⟨_, rfl, hw _ (by simp)⟩
      · exact ⟨_, rfl, hw _ (by simp)⟩
  simp
  rw [hcut, wp_lift_iff]
  refine wp_line (n := 4) ht3 (by omega) fun line s4 l4 lw ht4 => ?_
  refine wp_pick ht4 (by omega) (by omega) fun kc s5 kc0 kc1 ht5 => ?_
  simp
  obtain ⟨c, hc, hc3⟩ : ∃ c : Nat, 1 + kc = (c : Int) ∧ c ≤ 3 := ⟨(1 + kc).toNat, by omega, by omega⟩
  rw [hc, cut_to, wp_lift_iff]
  refine wp_line (n := 2) ht5 (by omega) fun line2 s6 l2 lw2 ht6 => ?_
  have ea : addD (.tup ((line.take c).map .str)) (.tup (line2.map .str)) = some (.tup ((line.take c ++ line2).map .str)) := by
    show (if _ then _ else _) = _
    rw [if_pos, List.map_append]
    simp [sizeLine_eq, l2, l4]
    omega
  rw [ea, wp_lift_iff, rng many (by omega), wp_lift_iff]
  have hol : ∀ w ∈ line.take c ++ line2, WordOk 20 w := fun w hw => (List.mem_append.mp hw).elim (fun h => lw w (List.mem_of_mem_take h)) (lw2 w)
  generalize hoth : line.take c ++ line2 = other at hol
  refine wp_forI (fun r ρ s' => Tape t s' ∧ ∃ (bs : List Bd) (x8 x9 : Sl), r.length + bs.length = many ∧ (∀ b ∈ bs, b.Ok) ∧ (∀ b ∈ bs, b.r.length ≤ 3) ∧ (b = false → ∀ b ∈ bs, b.r = []) ∧
    ρ = [.val (.ref t), .val (.int m), .val (.bl b), .val (.int many), .val (.lst nl), .val (.tup (line.map .str)), .val (.tup (other.map .str)), .own (.lst (bs.map Bd.d)), x8, x9])
    ⟨ht6, [], _, _, by simp, fun _ h => (nomatch h), fun _ h => (nomatch h), fun _ _ h => (nomatch h), rfl⟩ ?_ ?_
  · rintro d r ρ s7 ⟨ht7, bs, x8, x9, hlen, hok, h3, hb0, rfl⟩
    refine ⟨_, s_aName, ?_⟩
    have hbl : bs.length < 16777216 := by simp at hlen; omega
    unfold b__law_boards_f1
    refine wp_cut (fun ρ' s' => s' = s7 ∧ ρ' = [.val (.ref t), .val (.int m), .val (.bl b), .val (.int many), .val (.lst nl), .val (.tup (line.map .str)), .val (.tup (other.map .str)), .own (.lst (bs.map Bd.d)), .val d, .val (.tup [])]) (by simp) ?_
    rintro _ _ ⟨rfl, rfl⟩
    refine wp_cut (fun ρ' s' => Tape t s' ∧ ∃ row : List Str, row.length ≤ 3 ∧ (∀ w ∈ row, WordOk 20 w) ∧ (b = false → row = []) ∧ ρ' = [.val (.ref t), .val (.int m), .val (.bl b), .val (.int many), .val (.lst nl), .val (.tup (line.map .str)), .val (.tup (other.map .str)), .own (.lst (bs.map Bd.d)), .val d, .val (.tup (row.map .str))]) ?_ ?_
    · cases b with
      | false =>
        simp
        exact ht7
      | true =>
        simp
        refine wp_pick ht7 (by omega) (by omega) fun kr s8 kr0 kr1 ht8 => ?_
        by_cases hkr : 0 < kr
        · simp [hkr]
          refine wp_some ht8 (by simp) (by simp) fun dl hdl s9 ht9 => ?_
          obtain ⟨full, rfl, hfw⟩ : ∃ r : List Str, dl = .tup (r.map .str) ∧ ∀ w ∈ r, WordOk 20 w := by
            simp at hdl
            rcases hdl with rfl | rfl
            · exact ⟨line, rfl, lw⟩
            · exact ⟨other, rfl, hol⟩
          refine wp_pick ht9 (by omega) (by omega) fun kx s10 kx0 kx1 ht10 => ?_
          obtain ⟨cx, rfl⟩ : ∃ v : Nat, kx = (v : Int) := ⟨kx.toNat, by omega⟩
          simp
          rw [cut_to, wp_lift_iff]
          exact ⟨ht10, full.take cx, by rw [List.length_take]; omega, fun w hw => hfw w (List.mem_of_mem_take hw), rfl⟩
        · simp [hkr]
          exact ht8
    · rintro _ s8 ⟨ht8, row, hr3, hrw, hrb, rfl⟩
      simp
      refine wp_some ht8 hnl1 (by omega) fun dn hdn s9 ht9 => ?_
      obtain ⟨z, rfl, hz⟩ := hnl2.2 dn hdn
      refine wp_pick ht9 (by omega) (by omega) fun ks s10 ks0 ks1 ht10 => ?_
      obtain ⟨sd, rfl⟩ : ∃ v : Nat, ks = (v : Int) := ⟨ks.toNat, by omega⟩
      simp [D.isMut, sizeLine_eq, hbl]
      have hb' : (⟨z, sd, row⟩ : Bd).Ok := ⟨hz, by show sd ≤ 1; omega, by show row.length ≤ 20; omega, hrw⟩
      refine ⟨ht10, bs ++ [⟨z, sd, row⟩], by simp at hlen ⊢; omega, fun c hc => ?_, fun c hc => ?_, fun hb c hc => ?_, by simp [Bd.d]⟩
      · rcases List.mem_append.mp hc with h | h
        · exact hok c h
        · rw [List.mem_singleton.mp h]; exact hb'
      · rcases List.mem_append.mp hc with h | h
        · exact h3 c h
        · rw [List.mem_singleton.mp h]; exact hr3
      · rcases List.mem_append.mp hc with h | h
        · exact hb0 hb c h
        · rw [List.mem_singleton.mp h]; exact hrb hb
  · rintro ρ s7 ⟨ht7, bs, x8, x9, hlen, hok, h3, hb0, rfl⟩
    simp [frzS, strip_lst]
    rw [show bs.map (D.strip ∘ Bd.d) = bs.map Bd.d from List.map_congr_left fun b _ => strip_leaf (by rfl)]
    simp at hlen
    exact q bs s7 (by omega) (by omega) hok h3 hb0 ht7
end
end LW
set_option Elab.async false
set_option linter.all false
set_option maxRecDepth 100000
set_option maxHeartbeats 4000000
namespace LW
open PySem PySem.Spec PyProof.Rows L2 RZ DN
/-! ## the order of data -/
def ltD (d e : D) : Bool := PySem.W.dataLt d.py e.py
theorem ltD_irr (d : D) : ltD d d = false := PyProof.Rows.lex_irrefl (O := itemOrd) _
theorem ltD_trans {a b c : D} (h : ltD a b = true) (g : ltD b c = true) : ltD a c = true := PyProof.Rows.lex_trans (O := itemOrd) _ _ _ h g
theorem ltD_asymm {a b : D} (h : ltD a b = true) : ltD b a = false := by
  cases q : ltD b a with
  | false => rfl
  | true => have := ltD_trans h q; rw [ltD_irr] at this; cases this
theorem ltD_neg {a b c : D} (h : ltD a c = true) : ltD a b = true ∨ ltD b c = true := PyProof.Rows.lex_negTrans (O := itemOrd) _ _ _ h
theorem le_ltD {a b : D} : leData a b = !ltD b a := rfl
theorem sort2 {a b : D} : sortDL [a, b] = if ltD b a = true then [b, a] else [a, b] := by
  unfold sortDL
  have h : ([a, b] : List D).mergeSort leData = if leData a b = true then [a, b] else [b, a] := by
    rw [List.mergeSort]
    simp [List.MergeSort.Internal.splitInTwo, List.merge]
  rw [h, le_ltD]
  cases ltD b a <;> simp
theorem toks_pre : ∀ xs : List PyData, ∃ p, PySem.W.keyToksAll xs = p ++ [.inl 0] ∧ ∀ y r, ∃ q, PySem.W.keyToksAll (xs ++ y :: r) = p ++ .inl 1 :: q
  | [] => ⟨[], by simp [PySem.W.keyToksAll], fun y r => ⟨PySem.W.keyToks y ++ PySem.W.keyToksAll r, by simp [PySem.W.keyToksAll]⟩⟩
  | x :: xs => by
    obtain ⟨p, h1, h2⟩ := toks_pre xs
    refine ⟨.inl 1 :: (PySem.W.keyToks x ++ p), by simp [PySem.W.keyToksAll, h1], fun y r => ?_⟩
    obtain ⟨q, hq⟩ := h2 y r
    exact ⟨q, by simp [PySem.W.keyToksAll, hq]⟩
/-- what goes on is greater -/
theorem lt_longer {ds : List D} {e : D} {es : List D} : ltD (.tup ds) (.tup (ds ++ e :: es)) = true := by
  unfold ltD
  rw [D.py, D.py, PySem.W.dataLt_tuple, pyL_map, pyL_map, List.map_append, List.map_cons]
  obtain ⟨p, h1, h2⟩ := toks_pre (ds.map D.py)
  obtain ⟨q, hq⟩ := h2 e.py (es.map D.py)
  rw [h1, hq, PySem.W.lex_pre, PyProof.Rows.lex_diff (O := itemOrd) (by simp)]
  rfl
theorem alike_strs : ∀ (r s : List Str), PySem.W.alikeAll (D.pyL (r.map .str)) (D.pyL (s.map .str)) = true
  | [], _ => by simp [D.pyL, PySem.W.alikeAll]
  | _ :: _, [] => by simp [D.pyL, PySem.W.alikeAll]
  | x :: r, y :: s => by
    rw [List.map_cons, List.map_cons, D.pyL, D.pyL, PySem.W.alikeAll, alike_strs r s]
    simp [D.py, PySem.W.alike]
theorem sorted_rows2 {r s : List Str} : sortedDD [.lst [.tup (r.map .str), .tup (s.map .str)]] = some (.lst (if ltD (.tup (s.map .str)) (.tup (r.map .str)) = true then [.tup (s.map .str), .tup (r.map .str)] else [.tup (r.map .str), .tup (s.map .str)])) := by
  have h : sortableD [.tup (r.map .str), .tup (s.map .str)] = true := by
    unfold sortableD
    have o1 : (D.tup (r.map .str)).okc = true := da_row.okc (by decide)
    have o2 : (D.tup (s.map .str)).okc = true := da_row.okc (by decide)
    simp [o1, o2, alikeAllD, D.py, PySem.W.alike, alike_strs, tupCons]
  show (if sortableD _ = true then _ else _) = _
  rw [if_pos h, sort2]
/-! ## pairs of boards -/
def one (s l : List Str) : Bool := decide (l.length = s.length + 1) && decide (l.dropLast = s)
theorem one_app {s l : List Str} (h : one s l = true) : ∃ w, l = s ++ [w] := by
  unfold one at h
  simp at h
  have hne : l ≠ [] := by intro z; subst z; simp at h
  exact ⟨l.getLast hne, by rw [← h.2]; exact (List.dropLast_concat_getLast hne).symm⟩
theorem one_lt {s l : List Str} (h : one s l = true) : ltD (.tup (s.map .str)) (.tup (l.map .str)) = true := by
  obtain ⟨w, rfl⟩ := one_app h
  rw [List.map_append, List.map_cons]
  exact lt_longer
def aheadB (l s : Bd) : Bool := one s.r l.r && decide (s.r.length % 2 ≠ l.s)
def pairB (a b : Bd) : Bool := decide (a.n = b.n) && decide (a.s ≠ b.s) && (decide (a.r = b.r) || aheadB a b || aheadB b a)
def apartB (a b : Bd) : Bool := decide (a.n = b.n) && decide (a.s ≠ b.s) && (one a.r b.r || one b.r a.r)
def ijR (n : Nat) (P : Nat → Nat → Bool) (i : Nat) : List (Nat × Nat) := (List.range' (i + 1) (n - (i + 1))).flatMap fun j => if P i j = true then [(i, j)] else []
def ijL (n : Nat) (P : Nat → Nat → Bool) : List (Nat × Nat) := (List.range n).flatMap (ijR n P)
def onB (P : Bd → Bd → Bool) (bs : List Bd) (i j : Nat) : Bool := match bs[i]?, bs[j]? with
  | some a, some b => P a b
  | _, _ => false
def pd (p : Nat × Nat) : D := .tup [.int p.1, .int p.2]
theorem ijL_len {n : Nat} {P : Nat → Nat → Bool} : (ijL n P).length ≤ n * n := by
  refine flatMap_len (by simp) fun i hi => ?_
  have := flatMap_len (n := n) (m := 1) (f := fun j => if P i j = true then [(i, j)] else []) (xs := List.range' (i + 1) (n - (i + 1))) (by rw [List.length_range']; omega) fun j _ => by split <;> simp
  unfold ijR
  omega
theorem ijL_mem {n : Nat} {P : Nat → Nat → Bool} {i j : Nat} : (i, j) ∈ ijL n P ↔ i < j ∧ j < n ∧ P i j = true := by
  unfold ijL ijR
  simp only [List.mem_flatMap, List.mem_range, List.mem_range'_1]
  constructor
  · rintro ⟨i', h1, j', h2, h3⟩
    split at h3
    · simp at h3
      obtain ⟨rfl, rfl⟩ := h3
      exact ⟨by omega, by omega, by assumption⟩
    · simp at h3
  · rintro ⟨h1, h2, h3⟩
    exact ⟨i, by omega, j, by omega, by simp [h3]⟩
section
variable {K : PySem.W.Frag} {cl : CTab}
open Classical in
theorem eq_row {r s : List Str} : eqD (.tup (r.map .str)) (.tup (s.map .str)) = some (.bl (decide (r = s))) := by
  rw [eq_da da_row da_row]
  congr 2
  rw [Bool.eq_iff_iff, decide_eq_true_iff, decide_eq_true_iff, D.tup.injEq, str_inj]
open Classical in
theorem ne_row {r s : List Str} : neD (.tup (r.map .str)) (.tup (s.map .str)) = some (.bl (!decide (r = s))) := by
  rw [ne_da da_row da_row]
  congr 3
  rw [Bool.eq_iff_iff, decide_eq_true_iff, decide_eq_true_iff, D.tup.injEq, str_inj]
theorem eq_rowL {r s : List Str} : eqD (.tup (r.map .str).dropLast) (.tup (s.map .str)) = some (.bl (decide (r.dropLast = s))) := by
  rw [← List.map_dropLast]; exact eq_row
theorem ne_rowL {r s : List Str} : neD (.tup (r.map .str).dropLast) (.tup (s.map .str)) = some (.bl (!decide (r.dropLast = s))) := by
  rw [← List.map_dropLast]; exact ne_row
theorem nat_ne {a b : Nat} : decide ((a : Int) = (b : Int)) = decide (a = b) := by
  rw [Bool.eq_iff_iff, decide_eq_true_iff, decide_eq_true_iff]; omega
theorem e_ahead {a b : Bd} : (m_is_ahead [a.d, b.d] : M (MemS K cl) D) = M.pure (.bl (aheadB a b)) := by
  have e1 : decide ((a.r.length : Int) = (b.r.length : Int) + 1) = decide (a.r.length = b.r.length + 1) := by
    rw [Bool.eq_iff_iff, decide_eq_true_iff, decide_eq_true_iff]; omega
  have e2 : decide ((b.r.length : Int) % 2 = (a.s : Int)) = decide (b.r.length % 2 = a.s) := by
    rw [Bool.eq_iff_iff, decide_eq_true_iff, decide_eq_true_iff]; omega
  by_cases h1 : a.r.length = b.r.length + 1
  · by_cases h2 : a.r.dropLast = b.r
    · have h1' : (a.r.length : Int) = (b.r.length : Int) + 1 := by omega
      simp [m_is_ahead, b_is_ahead, startE, Bd.d, m_mover_of, b_mover_of, h1', cut_last, ne_row, ne_rowL, h2, aheadB, one, e2, h1]
    · have h1' : (a.r.length : Int) = (b.r.length : Int) + 1 := by omega
      simp [m_is_ahead, b_is_ahead, startE, Bd.d, h1', cut_last, ne_row, ne_rowL, h2, aheadB, one]
  · have h1' : ¬ (a.r.length : Int) = (b.r.length : Int) + 1 := by omega
    simp [m_is_ahead, b_is_ahead, startE, Bd.d, h1', aheadB, one, h1]
theorem e_are_pair {a b : Bd} : (m_are_pair [a.d, b.d] : M (MemS K cl) D) = M.pure (.bl (pairB a b)) := by
  have e1 := e_ahead (K := K) (cl := cl) (a := a) (b := b)
  have e2 := e_ahead (K := K) (cl := cl) (a := b) (b := a)
  by_cases h1 : a.n = b.n
  · by_cases h2 : a.s = b.s
    · simp [m_are_pair, b_are_pair, startE, Bd.d, h1, h2, pairB]
    · have h2' : ¬ (a.s : Int) = (b.s : Int) := by omega
      unfold Bd.d at e1 e2
      rw [h1] at e1 e2
      simp [m_are_pair, b_are_pair, startE, Bd.d, h1, h2', eq_row, e1, e2, pairB, h2]
      by_cases h3 : a.r = b.r
      · simp [h3]
      · cases h4 : aheadB a b <;> simp [h3, h4]
  · simp [m_are_pair, b_are_pair, startE, Bd.d, h1, pairB]
theorem e_lare_pair {a b : Bd} : (m__law_are_pair [a.d, b.d] : M (MemS K cl) D) = M.pure (.bl (pairB a b)) := by
  obtain ⟨q1, f1⟩ : ∃ q : Bool, (a.r.length = b.r.length + 1) ↔ q = true := ⟨_, (decide_eq_true_iff).symm⟩
  obtain ⟨q2, f2⟩ : ∃ q : Bool, (b.r.length = a.r.length + 1) ↔ q = true := ⟨_, (decide_eq_true_iff).symm⟩
  obtain ⟨p1, g1⟩ : ∃ q : Bool, (a.r.dropLast = b.r) ↔ q = true := ⟨_, (decide_eq_true_iff).symm⟩
  obtain ⟨p2, g2⟩ : ∃ q : Bool, (b.r.dropLast = a.r) ↔ q = true := ⟨_, (decide_eq_true_iff).symm⟩
  have f1' : ((a.r.length : Int) = (b.r.length : Int) + 1) ↔ q1 = true := by rw [← f1]; omega
  have f2' : ((b.r.length : Int) = (a.r.length : Int) + 1) ↔ q2 = true := by rw [← f2]; omega
  have f3 : ∀ x y : Nat, ((x : Int) = (y : Int) % 2) ↔ (y % 2 = x) := fun x y => by omega
  have no : ¬ (q1 = true ∧ q2 = true) := fun ⟨x, y⟩ => by have := f1.mpr x; have := f2.mpr y; omega
  refine pure_of_wp fun s => ?_
  by_cases h1 : a.n = b.n
  · by_cases h2 : a.s = b.s
    · simp [m__law_are_pair, b__law_are_pair, startE, Bd.d, h1, h2, pairB]
    · have h2' : ¬ (a.s : Int) = (b.s : Int) := by omega
      by_cases h3 : a.r = b.r
      · simp [m__law_are_pair, b__law_are_pair, startE, Bd.d, h1, h2', eq_row, pairB, h2, h3]
      · simp [m__law_are_pair, b__law_are_pair, startE, Bd.d, h1, h2', eq_row, pairB, h2, h3, forL, cut_last, eq_rowL, aheadB, one, f1, f2, g1, g2, f1', f2', f3]
        cases p1 <;> cases p2 <;> cases q1 <;> cases q2 <;> simp at no <;> simp [cut_last, eq_rowL, f1', f2', g1, g2, f3]
  · simp [m__law_are_pair, b__law_are_pair, startE, Bd.d, h1, pairB]
end
end LW
set_option Elab.async false
set_option linter.all false
set_option maxRecDepth 100000
set_option maxHeartbeats 4000000
namespace LW
open PySem PySem.Spec PyProof.Rows L2 RZ DN
/-! ## all pairs -/
section
variable {K : PySem.W.Frag} {cl : CTab}
theorem ixBd {bs : List Bd} {i : Nat} {b : Bd} (h : bs[i]? = some b) : ixD (.tup (bs.map Bd.d)) (.int (i : Int)) = some b.d := by
  have hi := (List.getElem?_eq_some_iff.mp h).1
  rw [ixT (by simpa using hi)]
  rw [List.getElem_map]
  congr 2
  exact (List.getElem?_eq_some_iff.mp h).2
theorem onB_eq {P : Bd → Bd → Bool} {bs : List Bd} {i j : Nat} {a b : Bd} (h : bs[i]? = some a) (g : bs[j]? = some b) : onB P bs i j = P a b := by unfold onB; rw [h, g]
theorem mem_r' {i n j : Nat} (h : j ∈ List.range' (i + 1) (n - (i + 1))) : i < j ∧ j < n := by
  have := List.mem_range'_1.mp h
  omega
theorem strip_pd {l : List (Nat × Nat)} : D.stripL (l.map pd) = l.map pd := stripL_leaf fun d hd => by obtain ⟨p, _, rfl⟩ := List.mem_map.mp hd; rfl
theorem e_lpairs {bs : List Bd} (hn : bs.length ≤ 1000) : (m__law_pairs [.tup (bs.map Bd.d)] : M (MemS K cl) D) = M.pure (.lst ((ijL bs.length (onB pairB bs)).map pd)) := by
  refine pure_of_wp fun s => ?_
  simp only [m__law_pairs, b__law_pairs, s_runF, startE]
  simp
  rw [rng bs.length (by omega), wp_lift_iff]
  have hsq : bs.length * bs.length ≤ 1000 * 1000 := Nat.mul_le_mul hn hn
  have hlen := ijL_len (n := bs.length) (P := onB pairB bs)
  refine wp_forC (acc := []) (f := ijR bs.length (onB pairB bs)) 1000000 (fun acc ρ => ∃ x2 x3 : Sl, ρ = [.val (.tup (bs.map Bd.d)), .own (.lst (acc.map pd)), x2, x3]) ⟨_, _, rfl⟩ (by rw [List.nil_append]; exact Nat.le_trans hlen (by omega)) ?_ ?_
  · rintro i hi acc ρ ⟨x2, x3, rfl⟩ hacc
    have hi2 := List.mem_range.mp hi
    obtain ⟨a, ha⟩ : ∃ a, bs[i]? = some a := ⟨_, List.getElem?_eq_getElem hi2⟩
    refine ⟨_, s_aName, ?_⟩
    simp
    rw [rng2s (by omega) (by omega), wp_lift_iff]
    refine wp_forC 1000000 (fun acc ρ => ∃ x3 : Sl, ρ = [.val (.tup (bs.map Bd.d)), .own (.lst (acc.map pd)), .val (.int i), x3]) ⟨_, rfl⟩ hacc ?_ ?_
    · rintro j hj acc ρ ⟨x3, rfl⟩ hacc2
      have hj2 := mem_r' hj
      obtain ⟨b, hb⟩ : ∃ b, bs[j]? = some b := ⟨_, List.getElem?_eq_getElem hj2.2⟩
      refine ⟨_, s_aName, ?_⟩
      simp [ixBd ha, ixBd hb, e_lare_pair, onB_eq ha hb]
      cases hp : pairB a b with
      | false => simp [hp]
      | true =>
        have : acc.length < 16777216 := by simp at hacc2; omega
        simp [D.isMut, sizeLine_eq, this, hp, pd]
    · rintro ρ ⟨x3, rfl⟩
      exact ⟨_, .inl rfl, rfl, .val (.int i), x3, by simp [ijR]⟩
  · rintro ρ ⟨x2, x3, rfl⟩
    simp [frzS, strip_lst]
    rw [show (ijL bs.length (onB pairB bs)) = (List.range bs.length).flatMap (ijR bs.length (onB pairB bs)) from rfl]
    have := strip_pd (l := (List.range bs.length).flatMap (ijR bs.length (onB pairB bs)))
    simpa using this
theorem e_apart {bs : List Bd} (hn : bs.length ≤ 1000) : (m__law_apart [.tup (bs.map Bd.d)] : M (MemS K cl) D) = M.pure (.lst ((ijL bs.length (onB apartB bs)).map pd)) := by
  refine pure_of_wp fun s => ?_
  simp only [m__law_apart, b__law_apart, s_runF, startE]
  simp
  rw [rng bs.length (by omega), wp_lift_iff]
  have hsq : bs.length * bs.length ≤ 1000 * 1000 := Nat.mul_le_mul hn hn
  have hlen := ijL_len (n := bs.length) (P := onB apartB bs)
  refine wp_forC (acc := []) (f := ijR bs.length (onB apartB bs)) 1000000 (fun acc ρ => ∃ x2 x3 x4 : Sl, ρ = [.val (.tup (bs.map Bd.d)), .own (.lst (acc.map pd)), x2, x3, x4]) ⟨_, _, _, rfl⟩ (by rw [List.nil_append]; exact Nat.le_trans hlen (by omega)) ?_ ?_
  · rintro i hi acc ρ ⟨x2, x3, x4, rfl⟩ hacc
    have hi2 := List.mem_range.mp hi
    obtain ⟨a, ha⟩ : ∃ a, bs[i]? = some a := ⟨_, List.getElem?_eq_getElem hi2⟩
    refine ⟨_, s_aName, ?_⟩
    simp
    rw [rng2s (by omega) (by omega), wp_lift_iff]
    refine wp_forC 1000000 (fun acc ρ => ∃ x3 x4 : Sl, ρ = [.val (.tup (bs.map Bd.d)), .own (.lst (acc.map pd)), .val (.int i), x3, x4]) ⟨_, _, rfl⟩ hacc ?_ ?_
    · rintro j hj acc ρ ⟨x3, x4, rfl⟩ hacc2
      have hj2 := mem_r' hj
      obtain ⟨b, hb⟩ : ∃ b, bs[j]? = some b := ⟨_, List.getElem?_eq_getElem hj2.2⟩
      refine ⟨_, s_aName, ?_⟩
      have hsub : ∀ (c : Bd), ixD c.d (.int 2) = some (.tup (c.r.map .str)) ∧ ixD c.d (.int 0) = some (.str c.n) ∧ ixD c.d (.int 1) = some (.int c.s) := fun c => ⟨by simp [Bd.d], by simp [Bd.d], by simp [Bd.d]⟩
      have hacc3 : acc.length < 16777216 ∨ True := .inr trivial
      have hap : onB apartB bs i j = apartB a b := onB_eq ha hb
      simp [ixBd ha, ixBd hb, hsub, sorted_rows2]
      -- the two rows in order
      obtain ⟨u, v, huv, hone⟩ : ∃ u v : List Str, (if ltD (.tup (b.r.map .str)) (.tup (a.r.map .str)) = true then ([.tup (b.r.map .str), .tup (a.r.map .str)] : List D) else [.tup (a.r.map .str), .tup (b.r.map .str)]) = [.tup (u.map .str), .tup (v.map .str)] ∧ one u v = (one a.r b.r || one b.r a.r) := by
        cases hl : ltD (.tup (b.r.map .str)) (.tup (a.r.map .str)) with
        | true =>
          refine ⟨b.r, a.r, by simp, ?_⟩
          cases h : one a.r b.r with
          | false => simp
          | true => have := ltD_asymm (one_lt h); rw [hl] at this; cases this
        | false =>
          refine ⟨a.r, b.r, by simp, ?_⟩
          cases h : one b.r a.r with
          | false => simp
          | true => have := one_lt h; rw [hl] at this; cases this
      rw [huv]
      have ixl0 : ixD (.lst [.tup (u.map .str), .tup (v.map .str)]) (.int 0) = some (.tup (u.map .str)) := ixL (k := 0) (by simp)
      have ixl1 : ixD (.lst [.tup (u.map .str), .tup (v.map .str)]) (.int 1) = some (.tup (v.map .str)) := ixL (k := 1) (by simp)
      have f1 : ((v.length : Int) = (u.length : Int) + 1) ↔ v.length = u.length + 1 := by omega
      have f2 : ((a.s : Int) = (b.s : Int)) ↔ a.s = b.s := by omega
      have hP : onB apartB bs i j = (decide (a.n = b.n) && decide (a.s ≠ b.s) && one u v) := by rw [hap, hone]; rfl
      simp only [hP]
      by_cases h1 : a.n = b.n
      · by_cases h2 : a.s = b.s
        · simp [h1, h2, f2]
        · by_cases h3 : v.length = u.length + 1
          · by_cases h4 : v.dropLast = u
            · have : acc.length < 16777216 := by
                rw [hP] at hacc2
                simp [h1, h2, one, h3, h4] at hacc2
                omega
              simp [h1, h2, f2, f1, h3, h4, ixl0, ixl1, cut_last, eq_rowL, one, D.isMut, sizeLine_eq, this, pd]
              simp [← h4, ← List.map_dropLast, eq_row]
            · simp [h1, h2, f2, f1, h3, h4, ixl0, ixl1, cut_last, eq_rowL, one]
          · simp [h1, h2, f2, f1, h3, ixl0, ixl1, one]
      · simp [h1]
    · rintro ρ ⟨x3, x4, rfl⟩
      exact ⟨_, .inl rfl, rfl, .val (.int i), x3, x4, by simp [ijR]⟩
  · rintro ρ ⟨x2, x3, x4, rfl⟩
    simp [frzS, strip_lst]
    rw [show (ijL bs.length (onB apartB bs)) = (List.range bs.length).flatMap (ijR bs.length (onB apartB bs)) from rfl]
    have := strip_pd (l := (List.range bs.length).flatMap (ijR bs.length (onB apartB bs)))
    simpa using this
theorem e_all_pairs {h : D} {bs : List Bd} (g : HallOf h (bs.map Bd.d)) (hn : bs.length ≤ 1000) : (m_all_pairs [h] : M (MemS K cl) D) = M.pure (.ins "" [.lst ((ijL bs.length (onB pairB bs)).map pd)]) := by
  refine pure_of_wp fun s => ?_
  simp only [m_all_pairs, b_all_pairs, runFO, startE]
  simp [e_boards g]
  rw [enumL_range]
  have hsq : bs.length * bs.length ≤ 1000 * 1000 := Nat.mul_le_mul hn hn
  have hlen := ijL_len (n := bs.length) (P := onB pairB bs)
  unfold ijL at hlen
  rw [List.range_eq_range'] at hlen
  refine wp_forC (acc := []) (f := ijR bs.length (onB pairB bs)) 1000000 (fun acc ρ => ∃ x2 x3 x4 : Sl, ρ = [.val h, .own (.lst (acc.map pd)), x2, x3, x4]) ⟨_, _, _, rfl⟩ (by rw [List.nil_append]; exact Nat.le_trans hlen (by omega)) ?_ ?_
  · rintro i hi acc ρ ⟨x2, x3, x4, rfl⟩ hacc
    have hi2 : i < bs.length := by have := List.mem_range'_1.mp hi; omega
    obtain ⟨a, ha⟩ : ∃ a, bs[i]? = some a := ⟨_, List.getElem?_eq_getElem hi2⟩
    refine ⟨[(2, .int i), (3, a.d)], by simp [ha], ?_⟩
    simp [e_boards g]
    rw [rng2s (by omega) (by omega), wp_lift_iff]
    refine wp_forC 1000000 (fun acc ρ => ∃ x4 : Sl, ρ = [.val h, .own (.lst (acc.map pd)), .val (.int i), .val a.d, x4]) ⟨_, rfl⟩ hacc ?_ ?_
    · rintro j hj acc ρ ⟨x4, rfl⟩ hacc2
      have hj2 := mem_r' hj
      obtain ⟨b, hb⟩ : ∃ b, bs[j]? = some b := ⟨_, List.getElem?_eq_getElem hj2.2⟩
      refine ⟨_, s_aName, ?_⟩
      simp [e_boards g, ixBd hb, e_are_pair, onB_eq ha hb]
      cases hp : pairB a b with
      | false => simp [hp]
      | true =>
        have : acc.length < 16777216 := by simp at hacc2; omega
        simp [D.isMut, sizeLine_eq, this, hp, pd]
    · rintro ρ ⟨x4, rfl⟩
      exact ⟨_, .inl rfl, rfl, .val (.int i), .val a.d, x4, by simp [ijR]⟩
  · rintro ρ ⟨x2, x3, x4, rfl⟩
    simp [retFO]
    rw [ijL, List.range_eq_range']
theorem e_pairs {h : D} {bs : List Bd} (g : HallOf h (bs.map Bd.d)) (hn : bs.length ≤ 1000) : (m_pairs [h] : M (MemS K cl) D) = M.pure (.ins "" [.lst ((ijL bs.length (onB pairB bs)).map pd)]) := by
  simp [m_pairs, b_pairs, runFO, startE, e_all_pairs g hn, retS, retFO]
end
end LW
set_option Elab.async false
set_option linter.all false
set_option maxRecDepth 100000
set_option maxHeartbeats 4000000
namespace LW
open PySem PySem.Spec PyProof.Rows L2 RZ DN
/-! ## ascending lists of pairs -/
def plt (p q : Nat × Nat) : Prop := p.1 < q.1 ∨ (p.1 = q.1 ∧ p.2 < q.2)
theorem asc_ext {L M : List (Nat × Nat)} (h : L.Pairwise plt) (g : M.Pairwise plt) (e : ∀ p, p ∈ L ↔ p ∈ M) : L = M := by
  have nd : ∀ {L : List (Nat × Nat)}, L.Pairwise plt → L.Nodup := fun h => h.imp fun {a b} q z => by subst z; unfold plt at q; omega
  refine List.Perm.eq_of_pairwise (le := plt) (fun a b _ _ h1 h2 => ?_) h g ((List.perm_ext_iff_of_nodup (nd h) (nd g)).mpr fun p => e p)
  unfold plt at h1 h2
  omega
theorem ijL_asc {n : Nat} {P : Nat → Nat → Bool} : (ijL n P).Pairwise plt := by
  unfold ijL
  rw [List.pairwise_flatMap]
  refine ⟨fun i _ => ?_, List.pairwise_lt_range.imp fun {a b} h p hp q hq => ?_⟩
  · unfold ijR
    rw [List.pairwise_flatMap]
    refine ⟨fun j _ => by split <;> simp, (List.pairwise_lt_range' (s := i + 1) (n := n - (i + 1)) (step := 1) (by omega)).imp fun {a b} h p hp q hq => ?_⟩
    split at hp <;> split at hq <;> simp at hp hq
    subst hp; subst hq
    exact .inr ⟨rfl, h⟩
  · unfold ijR at hp hq
    simp only [List.mem_flatMap] at hp hq
    obtain ⟨j, _, hp⟩ := hp
    obtain ⟨k, _, hq⟩ := hq
    split at hp <;> split at hq <;> simp at hp hq
    subst hp; subst hq
    exact .inl h
theorem ijL_filter {n : Nat} {P Q : Nat → Nat → Bool} {R : Nat × Nat → Bool} (h : ∀ i j, i < j → j < n → (P i j && R (i, j)) = Q i j) : (ijL n P).filter R = ijL n Q := by
  refine asc_ext (ijL_asc.filter _) ijL_asc fun ⟨i, j⟩ => ?_
  rw [List.mem_filter, ijL_mem, ijL_mem]
  constructor
  · rintro ⟨⟨h1, h2, h3⟩, h4⟩
    exact ⟨h1, h2, by rw [← h i j h1 h2, h3, h4]; rfl⟩
  · rintro ⟨h1, h2, h3⟩
    have := h i j h1 h2
    rw [h3] at this
    simp at this
    exact ⟨⟨h1, h2, this.1⟩, this.2⟩
/-! ## turned and joined -/
def Bd.turn (b : Bd) : Bd := ⟨b.n, 1 - b.s, b.r⟩
theorem Bd.Ok.turn {b : Bd} (h : b.Ok) : b.turn.Ok := ⟨h.n, by show 1 - b.s ≤ 1; omega, h.l, h.w⟩
theorem one_not {s l : List Str} (h : one s l = true) : one l s = false ∧ s ≠ l := by
  have h1 : l.length = s.length + 1 := by
    unfold one at h; simp at h; exact h.1
  refine ⟨?_, fun z => by subst z; omega⟩
  unfold one
  rw [decide_eq_false (by omega)]
  rfl
theorem pair_turn {a b : Bd} (ha : a.s ≤ 1) (hb : b.s ≤ 1) : (apartB a b = true → pairB a.turn b.turn = !pairB a b) ∧ (apartB a b = false → pairB a.turn b.turn = pairB a b) := by
  have f : ∀ x y : Nat, y ≤ 1 → decide (x % 2 ≠ 1 - y) = !decide (x % 2 ≠ y) := fun x y hy => by
    have : x % 2 = 0 ∨ x % 2 = 1 := by omega
    have : y = 0 ∨ y = 1 := by omega
    rcases this with rfl | rfl <;> rcases ‹x % 2 = 0 ∨ x % 2 = 1› with h | h <;> simp [h]
  have fs : decide (1 - a.s ≠ 1 - b.s) = decide (a.s ≠ b.s) := by
    rw [Bool.eq_iff_iff, decide_eq_true_iff, decide_eq_true_iff]; omega
  have t1 : aheadB a.turn b.turn = (one b.r a.r && !decide (b.r.length % 2 ≠ a.s)) := by
    unfold aheadB Bd.turn; simp only; rw [f _ _ ha]
  have t2 : aheadB b.turn a.turn = (one a.r b.r && !decide (a.r.length % 2 ≠ b.s)) := by
    unfold aheadB Bd.turn; simp only; rw [f _ _ hb]
  have e : pairB a.turn b.turn = (decide (a.n = b.n) && decide (a.s ≠ b.s) && (decide (a.r = b.r) || aheadB a.turn b.turn || aheadB b.turn a.turn)) := by
    unfold pairB; rw [show a.turn.s = 1 - a.s from rfl, show b.turn.s = 1 - b.s from rfl, fs]; rfl
  rw [e, t1, t2]
  unfold apartB pairB aheadB
  cases h1 : decide (a.n = b.n) <;> cases h2 : decide (a.s ≠ b.s) <;> simp only [Bool.false_and, Bool.and_false, Bool.true_and, Bool.false_eq_true, false_implies, true_and, implies_true, and_true, Bool.not_false]
  cases h3 : one a.r b.r with
  | true =>
    obtain ⟨g1, g2⟩ := one_not h3
    rw [g1, decide_eq_false g2]
    simp
  | false =>
    cases h4 : one b.r a.r with
    | true =>
      obtain ⟨g1, g2⟩ := one_not h4
      rw [decide_eq_false (fun z => g2 z.symm)]
      simp
    | false => simp
section
variable {K : PySem.W.Frag} {cl : CTab} {t : Addr}
theorem e_turned {h : D} {bs : List Bd} (g : HallOf h (bs.map Bd.d)) (hn : bs.length ≤ 60) (hok : ∀ b ∈ bs, b.Ok) : ∃ h', (m_turned [h] : M (MemS K cl) D) = M.pure h' ∧ HallOf h' ((bs.map Bd.turn).map Bd.d) := by
  obtain ⟨h', e, g'⟩ := make_Raw (K := K) (cl := cl) (bs := (bs.map Bd.turn).map Bd.d) (by simpa using hn) (boards_ok fun b hb => by obtain ⟨c, hc, rfl⟩ := List.mem_map.mp hb; exact (hok c hc).turn)
  refine ⟨h', ?_, g'⟩
  simp [m_turned, b_turned, startE, e_boards g]
  rw [compL_map (k := fun b => b.turn.d) (fun b hb => ?_)]
  · simp at e
    simp only [Function.comp_def] at e
    simp [e]
  · have hs := (hok b hb).s
    have : (1 : Int) - (b.s : Int) = ((1 - b.s : Nat) : Int) := by omega
    simp [Bd.d, Bd.turn, wipeE, this]
theorem da_pd {p : Nat × Nat} : Da 2 (pd p) := by simp [pd]
theorem pd_inj {p q : Nat × Nat} : pd p = pd q ↔ p = q := by
  obtain ⟨a, b⟩ := p
  obtain ⟨c, d⟩ := q
  simp [pd]
  omega
theorem pds_inj {L M : List (Nat × Nat)} : L.map pd = M.map pd ↔ L = M := List.map_inj_right fun a b h => pd_inj.mp h
theorem da_pds {L : List (Nat × Nat)} : Da 3 (.lst (L.map pd)) := by
  rw [da_lst]; intro d hd; obtain ⟨p, _, rfl⟩ := List.mem_map.mp hd; exact da_pd
theorem pt_pds {L : List (Nat × Nat)} : Pt 3 (.lst (L.map pd)) := by
  refine .inr (.inr (.inr (.inr ⟨_, rfl, fun d hd => ?_⟩)))
  obtain ⟨p, _, rfl⟩ := List.mem_map.mp hd
  refine .inr (.inr (.inr (.inl ⟨_, rfl, fun e he => ?_⟩)))
  simp at he
  rcases he with rfl | rfl <;> exact .inl ⟨_, rfl⟩
theorem is_pds {L : List (Nat × Nat)} : (m__law_is 30 [.lst (L.map pd), .lst (L.map pd)] : M (MemS K cl) D) = M.pure (.bl true) := e_is pt_pds (by omega)
theorem pd_in {p : Nat × Nat} {L : List (Nat × Nat)} : inD (pd p) (.lst (L.map pd)) = some (.bl (decide (p ∈ L))) := by
  classical
  rw [inL_da (k := 2) (j := 2) da_pd (fun e he => by obtain ⟨q, _, rfl⟩ := List.mem_map.mp he; exact da_pd)]
  congr 2
  rw [Bool.eq_iff_iff, decide_eq_true_iff, decide_eq_true_iff, List.mem_map]
  exact ⟨fun ⟨q, hq, e⟩ => by rwa [← pd_inj.mp e], fun h => ⟨p, h, rfl⟩⟩
theorem pd_notin {p : Nat × Nat} {L : List (Nat × Nat)} : notInD (pd p) (.lst (L.map pd)) = some (.bl (!decide (p ∈ L))) := by
  classical
  rw [notInL_da (k := 2) (j := 2) da_pd (fun e he => by obtain ⟨q, _, rfl⟩ := List.mem_map.mp he; exact da_pd)]
  congr 3
  rw [Bool.eq_iff_iff, decide_eq_true_iff, decide_eq_true_iff, List.mem_map]
  exact ⟨fun ⟨q, hq, e⟩ => by rwa [← pd_inj.mp e], fun h => ⟨p, h, rfl⟩⟩
theorem ne_pds {L : List (Nat × Nat)} : neD (.lst (L.map pd)) (.lst (L.map pd)) = some (.bl false) := by
  rw [ne_da da_pds da_pds]; simp
theorem onB_turn {P : Bd → Bd → Bool} {bs : List Bd} {i j : Nat} (hi : i < bs.length) (hj : j < bs.length) : onB P (bs.map Bd.turn) i j = P (bs[i]).turn (bs[j]).turn := by
  unfold onB
  rw [List.getElem?_map, List.getElem?_map, List.getElem?_eq_getElem hi, List.getElem?_eq_getElem hj]
  rfl
theorem onB_get {P : Bd → Bd → Bool} {bs : List Bd} {i j : Nat} (hi : i < bs.length) (hj : j < bs.length) : onB P bs i j = P (bs[i]) (bs[j]) :=
  onB_eq (List.getElem?_eq_getElem hi) (List.getElem?_eq_getElem hj)
theorem comp_keep {f : D → M (MemS K cl) (Option D)} {p : Nat × Nat → Bool} {L : List (Nat × Nat)} (h : ∀ a ∈ L, f (pd a) = M.pure (if p a = true then some (pd a) else none)) : compL f (L.map pd) = M.pure ((L.filter p).map pd) := compL_filter h
theorem law_turn {r : Int} {ρ : SEnv} {s : Mem} (h0 : 0 ≤ r) (ht : Tape t s) (hρ : ∃ x0 x3 x4 x5 x6 x7 x8 x9 x10 x11 x12 x13 x14 : Sl, ρ = [x0, .val (.ref t), .val (.int r), x3, x4, x5, x6, x7, x8, x9, x10, x11, x12, x13, x14]) :
    wp (b_L21_law_f1 (K := K) (cl := cl) ρ) (fun fl s' => ∃ ρ' x2, fl = .nx ρ' ∧ Tape t s' ∧ ∃ x0 x3 x4 x5 x6 x7 x8 x9 x10 x11 x12 x13 x14 : Sl, ρ' = [x0, .val (.ref t), x2, x3, x4, x5, x6, x7, x8, x9, x10, x11, x12, x13, x14]) s := by
  obtain ⟨x0, x3, x4, x5, x6, x7, x8, x9, x10, x11, x12, x13, x14, rfl⟩ := hρ
  unfold b_L21_law_f1
  refine wp_cut (fun ρ' s' => Tape t s' ∧ ∃ bs : List Bd, 1 ≤ bs.length ∧ bs.length ≤ 12 ∧ (∀ b ∈ bs, b.Ok) ∧ ρ' = [x0, .val (.ref t), .val (.int r), .val (.tup (bs.map Bd.d)), x4, x5, x6, x7, x8, x9, x10, x11, x12, x13, x14]) ?_ ?_
  · simp
    refine wp_boards (m := 12) ht (by omega) (by omega) fun bs s1 h1 h2 hok _ _ ht1 => ?_
    exact ⟨ht1, bs, h1, h2, hok, rfl⟩
  rintro _ s ⟨ht, bs, h1, h12, hok, rfl⟩
  obtain ⟨hall, eh, gh⟩ := make_Hall (K := K) (cl := cl) (bs := bs.map Bd.d) (by simpa using h1) (by simpa using h12) (boards_ok hok)
  have ep := e_pairs (K := K) (cl := cl) gh (by omega)
  have el := e_lpairs (K := K) (cl := cl) (bs := bs) (by omega)
  have ea := e_apart (K := K) (cl := cl) (bs := bs) (by omega)
  obtain ⟨th, et, gt⟩ := e_turned (K := K) (cl := cl) gh (by omega) hok
  have ept := e_pairs (K := K) (cl := cl) gt (by simp; omega)
  rw [List.length_map] at ept
  generalize hL : ijL bs.length (onB pairB bs) = L at ep el
  generalize hA : ijL bs.length (onB apartB bs) = A at ea
  generalize hT : ijL bs.length (onB pairB (bs.map Bd.turn)) = T at ept
  have hLlen : L.length ≤ 144 := by rw [← hL]; exact Nat.le_trans ijL_len (Nat.mul_le_mul h12 h12)
  have sL := strip_pd (l := L)
  have sT := strip_pd (l := T)
  have iL := is_pds (K := K) (cl := cl) (L := L)
  -- hall, due, told
  refine wp_cut (fun ρ' s' => s' = s ∧ ρ' = [x0, .val (.ref t), .val (.int r), .val (.tup (bs.map Bd.d)), .val hall, x5, x6, x7, x8, x9, x10, x11, x12, x13, x14]) (by simp [eh]) ?_
  rintro _ s ⟨rfl, rfl⟩
  refine wp_cut (fun ρ' s' => s' = s ∧ ρ' = [x0, .val (.ref t), .val (.int r), .val (.tup (bs.map Bd.d)), .val hall, .val (.lst (L.map pd)), x6, x7, x8, x9, x10, x11, x12, x13, x14]) (by simp [el]) ?_
  rintro _ s ⟨rfl, rfl⟩
  refine wp_cut (fun ρ' s' => s' = s ∧ ρ' = [x0, .val (.ref t), .val (.int r), .val (.tup (bs.map Bd.d)), .val hall, .val (.lst (L.map pd)), .own (.lst (L.map pd)), x7, x8, x9, x10, x11, x12, x13, x14]) (by simp [ep, ownS]) ?_
  rintro _ s ⟨rfl, rfl⟩
  refine wp_cut (fun ρ' s' => s' = s ∧ ρ' = [x0, .val (.ref t), .val (.int r), .val (.tup (bs.map Bd.d)), .val hall, .val (.lst (L.map pd)), .own (.lst (L.map pd)), x7, x8, x9, x10, x11, x12, x13, x14]) (by simp [see1, pAll, strip_lst, sL, iL]) ?_
  rintro _ s ⟨rfl, rfl⟩
  refine wp_cut (fun ρ' s' => s' = s ∧ ∃ o, ρ' = [x0, .val (.ref t), .val (.int r), .val (.tup (bs.map Bd.d)), .val hall, .val (.lst (L.map pd)), .own o, x7, x8, x9, x10, x11, x12, x13, x14]) (by
    have : L.length < 16777216 := by omega
    simp [D.isMut, sizeLine_eq, this]) ?_
  rintro _ s ⟨rfl, o, rfl⟩
  refine wp_cut (fun ρ' s' => s' = s ∧ ρ' = [x0, .val (.ref t), .val (.int r), .val (.tup (bs.map Bd.d)), .val hall, .val (.lst (L.map pd)), .own o, x7, x8, x9, x10, x11, x12, x13, x14]) (by simp [ep, strip_lst, sL, iL]) ?_
  rintro _ s ⟨rfl, rfl⟩
  refine wp_cut (fun ρ' s' => s' = s ∧ ρ' = [x0, .val (.ref t), .val (.int r), .val (.tup (bs.map Bd.d)), .val hall, .val (.lst (L.map pd)), .own o, .val (.lst (T.map pd)), x8, x9, x10, x11, x12, x13, x14]) (by simp [et, ept, strip_lst, sT]) ?_
  rintro _ s ⟨rfl, rfl⟩
  refine wp_cut (fun ρ' s' => s' = s ∧ ρ' = [x0, .val (.ref t), .val (.int r), .val (.tup (bs.map Bd.d)), .val hall, .val (.lst (L.map pd)), .own o, .val (.lst (T.map pd)), .val (.lst (A.map pd)), x9, x10, x11, x12, x13, x14]) (by simp [ea]) ?_
  rintro _ s ⟨rfl, rfl⟩
  have memA : ∀ i j, i < j → j < bs.length → (decide ((i, j) ∈ A) = onB apartB bs i j) := fun i j hij hj => by
    rw [← hA, Bool.eq_iff_iff, decide_eq_true_iff, ijL_mem]
    exact ⟨fun h => h.2.2, fun h => ⟨hij, hj, h⟩⟩
  have keep : T.filter (fun p => !decide (p ∈ A)) = L.filter (fun p => !decide (p ∈ A)) := by
    rw [← hT, ← hL, ijL_filter (Q := fun i j => onB pairB bs i j && !onB apartB bs i j) fun i j hij hj => ?_]
    · symm
      exact ijL_filter fun i j hij hj => by rw [memA i j hij hj]
    · rw [memA i j hij hj, onB_turn (by omega) hj, onB_get (by omega) hj, onB_get (by omega) hj]
      have := (pair_turn (hok _ (List.getElem_mem (show i < bs.length by omega))).s (hok _ (List.getElem_mem hj)).s).2
      cases h : apartB (bs[i]) (bs[j]) with
      | true => simp
      | false => rw [this h]
  refine wp_cut (fun ρ' s' => s' = s ∧ ρ' = [x0, .val (.ref t), .val (.int r), .val (.tup (bs.map Bd.d)), .val hall, .val (.lst (L.map pd)), .own o, .val (.lst (T.map pd)), .val (.lst (A.map pd)), x9, x10, x11, x12, x13, x14]) (by
    simp
    rw [comp_keep (p := fun p => !decide (p ∈ A)) (fun a ha => by simp [wipeE, pd_notin]), wp_pure_iff, comp_keep (p := fun p => !decide (p ∈ A)) (fun a ha => by simp [wipeE, pd_notin]), wp_pure_iff, keep, ne_pds]
    simp) ?_
  rintro _ s ⟨rfl, rfl⟩
  have diff : ∀ p ∈ A, decide (decide (p ∈ T) = decide (p ∈ L)) = false := fun ⟨i, j⟩ hp => by
    rw [← hA, ijL_mem] at hp
    obtain ⟨hij, hj, hap⟩ := hp
    have e1 : decide ((i, j) ∈ T) = onB pairB (bs.map Bd.turn) i j := by
      rw [← hT, Bool.eq_iff_iff, decide_eq_true_iff, ijL_mem]
      exact ⟨fun h => h.2.2, fun h => ⟨hij, hj, h⟩⟩
    have e2 : decide ((i, j) ∈ L) = onB pairB bs i j := by
      rw [← hL, Bool.eq_iff_iff, decide_eq_true_iff, ijL_mem]
      exact ⟨fun h => h.2.2, fun h => ⟨hij, hj, h⟩⟩
    rw [e1, e2, onB_turn (by omega) hj, onB_get (by omega) hj]
    rw [onB_get (by omega) hj] at hap
    rw [(pair_turn (hok _ (List.getElem_mem (show i < bs.length by omega))).s (hok _ (List.getElem_mem hj)).s).1 hap]
    cases pairB (bs[i]) (bs[j]) <;> simp
  refine wp_cut (fun ρ' s' => s' = s ∧ ρ' = [x0, .val (.ref t), .val (.int r), .val (.tup (bs.map Bd.d)), .val hall, .val (.lst (L.map pd)), .own o, .val (.lst (T.map pd)), .val (.lst (A.map pd)), x9, x10, x11, x12, x13, x14]) (by
    simp
    rw [compL_map (k := fun p => .bl (decide (decide (p ∈ T) = decide (p ∈ L)))) (fun a ha => by simp [wipeE, pd_in]), wp_pure_iff, anyD_map]
    rw [show (A.any fun p => decide (decide (p ∈ T) = decide (p ∈ L))) = false from by rw [Bool.eq_false_iff]; intro h; obtain ⟨p, hp, q⟩ := List.any_eq_true.mp h; rw [diff p hp] at q; cases q]
    simp) ?_
  rintro _ s ⟨rfl, rfl⟩
  refine wp_cut (fun ρ' s' => Tape t s' ∧ ∃ cs : List Bd, 1 ≤ cs.length ∧ cs.length ≤ 6 ∧ (∀ b ∈ cs, b.Ok) ∧ ρ' = [x0, .val (.ref t), .val (.int r), .val (.tup (bs.map Bd.d)), .val hall, .val (.lst (L.map pd)), .own o, .val (.lst (T.map pd)), .val (.lst (A.map pd)), .val (.tup (cs.map Bd.d)), x10, x11, x12, x13, x14]) (by
    simp
    refine wp_boards (m := 6) ht (by omega) (by omega) fun cs s1 h1 h2 hok _ _ ht1 => ?_
    exact ⟨ht1, cs, h1, h2, hok, rfl⟩) ?_
  rintro _ s ⟨ht, cs, c1, c6, cok, rfl⟩
  obtain ⟨hc, ehc, ghc⟩ := make_Hall (K := K) (cl := cl) (bs := cs.map Bd.d) (by simpa using c1) (by simp; omega) (boards_ok cok)
  obtain ⟨hj, ej, gj⟩ := e_joined (K := K) (cl := cl) gh ghc (by simp; omega) (boards_ok hok) (boards_ok cok)
  rw [← List.map_append] at gj
  have epj := e_pairs (K := K) (cl := cl) gj (by simp; omega)
  have elc := e_lpairs (K := K) (cl := cl) (bs := cs) (by omega)
  have elj := e_lpairs (K := K) (cl := cl) (bs := bs ++ cs) (by simp; omega)
  generalize hJ : ijL (bs ++ cs).length (onB pairB (bs ++ cs)) = J at epj elj
  generalize hC : ijL cs.length (onB pairB cs) = C at elc
  have sJ := strip_pd (l := J)
  have iJ := is_pds (K := K) (cl := cl) (L := J)
  refine wp_cut (fun ρ' s' => s' = s ∧ ρ' = [x0, .val (.ref t), .val (.int r), .val (.tup (bs.map Bd.d)), .val hall, .val (.lst (L.map pd)), .own o, .val (.lst (T.map pd)), .val (.lst (A.map pd)), .val (.tup (cs.map Bd.d)), .val (.lst (J.map pd)), x11, x12, x13, x14]) (by
    simp [ehc, ej, epj, strip_lst, sJ]) ?_
  rintro _ s ⟨rfl, rfl⟩
  refine wp_cut (fun ρ' s' => s' = s ∧ ρ' = [x0, .val (.ref t), .val (.int r), .val (.tup (bs.map Bd.d)), .val hall, .val (.lst (L.map pd)), .own o, .val (.lst (T.map pd)), .val (.lst (A.map pd)), .val (.tup (cs.map Bd.d)), .val (.lst (J.map pd)), .val (.int bs.length), x12, x13, x14]) (by simp) ?_
  rintro _ s ⟨rfl, rfl⟩
  have front : J.filter (fun p => decide (p.2 < bs.length)) = L := by
    rw [← hJ, ← hL]
    refine asc_ext (ijL_asc.filter _) ijL_asc fun ⟨i, j⟩ => ?_
    rw [List.mem_filter, ijL_mem, ijL_mem]
    simp only [decide_eq_true_iff, List.length_append]
    constructor
    · rintro ⟨⟨g1, g2, g3⟩, g4⟩
      refine ⟨g1, g4, ?_⟩
      unfold onB at g3 ⊢
      rwa [List.getElem?_append_left (by omega), List.getElem?_append_left (by omega)] at g3
    · rintro ⟨g1, g2, g3⟩
      refine ⟨⟨g1, by omega, ?_⟩, g2⟩
      unfold onB at g3 ⊢
      rwa [List.getElem?_append_left (by omega), List.getElem?_append_left (by omega)]
  have back : (J.filter (fun p => decide (bs.length ≤ p.1))).map (fun p => (p.1 - bs.length, p.2 - bs.length)) = C := by
    rw [← hJ, ← hC]
    refine asc_ext ?_ ijL_asc fun ⟨i, j⟩ => ?_
    · rw [List.pairwise_map]
      refine (ijL_asc.filter _).imp_of_mem fun {p q} hp hq h => ?_
      rw [List.mem_filter] at hp hq
      have h1 := of_decide_eq_true hp.2
      have h2 := of_decide_eq_true hq.2
      have h3 := (ijL_mem.mp (show (p.1, p.2) ∈ _ from hp.1)).1
      have h4 := (ijL_mem.mp (show (q.1, q.2) ∈ _ from hq.1)).1
      unfold plt at h ⊢
      simp only
      omega
    · rw [List.mem_map, ijL_mem]
      constructor
      · rintro ⟨⟨a, b⟩, hm, e⟩
        rw [List.mem_filter, ijL_mem, decide_eq_true_iff] at hm
        obtain ⟨⟨g1, g2, g3⟩, g4⟩ := hm
        simp only [Prod.mk.injEq, List.length_append] at e g4 g2
        obtain ⟨rfl, rfl⟩ := e
        refine ⟨by omega, by omega, ?_⟩
        unfold onB at g3 ⊢
        rwa [List.getElem?_append_right (by omega), List.getElem?_append_right (by omega)] at g3
      · rintro ⟨g1, g2, g3⟩
        refine ⟨(i + bs.length, j + bs.length), ?_, by simp⟩
        rw [List.mem_filter, ijL_mem, decide_eq_true_iff]
        refine ⟨⟨by omega, by simp; omega, ?_⟩, by simp⟩
        unfold onB at g3 ⊢
        rw [List.getElem?_append_right (by omega), List.getElem?_append_right (by omega)]
        simpa using g3
  refine wp_cut (fun ρ' s' => s' = s ∧ ρ' = [x0, .val (.ref t), .val (.int r), .val (.tup (bs.map Bd.d)), .val hall, .val (.lst (L.map pd)), .own o, .val (.lst (T.map pd)), .val (.lst (A.map pd)), .val (.tup (cs.map Bd.d)), .val (.lst (J.map pd)), .val (.int bs.length), x12, x13, x14]) (by
    simp
    rw [comp_keep (p := fun p => decide (p.2 < bs.length)) (fun a ha => by
      have : ((a.2 : Int) < (bs.length : Int)) ↔ a.2 < bs.length := by omega
      simp [wipeE, pd, this]), wp_pure_iff, front, ne_pds]
    simp) ?_
  rintro _ s ⟨rfl, rfl⟩
  refine wp_cut (fun ρ' s' => s' = s ∧ ρ' = [x0, .val (.ref t), .val (.int r), .val (.tup (bs.map Bd.d)), .val hall, .val (.lst (L.map pd)), .own o, .val (.lst (T.map pd)), .val (.lst (A.map pd)), .val (.tup (cs.map Bd.d)), .val (.lst (J.map pd)), .val (.int bs.length), x12, x13, x14]) (by
    simp
    rw [compL_filter (g := pd) (k := fun p => pd (p.1 - bs.length, p.2 - bs.length)) (p := fun p => decide (bs.length ≤ p.1)) (fun a ha => by
      have h1 : ((bs.length : Int) ≤ (a.1 : Int)) ↔ bs.length ≤ a.1 := by omega
      have h3 : a.1 < a.2 := by
        rw [← hJ] at ha
        exact (ijL_mem.mp (show (a.1, a.2) ∈ _ from ha)).1
      by_cases h : bs.length ≤ a.1
      · have e1 : (a.1 : Int) - (bs.length : Int) = ((a.1 - bs.length : Nat) : Int) := by omega
        have e2 : (a.2 : Int) - (bs.length : Int) = ((a.2 - bs.length : Nat) : Int) := by omega
        simp [wipeE, pd, h1, h, e1, e2]
      · simp [wipeE, pd, h1, h]), wp_pure_iff, elc, wp_pure_iff]
    have : (J.filter (fun p => decide (bs.length ≤ p.1))).map (fun p => pd (p.1 - bs.length, p.2 - bs.length)) = C.map pd := by rw [← back, List.map_map]; rfl
    rw [this, ne_pds]
    simp) ?_
  rintro _ s ⟨rfl, rfl⟩
  have eadd : addD (.tup (bs.map Bd.d)) (.tup (cs.map Bd.d)) = some (.tup ((bs ++ cs).map Bd.d)) := by
    show (if _ then _ else _) = _
    rw [if_pos (by simp [sizeLine_eq]; omega), List.map_append]
  rw [List.map_append] at elj eadd
  simp [eadd, elj, iJ, ht]
theorem law_true {sc t : Addr} {ns : List Int} (hne : sc ≠ t) (hl : ns.length ≤ 63) : ∃ s', b_L21_law (K := K) (cl := cl) (startL 15 t) (tapeM sc t ns 0 0 1 0) = .ok (.rt (.bl true)) s' := by
  have ht : Tape t (tapeM sc t ns 0 0 1 0) := ⟨sc, ns, _, _, _, _, hne, by omega, rfl⟩
  have key : wp (b_L21_law (K := K) (cl := cl) (startL 15 t)) (fun fl _ => fl = .rt (.bl true)) (tapeM sc t ns 0 0 1 0) := by
    unfold b_L21_law
    simp [startL]
    rw [show range1 (.int 3) = some ((List.range 3).map fun i : Nat => .int (i : Int)) from rng 3 (by omega), wp_lift_iff]
    refine wp_forI (fun r ρ s' => Tape t s' ∧ (∀ d ∈ r, ∃ i : Int, d = .int i ∧ 0 ≤ i) ∧ ∃ x0 x2 x3 x4 x5 x6 x7 x8 x9 x10 x11 x12 x13 x14 : Sl, ρ = [x0, .val (.ref t), x2, x3, x4, x5, x6, x7, x8, x9, x10, x11, x12, x13, x14]) ⟨ht, fun d hd => ?_, _, _, _, _, _, _, _, _, _, _, _, _, _, _, rfl⟩ ?_ ?_
    · obtain ⟨i, _, rfl⟩ := List.mem_map.mp hd
      exact ⟨i, rfl, by omega⟩
    · rintro d r ρ s' ⟨hts, hr, x0, x2, x3, x4, x5, x6, x7, x8, x9, x10, x11, x12, x13, x14, rfl⟩
      obtain ⟨i, rfl, hi⟩ := hr d List.mem_cons_self
      refine ⟨_, s_aName, ?_⟩
      refine wp_mono (law_turn (r := i) hi hts ⟨_, _, _, _, _, _, _, _, _, _, _, _, _, rfl⟩) ?_
      rintro fl s2 ⟨ρ', y2, rfl, ht2, y0, y3, y4, y5, y6, y7, y8, y9, y10, y11, y12, y13, y14, rfl⟩
      exact ⟨ht2, fun d hd => hr d (List.mem_cons_of_mem _ hd), _, _, _, _, _, _, _, _, _, _, _, _, _, _, rfl⟩
    · rintro ρ s' ⟨hts, hr, x0, x2, x3, x4, x5, x6, x7, x8, x9, x10, x11, x12, x13, x14, rfl⟩
      simp
  obtain ⟨fl, s', e, rfl⟩ := wp_ok key
  exact ⟨s', e⟩
end
end LW
set_option Elab.async false
set_option linter.all false
set_option maxRecDepth 100000
set_option maxHeartbeats 4000000
namespace LW
open PySem PySem.Spec PyProof.Rows L2 RZ DN
def top (i : Nat) : Stmt := PySem.Challenge.pw_untoldgames_k21_whole_pairs_of_boards.main.body.getD i (.Pass ⟨0, 0, 0, 0⟩)
structure Txt (K : PySem.W.Frag) (mg : Str → Option Value) (cl : CTab) : Prop where
  b_all : mg "all" = none
  b_any : mg "any" = none
  b_bool : mg "bool" = none
  b_enumerate : mg "enumerate" = none
  b_int : mg "int" = none
  b_isinstance : mg "isinstance" = none
  b_len : mg "len" = none
  b_list : mg "list" = none
  b_max : mg "max" = none
  b_range : mg "range" = none
  b_sorted : mg "sorted" = none
  b_str : mg "str" = none
  b_tuple : mg "tuple" = none
  b_zip : mg "zip" = none
  g_LETTERS : GlC K mg cl "LETTERS" (.str "abcdefghijklmnopqrstuvwxyz")
  g_MOST_BEGUN : GlC K mg cl "MOST_BEGUN" (.int 20)
  g_MOST_BOARDS : GlC K mg cl "MOST_BOARDS" (.int 12)
  g_MOST_LETTERS : GlC K mg cl "MOST_LETTERS" (.int 20)
  g_MOST_NAME : GlC K mg cl "MOST_NAME" (.int 8)
  f_Hall_boards : FldO K cl "Hall" "boards" 0
  f_Hall_names : FldO K cl "Hall" "names" 1
  f_RawHall_boards : FldO K cl "RawHall" "boards" 0
  f_RawHall_names : FldO K cl "RawHall" "names" 1
abbrev s__law_tape : Stmt := top 29
abbrev N__law_tape : List Str := ["_law_script"]
theorem sc__law_tape : FnScope N__law_tape ["_law_script"] (defScope s__law_tape) := ⟨rfl, rfl, rfl, by decide +kernel, rfl, by decide +kernel, by decide +kernel⟩
abbrev s__law_pick : Stmt := top 30
abbrev N__law_pick : List Str := ["_law_tape_here", "_law_size", "_law_cell", "_law_mixed", "_law_digit"]
theorem sc__law_pick : FnScope N__law_pick ["_law_tape_here", "_law_size"] (defScope s__law_pick) := ⟨rfl, rfl, rfl, by decide +kernel, rfl, by decide +kernel, by decide +kernel⟩
abbrev s__law_word : Stmt := top 33
abbrev N__law_word : List Str := ["_law_tape_here", "_law_few"]
theorem sc__law_word : FnScope N__law_word ["_law_tape_here"] (defScope s__law_word) := ⟨rfl, rfl, rfl, by decide +kernel, rfl, by decide +kernel, by decide +kernel⟩
abbrev s__law_line : Stmt := top 34
abbrev N__law_line : List Str := ["_law_tape_here", "_law_many", "_law_k"]
theorem sc__law_line : FnScope N__law_line ["_law_tape_here", "_law_many"] (defScope s__law_line) := ⟨rfl, rfl, rfl, by decide +kernel, rfl, by decide +kernel, by decide +kernel⟩
abbrev s__law_some : Stmt := top 32
abbrev N__law_some : List Str := ["_law_tape_here", "_law_things"]
theorem sc__law_some : FnScope N__law_some ["_law_tape_here", "_law_things"] (defScope s__law_some) := ⟨rfl, rfl, rfl, by decide +kernel, rfl, by decide +kernel, by decide +kernel⟩
abbrev s__law_boards : Stmt := top 35
abbrev N__law_boards : List Str := ["_law_tape_here", "_law_most", "_law_begun", "_law_many", "_law_names", "_law_line_here", "_law_other", "_law_found", "_law_k", "_law_row"]
theorem sc__law_boards : FnScope N__law_boards ["_law_tape_here", "_law_most", "_law_begun"] (defScope s__law_boards) := ⟨rfl, rfl, rfl, by decide +kernel, rfl, by decide +kernel, by decide +kernel⟩
abbrev s_Hall_keep : Stmt := inClass (top 24) 1
abbrev N_Hall_keep : List Str := ["self", "boards", "name", "side", "begun"]
theorem sc_Hall_keep : FnScope N_Hall_keep ["self", "boards"] (defScope s_Hall_keep) := ⟨rfl, rfl, rfl, by decide +kernel, rfl, by decide +kernel, by decide +kernel⟩
abbrev s_is_letters : Stmt := top 10
abbrev N_is_letters : List Str := ["thing", "most", "sign"]
theorem sc_is_letters : FnScope N_is_letters ["thing", "most"] (defScope s_is_letters) := ⟨rfl, rfl, rfl, by decide +kernel, rfl, by decide +kernel, by decide +kernel⟩
abbrev s_is_name : Stmt := top 12
abbrev N_is_name : List Str := ["thing"]
theorem sc_is_name : FnScope N_is_name ["thing"] (defScope s_is_name) := ⟨rfl, rfl, rfl, by decide +kernel, rfl, by decide +kernel, by decide +kernel⟩
abbrev s_is_integer : Stmt := top 8
abbrev N_is_integer : List Str := ["thing"]
theorem sc_is_integer : FnScope N_is_integer ["thing"] (defScope s_is_integer) := ⟨rfl, rfl, rfl, by decide +kernel, rfl, by decide +kernel, by decide +kernel⟩
abbrev s_is_within : Stmt := top 9
abbrev N_is_within : List Str := ["thing", "least", "most"]
theorem sc_is_within : FnScope N_is_within ["thing", "least", "most"] (defScope s_is_within) := ⟨rfl, rfl, rfl, by decide +kernel, rfl, by decide +kernel, by decide +kernel⟩
abbrev s_is_word : Stmt := top 11
abbrev N_is_word : List Str := ["thing"]
theorem sc_is_word : FnScope N_is_word ["thing"] (defScope s_is_word) := ⟨rfl, rfl, rfl, by decide +kernel, rfl, by decide +kernel, by decide +kernel⟩
abbrev s_is_words : Stmt := top 13
abbrev N_is_words : List Str := ["thing", "most", "word"]
theorem sc_is_words : FnScope N_is_words ["thing", "most"] (defScope s_is_words) := ⟨rfl, rfl, rfl, by decide +kernel, rfl, by decide +kernel, by decide +kernel⟩
abbrev s_is_board : Stmt := top 23
abbrev N_is_board : List Str := ["thing"]
theorem sc_is_board : FnScope N_is_board ["thing"] (defScope s_is_board) := ⟨rfl, rfl, rfl, by decide +kernel, rfl, by decide +kernel, by decide +kernel⟩
abbrev s_Hall_init : Stmt := inClass (top 24) 0
abbrev N_Hall_init : List Str := ["self", "boards", "at", "board"]
theorem sc_Hall_init : FnScope N_Hall_init ["self", "boards"] (defScope s_Hall_init) := ⟨rfl, rfl, rfl, by decide +kernel, rfl, by decide +kernel, by decide +kernel⟩
abbrev s__law_are_pair : Stmt := top 36
abbrev N__law_are_pair : List Str := ["_law_one", "_law_other", "_law_longer", "_law_shorter"]
theorem sc__law_are_pair : FnScope N__law_are_pair ["_law_one", "_law_other"] (defScope s__law_are_pair) := ⟨rfl, rfl, rfl, by decide +kernel, rfl, by decide +kernel, by decide +kernel⟩
abbrev s__law_pairs : Stmt := top 37
abbrev N__law_pairs : List Str := ["_law_boards_here", "_law_found", "_law_one", "_law_other"]
theorem sc__law_pairs : FnScope N__law_pairs ["_law_boards_here"] (defScope s__law_pairs) := ⟨rfl, rfl, rfl, by decide +kernel, rfl, by decide +kernel, by decide +kernel⟩
abbrev s_mover_of : Stmt := top 15
abbrev N_mover_of : List Str := ["row"]
theorem sc_mover_of : FnScope N_mover_of ["row"] (defScope s_mover_of) := ⟨rfl, rfl, rfl, by decide +kernel, rfl, by decide +kernel, by decide +kernel⟩
abbrev s_is_ahead : Stmt := top 17
abbrev N_is_ahead : List Str := ["longer", "shorter"]
theorem sc_is_ahead : FnScope N_is_ahead ["longer", "shorter"] (defScope s_is_ahead) := ⟨rfl, rfl, rfl, by decide +kernel, rfl, by decide +kernel, by decide +kernel⟩
abbrev s_are_pair : Stmt := top 18
abbrev N_are_pair : List Str := ["one", "other"]
theorem sc_are_pair : FnScope N_are_pair ["one", "other"] (defScope s_are_pair) := ⟨rfl, rfl, rfl, by decide +kernel, rfl, by decide +kernel, by decide +kernel⟩
abbrev s_all_pairs : Stmt := top 19
abbrev N_all_pairs : List Str := ["hall", "found", "one", "board", "other"]
theorem sc_all_pairs : FnScope N_all_pairs ["hall"] (defScope s_all_pairs) := ⟨rfl, rfl, rfl, by decide +kernel, rfl, by decide +kernel, by decide +kernel⟩
abbrev s_pairs : Stmt := top 20
abbrev N_pairs : List Str := ["hall"]
theorem sc_pairs : FnScope N_pairs ["hall"] (defScope s_pairs) := ⟨rfl, rfl, rfl, by decide +kernel, rfl, by decide +kernel, by decide +kernel⟩
abbrev s__law_apart : Stmt := top 38
abbrev N__law_apart : List Str := ["_law_boards_here", "_law_found", "_law_one", "_law_other", "_law_rows"]
theorem sc__law_apart : FnScope N__law_apart ["_law_boards_here"] (defScope s__law_apart) := ⟨rfl, rfl, rfl, by decide +kernel, rfl, by decide +kernel, by decide +kernel⟩
abbrev s__law_is : Stmt := top 31
abbrev N__law_is : List Str := ["_law_told", "_law_due", "_law_one", "_law_two"]
theorem sc__law_is : FnScope N__law_is ["_law_told", "_law_due"] (defScope s__law_is) := ⟨rfl, rfl, rfl, by decide +kernel, rfl, by decide +kernel, by decide +kernel⟩
abbrev s_RawHall_init : Stmt := inClass (top 25) 0
abbrev N_RawHall_init : List Str := ["self", "boards"]
theorem sc_RawHall_init : FnScope N_RawHall_init ["self", "boards"] (defScope s_RawHall_init) := ⟨rfl, rfl, rfl, by decide +kernel, rfl, by decide +kernel, by decide +kernel⟩
abbrev s_turned : Stmt := top 26
abbrev N_turned : List Str := ["hall", "name", "side", "begun"]
theorem sc_turned : FnScope N_turned ["hall"] (defScope s_turned) := ⟨rfl, rfl, rfl, by decide +kernel, rfl, by decide +kernel, by decide +kernel⟩
abbrev s_joined : Stmt := top 27
abbrev N_joined : List Str := ["one", "other"]
theorem sc_joined : FnScope N_joined ["one", "other"] (defScope s_joined) := ⟨rfl, rfl, rfl, by decide +kernel, rfl, by decide +kernel, by decide +kernel⟩
abbrev s_law : Stmt := top 39
abbrev N_law : List Str := ["_law_script", "_law_tape_here", "_law_turn", "_law_boards_here", "_law_hall", "_law_due", "_law_told", "_law_around", "_law_apart_here", "_law_other", "_law_both", "_law_many", "_law_pair", "_law_one", "_law_two"]
theorem sc_law : FnScope N_law ["_law_script"] (defScope s_law) := ⟨rfl, rfl, rfl, by decide +kernel, rfl, by decide +kernel, by decide +kernel⟩
section
variable {P : Program} {w : World} {K : PySem.W.Frag} {mg : Str → Option Value} {base : Heap} {cl : CTab}
theorem ok__law_pick (T : Txt K mg cl) {a__law_pick : Addr} {fd__law_pick : FuncData} (G__law_pick : Fun K "_law_pick" "_law_pick" s__law_pick a__law_pick fd__law_pick)
     : FnOk P w K mg base (L2.CX P w) 1 a__law_pick fd__law_pick ["_law_tape_here", "_law_size"] (spD K cl (MemS K cl) 2 m__law_pick) := by
  refine FnOk.mono (fn_ok (k := 0) G__law_pick sc__law_pick rfl fun cdv A outer s H E hr => ?_) (by omega)
  exact dss_cons (ds_if seeHide (dt_cmp op_gt v_gt (by with_unfolding_all rfl) (de_ixM (de_var (pv 0)) (de_int)) (de_int)) (dss_cons (ds_set (i := 4) sc__law_pick.nd rfl (by first | exact Or.inl rfl | exact Or.inr rfl) (de_op op_mod v_mod (de_callTy call_int1 v_int (by rfl) T.b_int PyProof.Rows.boot_int (da_cons (de_ixM (de_var (pv 0)) (de_int)) (da_nil))) (de_var (pv 1)))) (dss_cons (ds_setM seeHide (de_op op_fdiv v_fdiv (de_ixM (de_var (pv 0)) (de_int)) (de_var (pv 1))) (de_var (pv 0)) (de_int)) (dss_one (ds_ret seeHide (de_var (pv 4)))))) (dss_nil)) (dss_cons (ds_setM seeHide (de_op op_addA v_add (de_ixM (de_var (pv 0)) (de_int)) (de_int)) (de_var (pv 0)) (de_int)) (dss_cons (ds_set (i := 2) sc__law_pick.nd rfl (by first | exact Or.inl rfl | exact Or.inr rfl) (de_int)) (dss_cons (ds_if seeHide (dt_cmp op_lt v_lt (by with_unfolding_all rfl) (de_ixM (de_var (pv 0)) (de_int)) (de_lenM (by rfl) T.b_len (de_ixM (de_var (pv 0)) (de_int)))) (dss_cons (ds_set (i := 2) sc__law_pick.nd rfl (by first | exact Or.inl rfl | exact Or.inr rfl) (de_ixM (de_ixM (de_var (pv 0)) (de_int)) (de_ixM (de_var (pv 0)) (de_int)))) (dss_one (ds_setM seeHide (de_op op_addA v_add (de_ixM (de_var (pv 0)) (de_int)) (de_int)) (de_var (pv 0)) (de_int)))) (dss_nil)) (dss_cons (ds_if seeHide (dt_cmp op_ge v_ge (by with_unfolding_all rfl) (de_var (pv 2)) (de_op op_pow v_pow (de_int) (de_int))) (dss_cons (ds_setM seeHide (de_op op_fdiv v_fdiv (de_var (pv 2)) (de_var (pv 1))) (de_var (pv 0)) (de_int)) (dss_one (ds_ret seeHide (de_op op_mod v_mod (de_callTy call_int1 v_int (by rfl) T.b_int PyProof.Rows.boot_int (da_cons (de_var (pv 2)) (da_nil))) (de_var (pv 1)))))) (dss_nil)) (dss_cons (ds_set (i := 3) sc__law_pick.nd rfl (by first | exact Or.inl rfl | exact Or.inr rfl) (de_op op_mod v_mod (de_callTy call_int1 v_int (by rfl) T.b_int PyProof.Rows.boot_int (da_cons (de_op op_addA v_add (de_op op_addA v_add (de_op op_mulA v_mul (de_ixM (de_var (pv 0)) (de_int)) (de_int)) (de_op op_mod v_mod (de_callTy call_int1 v_int (by rfl) T.b_int PyProof.Rows.boot_int (da_cons (de_var (pv 2)) (da_nil))) (de_int))) (de_op op_mulA v_mul (de_ixM (de_var (pv 0)) (de_int)) (de_int))) (da_nil))) (de_int))) (dss_cons (ds_set (i := 3) sc__law_pick.nd rfl (by first | exact Or.inl rfl | exact Or.inr rfl) (de_op op_mod v_mod (de_callTy call_int1 v_int (by rfl) T.b_int PyProof.Rows.boot_int (da_cons (de_op op_mulA v_mul (de_var (pv 3)) (de_op op_addA v_add (de_op op_fdiv v_fdiv (de_var (pv 3)) (de_int)) (de_int))) (da_nil))) (de_int))) (dss_cons (ds_setM seeHide (de_var (pv 3)) (de_var (pv 0)) (de_int)) (dss_one (ds_ret seeHide (de_op op_mod v_mod (de_callTy call_int1 v_int (by rfl) T.b_int PyProof.Rows.boot_int (da_cons (de_op op_fdiv v_fdiv (de_var (pv 3)) (de_int)) (da_nil))) (de_var (pv 1))))))))))))
theorem ok__law_word (T : Txt K mg cl) {a__law_word : Addr} {fd__law_word : FuncData} (G__law_word : Fun K "_law_word" "_law_word" s__law_word a__law_word fd__law_word)
    {a__law_pick : Addr} {fd__law_pick : FuncData} (c__law_pick : Cal K mg "_law_pick" a__law_pick fd__law_pick ["_law_tape_here", "_law_size"]) (F__law_pick : FnOk P w K mg base (L2.CX P w) 1 a__law_pick fd__law_pick ["_law_tape_here", "_law_size"] (spD K cl (MemS K cl) 2 m__law_pick)) : FnOk P w K mg base (L2.CX P w) 2 a__law_word fd__law_word ["_law_tape_here"] (spD K cl (MemS K cl) 1 m__law_word) := by
  refine FnOk.mono (fn_ok (k := 1) G__law_word sc__law_word rfl fun cdv A outer s H E hr => ?_) (by omega)
  exact dss_cons (ds_set (i := 1) sc__law_word.nd rfl (by first | exact Or.inl rfl | exact Or.inr rfl) (de_lst (da_cons (de_str) (da_cons (de_str) (da_cons (de_str) (da_cons (de_str) (da_cons (de_str) (da_cons (de_str) (da_cons (de_str) (da_cons (de_str) (da_cons (de_str) (da_cons (de_str) (da_nil))))))))))))) (dss_one (ds_ret seeHide (de_ix (hu65 hr) (de_var (pv 1)) (de_call F__law_pick (hr.mono (by first | decide | omega)) (by rfl) c__law_pick.mg c__law_pick.kp c__law_pick.b takesD (da_cons (de_var (pv 0)) (da_cons (de_int) (da_nil))) rfl))))
theorem ok__law_line (T : Txt K mg cl) {a__law_line : Addr} {fd__law_line : FuncData} (G__law_line : Fun K "_law_line" "_law_line" s__law_line a__law_line fd__law_line)
    {a__law_word : Addr} {fd__law_word : FuncData} (c__law_word : Cal K mg "_law_word" a__law_word fd__law_word ["_law_tape_here"]) (F__law_word : FnOk P w K mg base (L2.CX P w) 2 a__law_word fd__law_word ["_law_tape_here"] (spD K cl (MemS K cl) 1 m__law_word)) : FnOk P w K mg base (L2.CX P w) 3 a__law_line fd__law_line ["_law_tape_here", "_law_many"] (spD K cl (MemS K cl) 2 m__law_line) := by
  refine FnOk.mono (fn_ok (k := 2) G__law_line sc__law_line rfl fun cdv A outer s H E hr => ?_) (by omega)
  exact dss_one (ds_ret seeHide (de_callTy call_tuple_of v_tuple (by rfl) T.b_tuple PyProof.Rows.boot_tuple (da_cons (de_comp (own := [("_law_k", 2)]) rfl sc__law_line.nd (di_range1 (by rfl) T.b_range (de_var (pv 1))) (blkOk_by (own := [("_law_k", 2)]) (N := N__law_line) (sc := defScope s__law_line) (by decide +kernel)) (fun _ _ _ _ _ => dg_name (i := 2) sc__law_line.nd rfl (by first | exact Or.inl rfl | exact Or.inr rfl)) (in_name (by decide)) (fun _ _ _ _ _ => dts_nil) (fun _ _ _ _ _ => de_call F__law_word (hr.mono (by first | decide | omega)) (by rfl) c__law_word.mg c__law_word.kp c__law_word.b takes0 (da_cons (de_var (pv 0)) (da_nil)) rfl)) (da_nil))))
theorem ok__law_some (T : Txt K mg cl) {a__law_some : Addr} {fd__law_some : FuncData} (G__law_some : Fun K "_law_some" "_law_some" s__law_some a__law_some fd__law_some)
    {a__law_pick : Addr} {fd__law_pick : FuncData} (c__law_pick : Cal K mg "_law_pick" a__law_pick fd__law_pick ["_law_tape_here", "_law_size"]) (F__law_pick : FnOk P w K mg base (L2.CX P w) 1 a__law_pick fd__law_pick ["_law_tape_here", "_law_size"] (spD K cl (MemS K cl) 2 m__law_pick)) : FnOk P w K mg base (L2.CX P w) 2 a__law_some fd__law_some ["_law_tape_here", "_law_things"] (spD K cl (MemS K cl) 2 m__law_some) := by
  refine FnOk.mono (fn_ok (k := 1) G__law_some sc__law_some rfl fun cdv A outer s H E hr => ?_) (by omega)
  exact dss_one (ds_ret seeHide (de_ix (hu65 hr) (de_var (pv 1)) (de_call F__law_pick (hr.mono (by first | decide | omega)) (by rfl) c__law_pick.mg c__law_pick.kp c__law_pick.b takesD (da_cons (de_var (pv 0)) (da_cons (de_callB c_len v_len (by rfl) T.b_len PySem.boot_len (da_cons (de_var (pv 1)) (da_nil))) (da_nil))) rfl)))
theorem ok__law_boards (T : Txt K mg cl) {a__law_boards : Addr} {fd__law_boards : FuncData} (G__law_boards : Fun K "_law_boards" "_law_boards" s__law_boards a__law_boards fd__law_boards)
    {a__law_line : Addr} {fd__law_line : FuncData} (c__law_line : Cal K mg "_law_line" a__law_line fd__law_line ["_law_tape_here", "_law_many"]) (F__law_line : FnOk P w K mg base (L2.CX P w) 3 a__law_line fd__law_line ["_law_tape_here", "_law_many"] (spD K cl (MemS K cl) 2 m__law_line))
    {a__law_pick : Addr} {fd__law_pick : FuncData} (c__law_pick : Cal K mg "_law_pick" a__law_pick fd__law_pick ["_law_tape_here", "_law_size"]) (F__law_pick : FnOk P w K mg base (L2.CX P w) 1 a__law_pick fd__law_pick ["_law_tape_here", "_law_size"] (spD K cl (MemS K cl) 2 m__law_pick))
    {a__law_some : Addr} {fd__law_some : FuncData} (c__law_some : Cal K mg "_law_some" a__law_some fd__law_some ["_law_tape_here", "_law_things"]) (F__law_some : FnOk P w K mg base (L2.CX P w) 2 a__law_some fd__law_some ["_law_tape_here", "_law_things"] (spD K cl (MemS K cl) 2 m__law_some)) : FnOk P w K mg base (L2.CX P w) 4 a__law_boards fd__law_boards ["_law_tape_here", "_law_most", "_law_begun"] (spD K cl (MemS K cl) 3 m__law_boards) := by
  refine FnOk.mono (fn_ok (k := 3) G__law_boards sc__law_boards rfl fun cdv A outer s H E hr => ?_) (by omega)
  exact dss_cons (ds_set (i := 3) sc__law_boards.nd rfl (by first | exact Or.inl rfl | exact Or.inr rfl) (de_op op_addA v_add (de_int) (de_callB (call_max2 rfl) v_max2 (by rfl) T.b_max PyProof.Rows.boot_max (da_cons (de_call F__law_pick (hr.mono (by first | decide | omega)) (by rfl) c__law_pick.mg c__law_pick.kp c__law_pick.b takesD (da_cons (de_var (pv 0)) (da_cons (de_var (pv 1)) (da_nil))) rfl) (da_cons (de_call F__law_pick (hr.mono (by first | decide | omega)) (by rfl) c__law_pick.mg c__law_pick.kp c__law_pick.b takesD (da_cons (de_var (pv 0)) (da_cons (de_var (pv 1)) (da_nil))) rfl) (da_nil)))))) (dss_cons (ds_set (i := 4) sc__law_boards.nd rfl (by first | exact Or.inl rfl | exact Or.inr rfl) (de_slice (de_lst (da_cons (de_str) (da_cons (de_str) (da_cons (de_str) (da_nil))))) (do_none) (do_some (de_op op_addA v_add (de_int) (de_call F__law_pick (hr.mono (by first | decide | omega)) (by rfl) c__law_pick.mg c__law_pick.kp c__law_pick.b takesD (da_cons (de_var (pv 0)) (da_cons (de_int) (da_nil))) rfl))))) (dss_cons (ds_set (i := 5) sc__law_boards.nd rfl (by first | exact Or.inl rfl | exact Or.inr rfl) (de_call F__law_line (hr.mono (by first | decide | omega)) (by rfl) c__law_line.mg c__law_line.kp c__law_line.b takesD (da_cons (de_var (pv 0)) (da_cons (de_int) (da_nil))) rfl)) (dss_cons (ds_set (i := 6) sc__law_boards.nd rfl (by first | exact Or.inl rfl | exact Or.inr rfl) (de_op op_addA v_add (de_slice (de_var (pv 5)) (do_none) (do_some (de_op op_addA v_add (de_int) (de_call F__law_pick (hr.mono (by first | decide | omega)) (by rfl) c__law_pick.mg c__law_pick.kp c__law_pick.b takesD (da_cons (de_var (pv 0)) (da_cons (de_int) (da_nil))) rfl)))) (de_call F__law_line (hr.mono (by first | decide | omega)) (by rfl) c__law_line.mg c__law_line.kp c__law_line.b takesD (da_cons (de_var (pv 0)) (da_cons (de_int) (da_nil))) rfl))) (dss_cons (ds_newL (i := 7) sc__law_boards.nd rfl (by first | exact Or.inl rfl | exact Or.inr rfl)) (dss_cons (ds_for passesD rfl (di_range1 (by rfl) T.b_range (de_var (pv 3))) (dg_name (i := 8) sc__law_boards.nd rfl (by first | exact Or.inl rfl | exact Or.inr rfl)) (dss_cons (ds_set (i := 9) sc__law_boards.nd rfl (by first | exact Or.inl rfl | exact Or.inr rfl) (de_tup (da_nil))) (dss_cons (ds_if seeHide (dt_of_dw (dw_and (dt_truth (de_var (pv 2))) (dw_and1 (dt_cmp op_gt v_gt (by with_unfolding_all rfl) (de_call F__law_pick (hr.mono (by first | decide | omega)) (by rfl) c__law_pick.mg c__law_pick.kp c__law_pick.b takesD (da_cons (de_var (pv 0)) (da_cons (de_int) (da_nil))) rfl) (de_int))))) (dss_one (ds_set (i := 9) sc__law_boards.nd rfl (by first | exact Or.inl rfl | exact Or.inr rfl) (de_slice (de_call F__law_some (hr.mono (by first | decide | omega)) (by rfl) c__law_some.mg c__law_some.kp c__law_some.b takesD (da_cons (de_var (pv 0)) (da_cons (de_lst (da_cons (de_var (pv 5)) (da_cons (de_var (pv 5)) (da_cons (de_var (pv 6)) (da_nil))))) (da_nil))) rfl) (do_none) (do_some (de_call F__law_pick (hr.mono (by first | decide | omega)) (by rfl) c__law_pick.mg c__law_pick.kp c__law_pick.b takesD (da_cons (de_var (pv 0)) (da_cons (de_int) (da_nil))) rfl))))) (dss_nil)) (dss_one (ds_app (i := 7) seeHide kpHide (pv 7) (de_tup (da_cons (de_call F__law_some (hr.mono (by first | decide | omega)) (by rfl) c__law_some.mg c__law_some.kp c__law_some.b takesD (da_cons (de_var (pv 0)) (da_cons (de_var (pv 4)) (da_nil))) rfl) (da_cons (de_call F__law_pick (hr.mono (by first | decide | omega)) (by rfl) c__law_pick.mg c__law_pick.kp c__law_pick.b takesD (da_cons (de_var (pv 0)) (da_cons (de_int) (da_nil))) rfl) (da_cons (de_var (pv 9)) (da_nil)))))))))) (dss_frz (i := 7) (dss_one (ds_ret seeHide (de_callTy call_tuple_of v_tuple (by rfl) T.b_tuple PyProof.Rows.boot_tuple (da_cons (de_var (pv 7)) (da_nil)))))))))))
theorem ok_Hall_keep (T : Txt K mg cl) {a_Hall_keep : Addr} {fd_Hall_keep : FuncData} (G_Hall_keep : Fun K "keep" "Hall.keep" s_Hall_keep a_Hall_keep fd_Hall_keep)
     : FnOk P w K mg base (L2.CX P w) 1 a_Hall_keep fd_Hall_keep ["self", "boards"] (spD K cl (MemS K cl) 2 m_Hall_keep) := by
  refine FnOk.mono (fn_ok (k := 0) G_Hall_keep sc_Hall_keep rfl fun cdv A outer s H E hr => ?_) (by omega)
  exact dss_cons (ds_setfo (fam_2 T.f_Hall_boards T.f_RawHall_boards) (List.cons_ne_nil _ _) seeHide (de_var (pv 1)) (de_var (pv 0))) (dss_one (ds_setfo (fam_2 T.f_Hall_names T.f_RawHall_names) (List.cons_ne_nil _ _) seeHide (de_callTy call_tuple_of v_tuple (by rfl) T.b_tuple PyProof.Rows.boot_tuple (da_cons (de_sortedX rfl (by rfl) T.b_sorted (dx_dcomp (own := [("name", 2), ("side", 3), ("begun", 4)]) rfl sc_Hall_keep.nd (di_any (de_var (pv 1))) (blkOk_by (own := [("name", 2), ("side", 3), ("begun", 4)]) (N := N_Hall_keep) (sc := defScope s_Hall_keep) (by decide +kernel)) (fun _ _ _ _ _ => dg_tup rfl (dgs_cons (dg_name (i := 2) sc_Hall_keep.nd rfl (by first | exact Or.inl rfl | exact Or.inr rfl)) (dgs_cons (dg_name (i := 3) sc_Hall_keep.nd rfl (by first | exact Or.inl rfl | exact Or.inr rfl)) (dgs_cons (dg_name (i := 4) sc_Hall_keep.nd rfl (by first | exact Or.inl rfl | exact Or.inr rfl)) (dgs_nil)))) (aCons_len (aCons_len (aCons_len aNil_len)))) (in_tup (in_cons (in_name (by decide)) (in_cons (in_name (by decide)) (in_cons (in_name (by decide)) (in_nil))))) (fun _ _ _ _ _ => dts_nil) (fun _ _ _ _ _ => de_var (pv 2)) (fun _ _ _ _ _ => de_bl))) (da_nil))) (de_var (pv 0))))
theorem ok_is_letters (T : Txt K mg cl) {a_is_letters : Addr} {fd_is_letters : FuncData} (G_is_letters : Fun K "is_letters" "is_letters" s_is_letters a_is_letters fd_is_letters)
     : FnOk P w K mg base (L2.CX P w) 1 a_is_letters fd_is_letters ["thing", "most"] (spD K cl (MemS K cl) 2 m_is_letters) := by
  refine FnOk.mono (fn_ok (k := 0) G_is_letters sc_is_letters rfl fun cdv A outer s H E hr => ?_) (by omega)
  exact dss_cons (ds_if seeHide (dt_of_dw (dw_or (dt_not (dt_truth (de_isi (de_var (pv 0)) (by rfl) T.b_isinstance (by rfl) T.b_str PyProof.Rows.boot_str))) (dw_or1 (dt_not (dt_chain op_le v_le op_le v_le (de_int) (de_callB c_len v_len (by rfl) T.b_len PySem.boot_len (da_cons (de_var (pv 0)) (da_nil))) (de_var (pv 1))))))) (dss_one (ds_ret seeHide (de_bl))) (dss_nil)) (dss_one (ds_ret seeHide (de_callB (cr_all rfl) v_all (by rfl) T.b_all boot_all (da_cons (de_comp (own := [("sign", 2)]) rfl sc_is_letters.nd (di_any (de_var (pv 0))) (blkOk_by (own := [("sign", 2)]) (N := N_is_letters) (sc := defScope s_is_letters) (by decide +kernel)) (fun _ _ _ _ _ => dg_name (i := 2) sc_is_letters.nd rfl (by first | exact Or.inl rfl | exact Or.inr rfl)) (in_name (by decide)) (fun _ _ _ _ _ => dts_nil) (fun _ _ _ _ _ => de_cmp (op_inK (hu65 hr)) v_inK (by with_unfolding_all rfl) (de_var (pv 2)) (de_gl T.g_LETTERS (by rfl)))) (da_nil)))))
theorem ok_is_name (T : Txt K mg cl) {a_is_name : Addr} {fd_is_name : FuncData} (G_is_name : Fun K "is_name" "is_name" s_is_name a_is_name fd_is_name)
    {a_is_letters : Addr} {fd_is_letters : FuncData} (c_is_letters : Cal K mg "is_letters" a_is_letters fd_is_letters ["thing", "most"]) (F_is_letters : FnOk P w K mg base (L2.CX P w) 1 a_is_letters fd_is_letters ["thing", "most"] (spD K cl (MemS K cl) 2 m_is_letters)) : FnOk P w K mg base (L2.CX P w) 2 a_is_name fd_is_name ["thing"] (spD K cl (MemS K cl) 1 m_is_name) := by
  refine FnOk.mono (fn_ok (k := 1) G_is_name sc_is_name rfl fun cdv A outer s H E hr => ?_) (by omega)
  exact dss_one (ds_ret seeHide (de_call F_is_letters (hr.mono (by first | decide | omega)) (by rfl) c_is_letters.mg c_is_letters.kp c_is_letters.b takesD (da_cons (de_var (pv 0)) (da_cons (de_gl T.g_MOST_NAME (by rfl)) (da_nil))) rfl))
theorem ok_is_integer (T : Txt K mg cl) {a_is_integer : Addr} {fd_is_integer : FuncData} (G_is_integer : Fun K "is_integer" "is_integer" s_is_integer a_is_integer fd_is_integer)
     : FnOk P w K mg base (L2.CX P w) 1 a_is_integer fd_is_integer ["thing"] (spD K cl (MemS K cl) 1 m_is_integer) := by
  refine FnOk.mono (fn_ok (k := 0) G_is_integer sc_is_integer rfl fun cdv A outer s H E hr => ?_) (by omega)
  exact dss_one (ds_ret seeHide (de_and (de_isi (de_var (pv 0)) (by rfl) T.b_isinstance (by rfl) T.b_int PyProof.Rows.boot_int) (de_one (de_not (de_isi (de_var (pv 0)) (by rfl) T.b_isinstance (by rfl) T.b_bool PyProof.Rows.boot_bool)))))
theorem ok_is_within (T : Txt K mg cl) {a_is_within : Addr} {fd_is_within : FuncData} (G_is_within : Fun K "is_within" "is_within" s_is_within a_is_within fd_is_within)
    {a_is_integer : Addr} {fd_is_integer : FuncData} (c_is_integer : Cal K mg "is_integer" a_is_integer fd_is_integer ["thing"]) (F_is_integer : FnOk P w K mg base (L2.CX P w) 1 a_is_integer fd_is_integer ["thing"] (spD K cl (MemS K cl) 1 m_is_integer)) : FnOk P w K mg base (L2.CX P w) 2 a_is_within fd_is_within ["thing", "least", "most"] (spD K cl (MemS K cl) 3 m_is_within) := by
  refine FnOk.mono (fn_ok (k := 1) G_is_within sc_is_within rfl fun cdv A outer s H E hr => ?_) (by omega)
  exact dss_one (ds_ret seeHide (de_and (de_call F_is_integer (hr.mono (by first | decide | omega)) (by rfl) c_is_integer.mg c_is_integer.kp c_is_integer.b takesD (da_cons (de_var (pv 0)) (da_nil)) rfl) (de_one (de_chain op_le v_le op_le v_le (de_var (pv 1)) (de_var (pv 0)) (de_var (pv 2))))))
theorem ok_is_word (T : Txt K mg cl) {a_is_word : Addr} {fd_is_word : FuncData} (G_is_word : Fun K "is_word" "is_word" s_is_word a_is_word fd_is_word)
    {a_is_letters : Addr} {fd_is_letters : FuncData} (c_is_letters : Cal K mg "is_letters" a_is_letters fd_is_letters ["thing", "most"]) (F_is_letters : FnOk P w K mg base (L2.CX P w) 1 a_is_letters fd_is_letters ["thing", "most"] (spD K cl (MemS K cl) 2 m_is_letters)) : FnOk P w K mg base (L2.CX P w) 2 a_is_word fd_is_word ["thing"] (spD K cl (MemS K cl) 1 m_is_word) := by
  refine FnOk.mono (fn_ok (k := 1) G_is_word sc_is_word rfl fun cdv A outer s H E hr => ?_) (by omega)
  exact dss_one (ds_ret seeHide (de_call F_is_letters (hr.mono (by first | decide | omega)) (by rfl) c_is_letters.mg c_is_letters.kp c_is_letters.b takesD (da_cons (de_var (pv 0)) (da_cons (de_gl T.g_MOST_LETTERS (by rfl)) (da_nil))) rfl))
theorem ok_is_words (T : Txt K mg cl) {a_is_words : Addr} {fd_is_words : FuncData} (G_is_words : Fun K "is_words" "is_words" s_is_words a_is_words fd_is_words)
    {a_is_word : Addr} {fd_is_word : FuncData} (c_is_word : Cal K mg "is_word" a_is_word fd_is_word ["thing"]) (F_is_word : FnOk P w K mg base (L2.CX P w) 2 a_is_word fd_is_word ["thing"] (spD K cl (MemS K cl) 1 m_is_word)) : FnOk P w K mg base (L2.CX P w) 3 a_is_words fd_is_words ["thing", "most"] (spD K cl (MemS K cl) 2 m_is_words) := by
  refine FnOk.mono (fn_ok (k := 2) G_is_words sc_is_words rfl fun cdv A outer s H E hr => ?_) (by omega)
  exact dss_one (ds_ret seeHide (de_and (de_isi (de_var (pv 0)) (by rfl) T.b_isinstance (by rfl) T.b_tuple PyProof.Rows.boot_tuple) (de_and (de_cmp op_le v_le (by with_unfolding_all rfl) (de_callB c_len v_len (by rfl) T.b_len PySem.boot_len (da_cons (de_var (pv 0)) (da_nil))) (de_var (pv 1))) (de_one (de_callB (cr_all rfl) v_all (by rfl) T.b_all boot_all (da_cons (de_comp (own := [("word", 2)]) rfl sc_is_words.nd (di_any (de_var (pv 0))) (blkOk_by (own := [("word", 2)]) (N := N_is_words) (sc := defScope s_is_words) (by decide +kernel)) (fun _ _ _ _ _ => dg_name (i := 2) sc_is_words.nd rfl (by first | exact Or.inl rfl | exact Or.inr rfl)) (in_name (by decide)) (fun _ _ _ _ _ => dts_nil) (fun _ _ _ _ _ => de_call F_is_word (hr.mono (by first | decide | omega)) (by rfl) c_is_word.mg c_is_word.kp c_is_word.b takes0 (da_cons (de_var (pv 2)) (da_nil)) rfl)) (da_nil)))))))
theorem ok_is_board (T : Txt K mg cl) {a_is_board : Addr} {fd_is_board : FuncData} (G_is_board : Fun K "is_board" "is_board" s_is_board a_is_board fd_is_board)
    {a_is_name : Addr} {fd_is_name : FuncData} (c_is_name : Cal K mg "is_name" a_is_name fd_is_name ["thing"]) (F_is_name : FnOk P w K mg base (L2.CX P w) 2 a_is_name fd_is_name ["thing"] (spD K cl (MemS K cl) 1 m_is_name))
    {a_is_within : Addr} {fd_is_within : FuncData} (c_is_within : Cal K mg "is_within" a_is_within fd_is_within ["thing", "least", "most"]) (F_is_within : FnOk P w K mg base (L2.CX P w) 2 a_is_within fd_is_within ["thing", "least", "most"] (spD K cl (MemS K cl) 3 m_is_within))
    {a_is_words : Addr} {fd_is_words : FuncData} (c_is_words : Cal K mg "is_words" a_is_words fd_is_words ["thing", "most"]) (F_is_words : FnOk P w K mg base (L2.CX P w) 3 a_is_words fd_is_words ["thing", "most"] (spD K cl (MemS K cl) 2 m_is_words)) : FnOk P w K mg base (L2.CX P w) 4 a_is_board fd_is_board ["thing"] (spD K cl (MemS K cl) 1 m_is_board) := by
  refine FnOk.mono (fn_ok (k := 3) G_is_board sc_is_board rfl fun cdv A outer s H E hr => ?_) (by omega)
  exact dss_cons (ds_if seeHide (dt_of_dw (dw_or (dt_not (dt_truth (de_isi (de_var (pv 0)) (by rfl) T.b_isinstance (by rfl) T.b_tuple PyProof.Rows.boot_tuple))) (dw_or1 (dt_cmp (op_neD (hu64 (hu65 hr))) v_ne (by with_unfolding_all rfl) (de_callB c_len v_len (by rfl) T.b_len PySem.boot_len (da_cons (de_var (pv 0)) (da_nil))) (de_int))))) (dss_one (ds_ret seeHide (de_bl))) (dss_nil)) (dss_one (ds_ret seeHide (de_and (de_call F_is_name (hr.mono (by first | decide | omega)) (by rfl) c_is_name.mg c_is_name.kp c_is_name.b takesD (da_cons (de_ix (hu65 hr) (de_var (pv 0)) (de_int)) (da_nil)) rfl) (de_and (de_call F_is_within (hr.mono (by first | decide | omega)) (by rfl) c_is_within.mg c_is_within.kp c_is_within.b takesD (da_cons (de_ix (hu65 hr) (de_var (pv 0)) (de_int)) (da_cons (de_int) (da_cons (de_int) (da_nil)))) rfl) (de_one (de_call F_is_words (hr.mono (by first | decide | omega)) (by rfl) c_is_words.mg c_is_words.kp c_is_words.b takesD (da_cons (de_ix (hu65 hr) (de_var (pv 0)) (de_int)) (da_cons (de_gl T.g_MOST_BEGUN (by rfl)) (da_nil))) rfl))))))
theorem ok_Hall_init (T : Txt K mg cl) {a_Hall_init : Addr} {fd_Hall_init : FuncData} (G_Hall_init : Fun K "__init__" "Hall.__init__" s_Hall_init a_Hall_init fd_Hall_init)
    {a_Hall_keep : Addr} {fd_Hall_keep : FuncData} (c_Hall_keep : CalM K fd_Hall_keep ["self", "boards"]) (F_Hall_keep : FnOk P w K mg base (L2.CX P w) 1 a_Hall_keep fd_Hall_keep ["self", "boards"] (spD K cl (MemS K cl) 2 m_Hall_keep))
    (N_Hall_keep : MethAt K cl "Hall" "keep" a_Hall_keep)
    {a_is_board : Addr} {fd_is_board : FuncData} (c_is_board : Cal K mg "is_board" a_is_board fd_is_board ["thing"]) (F_is_board : FnOk P w K mg base (L2.CX P w) 4 a_is_board fd_is_board ["thing"] (spD K cl (MemS K cl) 1 m_is_board)) : FnOk P w K mg base (L2.CX P w) 5 a_Hall_init fd_Hall_init ["self", "boards"] (spD K cl (MemS K cl) 2 m_Hall_init) := by
  refine FnOk.mono (fn_ok (k := 4) G_Hall_init sc_Hall_init rfl fun cdv A outer s H E hr => ?_) (by omega)
  exact dss_cons (ds_if seeHide (dt_of_dw (dw_or (dt_not (dt_truth (de_isi (de_var (pv 1)) (by rfl) T.b_isinstance (by rfl) T.b_tuple PyProof.Rows.boot_tuple))) (dw_or1 (dt_not (dt_chain op_le v_le op_le v_le (de_int) (de_callB c_len v_len (by rfl) T.b_len PySem.boot_len (da_cons (de_var (pv 1)) (da_nil))) (de_gl T.g_MOST_BOARDS (by rfl))))))) (dss_one (ds_never)) (dss_nil)) (dss_cons (ds_for passesD rfl (di_enum (by rfl) T.b_enumerate (de_var (pv 1))) (dg_tup rfl (dgs_cons (dg_name (i := 2) sc_Hall_init.nd rfl (by first | exact Or.inl rfl | exact Or.inr rfl)) (dgs_cons (dg_name (i := 3) sc_Hall_init.nd rfl (by first | exact Or.inl rfl | exact Or.inr rfl)) (dgs_nil))) (aCons_len (aCons_len aNil_len))) (dss_one (ds_if seeHide (dt_not (dt_truth (de_call F_is_board (hr.mono (by first | decide | omega)) (by rfl) c_is_board.mg c_is_board.kp c_is_board.b takesD (da_cons (de_var (pv 3)) (da_nil)) rfl))) (dss_one (ds_never)) (dss_nil)))) (dss_one (ds_expr seeHide (de_meth N_Hall_keep F_Hall_keep (hr.mono (by first | decide | omega)) c_Hall_keep.b takesD (de_var (pv 0)) (da_cons (de_var (pv 1)) (da_nil)) rfl))))
theorem ok__law_are_pair (T : Txt K mg cl) {a__law_are_pair : Addr} {fd__law_are_pair : FuncData} (G__law_are_pair : Fun K "_law_are_pair" "_law_are_pair" s__law_are_pair a__law_are_pair fd__law_are_pair)
     : FnOk P w K mg base (L2.CX P w) 1 a__law_are_pair fd__law_are_pair ["_law_one", "_law_other"] (spD K cl (MemS K cl) 2 m__law_are_pair) := by
  refine FnOk.mono (fn_ok (k := 0) G__law_are_pair sc__law_are_pair rfl fun cdv A outer s H E hr => ?_) (by omega)
  exact dss_cons (ds_if seeHide (dt_of_dw (dw_or (dt_cmp (op_neD (hu64 (hu65 hr))) v_ne (by with_unfolding_all rfl) (de_ix (hu65 hr) (de_var (pv 0)) (de_int)) (de_ix (hu65 hr) (de_var (pv 1)) (de_int))) (dw_or1 (dt_cmp (op_eqD (hu64 (hu65 hr))) v_eq (by with_unfolding_all rfl) (de_ix (hu65 hr) (de_var (pv 0)) (de_int)) (de_ix (hu65 hr) (de_var (pv 1)) (de_int)))))) (dss_one (ds_ret seeHide (de_bl))) (dss_nil)) (dss_cons (ds_if seeHide (dt_cmp (op_eqD (hu64 (hu65 hr))) v_eq (by with_unfolding_all rfl) (de_ix (hu65 hr) (de_var (pv 0)) (de_int)) (de_ix (hu65 hr) (de_var (pv 1)) (de_int))) (dss_one (ds_ret seeHide (de_bl))) (dss_nil)) (dss_cons (ds_for passesD rfl (di_any (de_lst (da_cons (de_tup (da_cons (de_var (pv 0)) (da_cons (de_var (pv 1)) (da_nil)))) (da_cons (de_tup (da_cons (de_var (pv 1)) (da_cons (de_var (pv 0)) (da_nil)))) (da_nil))))) (dg_tup rfl (dgs_cons (dg_name (i := 2) sc__law_are_pair.nd rfl (by first | exact Or.inl rfl | exact Or.inr rfl)) (dgs_cons (dg_name (i := 3) sc__law_are_pair.nd rfl (by first | exact Or.inl rfl | exact Or.inr rfl)) (dgs_nil))) (aCons_len (aCons_len aNil_len))) (dss_one (ds_if seeHide (dt_of_dw (dw_and (dt_cmp (op_eqD (hu64 (hu65 hr))) v_eq (by with_unfolding_all rfl) (de_slice (de_ix (hu65 hr) (de_var (pv 2)) (de_int)) (do_none) (do_some (de_un un_neg v_neg (de_int)))) (de_ix (hu65 hr) (de_var (pv 3)) (de_int))) (dw_and1 (dt_cmp (op_eqD (hu64 (hu65 hr))) v_eq (by with_unfolding_all rfl) (de_callB c_len v_len (by rfl) T.b_len PySem.boot_len (da_cons (de_ix (hu65 hr) (de_var (pv 2)) (de_int)) (da_nil))) (de_op op_addA v_add (de_callB c_len v_len (by rfl) T.b_len PySem.boot_len (da_cons (de_ix (hu65 hr) (de_var (pv 3)) (de_int)) (da_nil))) (de_int)))))) (dss_one (ds_ret seeHide (de_cmp (op_neD (hu64 (hu65 hr))) v_ne (by with_unfolding_all rfl) (de_ix (hu65 hr) (de_var (pv 2)) (de_int)) (de_op op_mod v_mod (de_callB c_len v_len (by rfl) T.b_len PySem.boot_len (da_cons (de_ix (hu65 hr) (de_var (pv 3)) (de_int)) (da_nil))) (de_int))))) (dss_nil)))) (dss_one (ds_ret seeHide (de_bl)))))
theorem ok__law_pairs (T : Txt K mg cl) {a__law_pairs : Addr} {fd__law_pairs : FuncData} (G__law_pairs : Fun K "_law_pairs" "_law_pairs" s__law_pairs a__law_pairs fd__law_pairs)
    {a__law_are_pair : Addr} {fd__law_are_pair : FuncData} (c__law_are_pair : Cal K mg "_law_are_pair" a__law_are_pair fd__law_are_pair ["_law_one", "_law_other"]) (F__law_are_pair : FnOk P w K mg base (L2.CX P w) 1 a__law_are_pair fd__law_are_pair ["_law_one", "_law_other"] (spD K cl (MemS K cl) 2 m__law_are_pair)) : FnOk P w K mg base (L2.CX P w) 2 a__law_pairs fd__law_pairs ["_law_boards_here"] (spD K cl (MemS K cl) 1 m__law_pairs) := by
  refine FnOk.mono (fn_ok (k := 1) G__law_pairs sc__law_pairs rfl fun cdv A outer s H E hr => ?_) (by omega)
  exact dss_cons (ds_newL (i := 1) sc__law_pairs.nd rfl (by first | exact Or.inl rfl | exact Or.inr rfl)) (dss_cons (ds_for passesD rfl (di_range1 (by rfl) T.b_range (de_callB c_len v_len (by rfl) T.b_len PySem.boot_len (da_cons (de_var (pv 0)) (da_nil)))) (dg_name (i := 2) sc__law_pairs.nd rfl (by first | exact Or.inl rfl | exact Or.inr rfl)) (dss_one (ds_for passesD rfl (di_range2 (by rfl) T.b_range (de_op op_addA v_add (de_var (pv 2)) (de_int)) (de_callB c_len v_len (by rfl) T.b_len PySem.boot_len (da_cons (de_var (pv 0)) (da_nil)))) (dg_name (i := 3) sc__law_pairs.nd rfl (by first | exact Or.inl rfl | exact Or.inr rfl)) (dss_one (ds_if seeHide (dt_truth (de_call F__law_are_pair (hr.mono (by first | decide | omega)) (by rfl) c__law_are_pair.mg c__law_are_pair.kp c__law_are_pair.b takesD (da_cons (de_ix (hu65 hr) (de_var (pv 0)) (de_var (pv 2))) (da_cons (de_ix (hu65 hr) (de_var (pv 0)) (de_var (pv 3))) (da_nil))) rfl)) (dss_one (ds_app (i := 1) seeHide kpHide (pv 1) (de_tup (da_cons (de_var (pv 2)) (da_cons (de_var (pv 3)) (da_nil)))))) (dss_nil)))))) (dss_frz (i := 1) (dss_one (ds_ret seeHide (de_var (pv 1))))))
theorem ok_mover_of (T : Txt K mg cl) {a_mover_of : Addr} {fd_mover_of : FuncData} (G_mover_of : Fun K "mover_of" "mover_of" s_mover_of a_mover_of fd_mover_of)
     : FnOk P w K mg base (L2.CX P w) 1 a_mover_of fd_mover_of ["row"] (spD K cl (MemS K cl) 1 m_mover_of) := by
  refine FnOk.mono (fn_ok (k := 0) G_mover_of sc_mover_of rfl fun cdv A outer s H E hr => ?_) (by omega)
  exact dss_one (ds_ret seeHide (de_op op_mod v_mod (de_callB c_len v_len (by rfl) T.b_len PySem.boot_len (da_cons (de_var (pv 0)) (da_nil))) (de_int)))
theorem ok_is_ahead (T : Txt K mg cl) {a_is_ahead : Addr} {fd_is_ahead : FuncData} (G_is_ahead : Fun K "is_ahead" "is_ahead" s_is_ahead a_is_ahead fd_is_ahead)
    {a_mover_of : Addr} {fd_mover_of : FuncData} (c_mover_of : Cal K mg "mover_of" a_mover_of fd_mover_of ["row"]) (F_mover_of : FnOk P w K mg base (L2.CX P w) 1 a_mover_of fd_mover_of ["row"] (spD K cl (MemS K cl) 1 m_mover_of)) : FnOk P w K mg base (L2.CX P w) 2 a_is_ahead fd_is_ahead ["longer", "shorter"] (spD K cl (MemS K cl) 2 m_is_ahead) := by
  refine FnOk.mono (fn_ok (k := 1) G_is_ahead sc_is_ahead rfl fun cdv A outer s H E hr => ?_) (by omega)
  exact dss_cons (ds_if seeHide (dt_of_dw (dw_or (dt_cmp (op_neD (hu64 (hu65 hr))) v_ne (by with_unfolding_all rfl) (de_callB c_len v_len (by rfl) T.b_len PySem.boot_len (da_cons (de_ix (hu65 hr) (de_var (pv 0)) (de_int)) (da_nil))) (de_op op_addA v_add (de_callB c_len v_len (by rfl) T.b_len PySem.boot_len (da_cons (de_ix (hu65 hr) (de_var (pv 1)) (de_int)) (da_nil))) (de_int))) (dw_or1 (dt_cmp (op_neD (hu64 (hu65 hr))) v_ne (by with_unfolding_all rfl) (de_slice (de_ix (hu65 hr) (de_var (pv 0)) (de_int)) (do_none) (do_some (de_un un_neg v_neg (de_int)))) (de_ix (hu65 hr) (de_var (pv 1)) (de_int)))))) (dss_one (ds_ret seeHide (de_bl))) (dss_nil)) (dss_one (ds_ret seeHide (de_cmp (op_neD (hu64 (hu65 hr))) v_ne (by with_unfolding_all rfl) (de_call F_mover_of (hr.mono (by first | decide | omega)) (by rfl) c_mover_of.mg c_mover_of.kp c_mover_of.b takesD (da_cons (de_ix (hu65 hr) (de_var (pv 1)) (de_int)) (da_nil)) rfl) (de_ix (hu65 hr) (de_var (pv 0)) (de_int)))))
theorem ok_are_pair (T : Txt K mg cl) {a_are_pair : Addr} {fd_are_pair : FuncData} (G_are_pair : Fun K "are_pair" "are_pair" s_are_pair a_are_pair fd_are_pair)
    {a_is_ahead : Addr} {fd_is_ahead : FuncData} (c_is_ahead : Cal K mg "is_ahead" a_is_ahead fd_is_ahead ["longer", "shorter"]) (F_is_ahead : FnOk P w K mg base (L2.CX P w) 2 a_is_ahead fd_is_ahead ["longer", "shorter"] (spD K cl (MemS K cl) 2 m_is_ahead)) : FnOk P w K mg base (L2.CX P w) 3 a_are_pair fd_are_pair ["one", "other"] (spD K cl (MemS K cl) 2 m_are_pair) := by
  refine FnOk.mono (fn_ok (k := 2) G_are_pair sc_are_pair rfl fun cdv A outer s H E hr => ?_) (by omega)
  exact dss_cons (ds_if seeHide (dt_of_dw (dw_or (dt_cmp (op_neD (hu64 (hu65 hr))) v_ne (by with_unfolding_all rfl) (de_ix (hu65 hr) (de_var (pv 0)) (de_int)) (de_ix (hu65 hr) (de_var (pv 1)) (de_int))) (dw_or1 (dt_cmp (op_eqD (hu64 (hu65 hr))) v_eq (by with_unfolding_all rfl) (de_ix (hu65 hr) (de_var (pv 0)) (de_int)) (de_ix (hu65 hr) (de_var (pv 1)) (de_int)))))) (dss_one (ds_ret seeHide (de_bl))) (dss_nil)) (dss_one (ds_ret seeHide (de_or (de_cmp (op_eqD (hu64 (hu65 hr))) v_eq (by with_unfolding_all rfl) (de_ix (hu65 hr) (de_var (pv 0)) (de_int)) (de_ix (hu65 hr) (de_var (pv 1)) (de_int))) (de_or (de_call F_is_ahead (hr.mono (by first | decide | omega)) (by rfl) c_is_ahead.mg c_is_ahead.kp c_is_ahead.b takesD (da_cons (de_var (pv 0)) (da_cons (de_var (pv 1)) (da_nil))) rfl) (de_one (de_call F_is_ahead (hr.mono (by first | decide | omega)) (by rfl) c_is_ahead.mg c_is_ahead.kp c_is_ahead.b takesD (da_cons (de_var (pv 1)) (da_cons (de_var (pv 0)) (da_nil))) rfl))))))
theorem ok_all_pairs (T : Txt K mg cl) {a_all_pairs : Addr} {fd_all_pairs : FuncData} (G_all_pairs : Fun K "all_pairs" "all_pairs" s_all_pairs a_all_pairs fd_all_pairs)
    {a_are_pair : Addr} {fd_are_pair : FuncData} (c_are_pair : Cal K mg "are_pair" a_are_pair fd_are_pair ["one", "other"]) (F_are_pair : FnOk P w K mg base (L2.CX P w) 3 a_are_pair fd_are_pair ["one", "other"] (spD K cl (MemS K cl) 2 m_are_pair)) : FnOk P w K mg base (L2.CX P w) 4 a_all_pairs fd_all_pairs ["hall"] (spDO K cl (MemS K cl) 1 m_all_pairs) := by
  refine FnOk.mono (fn_okO (k := 3) G_all_pairs sc_all_pairs rfl fun cdv A outer s H E hr => ?_) (by omega)
  exact dss_cons (ds_newL (i := 1) sc_all_pairs.nd rfl (by first | exact Or.inl rfl | exact Or.inr rfl)) (dss_cons (ds_for passesD rfl (di_enum (by rfl) T.b_enumerate (de_fldo (fam_2 T.f_Hall_boards T.f_RawHall_boards) (de_var (pv 0)))) (dg_tup rfl (dgs_cons (dg_name (i := 2) sc_all_pairs.nd rfl (by first | exact Or.inl rfl | exact Or.inr rfl)) (dgs_cons (dg_name (i := 3) sc_all_pairs.nd rfl (by first | exact Or.inl rfl | exact Or.inr rfl)) (dgs_nil))) (aCons_len (aCons_len aNil_len))) (dss_one (ds_for passesD rfl (di_range2 (by rfl) T.b_range (de_op op_addA v_add (de_var (pv 2)) (de_int)) (de_callB c_len v_len (by rfl) T.b_len PySem.boot_len (da_cons (de_fldo (fam_2 T.f_Hall_boards T.f_RawHall_boards) (de_var (pv 0))) (da_nil)))) (dg_name (i := 4) sc_all_pairs.nd rfl (by first | exact Or.inl rfl | exact Or.inr rfl)) (dss_one (ds_if seeHide (dt_truth (de_call F_are_pair (hr.mono (by first | decide | omega)) (by rfl) c_are_pair.mg c_are_pair.kp c_are_pair.b takesD (da_cons (de_var (pv 3)) (da_cons (de_ix (hu65 hr) (de_fldo (fam_2 T.f_Hall_boards T.f_RawHall_boards) (de_var (pv 0))) (de_var (pv 4))) (da_nil))) rfl)) (dss_one (ds_app (i := 1) seeHide kpHide (pv 1) (de_tup (da_cons (de_var (pv 2)) (da_cons (de_var (pv 4)) (da_nil)))))) (dss_nil)))))) (dss_one (ds_retO (i := 1) (pv 1))))
theorem ok_pairs (T : Txt K mg cl) {a_pairs : Addr} {fd_pairs : FuncData} (G_pairs : Fun K "pairs" "pairs" s_pairs a_pairs fd_pairs)
    {a_all_pairs : Addr} {fd_all_pairs : FuncData} (c_all_pairs : Cal K mg "all_pairs" a_all_pairs fd_all_pairs ["hall"]) (F_all_pairs : FnOk P w K mg base (L2.CX P w) 4 a_all_pairs fd_all_pairs ["hall"] (spDO K cl (MemS K cl) 1 m_all_pairs)) : FnOk P w K mg base (L2.CX P w) 5 a_pairs fd_pairs ["hall"] (spDO K cl (MemS K cl) 1 m_pairs) := by
  refine FnOk.mono (fn_okO (k := 4) G_pairs sc_pairs rfl fun cdv A outer s H E hr => ?_) (by omega)
  exact dss_one (ds_retM (dm_call F_all_pairs (hr.mono (by first | decide | omega)) (by rfl) c_all_pairs.mg c_all_pairs.kp c_all_pairs.b takesD (da_cons (de_var (pv 0)) (da_nil)) rfl))
theorem ok__law_apart (T : Txt K mg cl) {a__law_apart : Addr} {fd__law_apart : FuncData} (G__law_apart : Fun K "_law_apart" "_law_apart" s__law_apart a__law_apart fd__law_apart)
     : FnOk P w K mg base (L2.CX P w) 1 a__law_apart fd__law_apart ["_law_boards_here"] (spD K cl (MemS K cl) 1 m__law_apart) := by
  refine FnOk.mono (fn_ok (k := 0) G__law_apart sc__law_apart rfl fun cdv A outer s H E hr => ?_) (by omega)
  exact dss_cons (ds_newL (i := 1) sc__law_apart.nd rfl (by first | exact Or.inl rfl | exact Or.inr rfl)) (dss_cons (ds_for passesD rfl (di_range1 (by rfl) T.b_range (de_callB c_len v_len (by rfl) T.b_len PySem.boot_len (da_cons (de_var (pv 0)) (da_nil)))) (dg_name (i := 2) sc__law_apart.nd rfl (by first | exact Or.inl rfl | exact Or.inr rfl)) (dss_one (ds_for passesD rfl (di_range2 (by rfl) T.b_range (de_op op_addA v_add (de_var (pv 2)) (de_int)) (de_callB c_len v_len (by rfl) T.b_len PySem.boot_len (da_cons (de_var (pv 0)) (da_nil)))) (dg_name (i := 3) sc__law_apart.nd rfl (by first | exact Or.inl rfl | exact Or.inr rfl)) (dss_cons (ds_set (i := 4) sc__law_apart.nd rfl (by first | exact Or.inl rfl | exact Or.inr rfl) (de_callB (cr_sortDat (hu65 hr)) v_sorted (by rfl) T.b_sorted boot_sorted (da_cons (de_lst (da_cons (de_ix (hu65 hr) (de_ix (hu65 hr) (de_var (pv 0)) (de_var (pv 2))) (de_int)) (da_cons (de_ix (hu65 hr) (de_ix (hu65 hr) (de_var (pv 0)) (de_var (pv 3))) (de_int)) (da_nil)))) (da_nil)))) (dss_one (ds_if seeHide (dt_of_dw (dw_and (dt_cmp (op_eqD (hu64 (hu65 hr))) v_eq (by with_unfolding_all rfl) (de_ix (hu65 hr) (de_ix (hu65 hr) (de_var (pv 0)) (de_var (pv 2))) (de_int)) (de_ix (hu65 hr) (de_ix (hu65 hr) (de_var (pv 0)) (de_var (pv 3))) (de_int))) (dw_and1 (dt_cmp (op_neD (hu64 (hu65 hr))) v_ne (by with_unfolding_all rfl) (de_ix (hu65 hr) (de_ix (hu65 hr) (de_var (pv 0)) (de_var (pv 2))) (de_int)) (de_ix (hu65 hr) (de_ix (hu65 hr) (de_var (pv 0)) (de_var (pv 3))) (de_int)))))) (dss_one (ds_if seeHide (dt_of_dw (dw_and (dt_cmp (op_eqD (hu64 (hu65 hr))) v_eq (by with_unfolding_all rfl) (de_callB c_len v_len (by rfl) T.b_len PySem.boot_len (da_cons (de_ix (hu65 hr) (de_var (pv 4)) (de_int)) (da_nil))) (de_op op_addA v_add (de_callB c_len v_len (by rfl) T.b_len PySem.boot_len (da_cons (de_ix (hu65 hr) (de_var (pv 4)) (de_int)) (da_nil))) (de_int))) (dw_and1 (dt_cmp (op_eqD (hu64 (hu65 hr))) v_eq (by with_unfolding_all rfl) (de_slice (de_ix (hu65 hr) (de_var (pv 4)) (de_int)) (do_none) (do_some (de_un un_neg v_neg (de_int)))) (de_ix (hu65 hr) (de_var (pv 4)) (de_int)))))) (dss_one (ds_app (i := 1) seeHide kpHide (pv 1) (de_tup (da_cons (de_var (pv 2)) (da_cons (de_var (pv 3)) (da_nil)))))) (dss_nil))) (dss_nil))))))) (dss_frz (i := 1) (dss_one (ds_ret seeHide (de_var (pv 1))))))
theorem ok__law_is (T : Txt K mg cl) {a__law_is : Addr} {fd__law_is : FuncData} (G__law_is : Fun K "_law_is" "_law_is" s__law_is a__law_is fd__law_is) (c__law_is : Cal K mg "_law_is" a__law_is fd__law_is ["_law_told", "_law_due"])
     : ∀ n : Nat, FnOk P w K mg base (L2.CX P w) (0 + n) a__law_is fd__law_is ["_law_told", "_law_due"] (spD K cl (MemS K cl) 2 (m__law_is n))
  | 0 => fn_stuck rfl
  | n + 1 => by
    have F__law_is := ok__law_is T G__law_is c__law_is   n
    exact fn_ok (k := 0 + n) G__law_is sc__law_is rfl fun cdv A outer s H E hr => by
      exact dss_cons (ds_if seeHide (dt_truth (de_isi2 (de_var (pv 1)) (by rfl) T.b_isinstance (by rfl) T.b_tuple PyProof.Rows.boot_tuple (by rfl) T.b_list PyProof.Rows.boot_list)) (dss_cons (ds_if seeHide (dt_of_dw (dw_or (dt_cmp (op_neD (hu64 (hu65 hr))) v_ne (by with_unfolding_all rfl) (de_isi (de_var (pv 0)) (by rfl) T.b_isinstance (by rfl) T.b_tuple PyProof.Rows.boot_tuple) (de_isi (de_var (pv 1)) (by rfl) T.b_isinstance (by rfl) T.b_tuple PyProof.Rows.boot_tuple)) (dw_or1 (dt_not (dt_truth (de_isi2 (de_var (pv 0)) (by rfl) T.b_isinstance (by rfl) T.b_tuple PyProof.Rows.boot_tuple (by rfl) T.b_list PyProof.Rows.boot_list)))))) (dss_one (ds_ret seeHide (de_bl))) (dss_nil)) (dss_one (ds_ret seeHide (de_and (de_cmp (op_eqD (hu64 (hu65 hr))) v_eq (by with_unfolding_all rfl) (de_callB c_len v_len (by rfl) T.b_len PySem.boot_len (da_cons (de_var (pv 0)) (da_nil))) (de_callB c_len v_len (by rfl) T.b_len PySem.boot_len (da_cons (de_var (pv 1)) (da_nil)))) (de_one (de_callB (cr_all rfl) v_all (by rfl) T.b_all boot_all (da_cons (de_comp (own := [("_law_one", 2), ("_law_two", 3)]) rfl sc__law_is.nd (di_zip (by rfl) T.b_zip (de_var (pv 0)) (de_var (pv 1))) (blkOk_by (own := [("_law_one", 2), ("_law_two", 3)]) (N := N__law_is) (sc := defScope s__law_is) (by decide +kernel)) (fun _ _ _ _ _ => dg_tup rfl (dgs_cons (dg_name (i := 2) sc__law_is.nd rfl (by first | exact Or.inl rfl | exact Or.inr rfl)) (dgs_cons (dg_name (i := 3) sc__law_is.nd rfl (by first | exact Or.inl rfl | exact Or.inr rfl)) (dgs_nil))) (aCons_len (aCons_len aNil_len))) (in_tup (in_cons (in_name (by decide)) (in_cons (in_name (by decide)) (in_nil)))) (fun _ _ _ _ _ => dts_nil) (fun _ _ _ _ _ => de_call F__law_is (hr.mono (by first | decide | omega)) (by rfl) c__law_is.mg c__law_is.kp c__law_is.b takes0 (da_cons (de_var (pv 2)) (da_cons (de_var (pv 3)) (da_nil))) rfl)) (da_nil)))))))) (dss_nil)) (dss_one (ds_ret seeHide (de_and (de_cmp (op_eqD (hu64 (hu65 hr))) v_eq (by with_unfolding_all rfl) (de_isi (de_var (pv 0)) (by rfl) T.b_isinstance (by rfl) T.b_bool PyProof.Rows.boot_bool) (de_isi (de_var (pv 1)) (by rfl) T.b_isinstance (by rfl) T.b_bool PyProof.Rows.boot_bool)) (de_one (de_cmp (op_eqD (hu64 (hu65 hr))) v_eq (by with_unfolding_all rfl) (de_var (pv 0)) (de_var (pv 1)))))))
theorem ok_RawHall_init (T : Txt K mg cl) {a_RawHall_init : Addr} {fd_RawHall_init : FuncData} (G_RawHall_init : Fun K "__init__" "RawHall.__init__" s_RawHall_init a_RawHall_init fd_RawHall_init)
    {a_Hall_keep : Addr} {fd_Hall_keep : FuncData} (c_Hall_keep : CalM K fd_Hall_keep ["self", "boards"]) (F_Hall_keep : FnOk P w K mg base (L2.CX P w) 1 a_Hall_keep fd_Hall_keep ["self", "boards"] (spD K cl (MemS K cl) 2 m_Hall_keep))
    (N_RawHall_keep : MethAt K cl "RawHall" "keep" a_Hall_keep) : FnOk P w K mg base (L2.CX P w) 2 a_RawHall_init fd_RawHall_init ["self", "boards"] (spD K cl (MemS K cl) 2 m_RawHall_init) := by
  refine FnOk.mono (fn_ok (k := 1) G_RawHall_init sc_RawHall_init rfl fun cdv A outer s H E hr => ?_) (by omega)
  exact dss_one (ds_expr seeHide (de_meth N_RawHall_keep F_Hall_keep (hr.mono (by first | decide | omega)) c_Hall_keep.b takesD (de_var (pv 0)) (da_cons (de_var (pv 1)) (da_nil)) rfl))
theorem ok_turned (T : Txt K mg cl) {a_turned : Addr} {fd_turned : FuncData} (G_turned : Fun K "turned" "turned" s_turned a_turned fd_turned)
    {a_RawHall_init : Addr} {fd_RawHall_init : FuncData} (c_RawHall_init : CalM K fd_RawHall_init ["self", "boards"]) (F_RawHall_init : FnOk P w K mg base (L2.CX P w) 2 a_RawHall_init fd_RawHall_init ["self", "boards"] (spD K cl (MemS K cl) 2 m_RawHall_init))
    {C_RawHall : Addr} (M_RawHall : MakeAt K cl "RawHall" C_RawHall a_RawHall_init 2) (I_RawHall : InitIs "RawHall" (m_RawHall_init (K := K) (cl := cl)) i_RawHall) (c_RawHall : CalC K mg "RawHall" C_RawHall fd_RawHall_init ["self", "boards"]) : FnOk P w K mg base (L2.CX P w) 4 a_turned fd_turned ["hall"] (spD K cl (MemS K cl) 1 m_turned) := by
  refine FnOk.mono (fn_ok (k := 3) G_turned sc_turned rfl fun cdv A outer s H E hr => ?_) (by omega)
  exact dss_one (ds_ret seeHide (de_make M_RawHall F_RawHall_init I_RawHall (hr.mono (by first | decide | omega)) (by rfl) c_RawHall.mg c_RawHall.b takesD (da_cons (de_callTy call_tuple_of v_tuple (by rfl) T.b_tuple PyProof.Rows.boot_tuple (da_cons (de_comp (own := [("name", 1), ("side", 2), ("begun", 3)]) rfl sc_turned.nd (di_any (de_fldo (fam_2 T.f_Hall_boards T.f_RawHall_boards) (de_var (pv 0)))) (blkOk_by (own := [("name", 1), ("side", 2), ("begun", 3)]) (N := N_turned) (sc := defScope s_turned) (by decide +kernel)) (fun _ _ _ _ _ => dg_tup rfl (dgs_cons (dg_name (i := 1) sc_turned.nd rfl (by first | exact Or.inl rfl | exact Or.inr rfl)) (dgs_cons (dg_name (i := 2) sc_turned.nd rfl (by first | exact Or.inl rfl | exact Or.inr rfl)) (dgs_cons (dg_name (i := 3) sc_turned.nd rfl (by first | exact Or.inl rfl | exact Or.inr rfl)) (dgs_nil)))) (aCons_len (aCons_len (aCons_len aNil_len)))) (in_tup (in_cons (in_name (by decide)) (in_cons (in_name (by decide)) (in_cons (in_name (by decide)) (in_nil))))) (fun _ _ _ _ _ => dts_nil) (fun _ _ _ _ _ => de_tup (da_cons (de_var (pv 1)) (da_cons (de_op op_sub v_sub (de_int) (de_var (pv 2))) (da_cons (de_var (pv 3)) (da_nil)))))) (da_nil))) (da_nil)) rfl))
theorem ok_joined (T : Txt K mg cl) {a_joined : Addr} {fd_joined : FuncData} (G_joined : Fun K "joined" "joined" s_joined a_joined fd_joined)
    {a_RawHall_init : Addr} {fd_RawHall_init : FuncData} (c_RawHall_init : CalM K fd_RawHall_init ["self", "boards"]) (F_RawHall_init : FnOk P w K mg base (L2.CX P w) 2 a_RawHall_init fd_RawHall_init ["self", "boards"] (spD K cl (MemS K cl) 2 m_RawHall_init))
    {C_RawHall : Addr} (M_RawHall : MakeAt K cl "RawHall" C_RawHall a_RawHall_init 2) (I_RawHall : InitIs "RawHall" (m_RawHall_init (K := K) (cl := cl)) i_RawHall) (c_RawHall : CalC K mg "RawHall" C_RawHall fd_RawHall_init ["self", "boards"]) : FnOk P w K mg base (L2.CX P w) 4 a_joined fd_joined ["one", "other"] (spD K cl (MemS K cl) 2 m_joined) := by
  refine FnOk.mono (fn_ok (k := 3) G_joined sc_joined rfl fun cdv A outer s H E hr => ?_) (by omega)
  exact dss_one (ds_ret seeHide (de_make M_RawHall F_RawHall_init I_RawHall (hr.mono (by first | decide | omega)) (by rfl) c_RawHall.mg c_RawHall.b takesD (da_cons (de_op op_addA v_add (de_fldo (fam_2 T.f_Hall_boards T.f_RawHall_boards) (de_var (pv 0))) (de_fldo (fam_2 T.f_Hall_boards T.f_RawHall_boards) (de_var (pv 1)))) (da_nil)) rfl))
theorem law_body (T : Txt K mg cl) {a_law : Addr} {cdv : Value} {A : Around} {outer : List PySem.Env} {s : Shared} {H : Hp} {E : XK} (hr : Room 30 (A.deeper (envOfC "law" (defScope s_law) s.heap.objs.size a_law cdv)))
    {a_Hall_init : Addr} {fd_Hall_init : FuncData} (c_Hall_init : CalM K fd_Hall_init ["self", "boards"]) (F_Hall_init : FnOk P w K mg base (L2.CX P w) 5 a_Hall_init fd_Hall_init ["self", "boards"] (spD K cl (MemS K cl) 2 m_Hall_init))
    {C_Hall : Addr} (M_Hall : MakeAt K cl "Hall" C_Hall a_Hall_init 2) (I_Hall : InitIs "Hall" (m_Hall_init (K := K) (cl := cl)) i_Hall) (c_Hall : CalC K mg "Hall" C_Hall fd_Hall_init ["self", "boards"])
    {a__law_apart : Addr} {fd__law_apart : FuncData} (c__law_apart : Cal K mg "_law_apart" a__law_apart fd__law_apart ["_law_boards_here"]) (F__law_apart : FnOk P w K mg base (L2.CX P w) 1 a__law_apart fd__law_apart ["_law_boards_here"] (spD K cl (MemS K cl) 1 m__law_apart))
    {a__law_boards : Addr} {fd__law_boards : FuncData} (c__law_boards : Cal K mg "_law_boards" a__law_boards fd__law_boards ["_law_tape_here", "_law_most", "_law_begun"]) (F__law_boards : FnOk P w K mg base (L2.CX P w) 4 a__law_boards fd__law_boards ["_law_tape_here", "_law_most", "_law_begun"] (spD K cl (MemS K cl) 3 m__law_boards))
    {a__law_is : Addr} {fd__law_is : FuncData} (c__law_is : Cal K mg "_law_is" a__law_is fd__law_is ["_law_told", "_law_due"]) (F__law_is : FnOk P w K mg base (L2.CX P w) 30 a__law_is fd__law_is ["_law_told", "_law_due"] (spD K cl (MemS K cl) 2 (m__law_is 30)))
    {a__law_pairs : Addr} {fd__law_pairs : FuncData} (c__law_pairs : Cal K mg "_law_pairs" a__law_pairs fd__law_pairs ["_law_boards_here"]) (F__law_pairs : FnOk P w K mg base (L2.CX P w) 2 a__law_pairs fd__law_pairs ["_law_boards_here"] (spD K cl (MemS K cl) 1 m__law_pairs))
    {a_joined : Addr} {fd_joined : FuncData} (c_joined : Cal K mg "joined" a_joined fd_joined ["one", "other"]) (F_joined : FnOk P w K mg base (L2.CX P w) 4 a_joined fd_joined ["one", "other"] (spD K cl (MemS K cl) 2 m_joined))
    {a_pairs : Addr} {fd_pairs : FuncData} (c_pairs : Cal K mg "pairs" a_pairs fd_pairs ["hall"]) (F_pairs : FnOk P w K mg base (L2.CX P w) 5 a_pairs fd_pairs ["hall"] (spDO K cl (MemS K cl) 1 m_pairs))
    {a_turned : Addr} {fd_turned : FuncData} (c_turned : Cal K mg "turned" a_turned fd_turned ["hall"]) (F_turned : FnOk P w K mg base (L2.CX P w) 4 a_turned fd_turned ["hall"] (spD K cl (MemS K cl) 1 m_turned)) :
    DSs cl (MemS K cl) (WD E) (CXD P w K mg base N_law "law" s_law a_law cdv A outer s H E) ((defBody s_law).drop 1) b_L21_law := dss_cons (ds_for passesD rfl (di_range1 (by rfl) T.b_range (de_int)) (dg_name (i := 2) sc_law.nd rfl (by first | exact Or.inl rfl | exact Or.inr rfl)) (dss_cons (ds_set (i := 3) sc_law.nd rfl (by first | exact Or.inl rfl | exact Or.inr rfl) (de_call F__law_boards (hr.mono (by first | decide | omega)) (by rfl) c__law_boards.mg c__law_boards.kp c__law_boards.b takesD (da_cons (de_var (pv 1)) (da_cons (de_int) (da_cons (de_cmp op_gt v_gt (by with_unfolding_all rfl) (de_var (pv 2)) (de_int)) (da_nil)))) rfl)) (dss_cons (ds_set (i := 4) sc_law.nd rfl (by first | exact Or.inl rfl | exact Or.inr rfl) (de_make M_Hall F_Hall_init I_Hall (hr.mono (by first | decide | omega)) (by rfl) c_Hall.mg c_Hall.b takesD (da_cons (de_var (pv 3)) (da_nil)) rfl)) (dss_cons (ds_set (i := 5) sc_law.nd rfl (by first | exact Or.inl rfl | exact Or.inr rfl) (de_call F__law_pairs (hr.mono (by first | decide | omega)) (by rfl) c__law_pairs.mg c__law_pairs.kp c__law_pairs.b takesD (da_cons (de_var (pv 3)) (da_nil)) rfl)) (dss_cons (ds_own (i := 6) sc_law.nd rfl (by first | exact Or.inl rfl | exact Or.inr rfl) (dm_call F_pairs (hr.mono (by first | decide | omega)) (by rfl) c_pairs.mg c_pairs.kp c_pairs.b takesD (da_cons (de_var (pv 4)) (da_nil)) rfl)) (dss_cons (ds_if seeAll (dt_of_dw (dw_or (dt_not (dt_truth (de_isi (de_var (pv 6)) (by rfl) T.b_isinstance (by rfl) T.b_list PyProof.Rows.boot_list))) (dw_or1 (dt_not (dt_truth (de_call F__law_is (hr.mono (by first | decide | omega)) (by rfl) c__law_is.mg c__law_is.kp c__law_is.b takesD (da_cons (de_var (pv 6)) (da_cons (de_var (pv 5)) (da_nil))) rfl)))))) (dss_one (ds_ret seeHide (de_bl))) (dss_nil)) (dss_cons (ds_app (i := 6) seeHide kpHide (pv 6) (de_non)) (dss_cons (ds_if seeHide (dt_not (dt_truth (de_call F__law_is (hr.mono (by first | decide | omega)) (by rfl) c__law_is.mg c__law_is.kp c__law_is.b takesD (da_cons (de_of_dm (dm_call F_pairs (hr.mono (by first | decide | omega)) (by rfl) c_pairs.mg c_pairs.kp c_pairs.b takesD (da_cons (de_var (pv 4)) (da_nil)) rfl)) (da_cons (de_var (pv 5)) (da_nil))) rfl))) (dss_one (ds_ret seeHide (de_bl))) (dss_nil)) (dss_cons (ds_set (i := 7) sc_law.nd rfl (by first | exact Or.inl rfl | exact Or.inr rfl) (de_of_dm (dm_call F_pairs (hr.mono (by first | decide | omega)) (by rfl) c_pairs.mg c_pairs.kp c_pairs.b takesD (da_cons (de_call F_turned (hr.mono (by first | decide | omega)) (by rfl) c_turned.mg c_turned.kp c_turned.b takesD (da_cons (de_var (pv 4)) (da_nil)) rfl) (da_nil)) rfl))) (dss_cons (ds_set (i := 8) sc_law.nd rfl (by first | exact Or.inl rfl | exact Or.inr rfl) (de_call F__law_apart (hr.mono (by first | decide | omega)) (by rfl) c__law_apart.mg c__law_apart.kp c__law_apart.b takesD (da_cons (de_var (pv 3)) (da_nil)) rfl)) (dss_cons (ds_if seeHide (dt_cmp (op_neD (hu64 (hu65 hr))) v_ne (by with_unfolding_all rfl) (de_comp (own := [("_law_pair", 12)]) rfl sc_law.nd (di_any (de_var (pv 7))) (blkOk_by (own := [("_law_pair", 12)]) (N := N_law) (sc := defScope s_law) (by decide +kernel)) (fun _ _ _ _ _ => dg_name (i := 12) sc_law.nd rfl (by first | exact Or.inl rfl | exact Or.inr rfl)) (in_name (by decide)) (fun _ _ _ _ _ => dts_one (dt_cmp (op_notInK (hu65 hr)) v_notInK (by with_unfolding_all rfl) (de_var (pv 12)) (de_var (pv 8)))) (fun _ _ _ _ _ => de_var (pv 12))) (de_comp (own := [("_law_pair", 12)]) rfl sc_law.nd (di_any (de_var (pv 5))) (blkOk_by (own := [("_law_pair", 12)]) (N := N_law) (sc := defScope s_law) (by decide +kernel)) (fun _ _ _ _ _ => dg_name (i := 12) sc_law.nd rfl (by first | exact Or.inl rfl | exact Or.inr rfl)) (in_name (by decide)) (fun _ _ _ _ _ => dts_one (dt_cmp (op_notInK (hu65 hr)) v_notInK (by with_unfolding_all rfl) (de_var (pv 12)) (de_var (pv 8)))) (fun _ _ _ _ _ => de_var (pv 12)))) (dss_one (ds_ret seeHide (de_bl))) (dss_nil)) (dss_cons (ds_if seeHide (dt_truth (de_callB (cr_any rfl) v_any (by rfl) T.b_any boot_any (da_cons (de_comp (own := [("_law_pair", 12)]) rfl sc_law.nd (di_any (de_var (pv 8))) (blkOk_by (own := [("_law_pair", 12)]) (N := N_law) (sc := defScope s_law) (by decide +kernel)) (fun _ _ _ _ _ => dg_name (i := 12) sc_law.nd rfl (by first | exact Or.inl rfl | exact Or.inr rfl)) (in_name (by decide)) (fun _ _ _ _ _ => dts_nil) (fun _ _ _ _ _ => de_cmp (op_eqD (hu64 (hu65 hr))) v_eq (by with_unfolding_all rfl) (de_cmp (op_inK (hu65 hr)) v_inK (by with_unfolding_all rfl) (de_var (pv 12)) (de_var (pv 7))) (de_cmp (op_inK (hu65 hr)) v_inK (by with_unfolding_all rfl) (de_var (pv 12)) (de_var (pv 5))))) (da_nil)))) (dss_one (ds_ret seeHide (de_bl))) (dss_nil)) (dss_cons (ds_set (i := 9) sc_law.nd rfl (by first | exact Or.inl rfl | exact Or.inr rfl) (de_call F__law_boards (hr.mono (by first | decide | omega)) (by rfl) c__law_boards.mg c__law_boards.kp c__law_boards.b takesD (da_cons (de_var (pv 1)) (da_cons (de_int) (da_cons (de_cmp op_gt v_gt (by with_unfolding_all rfl) (de_var (pv 2)) (de_int)) (da_nil)))) rfl)) (dss_cons (ds_set (i := 10) sc_law.nd rfl (by first | exact Or.inl rfl | exact Or.inr rfl) (de_of_dm (dm_call F_pairs (hr.mono (by first | decide | omega)) (by rfl) c_pairs.mg c_pairs.kp c_pairs.b takesD (da_cons (de_call F_joined (hr.mono (by first | decide | omega)) (by rfl) c_joined.mg c_joined.kp c_joined.b takesD (da_cons (de_var (pv 4)) (da_cons (de_make M_Hall F_Hall_init I_Hall (hr.mono (by first | decide | omega)) (by rfl) c_Hall.mg c_Hall.b takesD (da_cons (de_var (pv 9)) (da_nil)) rfl) (da_nil))) rfl) (da_nil)) rfl))) (dss_cons (ds_set (i := 11) sc_law.nd rfl (by first | exact Or.inl rfl | exact Or.inr rfl) (de_callB c_len v_len (by rfl) T.b_len PySem.boot_len (da_cons (de_var (pv 3)) (da_nil)))) (dss_cons (ds_if seeHide (dt_cmp (op_neD (hu64 (hu65 hr))) v_ne (by with_unfolding_all rfl) (de_comp (own := [("_law_pair", 12)]) rfl sc_law.nd (di_any (de_var (pv 10))) (blkOk_by (own := [("_law_pair", 12)]) (N := N_law) (sc := defScope s_law) (by decide +kernel)) (fun _ _ _ _ _ => dg_name (i := 12) sc_law.nd rfl (by first | exact Or.inl rfl | exact Or.inr rfl)) (in_name (by decide)) (fun _ _ _ _ _ => dts_one (dt_cmp op_lt v_lt (by with_unfolding_all rfl) (de_ix (hu65 hr) (de_var (pv 12)) (de_int)) (de_var (pv 11)))) (fun _ _ _ _ _ => de_var (pv 12))) (de_var (pv 5))) (dss_one (ds_ret seeHide (de_bl))) (dss_nil)) (dss_cons (ds_if seeHide (dt_cmp (op_neD (hu64 (hu65 hr))) v_ne (by with_unfolding_all rfl) (de_comp (own := [("_law_one", 13), ("_law_two", 14)]) rfl sc_law.nd (di_any (de_var (pv 10))) (blkOk_by (own := [("_law_one", 13), ("_law_two", 14)]) (N := N_law) (sc := defScope s_law) (by decide +kernel)) (fun _ _ _ _ _ => dg_tup rfl (dgs_cons (dg_name (i := 13) sc_law.nd rfl (by first | exact Or.inl rfl | exact Or.inr rfl)) (dgs_cons (dg_name (i := 14) sc_law.nd rfl (by first | exact Or.inl rfl | exact Or.inr rfl)) (dgs_nil))) (aCons_len (aCons_len aNil_len))) (in_tup (in_cons (in_name (by decide)) (in_cons (in_name (by decide)) (in_nil)))) (fun _ _ _ _ _ => dts_one (dt_cmp op_ge v_ge (by with_unfolding_all rfl) (de_var (pv 13)) (de_var (pv 11)))) (fun _ _ _ _ _ => de_tup (da_cons (de_op op_sub v_sub (de_var (pv 13)) (de_var (pv 11))) (da_cons (de_op op_sub v_sub (de_var (pv 14)) (de_var (pv 11))) (da_nil))))) (de_call F__law_pairs (hr.mono (by first | decide | omega)) (by rfl) c__law_pairs.mg c__law_pairs.kp c__law_pairs.b takesD (da_cons (de_var (pv 9)) (da_nil)) rfl)) (dss_one (ds_ret seeHide (de_bl))) (dss_nil)) (dss_one (ds_if seeHide (dt_not (dt_truth (de_call F__law_is (hr.mono (by first | decide | omega)) (by rfl) c__law_is.mg c__law_is.kp c__law_is.b takesD (da_cons (de_var (pv 10)) (da_cons (de_call F__law_pairs (hr.mono (by first | decide | omega)) (by rfl) c__law_pairs.mg c__law_pairs.kp c__law_pairs.b takesD (da_cons (de_op op_addA v_add (de_var (pv 3)) (de_var (pv 9))) (da_nil)) rfl) (da_nil))) rfl))) (dss_one (ds_ret seeHide (de_bl))) (dss_nil)))))))))))))))))))) (dss_one (ds_ret seeHide (de_bl)))
end
end LW
set_option Elab.async false
set_option linter.all false
set_option maxRecDepth 100000
set_option maxHeartbeats 4000000
namespace LW
open PySem PySem.Spec PyProof.Rows L2 RZ DN
section
variable {P : Program} {w : World} {K : PySem.W.Frag} {mg : Str → Option Value} {base : Heap} {cl : CTab}
theorem ok__law_tape (hl : mg "list" = none) {a_tape : Addr} {fd_tape : FuncData} (G : Fun K "_law_tape" "_law_tape" s__law_tape a_tape fd_tape) : FnOk P w K mg base (L2.CX P w) 1 a_tape fd_tape ["_law_script"] (spTape K) := by
  refine G.okX sc__law_tape (fun vs H Q E h => spTape_len vs H Q E h) fun cdv A outer s H vs Q E hr h => ?_
  refine ⟨_, pss_one (ps_ret (pe_lst (pa_cons (pe_callTy call_list_of (by rfl) hl PyProof.Rows.boot_list (pa_cons (pv 0) pa_nil)) (pa_cons pe_int (pa_cons pe_int (pa_cons pe_int (pa_cons pe_int pa_nil))))))), ?_⟩
  obtain ⟨a, ns, rfl, hS, hl2, q⟩ := h
  refine ⟨_, rfl, a, ns.map V.int, rfl, .inl hS, fun sc hsc => ?_⟩
  refine ⟨by show 5 ≤ sizeLine; decide, fun t ht => ?_⟩
  have hne : sc ≠ t := fun z => by rw [z, upd_same] at ht; cases ht
  exact q sc t hne
theorem ok_law (T : Txt K mg cl) {a_tape : Addr} {fd_tape : FuncData} (c_tape : Cal K mg "_law_tape" a_tape fd_tape ["_law_script"]) (F_tape : FnOk P w K mg base (L2.CX P w) 1 a_tape fd_tape ["_law_script"] (spTape K))
    {a_law : Addr} {fd_law : FuncData} (G_law : Fun K "law" "law" s_law a_law fd_law)
    {a_Hall_init : Addr} {fd_Hall_init : FuncData} (c_Hall_init : CalM K fd_Hall_init ["self", "boards"]) (F_Hall_init : FnOk P w K mg base (L2.CX P w) 5 a_Hall_init fd_Hall_init ["self", "boards"] (spD K cl (MemS K cl) 2 m_Hall_init))
    {C_Hall : Addr} (M_Hall : MakeAt K cl "Hall" C_Hall a_Hall_init 2) (I_Hall : InitIs "Hall" (m_Hall_init (K := K) (cl := cl)) i_Hall) (c_Hall : CalC K mg "Hall" C_Hall fd_Hall_init ["self", "boards"])
    {a__law_apart : Addr} {fd__law_apart : FuncData} (c__law_apart : Cal K mg "_law_apart" a__law_apart fd__law_apart ["_law_boards_here"]) (F__law_apart : FnOk P w K mg base (L2.CX P w) 1 a__law_apart fd__law_apart ["_law_boards_here"] (spD K cl (MemS K cl) 1 m__law_apart))
    {a__law_boards : Addr} {fd__law_boards : FuncData} (c__law_boards : Cal K mg "_law_boards" a__law_boards fd__law_boards ["_law_tape_here", "_law_most", "_law_begun"]) (F__law_boards : FnOk P w K mg base (L2.CX P w) 4 a__law_boards fd__law_boards ["_law_tape_here", "_law_most", "_law_begun"] (spD K cl (MemS K cl) 3 m__law_boards))
    {a__law_is : Addr} {fd__law_is : FuncData} (c__law_is : Cal K mg "_law_is" a__law_is fd__law_is ["_law_told", "_law_due"]) (F__law_is : FnOk P w K mg base (L2.CX P w) 30 a__law_is fd__law_is ["_law_told", "_law_due"] (spD K cl (MemS K cl) 2 (m__law_is 30)))
    {a__law_pairs : Addr} {fd__law_pairs : FuncData} (c__law_pairs : Cal K mg "_law_pairs" a__law_pairs fd__law_pairs ["_law_boards_here"]) (F__law_pairs : FnOk P w K mg base (L2.CX P w) 2 a__law_pairs fd__law_pairs ["_law_boards_here"] (spD K cl (MemS K cl) 1 m__law_pairs))
    {a_joined : Addr} {fd_joined : FuncData} (c_joined : Cal K mg "joined" a_joined fd_joined ["one", "other"]) (F_joined : FnOk P w K mg base (L2.CX P w) 4 a_joined fd_joined ["one", "other"] (spD K cl (MemS K cl) 2 m_joined))
    {a_pairs : Addr} {fd_pairs : FuncData} (c_pairs : Cal K mg "pairs" a_pairs fd_pairs ["hall"]) (F_pairs : FnOk P w K mg base (L2.CX P w) 5 a_pairs fd_pairs ["hall"] (spDO K cl (MemS K cl) 1 m_pairs))
    {a_turned : Addr} {fd_turned : FuncData} (c_turned : Cal K mg "turned" a_turned fd_turned ["hall"]) (F_turned : FnOk P w K mg base (L2.CX P w) 4 a_turned fd_turned ["hall"] (spD K cl (MemS K cl) 1 m_turned)) : FnOk P w K mg base (L2.CX P w) 31 a_law fd_law ["_law_script"] (spLaw K) := by
  refine G_law.okX sc_law (fun vs H Q E h => spLaw_len vs H Q E h) fun cdv A outer s H vs Q E hr h => ?_
  refine ⟨_, pss_cons (ps_set (i := 1) sc_law.nd rfl (by first | exact Or.inl rfl | exact Or.inr rfl) (pe_callS (E := fun _ => E) F_tape (hr.mono (by decide)) (by rfl) c_tape.mg c_tape.kp c_tape.b (fun σ => passAt takesD σ) (pa_cons (pv 0) pa_nil))) (law_body T (hr.mono (by decide)) c_Hall_init F_Hall_init M_Hall I_Hall c_Hall c__law_apart F__law_apart c__law_boards F__law_boards c__law_is F__law_is c__law_pairs F__law_pairs c_joined F_joined c_pairs F_pairs c_turned F_turned), ?_⟩
  obtain ⟨a, ns, rfl, hS, hl, k⟩ := h
  refine ⟨_, rfl, a, ns, rfl, hS, hl, fun sc t hne => ?_⟩
  exact law_start (m := 15) (a := a) (by rfl) (law_true hne hl) hne hl k
end
theorem all_mk {l : PySem.W.OpenLaw} {w : World} {K : PySem.W.Frag} {h : Heap} {mg : Str → Option Value} {fa : Addr} {C_Hall : Addr} {C_RawHall : Addr} {f__law_tape : Addr} {f__law_pick : Addr} {f__law_word : Addr} {f__law_line : Addr} {f__law_some : Addr} {f__law_boards : Addr} {f_Hall_keep : Addr} {f_is_letters : Addr} {f_is_name : Addr} {f_is_integer : Addr} {f_is_within : Addr} {f_is_word : Addr} {f_is_words : Addr} {f_is_board : Addr} {f_Hall_init : Addr} {f__law_are_pair : Addr} {f__law_pairs : Addr} {f_mover_of : Addr} {f_is_ahead : Addr} {f_are_pair : Addr} {f_all_pairs : Addr} {f_pairs : Addr} {f__law_apart : Addr} {f__law_is : Addr} {f_RawHall_init : Addr} {f_turned : Addr} {f_joined : Addr} {f_law : Addr} (X : K.In h) (G : h.Ns mainGlobals mg) (hfa : mg "law" = some (.ref fa))
    {od__law_tape an__law_tape : Option Addr} {sl__law_tape : Array (Option Value)} {oc__law_tape kV__law_tape dc__law_tape pm__law_tape cd__law_tape ct__law_tape : Value} {od__law_pick an__law_pick : Option Addr} {sl__law_pick : Array (Option Value)} {oc__law_pick kV__law_pick dc__law_pick pm__law_pick cd__law_pick ct__law_pick : Value} {od__law_word an__law_word : Option Addr} {sl__law_word : Array (Option Value)} {oc__law_word kV__law_word dc__law_word pm__law_word cd__law_word ct__law_word : Value} {od__law_line an__law_line : Option Addr} {sl__law_line : Array (Option Value)} {oc__law_line kV__law_line dc__law_line pm__law_line cd__law_line ct__law_line : Value} {od__law_some an__law_some : Option Addr} {sl__law_some : Array (Option Value)} {oc__law_some kV__law_some dc__law_some pm__law_some cd__law_some ct__law_some : Value} {od__law_boards an__law_boards : Option Addr} {sl__law_boards : Array (Option Value)} {oc__law_boards kV__law_boards dc__law_boards pm__law_boards cd__law_boards ct__law_boards : Value} {od_Hall_keep an_Hall_keep : Option Addr} {sl_Hall_keep : Array (Option Value)} {oc_Hall_keep kV_Hall_keep dc_Hall_keep pm_Hall_keep cd_Hall_keep ct_Hall_keep : Value} {od_is_letters an_is_letters : Option Addr} {sl_is_letters : Array (Option Value)} {oc_is_letters kV_is_letters dc_is_letters pm_is_letters cd_is_letters ct_is_letters : Value} {od_is_name an_is_name : Option Addr} {sl_is_name : Array (Option Value)} {oc_is_name kV_is_name dc_is_name pm_is_name cd_is_name ct_is_name : Value} {od_is_integer an_is_integer : Option Addr} {sl_is_integer : Array (Option Value)} {oc_is_integer kV_is_integer dc_is_integer pm_is_integer cd_is_integer ct_is_integer : Value} {od_is_within an_is_within : Option Addr} {sl_is_within : Array (Option Value)} {oc_is_within kV_is_within dc_is_within pm_is_within cd_is_within ct_is_within : Value} {od_is_word an_is_word : Option Addr} {sl_is_word : Array (Option Value)} {oc_is_word kV_is_word dc_is_word pm_is_word cd_is_word ct_is_word : Value} {od_is_words an_is_words : Option Addr} {sl_is_words : Array (Option Value)} {oc_is_words kV_is_words dc_is_words pm_is_words cd_is_words ct_is_words : Value} {od_is_board an_is_board : Option Addr} {sl_is_board : Array (Option Value)} {oc_is_board kV_is_board dc_is_board pm_is_board cd_is_board ct_is_board : Value} {od_Hall_init an_Hall_init : Option Addr} {sl_Hall_init : Array (Option Value)} {oc_Hall_init kV_Hall_init dc_Hall_init pm_Hall_init cd_Hall_init ct_Hall_init : Value} {od__law_are_pair an__law_are_pair : Option Addr} {sl__law_are_pair : Array (Option Value)} {oc__law_are_pair kV__law_are_pair dc__law_are_pair pm__law_are_pair cd__law_are_pair ct__law_are_pair : Value} {od__law_pairs an__law_pairs : Option Addr} {sl__law_pairs : Array (Option Value)} {oc__law_pairs kV__law_pairs dc__law_pairs pm__law_pairs cd__law_pairs ct__law_pairs : Value} {od_mover_of an_mover_of : Option Addr} {sl_mover_of : Array (Option Value)} {oc_mover_of kV_mover_of dc_mover_of pm_mover_of cd_mover_of ct_mover_of : Value} {od_is_ahead an_is_ahead : Option Addr} {sl_is_ahead : Array (Option Value)} {oc_is_ahead kV_is_ahead dc_is_ahead pm_is_ahead cd_is_ahead ct_is_ahead : Value} {od_are_pair an_are_pair : Option Addr} {sl_are_pair : Array (Option Value)} {oc_are_pair kV_are_pair dc_are_pair pm_are_pair cd_are_pair ct_are_pair : Value} {od_all_pairs an_all_pairs : Option Addr} {sl_all_pairs : Array (Option Value)} {oc_all_pairs kV_all_pairs dc_all_pairs pm_all_pairs cd_all_pairs ct_all_pairs : Value} {od_pairs an_pairs : Option Addr} {sl_pairs : Array (Option Value)} {oc_pairs kV_pairs dc_pairs pm_pairs cd_pairs ct_pairs : Value} {od__law_apart an__law_apart : Option Addr} {sl__law_apart : Array (Option Value)} {oc__law_apart kV__law_apart dc__law_apart pm__law_apart cd__law_apart ct__law_apart : Value} {od__law_is an__law_is : Option Addr} {sl__law_is : Array (Option Value)} {oc__law_is kV__law_is dc__law_is pm__law_is cd__law_is ct__law_is : Value} {od_RawHall_init an_RawHall_init : Option Addr} {sl_RawHall_init : Array (Option Value)} {oc_RawHall_init kV_RawHall_init dc_RawHall_init pm_RawHall_init cd_RawHall_init ct_RawHall_init : Value} {od_turned an_turned : Option Addr} {sl_turned : Array (Option Value)} {oc_turned kV_turned dc_turned pm_turned cd_turned ct_turned : Value} {od_joined an_joined : Option Addr} {sl_joined : Array (Option Value)} {oc_joined kV_joined dc_joined pm_joined cd_joined ct_joined : Value} {od_law an_law : Option Addr} {sl_law : Array (Option Value)} {oc_law kV_law dc_law pm_law cd_law ct_law : Value} {tk_LETTERS : Tok} {tk_MOST_BEGUN : Tok} {tk_MOST_BOARDS : Tok} {tk_MOST_LETTERS : Tok} {tk_MOST_NAME : Tok}
    (aC_Hall : PySem.W.nsIn K mainGlobals "Hall" = some (some (.ref C_Hall)))
    (aC_RawHall : PySem.W.nsIn K mainGlobals "RawHall" = some (some (.ref C_RawHall)))
    (a__law_tape : PySem.W.nsIn K mainGlobals "_law_tape" = some (some (.ref f__law_tape)))
    (l__law_tape : K.lookup f__law_tape = some ⟨oc__law_tape, od__law_tape, .func (PySem.W.fnOf "_law_tape" "_law_tape" (defArgs s__law_tape) (defBody s__law_tape) (defScope s__law_tape) .none kV__law_tape dc__law_tape pm__law_tape an__law_tape cd__law_tape ct__law_tape), sl__law_tape⟩)
    (c__law_tape : PySem.W.codeIn K cd__law_tape "_law_tape" = true)
    (k__law_tape : PySem.W.keepIn K (.ref f__law_tape) = true)
    (a__law_pick : PySem.W.nsIn K mainGlobals "_law_pick" = some (some (.ref f__law_pick)))
    (l__law_pick : K.lookup f__law_pick = some ⟨oc__law_pick, od__law_pick, .func (PySem.W.fnOf "_law_pick" "_law_pick" (defArgs s__law_pick) (defBody s__law_pick) (defScope s__law_pick) .none kV__law_pick dc__law_pick pm__law_pick an__law_pick cd__law_pick ct__law_pick), sl__law_pick⟩)
    (c__law_pick : PySem.W.codeIn K cd__law_pick "_law_pick" = true)
    (k__law_pick : PySem.W.keepIn K (.ref f__law_pick) = true)
    (a__law_word : PySem.W.nsIn K mainGlobals "_law_word" = some (some (.ref f__law_word)))
    (l__law_word : K.lookup f__law_word = some ⟨oc__law_word, od__law_word, .func (PySem.W.fnOf "_law_word" "_law_word" (defArgs s__law_word) (defBody s__law_word) (defScope s__law_word) .none kV__law_word dc__law_word pm__law_word an__law_word cd__law_word ct__law_word), sl__law_word⟩)
    (c__law_word : PySem.W.codeIn K cd__law_word "_law_word" = true)
    (k__law_word : PySem.W.keepIn K (.ref f__law_word) = true)
    (a__law_line : PySem.W.nsIn K mainGlobals "_law_line" = some (some (.ref f__law_line)))
    (l__law_line : K.lookup f__law_line = some ⟨oc__law_line, od__law_line, .func (PySem.W.fnOf "_law_line" "_law_line" (defArgs s__law_line) (defBody s__law_line) (defScope s__law_line) .none kV__law_line dc__law_line pm__law_line an__law_line cd__law_line ct__law_line), sl__law_line⟩)
    (c__law_line : PySem.W.codeIn K cd__law_line "_law_line" = true)
    (k__law_line : PySem.W.keepIn K (.ref f__law_line) = true)
    (a__law_some : PySem.W.nsIn K mainGlobals "_law_some" = some (some (.ref f__law_some)))
    (l__law_some : K.lookup f__law_some = some ⟨oc__law_some, od__law_some, .func (PySem.W.fnOf "_law_some" "_law_some" (defArgs s__law_some) (defBody s__law_some) (defScope s__law_some) .none kV__law_some dc__law_some pm__law_some an__law_some cd__law_some ct__law_some), sl__law_some⟩)
    (c__law_some : PySem.W.codeIn K cd__law_some "_law_some" = true)
    (k__law_some : PySem.W.keepIn K (.ref f__law_some) = true)
    (a__law_boards : PySem.W.nsIn K mainGlobals "_law_boards" = some (some (.ref f__law_boards)))
    (l__law_boards : K.lookup f__law_boards = some ⟨oc__law_boards, od__law_boards, .func (PySem.W.fnOf "_law_boards" "_law_boards" (defArgs s__law_boards) (defBody s__law_boards) (defScope s__law_boards) .none kV__law_boards dc__law_boards pm__law_boards an__law_boards cd__law_boards ct__law_boards), sl__law_boards⟩)
    (c__law_boards : PySem.W.codeIn K cd__law_boards "_law_boards" = true)
    (k__law_boards : PySem.W.keepIn K (.ref f__law_boards) = true)
    (a_Hall_keep : PySem.W.findIn K (.ref C_Hall) "keep" = some (some (.ref f_Hall_keep)))
    (i_Hall_keep : PySem.W.isFn K (.ref f_Hall_keep) = true)
    (a_RawHall_Hall_keep : PySem.W.findIn K (.ref C_RawHall) "keep" = some (some (.ref f_Hall_keep)))
    (l_Hall_keep : K.lookup f_Hall_keep = some ⟨oc_Hall_keep, od_Hall_keep, .func (PySem.W.fnOf "keep" "Hall.keep" (defArgs s_Hall_keep) (defBody s_Hall_keep) (defScope s_Hall_keep) .none kV_Hall_keep dc_Hall_keep pm_Hall_keep an_Hall_keep cd_Hall_keep ct_Hall_keep), sl_Hall_keep⟩)
    (c_Hall_keep : PySem.W.codeIn K cd_Hall_keep "Hall.keep" = true)
    (k_Hall_keep : PySem.W.keepIn K (.ref f_Hall_keep) = true)
    (a_is_letters : PySem.W.nsIn K mainGlobals "is_letters" = some (some (.ref f_is_letters)))
    (l_is_letters : K.lookup f_is_letters = some ⟨oc_is_letters, od_is_letters, .func (PySem.W.fnOf "is_letters" "is_letters" (defArgs s_is_letters) (defBody s_is_letters) (defScope s_is_letters) .none kV_is_letters dc_is_letters pm_is_letters an_is_letters cd_is_letters ct_is_letters), sl_is_letters⟩)
    (c_is_letters : PySem.W.codeIn K cd_is_letters "is_letters" = true)
    (k_is_letters : PySem.W.keepIn K (.ref f_is_letters) = true)
    (a_is_name : PySem.W.nsIn K mainGlobals "is_name" = some (some (.ref f_is_name)))
    (l_is_name : K.lookup f_is_name = some ⟨oc_is_name, od_is_name, .func (PySem.W.fnOf "is_name" "is_name" (defArgs s_is_name) (defBody s_is_name) (defScope s_is_name) .none kV_is_name dc_is_name pm_is_name an_is_name cd_is_name ct_is_name), sl_is_name⟩)
    (c_is_name : PySem.W.codeIn K cd_is_name "is_name" = true)
    (k_is_name : PySem.W.keepIn K (.ref f_is_name) = true)
    (a_is_integer : PySem.W.nsIn K mainGlobals "is_integer" = some (some (.ref f_is_integer)))
    (l_is_integer : K.lookup f_is_integer = some ⟨oc_is_integer, od_is_integer, .func (PySem.W.fnOf "is_integer" "is_integer" (defArgs s_is_integer) (defBody s_is_integer) (defScope s_is_integer) .none kV_is_integer dc_is_integer pm_is_integer an_is_integer cd_is_integer ct_is_integer), sl_is_integer⟩)
    (c_is_integer : PySem.W.codeIn K cd_is_integer "is_integer" = true)
    (k_is_integer : PySem.W.keepIn K (.ref f_is_integer) = true)
    (a_is_within : PySem.W.nsIn K mainGlobals "is_within" = some (some (.ref f_is_within)))
    (l_is_within : K.lookup f_is_within = some ⟨oc_is_within, od_is_within, .func (PySem.W.fnOf "is_within" "is_within" (defArgs s_is_within) (defBody s_is_within) (defScope s_is_within) .none kV_is_within dc_is_within pm_is_within an_is_within cd_is_within ct_is_within), sl_is_within⟩)
    (c_is_within : PySem.W.codeIn K cd_is_within "is_within" = true)
    (k_is_within : PySem.W.keepIn K (.ref f_is_within) = true)
    (a_is_word : PySem.W.nsIn K mainGlobals "is_word" = some (some (.ref f_is_word)))
    (l_is_word : K.lookup f_is_word = some ⟨oc_is_word, od_is_word, .func (PySem.W.fnOf "is_word" "is_word" (defArgs s_is_word) (defBody s_is_word) (defScope s_is_word) .none kV_is_word dc_is_word pm_is_word an_is_word cd_is_word ct_is_word), sl_is_word⟩)
    (c_is_word : PySem.W.codeIn K cd_is_word "is_word" = true)
    (k_is_word : PySem.W.keepIn K (.ref f_is_word) = true)
    (a_is_words : PySem.W.nsIn K mainGlobals "is_words" = some (some (.ref f_is_words)))
    (l_is_words : K.lookup f_is_words = some ⟨oc_is_words, od_is_words, .func (PySem.W.fnOf "is_words" "is_words" (defArgs s_is_words) (defBody s_is_words) (defScope s_is_words) .none kV_is_words dc_is_words pm_is_words an_is_words cd_is_words ct_is_words), sl_is_words⟩)
    (c_is_words : PySem.W.codeIn K cd_is_words "is_words" = true)
    (k_is_words : PySem.W.keepIn K (.ref f_is_words) = true)
    (a_is_board : PySem.W.nsIn K mainGlobals "is_board" = some (some (.ref f_is_board)))
    (l_is_board : K.lookup f_is_board = some ⟨oc_is_board, od_is_board, .func (PySem.W.fnOf "is_board" "is_board" (defArgs s_is_board) (defBody s_is_board) (defScope s_is_board) .none kV_is_board dc_is_board pm_is_board an_is_board cd_is_board ct_is_board), sl_is_board⟩)
    (c_is_board : PySem.W.codeIn K cd_is_board "is_board" = true)
    (k_is_board : PySem.W.keepIn K (.ref f_is_board) = true)
    (a_Hall_init : PySem.W.findIn K (.ref C_Hall) "__init__" = some (some (.ref f_Hall_init)))
    (i_Hall_init : PySem.W.isFn K (.ref f_Hall_init) = true)
    (l_Hall_init : K.lookup f_Hall_init = some ⟨oc_Hall_init, od_Hall_init, .func (PySem.W.fnOf "__init__" "Hall.__init__" (defArgs s_Hall_init) (defBody s_Hall_init) (defScope s_Hall_init) .none kV_Hall_init dc_Hall_init pm_Hall_init an_Hall_init cd_Hall_init ct_Hall_init), sl_Hall_init⟩)
    (c_Hall_init : PySem.W.codeIn K cd_Hall_init "Hall.__init__" = true)
    (k_Hall_init : PySem.W.keepIn K (.ref f_Hall_init) = true)
    (a__law_are_pair : PySem.W.nsIn K mainGlobals "_law_are_pair" = some (some (.ref f__law_are_pair)))
    (l__law_are_pair : K.lookup f__law_are_pair = some ⟨oc__law_are_pair, od__law_are_pair, .func (PySem.W.fnOf "_law_are_pair" "_law_are_pair" (defArgs s__law_are_pair) (defBody s__law_are_pair) (defScope s__law_are_pair) .none kV__law_are_pair dc__law_are_pair pm__law_are_pair an__law_are_pair cd__law_are_pair ct__law_are_pair), sl__law_are_pair⟩)
    (c__law_are_pair : PySem.W.codeIn K cd__law_are_pair "_law_are_pair" = true)
    (k__law_are_pair : PySem.W.keepIn K (.ref f__law_are_pair) = true)
    (a__law_pairs : PySem.W.nsIn K mainGlobals "_law_pairs" = some (some (.ref f__law_pairs)))
    (l__law_pairs : K.lookup f__law_pairs = some ⟨oc__law_pairs, od__law_pairs, .func (PySem.W.fnOf "_law_pairs" "_law_pairs" (defArgs s__law_pairs) (defBody s__law_pairs) (defScope s__law_pairs) .none kV__law_pairs dc__law_pairs pm__law_pairs an__law_pairs cd__law_pairs ct__law_pairs), sl__law_pairs⟩)
    (c__law_pairs : PySem.W.codeIn K cd__law_pairs "_law_pairs" = true)
    (k__law_pairs : PySem.W.keepIn K (.ref f__law_pairs) = true)
    (a_mover_of : PySem.W.nsIn K mainGlobals "mover_of" = some (some (.ref f_mover_of)))
    (l_mover_of : K.lookup f_mover_of = some ⟨oc_mover_of, od_mover_of, .func (PySem.W.fnOf "mover_of" "mover_of" (defArgs s_mover_of) (defBody s_mover_of) (defScope s_mover_of) .none kV_mover_of dc_mover_of pm_mover_of an_mover_of cd_mover_of ct_mover_of), sl_mover_of⟩)
    (c_mover_of : PySem.W.codeIn K cd_mover_of "mover_of" = true)
    (k_mover_of : PySem.W.keepIn K (.ref f_mover_of) = true)
    (a_is_ahead : PySem.W.nsIn K mainGlobals "is_ahead" = some (some (.ref f_is_ahead)))
    (l_is_ahead : K.lookup f_is_ahead = some ⟨oc_is_ahead, od_is_ahead, .func (PySem.W.fnOf "is_ahead" "is_ahead" (defArgs s_is_ahead) (defBody s_is_ahead) (defScope s_is_ahead) .none kV_is_ahead dc_is_ahead pm_is_ahead an_is_ahead cd_is_ahead ct_is_ahead), sl_is_ahead⟩)
    (c_is_ahead : PySem.W.codeIn K cd_is_ahead "is_ahead" = true)
    (k_is_ahead : PySem.W.keepIn K (.ref f_is_ahead) = true)
    (a_are_pair : PySem.W.nsIn K mainGlobals "are_pair" = some (some (.ref f_are_pair)))
    (l_are_pair : K.lookup f_are_pair = some ⟨oc_are_pair, od_are_pair, .func (PySem.W.fnOf "are_pair" "are_pair" (defArgs s_are_pair) (defBody s_are_pair) (defScope s_are_pair) .none kV_are_pair dc_are_pair pm_are_pair an_are_pair cd_are_pair ct_are_pair), sl_are_pair⟩)
    (c_are_pair : PySem.W.codeIn K cd_are_pair "are_pair" = true)
    (k_are_pair : PySem.W.keepIn K (.ref f_are_pair) = true)
    (a_all_pairs : PySem.W.nsIn K mainGlobals "all_pairs" = some (some (.ref f_all_pairs)))
    (l_all_pairs : K.lookup f_all_pairs = some ⟨oc_all_pairs, od_all_pairs, .func (PySem.W.fnOf "all_pairs" "all_pairs" (defArgs s_all_pairs) (defBody s_all_pairs) (defScope s_all_pairs) .none kV_all_pairs dc_all_pairs pm_all_pairs an_all_pairs cd_all_pairs ct_all_pairs), sl_all_pairs⟩)
    (c_all_pairs : PySem.W.codeIn K cd_all_pairs "all_pairs" = true)
    (k_all_pairs : PySem.W.keepIn K (.ref f_all_pairs) = true)
    (a_pairs : PySem.W.nsIn K mainGlobals "pairs" = some (some (.ref f_pairs)))
    (l_pairs : K.lookup f_pairs = some ⟨oc_pairs, od_pairs, .func (PySem.W.fnOf "pairs" "pairs" (defArgs s_pairs) (defBody s_pairs) (defScope s_pairs) .none kV_pairs dc_pairs pm_pairs an_pairs cd_pairs ct_pairs), sl_pairs⟩)
    (c_pairs : PySem.W.codeIn K cd_pairs "pairs" = true)
    (k_pairs : PySem.W.keepIn K (.ref f_pairs) = true)
    (a__law_apart : PySem.W.nsIn K mainGlobals "_law_apart" = some (some (.ref f__law_apart)))
    (l__law_apart : K.lookup f__law_apart = some ⟨oc__law_apart, od__law_apart, .func (PySem.W.fnOf "_law_apart" "_law_apart" (defArgs s__law_apart) (defBody s__law_apart) (defScope s__law_apart) .none kV__law_apart dc__law_apart pm__law_apart an__law_apart cd__law_apart ct__law_apart), sl__law_apart⟩)
    (c__law_apart : PySem.W.codeIn K cd__law_apart "_law_apart" = true)
    (k__law_apart : PySem.W.keepIn K (.ref f__law_apart) = true)
    (a__law_is : PySem.W.nsIn K mainGlobals "_law_is" = some (some (.ref f__law_is)))
    (l__law_is : K.lookup f__law_is = some ⟨oc__law_is, od__law_is, .func (PySem.W.fnOf "_law_is" "_law_is" (defArgs s__law_is) (defBody s__law_is) (defScope s__law_is) .none kV__law_is dc__law_is pm__law_is an__law_is cd__law_is ct__law_is), sl__law_is⟩)
    (c__law_is : PySem.W.codeIn K cd__law_is "_law_is" = true)
    (k__law_is : PySem.W.keepIn K (.ref f__law_is) = true)
    (a_RawHall_init : PySem.W.findIn K (.ref C_RawHall) "__init__" = some (some (.ref f_RawHall_init)))
    (i_RawHall_init : PySem.W.isFn K (.ref f_RawHall_init) = true)
    (l_RawHall_init : K.lookup f_RawHall_init = some ⟨oc_RawHall_init, od_RawHall_init, .func (PySem.W.fnOf "__init__" "RawHall.__init__" (defArgs s_RawHall_init) (defBody s_RawHall_init) (defScope s_RawHall_init) .none kV_RawHall_init dc_RawHall_init pm_RawHall_init an_RawHall_init cd_RawHall_init ct_RawHall_init), sl_RawHall_init⟩)
    (c_RawHall_init : PySem.W.codeIn K cd_RawHall_init "RawHall.__init__" = true)
    (k_RawHall_init : PySem.W.keepIn K (.ref f_RawHall_init) = true)
    (a_turned : PySem.W.nsIn K mainGlobals "turned" = some (some (.ref f_turned)))
    (l_turned : K.lookup f_turned = some ⟨oc_turned, od_turned, .func (PySem.W.fnOf "turned" "turned" (defArgs s_turned) (defBody s_turned) (defScope s_turned) .none kV_turned dc_turned pm_turned an_turned cd_turned ct_turned), sl_turned⟩)
    (c_turned : PySem.W.codeIn K cd_turned "turned" = true)
    (k_turned : PySem.W.keepIn K (.ref f_turned) = true)
    (a_joined : PySem.W.nsIn K mainGlobals "joined" = some (some (.ref f_joined)))
    (l_joined : K.lookup f_joined = some ⟨oc_joined, od_joined, .func (PySem.W.fnOf "joined" "joined" (defArgs s_joined) (defBody s_joined) (defScope s_joined) .none kV_joined dc_joined pm_joined an_joined cd_joined ct_joined), sl_joined⟩)
    (c_joined : PySem.W.codeIn K cd_joined "joined" = true)
    (k_joined : PySem.W.keepIn K (.ref f_joined) = true)
    (a_law : PySem.W.nsIn K mainGlobals "law" = some (some (.ref f_law)))
    (l_law : K.lookup f_law = some ⟨oc_law, od_law, .func (PySem.W.fnOf "law" "law" (defArgs s_law) (defBody s_law) (defScope s_law) .none kV_law dc_law pm_law an_law cd_law ct_law), sl_law⟩)
    (c_law : PySem.W.codeIn K cd_law "law" = true)
    (k_law : PySem.W.keepIn K (.ref f_law) = true)
    (pg_Hall : PySem.W.plainGet K C_Hall Str.empty = true)
    (hd_Hall : PySem.W.hasDictIn K C_Hall = true)
    (po_Hall : PySem.W.plainOver K C_Hall = true)
    (sa_Hall : PySem.W.findIn K (.ref C_Hall) "__setattr__" = some (some (.builtin "object.__setattr__")))
    (mk_Hall : PySem.W.makesIn K C_Hall = true)
    (kc_Hall : PySem.W.keepIn K (.ref C_Hall) = true)
    (n_Hall_boards : PySem.W.findIn K (.ref C_Hall) "boards" = some none)
    (n_Hall_names : PySem.W.findIn K (.ref C_Hall) "names" = some none)
    (pg_RawHall : PySem.W.plainGet K C_RawHall Str.empty = true)
    (hd_RawHall : PySem.W.hasDictIn K C_RawHall = true)
    (po_RawHall : PySem.W.plainOver K C_RawHall = true)
    (sa_RawHall : PySem.W.findIn K (.ref C_RawHall) "__setattr__" = some (some (.builtin "object.__setattr__")))
    (mk_RawHall : PySem.W.makesIn K C_RawHall = true)
    (kc_RawHall : PySem.W.keepIn K (.ref C_RawHall) = true)
    (n_RawHall_boards : PySem.W.findIn K (.ref C_RawHall) "boards" = some none)
    (n_RawHall_names : PySem.W.findIn K (.ref C_RawHall) "names" = some none)
    (z_all : PySem.W.nsIn K mainGlobals "all" = some none)
    (z_any : PySem.W.nsIn K mainGlobals "any" = some none)
    (z_bool : PySem.W.nsIn K mainGlobals "bool" = some none)
    (z_enumerate : PySem.W.nsIn K mainGlobals "enumerate" = some none)
    (z_int : PySem.W.nsIn K mainGlobals "int" = some none)
    (z_isinstance : PySem.W.nsIn K mainGlobals "isinstance" = some none)
    (z_len : PySem.W.nsIn K mainGlobals "len" = some none)
    (z_list : PySem.W.nsIn K mainGlobals "list" = some none)
    (z_max : PySem.W.nsIn K mainGlobals "max" = some none)
    (z_range : PySem.W.nsIn K mainGlobals "range" = some none)
    (z_sorted : PySem.W.nsIn K mainGlobals "sorted" = some none)
    (z_str : PySem.W.nsIn K mainGlobals "str" = some none)
    (z_tuple : PySem.W.nsIn K mainGlobals "tuple" = some none)
    (z_zip : PySem.W.nsIn K mainGlobals "zip" = some none)
    (gv_LETTERS : PySem.W.nsIn K mainGlobals "LETTERS" = some (some (.str "abcdefghijklmnopqrstuvwxyz" tk_LETTERS)))
    (gv_MOST_BEGUN : PySem.W.nsIn K mainGlobals "MOST_BEGUN" = some (some (.int 20 tk_MOST_BEGUN)))
    (gv_MOST_BOARDS : PySem.W.nsIn K mainGlobals "MOST_BOARDS" = some (some (.int 12 tk_MOST_BOARDS)))
    (gv_MOST_LETTERS : PySem.W.nsIn K mainGlobals "MOST_LETTERS" = some (some (.int 20 tk_MOST_LETTERS)))
    (gv_MOST_NAME : PySem.W.nsIn K mainGlobals "MOST_NAME" = some (some (.int 8 tk_MOST_NAME))) :
    ∃ fd : FuncData, (∀ (s : Shared) (v : Value), BindsTo s fd ⟨[v], []⟩ [("_law_script", v)]) ∧ ∀ base : Heap, K.In base → base.Ns mainGlobals mg → FnOk l.prog w K mg base (L2.CX l.prog w) 31 fa fd ["_law_script"] (spLaw K) := by
  have e := hfa.symm.trans (PySem.W.mg_of X G a_law)
  cases e
  let cl : CTab := fun c => if c = "Hall" then some (C_Hall, ["boards", "names"]) else if c = "RawHall" then some (C_RawHall, ["boards", "names"]) else none
  have T : Txt K mg cl := { b_all := PySem.W.mg_none_of X G z_all, b_any := PySem.W.mg_none_of X G z_any, b_bool := PySem.W.mg_none_of X G z_bool, b_enumerate := PySem.W.mg_none_of X G z_enumerate, b_int := PySem.W.mg_none_of X G z_int, b_isinstance := PySem.W.mg_none_of X G z_isinstance, b_len := PySem.W.mg_none_of X G z_len, b_list := PySem.W.mg_none_of X G z_list, b_max := PySem.W.mg_none_of X G z_max, b_range := PySem.W.mg_none_of X G z_range, b_sorted := PySem.W.mg_none_of X G z_sorted, b_str := PySem.W.mg_none_of X G z_str, b_tuple := PySem.W.mg_none_of X G z_tuple, b_zip := PySem.W.mg_none_of X G z_zip, g_LETTERS := glStr (PySem.W.mg_of X G gv_LETTERS), g_MOST_BEGUN := glInt (PySem.W.mg_of X G gv_MOST_BEGUN), g_MOST_BOARDS := glInt (PySem.W.mg_of X G gv_MOST_BOARDS), g_MOST_LETTERS := glInt (PySem.W.mg_of X G gv_MOST_LETTERS), g_MOST_NAME := glInt (PySem.W.mg_of X G gv_MOST_NAME), f_Hall_boards := ⟨.inl ⟨C_Hall, ["boards", "names"], by rfl, rfl, by decide +kernel, by decide, ⟨pg_Hall, hd_Hall, po_Hall, sa_Hall⟩, n_Hall_boards⟩⟩, f_Hall_names := ⟨.inl ⟨C_Hall, ["boards", "names"], by rfl, rfl, by decide +kernel, by decide, ⟨pg_Hall, hd_Hall, po_Hall, sa_Hall⟩, n_Hall_names⟩⟩, f_RawHall_boards := ⟨.inl ⟨C_RawHall, ["boards", "names"], by rfl, rfl, by decide +kernel, by decide, ⟨pg_RawHall, hd_RawHall, po_RawHall, sa_RawHall⟩, n_RawHall_boards⟩⟩, f_RawHall_names := ⟨.inl ⟨C_RawHall, ["boards", "names"], by rfl, rfl, by decide +kernel, by decide, ⟨pg_RawHall, hd_RawHall, po_RawHall, sa_RawHall⟩, n_RawHall_names⟩⟩ }
  have G__law_tape := fun_mk (st := s__law_tape) l__law_tape c__law_tape k__law_tape
  have b__law_tape := G__law_tape.binds (ps := ["_law_script"]) fun _ _ _ _ _ _ us hl => match us, hl with | [_], _ => rfl
  have cc__law_tape : Cal K mg "_law_tape" f__law_tape _ ["_law_script"] := ⟨PySem.W.mg_of X G a__law_tape, k__law_tape, b__law_tape⟩
  have G__law_pick := fun_mk (st := s__law_pick) l__law_pick c__law_pick k__law_pick
  have b__law_pick := G__law_pick.binds (ps := ["_law_tape_here", "_law_size"]) fun _ _ _ _ _ _ us hl => match us, hl with | [_, _], _ => rfl
  have cc__law_pick : Cal K mg "_law_pick" f__law_pick _ ["_law_tape_here", "_law_size"] := ⟨PySem.W.mg_of X G a__law_pick, k__law_pick, b__law_pick⟩
  have G__law_word := fun_mk (st := s__law_word) l__law_word c__law_word k__law_word
  have b__law_word := G__law_word.binds (ps := ["_law_tape_here"]) fun _ _ _ _ _ _ us hl => match us, hl with | [_], _ => rfl
  have cc__law_word : Cal K mg "_law_word" f__law_word _ ["_law_tape_here"] := ⟨PySem.W.mg_of X G a__law_word, k__law_word, b__law_word⟩
  have G__law_line := fun_mk (st := s__law_line) l__law_line c__law_line k__law_line
  have b__law_line := G__law_line.binds (ps := ["_law_tape_here", "_law_many"]) fun _ _ _ _ _ _ us hl => match us, hl with | [_, _], _ => rfl
  have cc__law_line : Cal K mg "_law_line" f__law_line _ ["_law_tape_here", "_law_many"] := ⟨PySem.W.mg_of X G a__law_line, k__law_line, b__law_line⟩
  have G__law_some := fun_mk (st := s__law_some) l__law_some c__law_some k__law_some
  have b__law_some := G__law_some.binds (ps := ["_law_tape_here", "_law_things"]) fun _ _ _ _ _ _ us hl => match us, hl with | [_, _], _ => rfl
  have cc__law_some : Cal K mg "_law_some" f__law_some _ ["_law_tape_here", "_law_things"] := ⟨PySem.W.mg_of X G a__law_some, k__law_some, b__law_some⟩
  have G__law_boards := fun_mk (st := s__law_boards) l__law_boards c__law_boards k__law_boards
  have b__law_boards := G__law_boards.binds (ps := ["_law_tape_here", "_law_most", "_law_begun"]) fun _ _ _ _ _ _ us hl => match us, hl with | [_, _, _], _ => rfl
  have cc__law_boards : Cal K mg "_law_boards" f__law_boards _ ["_law_tape_here", "_law_most", "_law_begun"] := ⟨PySem.W.mg_of X G a__law_boards, k__law_boards, b__law_boards⟩
  have G_Hall_keep := fun_mk (st := s_Hall_keep) l_Hall_keep c_Hall_keep k_Hall_keep
  have b_Hall_keep := G_Hall_keep.binds (ps := ["self", "boards"]) fun _ _ _ _ _ _ us hl => match us, hl with | [_, _], _ => rfl
  have cc_Hall_keep : CalM K _ ["self", "boards"] := ⟨b_Hall_keep⟩
  have N_Hall_keep : MethAt K cl "Hall" "keep" f_Hall_keep := ⟨C_Hall, ["boards", "names"], by rfl, by decide +kernel, ⟨pg_Hall, hd_Hall, po_Hall, sa_Hall⟩, ⟨a_Hall_keep, i_Hall_keep, k_Hall_keep⟩⟩
  have N_RawHall_keep : MethAt K cl "RawHall" "keep" f_Hall_keep := ⟨C_RawHall, ["boards", "names"], by rfl, by decide +kernel, ⟨pg_RawHall, hd_RawHall, po_RawHall, sa_RawHall⟩, ⟨a_RawHall_Hall_keep, i_Hall_keep, k_Hall_keep⟩⟩
  have G_is_letters := fun_mk (st := s_is_letters) l_is_letters c_is_letters k_is_letters
  have b_is_letters := G_is_letters.binds (ps := ["thing", "most"]) fun _ _ _ _ _ _ us hl => match us, hl with | [_, _], _ => rfl
  have cc_is_letters : Cal K mg "is_letters" f_is_letters _ ["thing", "most"] := ⟨PySem.W.mg_of X G a_is_letters, k_is_letters, b_is_letters⟩
  have G_is_name := fun_mk (st := s_is_name) l_is_name c_is_name k_is_name
  have b_is_name := G_is_name.binds (ps := ["thing"]) fun _ _ _ _ _ _ us hl => match us, hl with | [_], _ => rfl
  have cc_is_name : Cal K mg "is_name" f_is_name _ ["thing"] := ⟨PySem.W.mg_of X G a_is_name, k_is_name, b_is_name⟩
  have G_is_integer := fun_mk (st := s_is_integer) l_is_integer c_is_integer k_is_integer
  have b_is_integer := G_is_integer.binds (ps := ["thing"]) fun _ _ _ _ _ _ us hl => match us, hl with | [_], _ => rfl
  have cc_is_integer : Cal K mg "is_integer" f_is_integer _ ["thing"] := ⟨PySem.W.mg_of X G a_is_integer, k_is_integer, b_is_integer⟩
  have G_is_within := fun_mk (st := s_is_within) l_is_within c_is_within k_is_within
  have b_is_within := G_is_within.binds (ps := ["thing", "least", "most"]) fun _ _ _ _ _ _ us hl => match us, hl with | [_, _, _], _ => rfl
  have cc_is_within : Cal K mg "is_within" f_is_within _ ["thing", "least", "most"] := ⟨PySem.W.mg_of X G a_is_within, k_is_within, b_is_within⟩
  have G_is_word := fun_mk (st := s_is_word) l_is_word c_is_word k_is_word
  have b_is_word := G_is_word.binds (ps := ["thing"]) fun _ _ _ _ _ _ us hl => match us, hl with | [_], _ => rfl
  have cc_is_word : Cal K mg "is_word" f_is_word _ ["thing"] := ⟨PySem.W.mg_of X G a_is_word, k_is_word, b_is_word⟩
  have G_is_words := fun_mk (st := s_is_words) l_is_words c_is_words k_is_words
  have b_is_words := G_is_words.binds (ps := ["thing", "most"]) fun _ _ _ _ _ _ us hl => match us, hl with | [_, _], _ => rfl
  have cc_is_words : Cal K mg "is_words" f_is_words _ ["thing", "most"] := ⟨PySem.W.mg_of X G a_is_words, k_is_words, b_is_words⟩
  have G_is_board := fun_mk (st := s_is_board) l_is_board c_is_board k_is_board
  have b_is_board := G_is_board.binds (ps := ["thing"]) fun _ _ _ _ _ _ us hl => match us, hl with | [_], _ => rfl
  have cc_is_board : Cal K mg "is_board" f_is_board _ ["thing"] := ⟨PySem.W.mg_of X G a_is_board, k_is_board, b_is_board⟩
  have G_Hall_init := fun_mk (st := s_Hall_init) l_Hall_init c_Hall_init k_Hall_init
  have b_Hall_init := G_Hall_init.binds (ps := ["self", "boards"]) fun _ _ _ _ _ _ us hl => match us, hl with | [_, _], _ => rfl
  have cc_Hall_init : CalM K _ ["self", "boards"] := ⟨b_Hall_init⟩
  have ci_Hall : CalC K mg "Hall" C_Hall _ ["self", "boards"] := ⟨PySem.W.mg_of X G aC_Hall, b_Hall_init⟩
  have M_Hall : MakeAt K cl "Hall" C_Hall f_Hall_init 2 := ⟨["boards", "names"], by rfl, rfl, ⟨mk_Hall, a_Hall_init, i_Hall_init, kc_Hall⟩⟩
  have G__law_are_pair := fun_mk (st := s__law_are_pair) l__law_are_pair c__law_are_pair k__law_are_pair
  have b__law_are_pair := G__law_are_pair.binds (ps := ["_law_one", "_law_other"]) fun _ _ _ _ _ _ us hl => match us, hl with | [_, _], _ => rfl
  have cc__law_are_pair : Cal K mg "_law_are_pair" f__law_are_pair _ ["_law_one", "_law_other"] := ⟨PySem.W.mg_of X G a__law_are_pair, k__law_are_pair, b__law_are_pair⟩
  have G__law_pairs := fun_mk (st := s__law_pairs) l__law_pairs c__law_pairs k__law_pairs
  have b__law_pairs := G__law_pairs.binds (ps := ["_law_boards_here"]) fun _ _ _ _ _ _ us hl => match us, hl with | [_], _ => rfl
  have cc__law_pairs : Cal K mg "_law_pairs" f__law_pairs _ ["_law_boards_here"] := ⟨PySem.W.mg_of X G a__law_pairs, k__law_pairs, b__law_pairs⟩
  have G_mover_of := fun_mk (st := s_mover_of) l_mover_of c_mover_of k_mover_of
  have b_mover_of := G_mover_of.binds (ps := ["row"]) fun _ _ _ _ _ _ us hl => match us, hl with | [_], _ => rfl
  have cc_mover_of : Cal K mg "mover_of" f_mover_of _ ["row"] := ⟨PySem.W.mg_of X G a_mover_of, k_mover_of, b_mover_of⟩
  have G_is_ahead := fun_mk (st := s_is_ahead) l_is_ahead c_is_ahead k_is_ahead
  have b_is_ahead := G_is_ahead.binds (ps := ["longer", "shorter"]) fun _ _ _ _ _ _ us hl => match us, hl with | [_, _], _ => rfl
  have cc_is_ahead : Cal K mg "is_ahead" f_is_ahead _ ["longer", "shorter"] := ⟨PySem.W.mg_of X G a_is_ahead, k_is_ahead, b_is_ahead⟩
  have G_are_pair := fun_mk (st := s_are_pair) l_are_pair c_are_pair k_are_pair
  have b_are_pair := G_are_pair.binds (ps := ["one", "other"]) fun _ _ _ _ _ _ us hl => match us, hl with | [_, _], _ => rfl
  have cc_are_pair : Cal K mg "are_pair" f_are_pair _ ["one", "other"] := ⟨PySem.W.mg_of X G a_are_pair, k_are_pair, b_are_pair⟩
  have G_all_pairs := fun_mk (st := s_all_pairs) l_all_pairs c_all_pairs k_all_pairs
  have b_all_pairs := G_all_pairs.binds (ps := ["hall"]) fun _ _ _ _ _ _ us hl => match us, hl with | [_], _ => rfl
  have cc_all_pairs : Cal K mg "all_pairs" f_all_pairs _ ["hall"] := ⟨PySem.W.mg_of X G a_all_pairs, k_all_pairs, b_all_pairs⟩
  have G_pairs := fun_mk (st := s_pairs) l_pairs c_pairs k_pairs
  have b_pairs := G_pairs.binds (ps := ["hall"]) fun _ _ _ _ _ _ us hl => match us, hl with | [_], _ => rfl
  have cc_pairs : Cal K mg "pairs" f_pairs _ ["hall"] := ⟨PySem.W.mg_of X G a_pairs, k_pairs, b_pairs⟩
  have G__law_apart := fun_mk (st := s__law_apart) l__law_apart c__law_apart k__law_apart
  have b__law_apart := G__law_apart.binds (ps := ["_law_boards_here"]) fun _ _ _ _ _ _ us hl => match us, hl with | [_], _ => rfl
  have cc__law_apart : Cal K mg "_law_apart" f__law_apart _ ["_law_boards_here"] := ⟨PySem.W.mg_of X G a__law_apart, k__law_apart, b__law_apart⟩
  have G__law_is := fun_mk (st := s__law_is) l__law_is c__law_is k__law_is
  have b__law_is := G__law_is.binds (ps := ["_law_told", "_law_due"]) fun _ _ _ _ _ _ us hl => match us, hl with | [_, _], _ => rfl
  have cc__law_is : Cal K mg "_law_is" f__law_is _ ["_law_told", "_law_due"] := ⟨PySem.W.mg_of X G a__law_is, k__law_is, b__law_is⟩
  have G_RawHall_init := fun_mk (st := s_RawHall_init) l_RawHall_init c_RawHall_init k_RawHall_init
  have b_RawHall_init := G_RawHall_init.binds (ps := ["self", "boards"]) fun _ _ _ _ _ _ us hl => match us, hl with | [_, _], _ => rfl
  have cc_RawHall_init : CalM K _ ["self", "boards"] := ⟨b_RawHall_init⟩
  have ci_RawHall : CalC K mg "RawHall" C_RawHall _ ["self", "boards"] := ⟨PySem.W.mg_of X G aC_RawHall, b_RawHall_init⟩
  have M_RawHall : MakeAt K cl "RawHall" C_RawHall f_RawHall_init 2 := ⟨["boards", "names"], by rfl, rfl, ⟨mk_RawHall, a_RawHall_init, i_RawHall_init, kc_RawHall⟩⟩
  have G_turned := fun_mk (st := s_turned) l_turned c_turned k_turned
  have b_turned := G_turned.binds (ps := ["hall"]) fun _ _ _ _ _ _ us hl => match us, hl with | [_], _ => rfl
  have cc_turned : Cal K mg "turned" f_turned _ ["hall"] := ⟨PySem.W.mg_of X G a_turned, k_turned, b_turned⟩
  have G_joined := fun_mk (st := s_joined) l_joined c_joined k_joined
  have b_joined := G_joined.binds (ps := ["one", "other"]) fun _ _ _ _ _ _ us hl => match us, hl with | [_, _], _ => rfl
  have cc_joined : Cal K mg "joined" f_joined _ ["one", "other"] := ⟨PySem.W.mg_of X G a_joined, k_joined, b_joined⟩
  have G_law := fun_mk (st := s_law) l_law c_law k_law
  refine ⟨PySem.W.fnOf "law" "law" (defArgs s_law) (defBody s_law) (defScope s_law) .none kV_law dc_law pm_law an_law cd_law ct_law, fun s v => .of_eq rfl, fun base _ _ => ?_⟩
  have F__law_tape := ok__law_tape (P := l.prog) (w := w) (base := base) (PySem.W.mg_none_of X G z_list) G__law_tape
  have F__law_pick := ok__law_pick (P := l.prog) (w := w) (base := base) T G__law_pick 
  have F__law_word := ok__law_word (P := l.prog) (w := w) (base := base) T G__law_word cc__law_pick F__law_pick
  have F__law_line := ok__law_line (P := l.prog) (w := w) (base := base) T G__law_line cc__law_word F__law_word
  have F__law_some := ok__law_some (P := l.prog) (w := w) (base := base) T G__law_some cc__law_pick F__law_pick
  have F__law_boards := ok__law_boards (P := l.prog) (w := w) (base := base) T G__law_boards cc__law_line F__law_line cc__law_pick F__law_pick cc__law_some F__law_some
  have F_Hall_keep := ok_Hall_keep (P := l.prog) (w := w) (base := base) T G_Hall_keep 
  have F_is_letters := ok_is_letters (P := l.prog) (w := w) (base := base) T G_is_letters 
  have F_is_name := ok_is_name (P := l.prog) (w := w) (base := base) T G_is_name cc_is_letters F_is_letters
  have F_is_integer := ok_is_integer (P := l.prog) (w := w) (base := base) T G_is_integer 
  have F_is_within := ok_is_within (P := l.prog) (w := w) (base := base) T G_is_within cc_is_integer F_is_integer
  have F_is_word := ok_is_word (P := l.prog) (w := w) (base := base) T G_is_word cc_is_letters F_is_letters
  have F_is_words := ok_is_words (P := l.prog) (w := w) (base := base) T G_is_words cc_is_word F_is_word
  have F_is_board := ok_is_board (P := l.prog) (w := w) (base := base) T G_is_board cc_is_name F_is_name cc_is_within F_is_within cc_is_words F_is_words
  have F_Hall_init := ok_Hall_init (P := l.prog) (w := w) (base := base) T G_Hall_init cc_Hall_keep F_Hall_keep N_Hall_keep cc_is_board F_is_board
  have F__law_are_pair := ok__law_are_pair (P := l.prog) (w := w) (base := base) T G__law_are_pair 
  have F__law_pairs := ok__law_pairs (P := l.prog) (w := w) (base := base) T G__law_pairs cc__law_are_pair F__law_are_pair
  have F_mover_of := ok_mover_of (P := l.prog) (w := w) (base := base) T G_mover_of 
  have F_is_ahead := ok_is_ahead (P := l.prog) (w := w) (base := base) T G_is_ahead cc_mover_of F_mover_of
  have F_are_pair := ok_are_pair (P := l.prog) (w := w) (base := base) T G_are_pair cc_is_ahead F_is_ahead
  have F_all_pairs := ok_all_pairs (P := l.prog) (w := w) (base := base) T G_all_pairs cc_are_pair F_are_pair
  have F_pairs := ok_pairs (P := l.prog) (w := w) (base := base) T G_pairs cc_all_pairs F_all_pairs
  have F__law_apart := ok__law_apart (P := l.prog) (w := w) (base := base) T G__law_apart 
  have F__law_is := ok__law_is (P := l.prog) (w := w) (base := base) T G__law_is cc__law_is   30
  have F_RawHall_init := ok_RawHall_init (P := l.prog) (w := w) (base := base) T G_RawHall_init cc_Hall_keep F_Hall_keep N_RawHall_keep
  have F_turned := ok_turned (P := l.prog) (w := w) (base := base) T G_turned cc_RawHall_init F_RawHall_init M_RawHall init_RawHall ci_RawHall
  have F_joined := ok_joined (P := l.prog) (w := w) (base := base) T G_joined cc_RawHall_init F_RawHall_init M_RawHall init_RawHall ci_RawHall
  exact ok_law T cc__law_tape F__law_tape G_law cc_Hall_init F_Hall_init M_Hall init_Hall ci_Hall cc__law_apart F__law_apart cc__law_boards F__law_boards cc__law_is F__law_is cc__law_pairs F__law_pairs cc_joined F_joined cc_pairs F_pairs cc_turned F_turned
theorem walk {l : PySem.W.OpenLaw} {q : Program} {loose : List Str} {XP : (Str → Option Value) → Heap → Prop} {YP : World → Heap → Prop} {d : DefRec} {K : Params → PySem.W.Frag} (hn : l.most = some 63) (hdf : d.params.defaults = [])
    (hY : ∀ (w : World) (h : Heap), YP w h → (K w.params).In h)
    (F : ∀ (w : World) (mg : Str → Option Value) (fa : Addr) (h : Heap), (K w.params).In h → h.Ns mainGlobals mg → mg d.name = some (.ref fa) →
      ∃ fd : FuncData, (∀ (s : Shared) (u : Value), BindsTo s fd ⟨[u], []⟩ [("_law_script", u)]) ∧ ∀ base : Heap, (K w.params).In base → base.Ns mainGlobals mg → FnOk l.prog w (K w.params) mg base (L2.CX l.prog w) 31 fa fd ["_law_script"] (spLaw (K w.params))) :
    PySem.W.WalkO q loose XP YP l.row.toRowW d [] (fun f vs => PySem.call f vs) :=
  L2.walk_of (n := 63) (k := 31) (x := "_law_script") (CX := fun w => L2.CX l.prog w) (sp := fun w => spLaw (K w.params)) hn (by decide) hdf ⟨rfl, by decide, by decide⟩ hY F (fun _ _ a ns hl _ hS => ⟨a, ns, rfl, hS, hl, fun _ => rfl⟩) fun _ _ _ _ _ z => by first | exact z | (obtain ⟨_, _, _, _, _, z⟩ := z; exact z) | simpa [L2.CX] using z
end LW
open PySem PySem.W PyProof.Rows
set_option maxRecDepth 100000 in
set_option maxHeartbeats 0 in
theorem PySem.Challenge.cw_untoldgames_k21_whole_pairs_of_boards_holds : PySem.Challenge.rw_untoldgames_k21_whole_pairs_of_boards.Holds := by
  w_on; o_law; k_head; (case hw => w_witness2)
  k_fill
  refine LW.walk (l := PySem.Challenge.rw_untoldgames_k21_whole_pairs_of_boards) rfl rfl (fun w h Y => PySem.W.kIn_of Y) ?F
  case F =>
    intro w mg fa h KX G hmg
    refine' LW.all_mk KX G hmg ?aC_Hall ?aC_RawHall ?a__law_tape ?l__law_tape ?c__law_tape ?k__law_tape ?a__law_pick ?l__law_pick ?c__law_pick ?k__law_pick ?a__law_word ?l__law_word ?c__law_word ?k__law_word ?a__law_line ?l__law_line ?c__law_line ?k__law_line ?a__law_some ?l__law_some ?c__law_some ?k__law_some ?a__law_boards ?l__law_boards ?c__law_boards ?k__law_boards ?a_Hall_keep ?i_Hall_keep ?a_RawHall_Hall_keep ?l_Hall_keep ?c_Hall_keep ?k_Hall_keep ?a_is_letters ?l_is_letters ?c_is_letters ?k_is_letters ?a_is_name ?l_is_name ?c_is_name ?k_is_name ?a_is_integer ?l_is_integer ?c_is_integer ?k_is_integer ?a_is_within ?l_is_within ?c_is_within ?k_is_within ?a_is_word ?l_is_word ?c_is_word ?k_is_word ?a_is_words ?l_is_words ?c_is_words ?k_is_words ?a_is_board ?l_is_board ?c_is_board ?k_is_board ?a_Hall_init ?i_Hall_init ?l_Hall_init ?c_Hall_init ?k_Hall_init ?a__law_are_pair ?l__law_are_pair ?c__law_are_pair ?k__law_are_pair ?a__law_pairs ?l__law_pairs ?c__law_pairs ?k__law_pairs ?a_mover_of ?l_mover_of ?c_mover_of ?k_mover_of ?a_is_ahead ?l_is_ahead ?c_is_ahead ?k_is_ahead ?a_are_pair ?l_are_pair ?c_are_pair ?k_are_pair ?a_all_pairs ?l_all_pairs ?c_all_pairs ?k_all_pairs ?a_pairs ?l_pairs ?c_pairs ?k_pairs ?a__law_apart ?l__law_apart ?c__law_apart ?k__law_apart ?a__law_is ?l__law_is ?c__law_is ?k__law_is ?a_RawHall_init ?i_RawHall_init ?l_RawHall_init ?c_RawHall_init ?k_RawHall_init ?a_turned ?l_turned ?c_turned ?k_turned ?a_joined ?l_joined ?c_joined ?k_joined ?a_law ?l_law ?c_law ?k_law ?pg_Hall ?hd_Hall ?po_Hall ?sa_Hall ?mk_Hall ?kc_Hall ?n_Hall_boards ?n_Hall_names ?pg_RawHall ?hd_RawHall ?po_RawHall ?sa_RawHall ?mk_RawHall ?kc_RawHall ?n_RawHall_boards ?n_RawHall_names ?z_all ?z_any ?z_bool ?z_enumerate ?z_int ?z_isinstance ?z_len ?z_list ?z_max ?z_range ?z_sorted ?z_str ?z_tuple ?z_zip ?gv_LETTERS ?gv_MOST_BEGUN ?gv_MOST_BOARDS ?gv_MOST_LETTERS ?gv_MOST_NAME
    (case aC_Hall => k_is)
    (case aC_RawHall => k_is)
    (case a__law_tape => k_is)
    (case l__law_tape => k_is)
    (case c__law_tape => k_is)
    (case k__law_tape => k_is)
    (case a__law_pick => k_is)
    (case l__law_pick => k_is)
    (case c__law_pick => k_is)
    (case k__law_pick => k_is)
    (case a__law_word => k_is)
    (case l__law_word => k_is)
    (case c__law_word => k_is)
    (case k__law_word => k_is)
    (case a__law_line => k_is)
    (case l__law_line => k_is)
    (case c__law_line => k_is)
    (case k__law_line => k_is)
    (case a__law_some => k_is)
    (case l__law_some => k_is)
    (case c__law_some => k_is)
    (case k__law_some => k_is)
    (case a__law_boards => k_is)
    (case l__law_boards => k_is)
    (case c__law_boards => k_is)
    (case k__law_boards => k_is)
    (case a_Hall_keep => k_is)
    (case i_Hall_keep => k_is)
    (case a_RawHall_Hall_keep => k_is)
    (case l_Hall_keep => k_is)
    (case c_Hall_keep => k_is)
    (case k_Hall_keep => k_is)
    (case a_is_letters => k_is)
    (case l_is_letters => k_is)
    (case c_is_letters => k_is)
    (case k_is_letters => k_is)
    (case a_is_name => k_is)
    (case l_is_name => k_is)
    (case c_is_name => k_is)
    (case k_is_name => k_is)
    (case a_is_integer => k_is)
    (case l_is_integer => k_is)
    (case c_is_integer => k_is)
    (case k_is_integer => k_is)
    (case a_is_within => k_is)
    (case l_is_within => k_is)
    (case c_is_within => k_is)
    (case k_is_within => k_is)
    (case a_is_word => k_is)
    (case l_is_word => k_is)
    (case c_is_word => k_is)
    (case k_is_word => k_is)
    (case a_is_words => k_is)
    (case l_is_words => k_is)
    (case c_is_words => k_is)
    (case k_is_words => k_is)
    (case a_is_board => k_is)
    (case l_is_board => k_is)
    (case c_is_board => k_is)
    (case k_is_board => k_is)
    (case a_Hall_init => k_is)
    (case i_Hall_init => k_is)
    (case l_Hall_init => k_is)
    (case c_Hall_init => k_is)
    (case k_Hall_init => k_is)
    (case a__law_are_pair => k_is)
    (case l__law_are_pair => k_is)
    (case c__law_are_pair => k_is)
    (case k__law_are_pair => k_is)
    (case a__law_pairs => k_is)
    (case l__law_pairs => k_is)
    (case c__law_pairs => k_is)
    (case k__law_pairs => k_is)
    (case a_mover_of => k_is)
    (case l_mover_of => k_is)
    (case c_mover_of => k_is)
    (case k_mover_of => k_is)
    (case a_is_ahead => k_is)
    (case l_is_ahead => k_is)
    (case c_is_ahead => k_is)
    (case k_is_ahead => k_is)
    (case a_are_pair => k_is)
    (case l_are_pair => k_is)
    (case c_are_pair => k_is)
    (case k_are_pair => k_is)
    (case a_all_pairs => k_is)
    (case l_all_pairs => k_is)
    (case c_all_pairs => k_is)
    (case k_all_pairs => k_is)
    (case a_pairs => k_is)
    (case l_pairs => k_is)
    (case c_pairs => k_is)
    (case k_pairs => k_is)
    (case a__law_apart => k_is)
    (case l__law_apart => k_is)
    (case c__law_apart => k_is)
    (case k__law_apart => k_is)
    (case a__law_is => k_is)
    (case l__law_is => k_is)
    (case c__law_is => k_is)
    (case k__law_is => k_is)
    (case a_RawHall_init => k_is)
    (case i_RawHall_init => k_is)
    (case l_RawHall_init => k_is)
    (case c_RawHall_init => k_is)
    (case k_RawHall_init => k_is)
    (case a_turned => k_is)
    (case l_turned => k_is)
    (case c_turned => k_is)
    (case k_turned => k_is)
    (case a_joined => k_is)
    (case l_joined => k_is)
    (case c_joined => k_is)
    (case k_joined => k_is)
    (case a_law => k_is)
    (case l_law => k_is)
    (case c_law => k_is)
    (case k_law => k_is)
    (case pg_Hall => k_is)
    (case hd_Hall => k_is)
    (case po_Hall => k_is)
    (case sa_Hall => k_is)
    (case mk_Hall => k_is)
    (case kc_Hall => k_is)
    (case n_Hall_boards => k_is)
    (case n_Hall_names => k_is)
    (case pg_RawHall => k_is)
    (case hd_RawHall => k_is)
    (case po_RawHall => k_is)
    (case sa_RawHall => k_is)
    (case mk_RawHall => k_is)
    (case kc_RawHall => k_is)
    (case n_RawHall_boards => k_is)
    (case n_RawHall_names => k_is)
    (case z_all => k_is)
    (case z_any => k_is)
    (case z_bool => k_is)
    (case z_enumerate => k_is)
    (case z_int => k_is)
    (case z_isinstance => k_is)
    (case z_len => k_is)
    (case z_list => k_is)
    (case z_max => k_is)
    (case z_range => k_is)
    (case z_sorted => k_is)
    (case z_str => k_is)
    (case z_tuple => k_is)
    (case z_zip => k_is)
    (case gv_LETTERS => k_is)
    (case gv_MOST_BEGUN => k_is)
    (case gv_MOST_BOARDS => k_is)
    (case gv_MOST_LETTERS => k_is)
    (case gv_MOST_NAME => k_is)
