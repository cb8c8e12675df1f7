import PyProof.Rows.All
import Wide.All
import OpenK.AllK
import Wide.FinOn
import HandS.ForMost
import HandS.Walk
import HandS.More
import HandS.DictComp
import HandS.TupLen
import KE.KeyNested
import KE.KDictKeyed
import HandS.ForExc
import HandS.Flow
import HandS.CallSlots
import HandS.IsInst
import HandS.TupAny
import HandS.TupMul
import HandS.TupLe
import HandS.Style
import HandS.Conv
import HandS.Deep
import HandS.Zip
import HandS.ExcInit
import HandS.Strs
import HandS.SetKeys
import HandS.WideBits
import KE.LtData
import HandS.Wide
import KE.SortData
import KE.GoesEnum
import KE.GoesMore
import HandS.Iter
import KE.LtSeq
import KE.SortCalls
import HandS.TryMany
import HandS.Dict
import HandS.Text
import KE.KDictSum
import KE.KDictCopyH
import HandS.ExcOwn
import HandS.ExcValue
import KE.KDictDisplayH
import KE.KDictList
import HandS.ExcField
import HandS.ExcIs
import PyProof.ReprRoads
import PyProof.CallFns
import PyProof.StrBlock2
import KE.DataMinMax
import HandS.Finally
import KE.KEqNest
import HandS.Set
import HandS.SetFor
import HandS.SetBool
import PyProof.ListIndex
import HandS.ExcBuiltin
import PySem.Challenge.RW_untoldgames_k74_whole_stocks_in_great_nu
set_option Elab.async false
set_option linter.all false
set_option maxRecDepth 100000
set_option maxHeartbeats 4000000
namespace ND
open PySem PySem.Spec PyProof.Rows L2
mutual
def KAt (H : Hp) : NestedKey → V → Prop
  | .none, v => v = .non
  | .num i, v => v = .int i
  | .text x, v => v = .str x ∧ x.length ≤ sizeLine ∧ PyData.strOk x = true
  | .tup ks, v => ∃ a vs, v = .ref a ∧ H a = some (.tup vs) ∧ vs.length ≤ sizeLine ∧ KAtL H ks vs
def KAtL (H : Hp) : List NestedKey → List V → Prop
  | [], vs => vs = []
  | k :: ks, vs => ∃ v r, vs = v :: r ∧ KAt H k v ∧ KAtL H ks r
end
mutual
theorem KAt.mono {H H' : Hp} (h : ∀ b xs, H b = some (.tup xs) → H' b = some (.tup xs)) : ∀ (k : NestedKey) {v : V}, KAt H k v → KAt H' k v
  | .none, _, r => by simpa [KAt] using r
  | .num i, _, r => by simpa [KAt] using r
  | .text x, _, r => by simpa [KAt] using r
  | .tup ks, _, r => by
    simp only [KAt] at r ⊢
    obtain ⟨a, vs, e, ha, l, q⟩ := r
    exact ⟨a, vs, e, h _ _ ha, l, KAtL.mono h ks q⟩
theorem KAtL.mono {H H' : Hp} (h : ∀ b xs, H b = some (.tup xs) → H' b = some (.tup xs)) : ∀ (ks : List NestedKey) {vs : List V}, KAtL H ks vs → KAtL H' ks vs
  | [], _, r => by simpa [KAtL] using r
  | k :: ks, _, r => by
    simp only [KAtL] at r ⊢
    obtain ⟨v, t, e, a, b⟩ := r
    exact ⟨v, t, e, KAt.mono h k a, KAtL.mono h ks b⟩
end
mutual
theorem KAt.is {P : Program} {w : World} {H : Hp} {h : Heap} (ok : HOk P w H h) : ∀ (k : NestedKey) {v : V} {u : Value}, KAt H k v → RelV v u → NestedIs h k u
  | .none, _, _, r, q => by
    simp only [KAt] at r; subst r
    obtain rfl : _ = Value.none := q
    exact .none
  | .num i, _, _, r, q => by
    simp only [KAt] at r; subst r
    obtain ⟨t, rfl⟩ := (show ∃ t, _ = Value.int i t from q)
    exact .int i t
  | .text x, _, _, r, q => by
    simp only [KAt] at r; obtain ⟨rfl, _⟩ := r
    obtain ⟨t, rfl⟩ := (show ∃ t, _ = Value.str x t from q)
    exact .text x t
  | .tup ks, _, _, r, q => by
    simp only [KAt] at r
    obtain ⟨a, vs, rfl, ha, _, l⟩ := r
    obtain rfl : _ = Value.ref a := q
    obtain ⟨_, its, rv, o, h1, h2, n, h3⟩ := (show ObjOk P w H h a (.tup vs) from ok a _ ha)
    exact .tup h1 h2 h3 (by simpa using KAtL.is ok ks l rv)
theorem KAtL.is {P : Program} {w : World} {H : Hp} {h : Heap} (ok : HOk P w H h) : ∀ (ks : List NestedKey) {vs : List V} {us : List Value}, KAtL H ks vs → Vals vs us → NestedAll h ks us
  | [], _, _, r, q => by
    simp only [KAtL] at r; subst r; cases q; exact .nil
  | k :: ks, _, _, r, q => by
    simp only [KAtL] at r
    obtain ⟨v, t, rfl, a, b⟩ := r
    cases q with | cons q1 q2 => exact .cons (KAt.is ok k a q1) (KAtL.is ok ks b q2)
end
abbrev NL := List (List NestedKey × Addr × V)
def NPair : NL → List (NestedKey × Addr × Value) → Prop := Paired fun p q => .tup p.1 = q.1 ∧ p.2.1 = q.2.1 ∧ RelV p.2.2 q.2.2
def dN (P : Program) (w : World) (a : Addr) (l : NL) : HO := .ext fun h => l.length ≤ sizeLine ∧ (a == sysModules) = false ∧ ∃ xs, NPair l xs ∧
  ∃ o es ep, h.get? a = some o ∧ o.ExactDict ∧ o.data = .dict es ep ∧ es.toList = xs.map (entryOfKey (nestedKind P w)) ∧ (xs.map (·.1)).Nodup
def KsAt (H : Hp) (l : NL) : Prop := ∀ p ∈ l, KAt H (.tup p.1) (.ref p.2.1) ∧ (NestedKey.tup p.1).depth ≤ 8
theorem KsAt.mono {H H' : Hp} {l : NL} (h : ∀ b xs, H b = some (.tup xs) → H' b = some (.tup xs)) (k : KsAt H l) : KsAt H' l := fun p hp => ⟨(k p hp).1.mono h _, (k p hp).2⟩
def nkv (l : NL) : List (List NestedKey × V) := l.map fun p => (p.1, p.2.2)
theorem NPair.val {l : NL} {xs : List (NestedKey × Addr × Value)} (r : NPair l xs) (k : List NestedKey) : RelO (valV (nkv l) k) ((atKey xs (.tup k)).map (·.2)) := by
  unfold NPair at r
  induction r with
  | nil => exact True.intro
  | @cons p q ps qs h t ih =>
    obtain ⟨h1, _, h2⟩ := h
    by_cases e : p.1 = k
    · have e' : q.1 = .tup k := h1.symm.trans (by rw [e])
      have b : atKey (q :: qs) (.tup k) = some q.2 := by simp [atKey, List.find?_cons, e']
      show RelO (valV ((p.1, p.2.2) :: nkv ps) k) _
      rw [valV_pos e, b]; exact h2
    · have e' : ¬ q.1 = .tup k := fun z => e (by have := h1.trans z; injection this)
      have b : atKey (q :: qs) (.tup k) = atKey qs (.tup k) := by simp [atKey, List.find?_cons, e']
      show RelO (valV ((p.1, p.2.2) :: nkv ps) k) _
      rw [valV_neg e, b]; exact ih
def putN (l : NL) (k : List NestedKey) (b : Addr) (v : V) : NL := if l.any (fun p => decide (p.1 = k)) = true then l.map fun p => if p.1 = k then (p.1, p.2.1, v) else p else l ++ [(k, b, v)]
theorem NPair.put {l : NL} {xs : List (NestedKey × Addr × Value)} (r : NPair l xs) (k : List NestedKey) {b : Addr} {y : V} {u : Value} (ry : RelV y u) : NPair (putN l k b y) (storedH xs (.tup k) b u) := by
  have e : l.any (fun p => decide (p.1 = k)) = (atKey xs (.tup k)).isSome := by
    have h := (r.val k).isSome_eq
    rw [Option.isSome_map] at h
    rw [← h, ← valV_any]
    unfold nkv
    rw [List.any_map]; rfl
  unfold putN storedH
  rw [e]
  by_cases q : (atKey xs (.tup k)).isSome = true
  · rw [if_pos q, if_pos q]
    clear e q
    unfold NPair at *
    induction r with
    | nil => exact .nil
    | @cons p q ps qs h t ih =>
      rw [List.map_cons, List.map_cons]
      refine .cons ?_ ih
      obtain ⟨h1, h2, h3⟩ := h
      unfold putAt
      by_cases e : p.1 = k
      · rw [if_pos e, if_pos (h1.symm.trans (by rw [e]))]; exact ⟨h1, h2, ry⟩
      · rw [if_neg e, if_neg (fun z => e (by have := h1.trans z; injection this))]; exact ⟨h1, h2, h3⟩
  · rw [if_neg q, if_neg q]; exact Paired.snoc r ⟨rfl, rfl, ry⟩
theorem KsAt.put {H : Hp} {l : NL} {k : List NestedKey} {b : Addr} {v : V} (h : KsAt H l) (hk : KAt H (.tup k) (.ref b)) (hd : (NestedKey.tup k).depth ≤ 8) : KsAt H (putN l k b v) := by
  unfold putN
  split
  · intro p hp
    obtain ⟨q, hq, rfl⟩ := List.mem_map.mp hp
    have := h q hq
    split <;> exact this
  · intro p hp
    rcases List.mem_append.mp hp with hp | hp
    · exact h p hp
    · rw [List.mem_singleton.mp hp]; exact ⟨hk, hd⟩
section
variable {P : Program} {w : World} {H : Hp} {h : Heap} {a : Addr} {l : NL}
theorem dn_rd (ok : HOk P w H h) (e : Rd H a (dN P w a l)) (hk : KsAt H l) : l.length ≤ sizeLine ∧ (a == sysModules) = false ∧ ∃ xs, NPair l xs ∧ h.DictOfH (nestedKind P w) a xs := by
  obtain ⟨⟨z, y, xs, r, o, es, ep, h1, h2, h3, h4, h5⟩, _⟩ := (show ObjOk P w H h a (dN P w a l) from rd_of ok e)
  refine ⟨z, y, xs, r, o, es, ep, h1, h2, h3, h4, fun x hx => ?_, h5⟩
  have all : ∀ {l : NL} {m : List (NestedKey × Addr × Value)}, NPair l m → KsAt H l → ∀ x ∈ m, (nestedKind P w).is h x.1 x.2.1 := by
    intro l m q
    unfold NPair at q
    induction q with
    | nil => intro _ x hx; exact nomatch hx
    | @cons p q ps qs hq t ih =>
      intro ka x hx
      rcases List.mem_cons.mp hx with e | hx
      · subst e
        obtain ⟨g1, g2⟩ := ka p List.mem_cons_self
        rw [← hq.1, ← hq.2.1]
        exact ⟨g1.is ok _ rfl, g2⟩
      · exact ih (fun p hp => ka p (List.mem_cons_of_mem _ hp)) x hx
  exact all r hk x hx
theorem dn_empty (ok : HOk P w H h) (e : Rd H a (.dK [])) : (a == sysModules) = false ∧ h.DictOfH (nestedKind P w) a [] := by
  obtain ⟨_, hd, vs, r, o, es, ep, h1, h2, h3, h4, h5, h6⟩ := (show ObjOk P w H h a (.dK []) from rd_of ok e)
  cases r
  have hes : es.toList = [] := by
    have := h5.length
    exact List.length_eq_zero_iff.mp this
  exact ⟨hd, o, es, ep, h1, h2, h3, by rw [hes]; rfl, fun x hx => (List.not_mem_nil hx).elim, List.nodup_nil⟩
end
def NGet (P : Program) (w : World) (H : Hp) (a : Addr) (y : V) (r : Option V) : Prop := ∃ k, KAt H (.tup k) y ∧ (NestedKey.tup k).depth ≤ 8 ∧
  ((∃ l, Rd H a (dN P w a l) ∧ KsAt H l ∧ r = valV (nkv l) k) ∨ (Rd H a (.dK []) ∧ r = none))
section
variable {X : Cx} {pins : List (Addr × Obj)} {σ : L2.St} {H : Hp} {s : Shared} {a : Addr} {y v : V} {u r : Value} {o : Option V} {A : Around} {E : Value → Shared → Prop}
theorem NGet.at (I : Inv X pins σ H s) (g : NGet X.prog X.w H a y o) (ry : RelV y u) : ∃ b k xs, u = .ref b ∧ (nestedKind X.prog X.w).is s.heap (.tup k) b ∧ (a == sysModules) = false ∧ s.heap.DictOfH (nestedKind X.prog X.w) a xs ∧ RelO o ((atKey xs (.tup k)).map (·.2)) := by
  obtain ⟨k, hk, hd, g⟩ := g
  have hk2 := hk
  simp only [KAt] at hk2
  obtain ⟨b, vs, rfl, hb, _⟩ := hk2
  obtain rfl : u = Value.ref b := ry
  have ki : (nestedKind X.prog X.w).is s.heap (.tup k) b := ⟨hk.is I.hok _ rfl, hd⟩
  rcases g with ⟨l, rd, ka, rfl⟩ | ⟨rd, rfl⟩
  · obtain ⟨z, hs, xs, rel, dd⟩ := dn_rd I.hok rd ka
    exact ⟨b, k, xs, rfl, ki, hs, dd, rel.val k⟩
  · obtain ⟨hs, dd⟩ := dn_empty I.hok rd
    exact ⟨b, k, [], rfl, ki, hs, dd, trivial⟩
theorem NGet.type (I : Inv X pins σ H s) (g : NGet X.prog X.w H a y o) (ry : RelV y u) : s.TypeIs (.ref a) "dict" := by
  obtain ⟨b, k, xs, _, _, _, dd, _⟩ := g.at I ry
  exact dd.typeIs
theorem n_getItem {Q : Value → Shared → Prop} (hu : A.units + 9 < cLine) (I : Inv X pins σ H s) (g : NGet X.prog X.w H a y (some v)) (ry : RelV y u) (h : ∀ w' s', Inv X pins σ H s' → RelV v w' → Q w' s') :
    wpAny (model X.prog X.w) A (getItem (.ref a) u) Q E s := by
  obtain ⟨b, k, xs, rfl, ki, hs, dd, rel⟩ := g.at I ry
  obtain ⟨w', hw, rw'⟩ := RelO.some_of (v := v) (o := (atKey xs (.tup k)).map (·.2)) rel
  obtain ⟨p, hp, hp2⟩ := Option.map_eq_some_iff.mp hw
  refine wpAny_getItem_heap (by show A.in1.units + 8 < cLine; rw [Around.in1_units]; omega) ki dd hp ?_
  rw [hp2]
  exact h w' _ (I.tok _) rw'
theorem n_in {Q : Value → Shared → Prop} (hu : A.units + 9 < cLine) (I : Inv X pins σ H s) (g : NGet X.prog X.w H a y o) (ry : RelV y u) (h : ∀ s', Inv X pins σ H s' → Q (.bool o.isSome) s') :
    wpAny (model X.prog X.w) A (compareOp .In u (.ref a)) Q E s := by
  obtain ⟨b, k, xs, rfl, ki, hs, dd, rel⟩ := g.at I ry
  refine wpAny_in_heap (by show A.in1.units + 8 < cLine; rw [Around.in1_units]; omega) ki hs dd ?_
  have q := rel.isSome_eq
  rw [Option.isSome_map] at q
  rw [← q]
  exact h _ (I.tok _)
theorem n_notIn {Q : Value → Shared → Prop} (hu : A.units + 9 < cLine) (I : Inv X pins σ H s) (g : NGet X.prog X.w H a y o) (ry : RelV y u) (h : ∀ s', Inv X pins σ H s' → Q (.bool (!o.isSome)) s') :
    wpAny (model X.prog X.w) A (compareOp .NotIn u (.ref a)) Q E s := by
  obtain ⟨b, k, xs, rfl, ki, hs, dd, rel⟩ := g.at I ry
  show wpAny _ _ (do return .bool (!(← contains (.ref a) (.ref b)))) Q E s
  refine wpAny_bind (wpAny_contains_heap (by show A.in1.units + 8 < cLine; rw [Around.in1_units]; omega) ki hs dd (wpAny_pure ?_))
  have q := rel.isSome_eq
  rw [Option.isSome_map] at q
  rw [← q]
  exact h _ (I.tok _)
def NPut (P : Program) (w : World) (H : Hp) (a : Addr) (y v : V) (H' : Hp) : Prop := ∃ k b l, y = .ref b ∧ KAt H (.tup k) y ∧ (NestedKey.tup k).depth ≤ 8 ∧ l.length < sizeLine ∧
  ((H a = some (dN P w a l) ∧ KsAt H l) ∨ (H a = some (.dK []) ∧ l = [])) ∧ H' = upd H a (dN P w a (putN l k b v))
theorem NPut.at {H' : Hp} (I : Inv X pins σ H s) (g : NPut X.prog X.w H a y v H') (ry : RelV y u) : ∃ b k l xs, u = .ref b ∧ (nestedKind X.prog X.w).is s.heap (.tup k) b ∧ (a == sysModules) = false ∧ s.heap.DictOfH (nestedKind X.prog X.w) a xs ∧ NPair l xs ∧ l.length < sizeLine ∧ Mut (H a) ∧
    H' = upd H a (dN X.prog X.w a (putN l k b v)) := by
  obtain ⟨k, b, l, rfl, hk, hd, hl, g, eH⟩ := g
  obtain rfl : u = Value.ref b := ry
  have ki : (nestedKind X.prog X.w).is s.heap (.tup k) b := ⟨hk.is I.hok _ rfl, hd⟩
  rcases g with ⟨e, ka⟩ | ⟨e, rfl⟩
  · obtain ⟨z, hs, xs, rel, dd⟩ := dn_rd I.hok (.inl e) ka
    exact ⟨b, k, l, xs, rfl, ki, hs, dd, rel, hl, by rw [e]; exact True.intro, eH⟩
  · obtain ⟨hs, dd⟩ := dn_empty I.hok (.inl e)
    exact ⟨b, k, [], [], rfl, ki, hs, dd, .nil, hl, by rw [e]; exact True.intro, eH⟩
end
section
variable {X : Cx} {o i value : Expr} {td ty tv : TE} {pos pos' : Pos}
theorem len_dN : CallR X (.builtin "len") (fun xs H Q => ∃ a l, xs = [V.ref a] ∧ Rd H a (dN X.prog X.w a l) ∧ KsAt H l ∧ Q (.int (l.length : Nat)) H) := by
  intro pins s σ H xs us Q I r h
  obtain ⟨a, l, rfl, ha, ka, q⟩ := h
  obtain ⟨u, rfl, ru⟩ := vals1 r
  cases ru
  obtain ⟨z, hd, xs, rel, dd⟩ := dn_rd I.hok ha ka
  have hl := Paired.length rel
  refine PySem.call_len_dictH hd dd (by rw [← hl]; rw [sizeLine_eq] at z; omega) ?_
  rw [← hl]
  exact ⟨.int ((l.length : Nat) : Int), H, I.tok _, ⟨_, rfl⟩, q⟩
end
end ND
namespace DN
open PySem PySem.Spec PyProof.Rows L2 ND
inductive D where
  | non | bl (b : Bool) | int (i : Int) | str (x : Str)
  | tup (xs : List D) | lst (xs : List D) | dct (ks vs : List D)
  | ins (c : Str) (vs : List D) | ref (a : Addr)
structure CTab where
  tab : Str → Option (Addr × List Str)
  P : Program
  w : World
instance : CoeFun CTab (fun _ => Str → Option (Addr × List Str)) := ⟨CTab.tab⟩
def KeyOk1 : Key → Prop
  | .inl _ => True
  | .inr x => x.length ≤ sizeLine ∧ PyData.strOk x = true
abbrev GK := Sum Key (List NestedKey)
def KeyOk : GK → Prop
  | .inl k => KeyOk1 k
  | .inr _ => True
def KNd (kvs : List (GK × V)) : Prop := (kvs.map (·.1)).Nodup ∧ ∀ p ∈ kvs, KeyOk p.1
def keyD1 : Key → D
  | .inl i => .int i
  | .inr x => .str x
mutual
def keyDN : NestedKey → D
  | .none => .non
  | .num i => .int i
  | .text x => .str x
  | .tup ks => .tup (keyDNs ks)
def keyDNs : List NestedKey → List D
  | [] => []
  | k :: ks => keyDN k :: keyDNs ks
end
def keyD : GK → D
  | .inl k => keyD1 k
  | .inr ks => .tup (keyDNs ks)
def DKV (cl : CTab) (Z : Hp) (a : Addr) (o : HO) (kvs : List (GK × V)) : Prop := (∃ l : List (Key × V), o = .dK l ∧ kvs = l.map fun p => (.inl p.1, p.2)) ∨ ∃ l : NL, l ≠ [] ∧ o = dN cl.P cl.w a l ∧ kvs = l.map (fun p => (.inr p.1, p.2.2)) ∧ KsAt Z l
theorem DKV.mono {cl : CTab} {Z Z' : Hp} {a : Addr} {o : HO} {kvs : List (GK × V)} (h : ∀ b xs, Z b = some (.tup xs) → Z' b = some (.tup xs)) (d : DKV cl Z a o kvs) : DKV cl Z' a o kvs := by
  rcases d with d | ⟨l, h1, h2, h3, h4⟩
  · exact .inl d
  · exact .inr ⟨l, h1, h2, h3, h4.mono h⟩
structure Zp where
  h : Hp
  μ : Nat → Option Addr
instance : CoeFun Zp (fun _ => Addr → Option HO) := ⟨Zp.h⟩
instance : Coe Zp Hp := ⟨Zp.h⟩
def upz (Z : Zp) (p : Addr) (o : HO) : Zp := ⟨upd Z.h p o, Z.μ⟩
theorem upz_same {Z : Zp} {a : Addr} {o : HO} : upz Z a o a = some o := upd_same
theorem upz_ne {Z : Zp} {a b : Addr} {o : HO} (h : b ≠ a) : upz Z a o b = Z b := upd_ne h
abbrev RdN (H : Hp) (a : Addr) (o : HO) (_ : List (GK × V)) : Prop := Rd H a o
theorem RdN.rd {H : Hp} {a : Addr} {o : HO} {kvs : List (GK × V)} (h : RdN H a o kvs) : Rd H a o := h
def SqR (K : PySem.W.Frag) (H : Hp) (a : Addr) (xs : List V) : Prop :=
  Rd H a (.lst xs) ∨ ∃ (its : Array Value) (n : Nat), K.lookup a = some { cls := .type "list", data := .seq its n } ∧ its.size ≤ sizeLine ∧ Vals xs its.toList
theorem SqR.of {K : PySem.W.Frag} {H : Hp} {a : Addr} {xs : List V} (h : H a = some (.lst xs)) : SqR K H a xs := .inl (.inl h)
theorem SqR.l {K : PySem.W.Frag} {H : Hp} {a : Addr} {xs : List V} (h : SqR K H a xs) : SqL K H a xs := by
  rcases h with h | ⟨its, n, h1, h2, h3⟩
  · exact .inl h
  · exact .inr ⟨_, its, n, h1, rfl, rfl, rfl, h2, h3⟩
mutual
inductive Rep (K : PySem.W.Frag) (cl : CTab) (Z : Zp) : V → D → Prop
  | non : Rep K cl Z .non .non
  | bl (b : Bool) : Rep K cl Z (.bl b) (.bl b)
  | int (i : Int) : Rep K cl Z (.int i) (.int i)
  | str {x : Str} : x.length ≤ sizeLine → PyData.strOk x = true → Rep K cl Z (.str x) (.str x)
  | tup {a : Addr} {vs : List V} {ds : List D} : Z a = some (.tup vs) → vs.length ≤ sizeLine → RepL K cl Z vs ds → Rep K cl Z (.ref a) (.tup ds)
  | slst {a : Addr} {vs : List V} {ds : List D} : SqR K Z.h a vs → vs.length ≤ sizeLine → RepL K cl Z vs ds → Rep K cl Z (.ref a) (.lst ds)
  | dct {a : Addr} {o : HO} {kvs : List (GK × V)} {ks ds : List D} : RdN Z.h a o kvs → DKV cl Z.h a o kvs → ks = kvs.map (fun p => keyD p.1) → KNd kvs → RepL K cl Z (kvs.map (·.2)) ds → Rep K cl Z (.ref a) (.dct ks ds)
  | ins {a C dx : Addr} {fs : List (Str × V)} {c : Str} {ds : List D} : cl c = some (C, fs.map (·.1)) → Z a = some (.ins C dx fs) → RepL K cl Z (fs.map (·.2)) ds → Rep K cl Z (.ref a) (.ins c ds)
  | ref {n : Nat} {a : Addr} : Z.μ n = some a → Rep K cl Z (.ref a) (.ref n)
inductive RepL (K : PySem.W.Frag) (cl : CTab) (Z : Zp) : List V → List D → Prop
  | nil : RepL K cl Z [] []
  | cons {v : V} {vs : List V} {d : D} {ds : List D} : Rep K cl Z v d → RepL K cl Z vs ds → RepL K cl Z (v :: vs) (d :: ds)
end
def Sub (Z Z' : Hp) : Prop := ∀ a o, Z a = some o → Z' a = some o
theorem Sub.refl (Z : Hp) : Sub Z Z := fun _ _ h => h
theorem Sub.trans {A B C : Hp} (a : Sub A B) (b : Sub B C) : Sub A C := fun x o h => b x o (a x o h)
theorem SqR.sub {K : PySem.W.Frag} {H H' : Hp} {a : Addr} {xs : List V} (s : Sub H H') (h : SqR K H a xs) : SqR K H' a xs := by
  rcases h with (h | ⟨o, h⟩) | h
  · exact .inl (.inl (s _ _ h))
  · exact .inl (.inr ⟨o, s _ _ h⟩)
  · exact .inr h
theorem SqR.at {K : PySem.W.Frag} {H H' : Hp} {a : Addr} {xs : List V} (s : ∀ o, (o = .lst xs ∨ ∃ q, o = .frz q (.lst xs)) → H a = some o → H' a = some o) (h : SqR K H a xs) : SqR K H' a xs := by
  rcases h with (h | ⟨o, h⟩) | h
  · exact .inl (.inl (s _ (.inl rfl) h))
  · exact .inl (.inr ⟨o, s _ (.inr ⟨o, rfl⟩) h⟩)
  · exact .inr h
theorem SqL.sub {K : PySem.W.Frag} {H H' : Hp} {a : Addr} {xs : List V} (s : Sub H H') (h : SqR K H a xs) : SqL K H' a xs := (h.sub s).l
theorem Rep.lst {K : PySem.W.Frag} {cl : CTab} {Z : Zp} {a : Addr} {vs : List V} {ds : List D} (h : Z a = some (.lst vs)) (hl : vs.length ≤ sizeLine) (r : RepL K cl Z vs ds) : Rep K cl Z (.ref a) (.lst ds) := .slst (.of h) hl r
theorem Sub.upd {Z : Hp} {p : Addr} {o : HO} (h : Z p = none) : Sub Z (upd Z p o) := fun a u e => by
  rw [upd_ne (ne_of_none e h)]; exact e
structure SubZ (Z Z' : Zp) : Prop where
  h : Sub Z.h Z'.h
  m : ∀ n a, Z.μ n = some a → Z'.μ n = some a
instance {Z Z' : Zp} : CoeFun (SubZ Z Z') (fun _ => ∀ a o, Z.h a = some o → Z'.h a = some o) := ⟨fun q => q.h⟩
theorem SubZ.refl (Z : Zp) : SubZ Z Z := ⟨.refl _, fun _ _ h => h⟩
theorem SubZ.trans {A B C : Zp} (a : SubZ A B) (b : SubZ B C) : SubZ A C := ⟨a.h.trans b.h, fun n x h => b.m n x (a.m n x h)⟩
theorem SubZ.upd {Z : Zp} {p : Addr} {o : HO} (h : Z p = none) : SubZ Z (upz Z p o) := ⟨Sub.upd h, fun _ _ h => h⟩
theorem SubZ.to {Z Z' : Zp} {H : Hp} (a : SubZ Z Z') (b : Sub Z'.h H) : Sub Z.h H := a.h.trans b
def immO : HO → Bool
  | .tup _ => true
  | .ins _ _ _ => true
  | .own _ => true
  | .xd _ => true
  | .met _ _ => true
  | .rng _ _ => true
  | .tbl _ => true
  | .frz _ u => immO u
  | _ => false
structure SubI (Z Z' : Zp) : Prop where
  h : ∀ a o, immO o = true → Z.h a = some o → Z'.h a = some o
  m : Z'.μ = Z.μ
theorem SubZ.imm {Z Z' : Zp} (h : SubZ Z Z') (m : Z'.μ = Z.μ) : SubI Z Z' := ⟨fun a o _ e => h.h a o e, m⟩
theorem SubI.refl (Z : Zp) : SubI Z Z := ⟨fun _ _ _ e => e, rfl⟩
theorem SubI.trans {A B C : Zp} (a : SubI A B) (b : SubI B C) : SubI A C := ⟨fun x o i h => b.h x o i (a.h x o i h), b.m.trans a.m⟩
mutual
def D.imm : D → Bool
  | .tup xs => D.immL xs
  | .lst _ => false
  | .dct _ _ => false
  | .ins _ xs => D.immL xs
  | _ => true
def D.immL : List D → Bool
  | [] => true
  | d :: ds => d.imm && D.immL ds
end
section
variable {K : PySem.W.Frag} {cl : CTab} {Z Z' : Zp}
theorem sub_rd {Z Z' : Hp} (h : Sub Z Z') {a : Addr} {u : HO} (r : Rd Z a u) : Rd Z' a u := by
  rcases r with r | ⟨o, r⟩
  · exact .inl (h _ _ r)
  · exact .inr ⟨o, h _ _ r⟩
theorem sub_rdn {Z Z' : Hp} (h : Sub Z Z') {a : Addr} {u : HO} {kvs : List (GK × V)} (r : RdN Z a u kvs) : RdN Z' a u kvs := sub_rd h r
theorem sq_t {H : Hp} {a : Addr} {xs : List V} (r : H a = some (.tup xs)) : SqT K H a xs := .inl (.inl r)
mutual
theorem Rep.mono (h : SubZ Z Z') : ∀ (d : D) {v : V}, Rep K cl Z v d → Rep K cl Z' v d
  | .non, _, r => by cases r; exact .non
  | .bl b, _, r => by cases r; exact .bl b
  | .int i, _, r => by cases r; exact .int i
  | .str x, _, r => by cases r with | str e f => exact .str e f
  | .tup ds, _, r => by cases r with | tup a e b => exact .tup (h.h _ _ a) e (RepL.mono h ds b)
  | .lst ds, _, r => by cases r with | slst a e b => exact .slst (a.sub h.h) e (RepL.mono h ds b)
  | .dct ks ds, _, r => by cases r with | dct a o e n b => exact .dct (sub_rdn h.h a) (o.mono fun _ _ q => h.h _ _ q) e n (RepL.mono h ds b)
  | .ins c ds, _, r => by cases r with | ins e a b => exact .ins e (h.h _ _ a) (RepL.mono h ds b)
  | .ref a, _, r => by cases r with | ref e => exact .ref (h.m _ _ e)
theorem RepL.mono (h : SubZ Z Z') : ∀ (ds : List D) {vs : List V}, RepL K cl Z vs ds → RepL K cl Z' vs ds
  | [], _, r => by cases r; exact .nil
  | d :: ds, _, r => by cases r with | cons a b => exact .cons (Rep.mono h d a) (RepL.mono h ds b)
end
mutual
theorem Rep.monoI (h : SubI Z Z') : ∀ (d : D) {v : V}, d.imm = true → Rep K cl Z v d → Rep K cl Z' v d
  | .non, _, _, r => by cases r; exact .non
  | .bl b, _, _, r => by cases r; exact .bl b
  | .int i, _, _, r => by cases r; exact .int i
  | .str x, _, _, r => by cases r with | str e f => exact .str e f
  | .tup ds, _, i, r => by cases r with | tup a e b => exact .tup (h.h _ _ rfl a) e (RepL.monoI h ds (by simpa [D.imm] using i) b)
  | .lst ds, _, i, r => by simp [D.imm] at i
  | .dct ks ds, _, i, r => by simp [D.imm] at i
  | .ins c ds, _, i, r => by cases r with | ins e a b => exact .ins e (h.h _ _ rfl a) (RepL.monoI h ds (by simpa [D.imm] using i) b)
  | .ref a, _, _, r => by cases r with | ref e => exact .ref (by rw [h.m]; exact e)
theorem RepL.monoI (h : SubI Z Z') : ∀ (ds : List D) {vs : List V}, D.immL ds = true → RepL K cl Z vs ds → RepL K cl Z' vs ds
  | [], _, _, r => by cases r; exact .nil
  | d :: ds, _, i, r => by
    cases r with
    | cons a b =>
      have i2 : d.imm = true ∧ D.immL ds = true := by simpa [D.immL] using i
      exact .cons (Rep.monoI h d i2.1 a) (RepL.monoI h ds i2.2 b)
end
theorem RepL.len : ∀ {ds : List D} {vs : List V}, RepL K cl Z vs ds → vs.length = ds.length
  | [], _, r => by cases r; rfl
  | d :: ds, _, r => by cases r with | cons a b => simp [RepL.len b]
theorem RepL.get : ∀ {ds : List D} {vs : List V} {i : Nat} {d : D}, RepL K cl Z vs ds → ds[i]? = some d → ∃ v, vs[i]? = some v ∧ Rep K cl Z v d
  | [], _, _, _, r, e => by simp at e
  | d :: ds, _, 0, _, r, e => by
    cases r with | cons a b => simp at e; subst e; exact ⟨_, rfl, a⟩
  | d :: ds, _, i + 1, _, r, e => by
    cases r with | cons a b =>
      obtain ⟨v, h1, h2⟩ := RepL.get (i := i) b (by simpa using e)
      exact ⟨v, by simpa using h1, h2⟩
theorem RepL.getV : ∀ {ds : List D} {vs : List V} {i : Nat} {v : V}, RepL K cl Z vs ds → vs[i]? = some v → ∃ d, ds[i]? = some d ∧ Rep K cl Z v d
  | [], _, _, _, r, e => by cases r; simp at e
  | d :: ds, _, 0, _, r, e => by
    cases r with | cons a b => simp at e; subst e; exact ⟨_, rfl, a⟩
  | d :: ds, _, i + 1, _, r, e => by
    cases r with | cons a b =>
      obtain ⟨v, h1, h2⟩ := RepL.getV (i := i) b (by simpa using e)
      exact ⟨v, by simpa using h1, h2⟩
theorem RepL.append : ∀ {ds es : List D} {vs ws : List V}, RepL K cl Z vs ds → RepL K cl Z ws es → RepL K cl Z (vs ++ ws) (ds ++ es)
  | [], _, _, _, r, s => by cases r; exact s
  | d :: ds, _, _, _, r, s => by cases r with | cons a b => exact .cons a (RepL.append b s)
theorem RepL.take : ∀ {ds : List D} {vs : List V} (n : Nat), RepL K cl Z vs ds → RepL K cl Z (vs.take n) (ds.take n)
  | [], _, n, r => by cases r; simp; exact .nil
  | d :: ds, _, 0, r => by simp; exact .nil
  | d :: ds, _, n + 1, r => by cases r with | cons a b => simp; exact .cons a (RepL.take n b)
theorem RepL.drop : ∀ {ds : List D} {vs : List V} (n : Nat), RepL K cl Z vs ds → RepL K cl Z (vs.drop n) (ds.drop n)
  | [], _, n, r => by cases r; simp; exact .nil
  | d :: ds, _, 0, r => by simpa using r
  | d :: ds, _, n + 1, r => by cases r with | cons a b => simp; exact RepL.drop n b
theorem RepL.reverse : ∀ {ds : List D} {vs : List V}, RepL K cl Z vs ds → RepL K cl Z vs.reverse ds.reverse
  | [], _, r => by cases r; exact .nil
  | d :: ds, _, r => by cases r with | cons a b => simp; exact (RepL.reverse b).append (.cons a .nil)
theorem RepL.set {v : V} {d : D} (h : Rep K cl Z v d) : ∀ {ds : List D} {vs : List V} (n : Nat), RepL K cl Z vs ds → RepL K cl Z (vs.set n v) (ds.set n d)
  | [], _, n, r => by cases r; simp; exact .nil
  | _ :: ds, _, 0, r => by cases r with | cons a b => exact .cons h b
  | _ :: ds, _, n + 1, r => by cases r with | cons a b => exact .cons a (RepL.set h n b)
end
structure Exn where
  c : Str
  f : Option D
inductive Res (T : Type) (α : Type) where
  | ok (a : α) (s : T) | err (x : Exn) (s : T) | stuck
structure Sto where
  T : Type
  R : T → Zp → Hp → Prop
  mono : ∀ {s : T} {Z Z' : Zp} {C : Hp}, R s Z C → SubI Z Z' → R s Z' C
abbrev M (B : Sto) (α : Type) := B.T → Res B.T α
variable {B : Sto}
@[inline] def M.bind {α β : Type} (m : M B α) (k : α → M B β) : M B β := fun s => match m s with
  | .ok a s' => k a s'
  | .err x s' => .err x s'
  | .stuck => .stuck
@[inline] def M.pure {α : Type} (a : α) : M B α := fun s => .ok a s
instance : Monad (M B) where
  pure := M.pure
  bind := M.bind
def lift {α : Type} : Option α → M B α
  | some a => M.pure a
  | none => fun _ => .stuck
def guardM {α : Type} (b : Bool) (m : M B α) : M B α := if b = true then m else fun _ => .stuck
structure Wd (B : Sto) (md : Bool) (Z : Zp) (C H : Hp) (s : B.T) : Prop where
  zh : Sub Z.h H
  ch : Sub C H
  dj : ∀ a, C a ≠ none → Z.h a = none
  sr : B.R s Z C
structure Nx (Z : Zp) (C H : Hp) (Z' : Zp) (C' H' : Hp) : Prop where
  zz : SubZ Z Z'
  hh : ∀ a o, H a = some o → C a = none → H' a = some o
  zf : ∀ a, Z'.h a ≠ none → Z.h a ≠ none ∨ H a = none
  cf : ∀ a, C' a ≠ none → C a ≠ none ∨ H a = none
  cp : ∀ a, C a ≠ none → C' a ≠ none
  lk : ∀ a od u, C a = some (.frz od u) → C' a = some (.frz od u)
theorem Nx.refl (Z : Zp) (C H : Hp) : Nx Z C H Z C H := ⟨.refl _, fun _ _ h _ => h, fun _ h => .inl h, fun _ h => .inl h, fun _ h => h, fun _ _ _ h => h⟩
theorem ne_some {α : Type} {x : Option α} (h : x ≠ none) : ∃ o, x = some o := by
  cases x with
  | none => exact absurd rfl h
  | some o => exact ⟨o, rfl⟩
theorem some_ne {α : Type} {x : Option α} {o : α} (h : x = some o) : x ≠ none := by rw [h]; exact fun z => nomatch z
theorem Nx.trans {Z Z1 Z2 : Zp} {C H C1 H1 C2 H2 : Hp} (a : Nx Z C H Z1 C1 H1) (w0 : Sub C H) (w1 : Sub C1 H1) (b : Nx Z1 C1 H1 Z2 C2 H2) : Nx Z C H Z2 C2 H2 := by
  have back : ∀ x, H1 x = none → H x = none := fun x e => by
    cases q : H x with
    | none => rfl
    | some o =>
      cases c : C x with
      | none => rw [a.hh x o q c] at e; cases e
      | some u =>
        obtain ⟨u1, e1⟩ := ne_some (a.cp x (some_ne c))
        rw [w1 x u1 e1] at e; cases e
  refine ⟨a.zz.trans b.zz, fun x o e c => ?_, fun x e => ?_, fun x e => ?_, fun x e => b.cp x (a.cp x e), fun x od u e => b.lk x od u (a.lk x od u e)⟩
  · refine b.hh x o (a.hh x o e c) ?_
    cases q : C1 x with
    | none => rfl
    | some u =>
      rcases a.cf x (some_ne q) with z | z
      · exact absurd c z
      · rw [e] at z; cases z
  · rcases b.zf x e with z | z
    · exact a.zf x z
    · exact .inr (back x z)
  · rcases b.cf x e with z | z
    · exact a.cf x z
    · exact .inr (back x z)
end DN
namespace DN
open PySem PySem.Spec PyProof.Rows L2
variable {B : Sto}
abbrev Env := List (Option D)
structure EnvR (K : PySem.W.Frag) (cl : CTab) (Z : Zp) (ρ : Env) (σ : L2.St) : Prop where
  len : ρ.length = σ.length
  get : ∀ (i : Nat) (d : D), ρ[i]? = some (some d) → ∃ v, σ[i]? = some (some v) ∧ Rep K cl Z v d
theorem EnvR.mono {K : PySem.W.Frag} {cl : CTab} {Z Z' : Zp} {ρ : Env} {σ : L2.St} (h : SubZ Z Z') (e : EnvR K cl Z ρ σ) : EnvR K cl Z' ρ σ := ⟨e.len, fun i d q =>
  let ⟨v, a, b⟩ := e.get i d q
  ⟨v, a, b.mono h d⟩⟩
def ExR (K : PySem.W.Frag) (cl : CTab) (Z : Zp) (Cc : Hp) (x : Exn) (c : Value) (dx : Option Addr) (H : Hp) : Prop :=
  ∃ C fs, cl x.c = some (C, fs) ∧ c = .ref C ∧ match x.f with
    | none => dx = none ∧ fs = []
    | some d => ∃ f v a, fs = [f] ∧ dx = some a ∧ H a = some (.xd [(f, v)]) ∧ Cc a = none ∧ d.imm = true ∧ Rep K cl Z v d
section
variable {υ α β : Type}
def Post (K : PySem.W.Frag) (cl : CTab) (md : Bool) (Rp : Zp → υ → α → Prop) (W : WX) (σ : L2.St) (Z : Zp) (C H : Hp) (r : Res B.T α) (Q : υ → Hp → Prop) : Prop :=
  match r with
  | .ok a s => ∀ v Z' C' H', Wd B md Z' C' H' s → Nx Z C H Z' C' H' → Rp Z' v a → Q v H'
  | .err x s => ∀ c dx Z' C' H', Wd B md Z' C' H' s → Nx Z C H Z' C' H' → ExR K cl Z' C' x c dx H' → W c dx σ H'
  | .stuck => False
def tG (K : PySem.W.Frag) (cl : CTab) (B : Sto) (md : Bool) (Rp : Zp → υ → α → Prop) (W : WX) (f : Env → M B α) : L2.St → Hp → (υ → Hp → Prop) → Prop := fun σ H Q =>
  ∃ Z C s ρ, Wd B md Z C H s ∧ EnvR K cl Z ρ σ ∧ Post K cl md Rp W σ Z C H (f ρ s) Q
variable {K : PySem.W.Frag} {cl : CTab} {md : Bool} {Rp : Zp → υ → α → Prop} {W : WX} {σ : L2.St} {Z Z1 : Zp} {C H C1 H1 : Hp}
theorem Post.step {r : Res B.T α} {Q : υ → Hp → Prop} (n : Nx Z C H Z1 C1 H1) (c0 : Sub C H) (c1 : Sub C1 H1) (h : Post K cl md Rp W σ Z C H r Q) : Post K cl md Rp W σ Z1 C1 H1 r Q := by
  cases r with
  | ok a s => exact fun v Z' C' H' w m => h v Z' C' H' w (n.trans c0 c1 m)
  | err x s => exact fun c dx Z' C' H' w m => h c dx Z' C' H' w (n.trans c0 c1 m)
  | stuck => exact h
theorem Post.seq {υ2 β : Type} {Rq : Zp → υ2 → β → Prop} {m : M B α} {k : α → M B β} {s : B.T} {Q : υ2 → Hp → Prop} {Q1 : υ → Hp → Prop} (c0 : Sub C H) (h : Post K cl md Rq W σ Z C H (M.bind m k s) Q)
    (hk : ∀ a s1 v Z1 C1 H1, Wd B md Z1 C1 H1 s1 → Nx Z C H Z1 C1 H1 → Rp Z1 v a → Post K cl md Rq W σ Z1 C1 H1 (k a s1) Q → Q1 v H1) : Post K cl md Rp W σ Z C H (m s) Q1 := by
  unfold M.bind at h
  cases e : m s with
  | ok a s1 =>
    rw [e] at h
    exact fun v Z1 C1 H1 w n r => hk a s1 v Z1 C1 H1 w n r (Post.step n c0 w.ch h)
  | err x s1 =>
    rw [e] at h
    exact h
  | stuck =>
    rw [e] at h
    exact h
theorem Post.imp {r : Res B.T α} {Q Q' : υ → Hp → Prop} (h : Post K cl md Rp W σ Z C H r Q) (q : ∀ v H', Q v H' → Q' v H') : Post K cl md Rp W σ Z C H r Q' := by
  cases r with
  | ok a s => exact fun v Z' C' H' w m p => q _ _ (h v Z' C' H' w m p)
  | err x s => exact h
  | stuck => exact h
end
theorem PE.weak {X : Cx} {e : Expr} {t t' : TE} (h : PE X e t) (w : ∀ σ H Q, t' σ H Q → t σ H Q) : PE X e t' := ⟨fun pins s σ H Q I q => h.run pins s σ H Q I (w σ H Q q)⟩
theorem PT.weak {X : Cx} {e : Expr} {t t' : TT} (h : PT X e t) (w : ∀ σ H Q, t' σ H Q → t σ H Q) : PT X e t' := ⟨fun pins s σ H Q I q => h.run pins s σ H Q I (w σ H Q q)⟩
theorem PA.weak {X : Cx} {e : List Expr} {t t' : TA} (h : PA X e t) (w : ∀ σ H Q, t' σ H Q → t σ H Q) : PA X e t' := ⟨fun p pins s σ H Q I q => h.run p pins s σ H Q I (w σ H Q q)⟩
theorem PO.weak {X : Cx} {e : Option Expr} {t t' : TO} (h : PO X e t) (w : ∀ σ H Q, t' σ H Q → t σ H Q) : PO X e t' := ⟨fun pins s σ H Q I q => h.run pins s σ H Q I (w σ H Q q)⟩
abbrev RpD (K : PySem.W.Frag) (cl : CTab) : Zp → V → D → Prop := fun Z v d => Rep K cl Z v d
abbrev RpA (K : PySem.W.Frag) (cl : CTab) (n : Nat) : Zp → List V → List D → Prop := fun Z v d => RepL K cl Z v d ∧ d.length = n
abbrev RpE {α : Type} : Zp → α → α → Prop := fun _ v d => v = d
section
variable (cl : CTab) (B : Sto) (md : Bool) (W : WX) (X : Cx)
def DE (e : Expr) (f : Env → M B D) : Prop := PE X e (tG X.K cl B md (RpD X.K cl) W f)
def DA (es : List Expr) (f : Env → M B (List D)) : Prop := PA X es (tG X.K cl B md (RpA X.K cl es.length) W f)
def DT (e : Expr) (f : Env → M B Bool) : Prop := PT X e (tG X.K cl B md RpE W f)
def DO (e : Option Expr) (f : Env → M B (Option Int)) : Prop := PO X e (tG X.K cl B md RpE W f)
end
structure Al (Z : Zp) (H : Hp) (Z' : Zp) (H' : Hp) : Prop where
  zz : SubZ Z Z'
  hh : Sub H H'
  zh : Sub Z'.h H'
  zf : ∀ a, Z'.h a ≠ none → Z.h a ≠ none ∨ H a = none
  zm : Z'.μ = Z.μ
section
variable {Z Z' Z2 : Zp} {C H H' H2 : Hp} {md : Bool} {s : B.T}
theorem Al.refl (h : Sub Z.h H) : Al Z H Z H := ⟨.refl _, .refl _, h, fun _ e => .inl e, rfl⟩
theorem Al.wd (w : Wd B md Z C H s) (a : Al Z H Z' H') : Wd B md Z' C H' s := by
  refine ⟨a.zh, w.ch.trans a.hh, fun x e => ?_, B.mono w.sr (a.zz.imm a.zm)⟩
  cases q : Z'.h x with
  | none => rfl
  | some o =>
    rcases a.zf x (some_ne q) with z | z
    · exact absurd (w.dj x e) z
    · obtain ⟨u, hu⟩ := ne_some e
      rw [w.ch x u hu] at z; cases z
theorem Al.nx (a : Al Z H Z' H') : Nx Z C H Z' C H' := ⟨a.zz, fun x o e _ => a.hh x o e, a.zf, fun _ e => .inl e, fun _ e => e, fun _ _ _ e => e⟩
theorem Al.trans (a : Al Z H Z' H') (b : Al Z' H' Z2 H2) : Al Z H Z2 H2 := by
  refine ⟨a.zz.trans b.zz, a.hh.trans b.hh, b.zh, fun x e => ?_, b.zm.trans a.zm⟩
  rcases b.zf x e with z | z
  · exact a.zf x z
  · refine .inr ?_
    cases q : H x with
    | none => rfl
    | some o => rw [a.hh x o q] at z; cases z
theorem none_of_sub {Z H : Hp} {p : Addr} (h : Sub Z H) (e : H p = none) : Z p = none := by
  cases q : Z p with
  | none => rfl
  | some o => rw [h p o q] at e; cases e
theorem Al.new {p : Addr} {o : HO} (h : Sub Z.h H) (e : H p = none) (nd : ∀ kvs, o ≠ .dK kvs) : Al Z H (upz Z p o) (upd H p o) := by
  have zp := none_of_sub h e
  refine ⟨SubZ.upd zp, Sub.upd e, fun x u q => ?_, fun x q => ?_, rfl⟩
  · by_cases hx : x = p
    · subst hx; rw [show (upz Z x o).h x = some o from upd_same] at q; rw [upd_same]; exact q
    · rw [show (upz Z p o).h x = Z.h x from upd_ne hx] at q; rw [upd_ne hx]; exact h x u q
  · by_cases hx : x = p
    · subst hx; exact .inr e
    · rw [show (upz Z p o).h x = Z.h x from upd_ne hx] at q; exact .inl q
end
section
variable (K : PySem.W.Frag) (cl : CTab)
def OpV (r : R2) (g : D → D → Option D) : Prop := ∀ (Z : Zp) (H : Hp) (x y : V) (dx dy d : D) (Q : VK), Sub Z H → Rep K cl Z x dx → Rep K cl Z y dy → g dx dy = some d →
  (∀ v Z' H', Al Z H Z' H' → Rep K cl Z' v d → Q v H') → r x y H Q
def UnV (r : V → Hp → VK → Prop) (g : D → Option D) : Prop := ∀ (Z : Zp) (H : Hp) (x : V) (dx d : D) (Q : VK), Sub Z H → Rep K cl Z x dx → g dx = some d →
  (∀ v Z' H', Al Z H Z' H' → Rep K cl Z' v d → Q v H') → r x H Q
def CallV (r : List V → Hp → VK → Prop) (g : List D → Option D) : Prop := ∀ (Z : Zp) (H : Hp) (xs : List V) (dxs : List D) (d : D) (Q : VK), Sub Z H → RepL K cl Z xs dxs → g dxs = some d →
  (∀ v Z' H', Al Z H Z' H' → Rep K cl Z' v d → Q v H') → r xs H Q
end
section
variable {K : PySem.W.Frag} {cl : CTab} {md : Bool} {W : WX} {X : Cx}
theorem post_lift {σ : L2.St} {Z : Zp} {C H : Hp} {o : Option D} {s : B.T} {Q : VK} (w : Wd B md Z C H s) (h : Post K cl md (RpD K cl) W σ Z C H (lift (B := B) o s) Q) :
    ∃ d, o = some d ∧ ∀ v Z' H', Al Z H Z' H' → Rep K cl Z' v d → Q v H' := by
  cases o with
  | none => exact False.elim h
  | some d => exact ⟨d, rfl, fun v Z' H' a r => h v Z' C H' (a.wd w) a.nx r⟩
theorem de_op {op : Operator} {r : R2} {g : D → D → Option D} {a b : Expr} {f1 f2 : Env → M B D} {pos : Pos} (ho : OpR X (binaryOp op) r) (hr : OpV X.K cl r g) (ha : DE cl B md W X a f1) (hb : DE cl B md W X b f2) :
    DE cl B md W X (.BinOp a op b pos) fun ρ => M.bind (f1 ρ) fun x => M.bind (f2 ρ) fun y => lift (g x y) := by
  refine PE.weak (pe_op ho ha hb) fun σ H Q ⟨Z, C, s, ρ, w, e, p⟩ => ?_
  refine ⟨Z, C, s, ρ, w, e, Post.seq w.ch p fun dx s1 x Z1 C1 H1 w1 n1 r1 p1 => ?_⟩
  refine ⟨Z1, C1, s1, ρ, w1, e.mono n1.zz, Post.seq w1.ch p1 fun dy s2 y Z2 C2 H2 w2 n2 r2 p2 => ?_⟩
  obtain ⟨d, hd, q⟩ := post_lift w2 p2
  exact hr Z2 H2 x y dx dy d Q w2.zh (r1.mono n2.zz) r2 hd q
theorem de_cmp {op : CmpOp} {r : R2} {g : D → D → Option D} {a b : Expr} {f1 f2 : Env → M B D} {pos : Pos} (ho : OpR X (compareOp op) r) (hr : OpV X.K cl r g) (hm : behindInMarks op b = false) (ha : DE cl B md W X a f1) (hb : DE cl B md W X b f2) :
    DE cl B md W X (.Compare a [op] [b] pos) fun ρ => M.bind (f1 ρ) fun x => M.bind (f2 ρ) fun y => lift (g x y) := by
  refine PE.weak (pe_cmpR ho ha hb hm) fun σ H Q ⟨Z, C, s, ρ, w, e, p⟩ => ?_
  refine ⟨Z, C, s, ρ, w, e, Post.seq w.ch p fun dx s1 x Z1 C1 H1 w1 n1 r1 p1 => ?_⟩
  refine ⟨Z1, C1, s1, ρ, w1, e.mono n1.zz, Post.seq w1.ch p1 fun dy s2 y Z2 C2 H2 w2 n2 r2 p2 => ?_⟩
  obtain ⟨d, hd, q⟩ := post_lift w2 p2
  exact hr Z2 H2 x y dx dy d Q w2.zh (r1.mono n2.zz) r2 hd q
theorem de_un {op : UnaryOp} {r : V → Hp → VK → Prop} {g : D → Option D} {a : Expr} {f1 : Env → M B D} {pos : Pos} (ho : UnR X (unaryOp op) r) (hr : UnV X.K cl r g) (ha : DE cl B md W X a f1) :
    DE cl B md W X (.UnaryOp op a pos) fun ρ => M.bind (f1 ρ) fun x => lift (g x) := by
  refine PE.weak (pe_un ho ha) fun σ H Q ⟨Z, C, s, ρ, w, e, p⟩ => ?_
  refine ⟨Z, C, s, ρ, w, e, Post.seq w.ch p fun dx s1 x Z1 C1 H1 w1 n1 r1 p1 => ?_⟩
  obtain ⟨d, hd, q⟩ := post_lift w1 p1
  exact hr Z1 H1 x dx d Q w1.zh r1 hd q
def eVar (i : Nat) : Env → M B D := fun ρ => lift ((ρ[i]?).bind id)
theorem post_pure {σ : L2.St} {Z : Zp} {C H : Hp} {d : D} {s : B.T} {Q : VK} {v : V} (w : Wd B md Z C H s) (h : Post K cl md (RpD K cl) W σ Z C H ((M.pure d : M B D) s) Q) (r : Rep K cl Z v d) : Q v H := h v Z C H w (.refl ..) r
theorem de_var {i : Nat} {x : Str} {pos : Pos} (h : PE X (.Name x pos) (tVar i)) : DE cl B md W X (.Name x pos) (eVar i) := by
  refine PE.weak h fun σ H Q ⟨Z, C, s, ρ, w, e, p⟩ => ?_
  obtain ⟨d, hd, q⟩ := post_lift w p
  obtain ⟨v, h1, h2⟩ := e.get i d (by
    cases q : ρ[i]? with
    | none => rw [q] at hd; cases hd
    | some o =>
      rw [q] at hd
      have : o = some d := hd
      rw [this])
  exact ⟨v, h1, q v Z H (.refl w.zh) h2⟩
def eC (d : D) : Env → M B D := fun _ => M.pure d
theorem de_c {e : Expr} {v : V} {d : D} (h : PE X e (tC v)) (r : ∀ Z, Rep X.K cl Z v d) : DE cl B md W X e (eC d) :=
  PE.weak h fun σ H Q ⟨Z, C, s, ρ, w, e, p⟩ => post_pure w p (r Z)
theorem da_nil : DA cl B md W X [] (fun _ => M.pure []) :=
  PA.weak pa_nil fun σ H Q ⟨Z, C, s, ρ, w, e, p⟩ => p [] Z C H w (.refl ..) ⟨.nil, rfl⟩
theorem da_cons {e : Expr} {es : List Expr} {f : Env → M B D} {g : Env → M B (List D)} (h : DE cl B md W X e f) (t : DA cl B md W X es g) (hs : starEach (e :: es) X.env = (false, eval e X.env) :: starEach es X.env := by rfl) :
    DA cl B md W X (e :: es) fun ρ => M.bind (f ρ) fun x => M.bind (g ρ) fun xs => M.pure (x :: xs) := by
  refine PA.weak (pa_cons h t hs) fun σ H Q ⟨Z, C, s, ρ, w, e, p⟩ => ?_
  refine ⟨Z, C, s, ρ, w, e, Post.seq w.ch p fun dx s1 x Z1 C1 H1 w1 n1 r1 p1 => ?_⟩
  refine ⟨Z1, C1, s1, ρ, w1, e.mono n1.zz, Post.seq w1.ch p1 fun dy s2 y Z2 C2 H2 w2 n2 r2 p2 => ?_⟩
  exact p2 (x :: y) Z2 C2 H2 w2 (.refl ..) ⟨.cons (r1.mono n2.zz) r2.1, by rw [List.length_cons, r2.2]; rfl⟩
theorem de_tup {es : List Expr} {x1} {pos : Pos} {f : Env → M B (List D)} (h : DA cl B md W X es f) (hn : es.length ≤ 1000 := by decide) :
    DE cl B md W X (.Tuple es x1 pos) fun ρ => M.bind (f ρ) fun xs => M.pure (.tup xs) := by
  refine PE.weak (pe_tup h) fun σ H Q ⟨Z, C, s, ρ, w, e, p⟩ => ?_
  refine ⟨Z, C, s, ρ, w, e, Post.seq w.ch p fun ds s1 xs Z1 C1 H1 w1 n1 r1 p1 => ?_⟩
  have hlen : xs.length ≤ sizeLine := by
    rw [r1.1.len, r1.2, sizeLine_eq]; omega
  refine ⟨hlen, fun q hq => ?_⟩
  have al : Al Z1 H1 (upz Z1 q (.tup xs)) (upd H1 q (.tup xs)) := .new w1.zh hq (fun _ z => nomatch z)
  exact p1 (.ref q) _ C1 _ (al.wd w1) al.nx (.tup upd_same hlen (r1.1.mono al.zz))
end
end DN
namespace DN
open PySem PySem.Spec PyProof.Rows L2
mutual
def D.py : D → PyData
  | .non => .none
  | .bl b => .bool b
  | .int i => .int i
  | .str x => .str x
  | .tup xs => .tuple (D.pyL xs)
  | .lst xs => .list (D.pyL xs)
  | _ => .dict []
def D.pyL : List D → List PyData
  | [] => []
  | d :: ds => d.py :: D.pyL ds
end
mutual
def D.plain : D → Bool
  | .tup xs => D.plainL xs
  | .lst xs => D.plainL xs
  | .dct _ _ => false
  | .ins _ _ => false
  | .ref _ => false
  | _ => true
def D.plainL : List D → Bool
  | [] => true
  | d :: ds => d.plain && D.plainL ds
end
section
variable {K : PySem.W.Frag} {cl : CTab} {Z : Zp} {H : Hp}
mutual
theorem Rep.dp (h : Sub Z H) : ∀ (d : D) {v : V}, d.plain = true → Rep K cl Z v d → Dp K H v d.py ∧ d.py.canLay0 = true
  | .non, _, _, r => by cases r; exact ⟨.non, by simp [D.py, PyData.canLay0]⟩
  | .bl b, _, _, r => by cases r; exact ⟨.bl b, by simp [D.py, PyData.canLay0]⟩
  | .int i, _, _, r => by cases r; exact ⟨.int i, by simp [D.py, PyData.canLay0]⟩
  | .str x, _, _, r => by cases r with | str e f => exact ⟨.str x, by simpa [D.py, PyData.canLay0] using f⟩
  | .tup ds, _, p, r => by
    cases r with
    | tup a e b =>
      obtain ⟨h1, h2⟩ := RepL.dp h ds (by simpa [D.plain] using p) b
      exact ⟨.tup (sq_t (h _ _ a)) h1, by simpa [D.py, PyData.canLay0] using h2⟩
  | .lst ds, _, p, r => by
    cases r with
    | slst a e b =>
      obtain ⟨h1, h2⟩ := RepL.dp h ds (by simpa [D.plain] using p) b
      exact ⟨.lst (SqL.sub h a) h1, by simpa [D.py, PyData.canLay0] using h2⟩
  | .dct ks ds, _, p, r => by simp [D.plain] at p
  | .ins c ds, _, p, r => by simp [D.plain] at p
  | .ref a, _, p, r => by simp [D.plain] at p
theorem RepL.dp (h : Sub Z H) : ∀ (ds : List D) {vs : List V}, D.plainL ds = true → RepL K cl Z vs ds → DpAll K H vs (D.pyL ds) ∧ PyData.canLayAll0 (D.pyL ds) = true
  | [], _, _, r => by cases r; exact ⟨.nil, by simp [D.pyL, PyData.canLayAll0]⟩
  | d :: ds, _, p, r => by
    have p2 : d.plain = true ∧ D.plainL ds = true := by simpa [D.plainL] using p
    cases r with
    | cons a b =>
      obtain ⟨h1, h2⟩ := Rep.dp h d p2.1 a
      obtain ⟨h3, h4⟩ := RepL.dp h ds p2.2 b
      exact ⟨.cons h1 h3, by simp [D.pyL, PyData.canLayAll0, h2, h4]⟩
end
end
def D.okc (d : D) : Bool := d.plain && decide (d.py.depth ≤ 60)
theorem okc_shaped {K : PySem.W.Frag} {cl : CTab} {Z : Zp} {H : Hp} {d : D} {v : V} (h : Sub Z H) (o : d.okc = true) (r : Rep K cl Z v d) : Dp K H v d.py ∧ SeqAt.shaped d.py = true ∧ d.py.canLay0 = true ∧ d.py.depth ≤ 60 := by
  unfold D.okc at o
  rw [Bool.and_eq_true] at o
  obtain ⟨h1, h2⟩ := r.dp h d o.1
  have h3 : d.py.depth ≤ 60 := of_decide_eq_true o.2
  refine ⟨h1, ?_, h2, h3⟩
  unfold SeqAt.shaped
  rw [h2, decide_eq_true (by omega)]
  rfl
def addD : D → D → Option D
  | .int i, .int j => some (.int (i + j))
  | .str x, .str y => if x.length + y.length ≤ sizeLine then some (.str (x ++ y)) else none
  | .tup xs, .tup ys => if xs.length + ys.length ≤ sizeLine then some (.tup (xs ++ ys)) else none
  | .lst xs, .lst ys => if xs.length + ys.length ≤ sizeLine then some (.lst (xs ++ ys)) else none
  | _, _ => none
def subD : D → D → Option D
  | .int i, .int j => some (.int (i - j))
  | _, _ => none
def mulI : D → D → Option D
  | .int i, .int j => if (-(2 ^ 64) < i ∧ i < 2 ^ 64) ∨ (-(2 ^ 64) < j ∧ j < 2 ^ 64) then some (.int (i * j)) else none
  | _, _ => none
def modD : D → D → Option D
  | .int i, .int j => if 0 < j then some (.int (i % j)) else none
  | _, _ => none
def fdivD : D → D → Option D
  | .int i, .int j => if 0 < j ∧ j < 1073741824 then some (.int (i / j)) else if 0 < j ∧ j.natAbs < 2 ^ 200 then some (.int (i / j)) else none
  | _, _ => none
def powD : D → D → Option D
  | .int i, .int j => if 0 ≤ j ∧ j ≤ 1000000 ∧ i.natAbs < 2 ^ 64 then some (.int (i ^ j.toNat)) else none
  | _, _ => none
def shlD : D → D → Option D
  | .int i, .int j => if 0 ≤ j ∧ j ≤ 1000000 ∧ i.natAbs < 2 ^ 64 then some (.int (i * 2 ^ j.toNat)) else none
  | _, _ => none
def shrD : D → D → Option D
  | .int i, .int j => if 0 ≤ j then some (.int (i / 2 ^ j.toNat)) else none
  | _, _ => none
def andD : D → D → Option D
  | .int i, .int j => some (.int (Builtin.bitAnd i j))
  | _, _ => none
def orD : D → D → Option D
  | .int i, .int j => some (.int (Builtin.bitOr i j))
  | _, _ => none
def negD : D → Option D
  | .int i => some (.int (-i))
  | _ => none
def eqD (x y : D) : Option D := if x.okc && y.okc then some (.bl (PyData.eqv x.py y.py)) else none
def neD (x y : D) : Option D := if x.okc && y.okc then some (.bl (!PyData.eqv x.py y.py)) else none
def D.isNon : D → Bool
  | .non => true
  | _ => false
def isN (x y : D) : Option D := if y.isNon = true then some (.bl x.isNon) else none
def isNotN (x y : D) : Option D := if y.isNon = true then some (.bl (!x.isNon)) else none
def isBl (x y : D) : Option D := match x, y with
  | .bl a, .bl b => some (.bl (decide (a = b)))
  | _, _ => none
def isNotBl (x y : D) : Option D := match x, y with
  | .bl a, .bl b => some (.bl (!decide (a = b)))
  | _, _ => none
def ltDT (x y : D) : Option D := if x.okc && y.okc && PySem.W.alike x.py y.py && !x.isNon then some (.bl (PySem.W.dataLt x.py y.py)) else none
def ltI : D → D → Option D
  | .int i, .int j => some (.bl (decide (i < j)))
  | _, _ => none
def leI : D → D → Option D
  | .int i, .int j => some (.bl (decide (i ≤ j)))
  | _, _ => none
def gtI : D → D → Option D
  | .int i, .int j => some (.bl (decide (j < i)))
  | _, _ => none
def geI : D → D → Option D
  | .int i, .int j => some (.bl (decide (j ≤ i)))
  | _, _ => none
def inSeq (x : D) (ys : List D) : Option Bool := if x.okc && (D.lst ys).okc then some ((D.pyL ys).any fun z => PyData.eqv z x.py) else none
def inD : D → D → Option D
  | x, .tup ys => (inSeq x ys).map .bl
  | x, .lst ys => (inSeq x ys).map .bl
  | .str x, .str y => some (.bl (!(Builtin.Str.occurrences y x 0 y.length 1).isEmpty))
  | _, _ => none
def notInD : D → D → Option D
  | x, .tup ys => (inSeq x ys).map fun b => .bl (!b)
  | x, .lst ys => (inSeq x ys).map fun b => .bl (!b)
  | .str x, .str y => some (.bl (!(!(Builtin.Str.occurrences y x 0 y.length 1).isEmpty)))
  | _, _ => none
theorem strOk_app {x y : Str} (h1 : PyData.strOk x = true) (h2 : PyData.strOk y = true) : PyData.strOk (x ++ y) = true := by
  unfold PyData.strOk at *
  show (x.cps ++ y.cps).all _ = true
  rw [Array.all_append, h1, h2]
  rfl
theorem len_app (x y : Str) : (x ++ y).length = x.length + y.length := by
  show (x.cps ++ y.cps).size = x.cps.size + y.cps.size
  exact Array.size_append
section
variable {K : PySem.W.Frag} {cl : CTab} {X : Cx}
theorem OpV.or {r r' : R2} {g : D → D → Option D} (h : ∀ (Z : Zp) (H : Hp) (x y : V) (dx dy d : D) (Q : VK), Sub Z H → Rep K cl Z x dx → Rep K cl Z y dy → g dx dy = some d →
  (∀ v Z' H', Al Z H Z' H' → Rep K cl Z' v d → Q v H') → r x y H Q ∨ r' x y H Q) : OpV K cl (fun x y H Q => r x y H Q ∨ r' x y H Q) g := h
theorem ov_int {C : Int → Int → Prop} {f : Int → Int → Int} {g : D → D → Option D} (hg : ∀ x y d, g x y = some d → ∃ i j, x = .int i ∧ y = .int j ∧ C i j ∧ d = .int (f i j)) : OpV K cl (rI C fun i j => .int (f i j)) g := by
  intro Z H x y dx dy d Q h rx ry e q
  obtain ⟨i, j, rfl, rfl, c, rfl⟩ := hg dx dy d e
  cases rx; cases ry
  exact ⟨i, j, rfl, rfl, c, q _ Z H (.refl h) (.int _)⟩
theorem ov_int0 {f : Int → Int → Int} {g : D → D → Option D} (hg : ∀ x y d, g x y = some d → ∃ i j, x = .int i ∧ y = .int j ∧ d = .int (f i j)) : OpV K cl (rI0 fun i j => .int (f i j)) g := by
  intro Z H x y dx dy d Q h rx ry e q
  obtain ⟨i, j, rfl, rfl, rfl⟩ := hg dx dy d e
  cases rx; cases ry
  exact ⟨i, j, rfl, rfl, q _ Z H (.refl h) (.int _)⟩
theorem ov_bl0 {f : Int → Int → Bool} {g : D → D → Option D} (hg : ∀ x y d, g x y = some d → ∃ i j, x = .int i ∧ y = .int j ∧ d = .bl (f i j)) : OpV K cl (rI0 fun i j => .bl (f i j)) g := by
  intro Z H x y dx dy d Q h rx ry e q
  obtain ⟨i, j, rfl, rfl, rfl⟩ := hg dx dy d e
  cases rx; cases ry
  exact ⟨i, j, rfl, rfl, q _ Z H (.refl h) (.bl _)⟩
theorem v_sub : OpV K cl (rI0 fun i j => .int (i - j)) subD := ov_int0 fun x y d e => by
  unfold subD at e; split at e <;> cases e; exact ⟨_, _, rfl, rfl, rfl⟩
theorem v_mulI : OpV K cl (rI CMul fun i j => .int (i * j)) mulI := ov_int fun x y d e => by
  unfold mulI at e; split at e
  · split at e <;> cases e
    exact ⟨_, _, rfl, rfl, by assumption, rfl⟩
  · cases e
theorem v_mod : OpV K cl (rI (fun _ j => 0 < j) fun i j => .int (i % j)) modD := ov_int fun x y d e => by
  unfold modD at e; split at e
  · split at e <;> cases e
    exact ⟨_, _, rfl, rfl, by assumption, rfl⟩
  · cases e
theorem v_fdiv : OpV K cl (rI CDivW fun i j => .int (i / j)) fdivD := ov_int fun x y d e => by
  unfold fdivD at e; split at e
  · split at e
    · rename_i h
      cases e
      exact ⟨_, _, rfl, rfl, wide_div (b := 30) h.1 (by omega) (by decide) (by decide), rfl⟩
    · split at e <;> cases e
      rename_i h
      exact ⟨_, _, rfl, rfl, wide_div (b := 200) h.1 h.2 (by decide) (by decide), rfl⟩
  · cases e
theorem v_pow : OpV K cl (rI CPow fun i j => .int (i ^ j.toNat)) powD := ov_int fun x y d e => by
  unfold powD at e; split at e
  · split at e <;> cases e
    exact ⟨_, _, rfl, rfl, by assumption, rfl⟩
  · cases e
theorem v_lt : OpV K cl (rI0 fun i j => .bl (decide (i < j))) ltI := ov_bl0 fun x y d e => by
  unfold ltI at e; split at e <;> cases e; exact ⟨_, _, rfl, rfl, rfl⟩
theorem v_le : OpV K cl (rI0 fun i j => .bl (decide (i ≤ j))) leI := ov_bl0 fun x y d e => by
  unfold leI at e; split at e <;> cases e; exact ⟨_, _, rfl, rfl, rfl⟩
theorem v_gt : OpV K cl (rI0 fun i j => .bl (decide (j < i))) gtI := ov_bl0 fun x y d e => by
  unfold gtI at e; split at e <;> cases e; exact ⟨_, _, rfl, rfl, rfl⟩
theorem v_ge : OpV K cl (rI0 fun i j => .bl (decide (j ≤ i))) geI := ov_bl0 fun x y d e => by
  unfold geI at e; split at e <;> cases e; exact ⟨_, _, rfl, rfl, rfl⟩
theorem v_neg : UnV K cl (rU fun i => .int (-i)) negD := by
  intro Z H x dx d Q h rx e q
  unfold negD at e; split at e <;> cases e
  cases rx
  exact ⟨_, rfl, q _ Z H (.refl h) (.int _)⟩
theorem lstR {X : Cx} {pins : List (Addr × Obj)} {σ : L2.St} {H : Hp} {s : Shared} {l : Addr} {xs : List V} (I : Inv X pins σ H s) (h : SqR X.K H l xs) :
    xs.length ≤ sizeLine ∧ ∃ (its : List Value) (n : Nat), Vals xs its ∧ xs.length = its.length ∧ s.heap.get? l = some { cls := .type "list", data := .seq its.toArray n } := by
  rcases h with h | ⟨its, n, h1, h2, h3⟩
  · obtain ⟨z, its, n, r, e⟩ := h.ok I.hok
    exact ⟨z, its, n, r, r.length, e⟩
  · have e := h3.length
    have e2 := I.kIn l _ h1
    exact ⟨by rw [e, Array.length_toList]; exact h2, its.toList, n, h3, e, by simpa using e2⟩
def rCatR (K : PySem.W.Frag) : R2 := fun x y H Q => ∃ l b xs zs, x = .ref l ∧ y = .ref b ∧ SqR K H l xs ∧ SqR K H b zs ∧ xs.length + zs.length ≤ sizeLine ∧ ∀ p, H p = none → Q (.ref p) (upd H p (.lst (xs ++ zs)))
theorem op_catR {X : Cx} : OpR X (binaryOp .Add) (rCatR X.K) := by
  intro pins s σ H x y v u Q I rx ry ⟨l, b, xs, zs, ex, ey, hl, hb, hz, q⟩
  subst ex ey
  cases rx; cases ry
  obtain ⟨_, us, n, r, h1, e⟩ := lstR I hl
  obtain ⟨_, ws, m, r', h2, e'⟩ := lstR I hb
  refine PySem.P.add_list e e' ?_ (by simp only [List.size_toArray]; omega)
  rw [show us.toArray ++ ws.toArray = (us ++ ws).toArray by simp]
  exact ⟨.ref _, _, I.lnew (t' := s.toks) (r.append r') (by rw [List.length_append]; omega), rfl, q _ I.fresh⟩
abbrev rAddA (K : PySem.W.Frag) : R2 := fun x y H Q => (rI0 (fun i j => .int (i + j)) x y H Q ∨ (∃ i j, x = .str i ∧ y = .str j ∧ i.length + j.length ≤ sizeLine ∧ Q (.str (i ++ j)) H)) ∨ (rCatA K x y H Q ∨ rCatR K x y H Q)
theorem op_addA : OpR X (binaryOp .Add) (rAddA X.K) := (op_add.or op_add_str).or (op_catA.or op_catR)
theorem v_add : OpV K cl (rAddA K) addD := by
  intro Z H x y dx dy d Q h rx ry e q
  unfold addD at e
  split at e
  · cases e; cases rx; cases ry
    exact .inl (.inl ⟨_, _, rfl, rfl, q _ Z H (.refl h) (.int _)⟩)
  · split at e <;> cases e
    rename_i hz
    cases rx with | str a b => cases ry with | str a' b' =>
      exact .inl (.inr ⟨_, _, rfl, rfl, hz, q _ Z H (.refl h) (.str (by rw [len_app]; exact hz) (strOk_app b b'))⟩)
  · split at e <;> cases e
    rename_i hz
    cases rx with | tup a b c => cases ry with | tup a' b' c' =>
      rename_i pa va pb vb
      have l1 := c.len
      have l2 := c'.len
      refine .inr (.inl ⟨_, _, _, _, rfl, rfl, sq_t (h _ _ a), sq_t (h _ _ a'), by omega, fun e => ?_, fun _ e => ?_, fun _ _ p hp => ?_⟩)
      · refine q _ Z H (.refl h) (.tup a' b' ?_)
        subst e; cases c; exact c'
      · refine q _ Z H (.refl h) (.tup a b ?_)
        subst e; cases c'; rw [List.append_nil]; exact c
      · have al : Al Z H (upz Z p (.tup (va ++ vb))) (upd H p (.tup (va ++ vb))) := .new h hp (fun _ z => nomatch z)
        exact q _ _ _ al (.tup upd_same (by rw [List.length_append]; omega) ((c.mono al.zz).append (c'.mono al.zz)))
  · split at e <;> cases e
    rename_i hz
    cases rx with | slst a b c => cases ry with | slst a' b' c' =>
      rename_i pa va pb vb
      have l1 := c.len
      have l2 := c'.len
      refine .inr (.inr ⟨_, _, _, _, rfl, rfl, a.sub h, a'.sub h, by omega, fun p hp => ?_⟩)
      have al : Al Z H (upz Z p (.lst (va ++ vb))) (upd H p (.lst (va ++ vb))) := .new h hp (fun _ z => nomatch z)
      exact q _ _ _ al (.lst upd_same (by rw [List.length_append]; omega) ((c.mono al.zz).append (c'.mono al.zz)))
  · cases e
theorem v_eq : OpV K cl (rEqD K) eqD := by
  intro Z H x y dx dy d Q h rx ry e q
  unfold eqD at e
  split at e <;> cases e
  rename_i o
  rw [Bool.and_eq_true] at o
  obtain ⟨a1, a2, _⟩ := okc_shaped h o.1 rx
  obtain ⟨b1, b2, _⟩ := okc_shaped h o.2 ry
  exact ⟨_, _, a1, b1, a2, b2, q _ Z H (.refl h) (.bl _)⟩
theorem v_ne : OpV K cl (rNeD K) neD := by
  intro Z H x y dx dy d Q h rx ry e q
  unfold neD at e
  split at e <;> cases e
  rename_i o
  rw [Bool.and_eq_true] at o
  obtain ⟨a1, a2, _⟩ := okc_shaped h o.1 rx
  obtain ⟨b1, b2, _⟩ := okc_shaped h o.2 ry
  exact ⟨_, _, a1, b1, a2, b2, q _ Z H (.refl h) (.bl _)⟩
theorem rep_non {Z : Zp} {x : V} {d : D} (r : Rep K cl Z x d) : decide (x = V.non) = d.isNon := by
  cases r <;> simp [D.isNon]
theorem isNon_eq {d : D} (h : d.isNon = true) : d = .non := by
  cases d <;> first | rfl | (simp [D.isNon] at h)
theorem v_isN : OpV K cl (fun x y H Q => y = .non ∧ Q (.bl (decide (x = .non))) H) isN := by
  intro Z H x y dx dy d Q h rx ry e q
  unfold isN at e
  split at e <;> cases e
  rename_i o
  cases isNon_eq o
  cases ry
  rw [rep_non rx]
  exact ⟨rfl, q _ Z H (.refl h) (.bl _)⟩
end
def rInDT (K : PySem.W.Frag) (neg : Bool) : R2 := fun x y H Q => ∃ d ds, Dp K H x d ∧ Dp K H y (.tuple ds) ∧ SeqAt.shaped d = true ∧ SeqAt.shaped (.tuple ds) = true ∧ Q (.bl (if neg then !(ds.any fun z => PyData.eqv z d) else ds.any fun z => PyData.eqv z d)) H
theorem op_inDT {X : Cx} (hu : X.A.units + 65 < cLine) : OpR X (compareOp .In) (rInDT X.K false) := by
  intro pins s σ H x y v u Q I rx ry h
  obtain ⟨d, ds, hd, he, sd, se, q⟩ := h
  obtain ⟨as, r1⟩ := Dp.reads I d x v hd rx
  obtain ⟨bs, r2⟩ := Dp.reads I (.tuple ds) y u he ry
  exact SeqAt.in_tuple_reads r2 r1 (SeqAt.canLay_of_shaped se) (SeqAt.canLay_of_shaped sd) (room_in_shaped sd hu) ⟨.bl _, H, I, rfl, q⟩
theorem op_notInDT {X : Cx} (hu : X.A.units + 65 < cLine) : OpR X (compareOp .NotIn) (rInDT X.K true) := by
  intro pins s σ H x y v u Q I rx ry h
  obtain ⟨d, ds, hd, he, sd, se, q⟩ := h
  obtain ⟨as, r1⟩ := Dp.reads I d x v hd rx
  obtain ⟨bs, r2⟩ := Dp.reads I (.tuple ds) y u he ry
  exact SeqAt.notIn_tuple_reads r2 r1 (SeqAt.canLay_of_shaped se) (SeqAt.canLay_of_shaped sd) (room_in_shaped sd hu) ⟨.bl _, H, I, rfl, q⟩
abbrev rInA (K : PySem.W.Frag) : R2 := fun x y H Q => (rInDT K false x y H Q ∨ rInD K x y H Q) ∨ (∃ i j, x = .str i ∧ y = .str j ∧ Q (.bl (!(Builtin.Str.occurrences j i 0 j.length 1).isEmpty)) H)
abbrev rNotInA (K : PySem.W.Frag) : R2 := fun x y H Q => (rInDT K true x y H Q ∨ rNotInD K x y H Q) ∨ (∃ i j, x = .str i ∧ y = .str j ∧ Q (.bl (!(!(Builtin.Str.occurrences j i 0 j.length 1).isEmpty))) H)
theorem op_inA {X : Cx} (hu : X.A.units + 65 < cLine) : OpR X (compareOp .In) (rInA X.K) := ((op_inDT hu).or (op_inD hu)).or op_in_str
theorem op_notInA {X : Cx} (hu : X.A.units + 65 < cLine) : OpR X (compareOp .NotIn) (rNotInA X.K) := ((op_notInDT hu).or (op_notInD hu)).or op_notin_str
section
variable {K : PySem.W.Frag} {cl : CTab} {Z : Zp} {H : Hp}
theorem okc_tup {ys : List D} (h : (D.lst ys).okc = true) : (D.tup ys).okc = true := by
  simpa [D.okc, D.plain, D.py, PyData.depth] using h
theorem v_in : OpV K cl (rInA K) inD := by
  intro Z H x y dx dy d Q h rx ry e q
  unfold inD at e
  split at e
  · unfold inSeq at e
    split at e <;> cases e
    rename_i o
    rw [Bool.and_eq_true] at o
    obtain ⟨a1, a2, _⟩ := okc_shaped h o.1 rx
    obtain ⟨b1, b2, _⟩ := okc_shaped h (okc_tup o.2) ry
    simp only [D.py] at b1 b2
    exact .inl (.inl ⟨_, _, a1, b1, a2, b2, q _ Z H (.refl h) (.bl _)⟩)
  · unfold inSeq at e
    split at e <;> cases e
    rename_i o
    rw [Bool.and_eq_true] at o
    obtain ⟨a1, a2, _⟩ := okc_shaped h o.1 rx
    obtain ⟨b1, b2, _⟩ := okc_shaped h o.2 ry
    simp only [D.py] at b1 b2
    exact .inl (.inr ⟨_, _, a1, b1, a2, b2, q _ Z H (.refl h) (.bl _)⟩)
  · cases e
    cases rx; cases ry
    exact .inr ⟨_, _, rfl, rfl, q _ Z H (.refl h) (.bl _)⟩
  · cases e
theorem v_notIn : OpV K cl (rNotInA K) notInD := by
  intro Z H x y dx dy d Q h rx ry e q
  unfold notInD at e
  split at e
  · unfold inSeq at e
    split at e <;> cases e
    rename_i o
    rw [Bool.and_eq_true] at o
    obtain ⟨a1, a2, _⟩ := okc_shaped h o.1 rx
    obtain ⟨b1, b2, _⟩ := okc_shaped h (okc_tup o.2) ry
    simp only [D.py] at b1 b2
    exact .inl (.inl ⟨_, _, a1, b1, a2, b2, q _ Z H (.refl h) (.bl _)⟩)
  · unfold inSeq at e
    split at e <;> cases e
    rename_i o
    rw [Bool.and_eq_true] at o
    obtain ⟨a1, a2, _⟩ := okc_shaped h o.1 rx
    obtain ⟨b1, b2, _⟩ := okc_shaped h o.2 ry
    simp only [D.py] at b1 b2
    exact .inl (.inr ⟨_, _, a1, b1, a2, b2, q _ Z H (.refl h) (.bl _)⟩)
  · cases e
    cases rx; cases ry
    exact .inr ⟨_, _, rfl, rfl, q _ Z H (.refl h) (.bl _)⟩
  · cases e
end
end DN
namespace DN
open PySem PySem.Spec PyProof.Rows L2
variable {B : Sto}
def truthD : D → Option Bool
  | .non => some false
  | .bl b => some b
  | .int i => some (i != 0)
  | .str x => some ((x.length : Int) != 0)
  | .tup xs => some (!xs.isEmpty)
  | .lst xs => some (!xs.isEmpty)
  | _ => none
theorem RepL.emp {K : PySem.W.Frag} {cl : CTab} {Z : Zp} {vs : List V} {ds : List D} (r : RepL K cl Z vs ds) : vs.isEmpty = ds.isEmpty := by cases r <;> rfl
theorem truth_v {K : PySem.W.Frag} {cl : CTab} {Z : Zp} {H : Hp} {x : V} {d : D} {k : Bool} (h : Sub Z H) (r : Rep K cl Z x d) (e : truthD d = some k) : TruV K x H k := by
  cases r <;> (unfold truthD at e; cases e)
  case non => rfl
  case bl => rfl
  case int => rfl
  case str a b => exact ⟨a, rfl⟩
  case tup a e b => exact .inr (.inl ⟨_, sq_t (h _ _ a), by rw [b.emp]⟩)
  case slst a e b => exact .inl ⟨_, SqL.sub h a, by rw [b.emp]⟩
def D.asB : D → Option Bool
  | .bl b => some b
  | _ => none
section
variable {cl : CTab} {md : Bool} {W : WX} {X : Cx}
theorem post_liftG {υ α : Type} {K : PySem.W.Frag} {Rp : Zp → υ → α → Prop} {σ : L2.St} {Z : Zp} {C H : Hp} {o : Option α} {s : B.T} {Q : υ → Hp → Prop} (w : Wd B md Z C H s) (h : Post K cl md Rp W σ Z C H (lift (B := B) o s) Q) :
    ∃ a, o = some a ∧ ∀ v, Rp Z v a → Q v H := by
  cases o with
  | none => exact False.elim h
  | some a => exact ⟨a, rfl, fun v r => h v Z C H w (.refl ..) r⟩
theorem dt_truth {a : Expr} {f : Env → M B D} (h : DE cl B md W X a f) (he : ∀ whole, isTrue a X.env whole = (do let v ← whole; standAt a.pos; holding [v] (truthy v)) := by intro _; rfl) :
    DT cl B md W X a fun ρ => M.bind (f ρ) fun x => lift (truthD x) := by
  refine PT.weak (pt_truth h he) fun σ H Q ⟨Z, C, s, ρ, w, e, p⟩ => ?_
  refine ⟨Z, C, s, ρ, w, e, Post.seq w.ch p fun dx s1 x Z1 C1 H1 w1 n1 r1 p1 => ?_⟩
  obtain ⟨k, hk, q⟩ := post_liftG w1 p1
  exact ⟨k, truth_v w1.zh r1 hk, q k rfl⟩
theorem dt_cmp {op : CmpOp} {r : R2} {g : D → D → Option D} {a b : Expr} {f1 f2 : Env → M B D} {pos : Pos} (ho : OpR X (compareOp op) r) (hr : OpV X.K cl r g) (hm : behindInMarks op b = false) (ha : DE cl B md W X a f1) (hb : DE cl B md W X b f2) :
    DT cl B md W X (.Compare a [op] [b] pos) fun ρ => M.bind (f1 ρ) fun x => M.bind (f2 ρ) fun y => lift ((g x y).bind D.asB) := by
  refine PT.weak (pt_cmpR ho ha hb hm) fun σ H Q ⟨Z, C, s, ρ, w, e, p⟩ => ?_
  refine ⟨Z, C, s, ρ, w, e, Post.seq w.ch p fun dx s1 x Z1 C1 H1 w1 n1 r1 p1 => ?_⟩
  refine ⟨Z1, C1, s1, ρ, w1, e.mono n1.zz, Post.seq w1.ch p1 fun dy s2 y Z2 C2 H2 w2 n2 r2 p2 => ?_⟩
  cases hg : g dx dy with
  | none => rw [hg] at p2; exact False.elim p2
  | some d =>
    cases hd : D.asB d with
    | none => rw [hg] at p2; simp only [Option.bind_some, hd] at p2; exact False.elim p2
    | some k =>
      rw [hg] at p2
      simp only [Option.bind_some, hd] at p2
      refine hr Z2 H2 x y dx dy d _ w2.zh (r1.mono n2.zz) r2 hg fun v Z3 H3 al rv => ?_
      cases d <;> (unfold D.asB at hd; cases hd)
      cases rv
      exact ⟨k, rfl, p2 k Z3 C2 H3 (al.wd w2) al.nx rfl⟩
theorem dt_not {a : Expr} {f : Env → M B Bool} {pos : Pos} (h : DT cl B md W X a f) : DT cl B md W X (.UnaryOp .Not a pos) fun ρ => M.bind (f ρ) fun b => M.pure (!b) := by
  refine PT.weak (pt_not h) fun σ H Q ⟨Z, C, s, ρ, w, e, p⟩ => ?_
  refine ⟨Z, C, s, ρ, w, e, Post.seq w.ch p fun b s1 x Z1 C1 H1 w1 n1 r1 p1 => ?_⟩
  cases r1
  exact p1 (!b) Z1 C1 H1 w1 (.refl ..) rfl
def DW (cl : CTab) (B : Sto) (md : Bool) (W : WX) (X : Cx) (e : Expr) (f : Env → M B Bool) : Prop := PW X e (tG X.K cl B md RpE W f)
theorem PW.weak {X : Cx} {e : Expr} {t t' : TT} (h : PW X e t) (w : ∀ σ H Q, t' σ H Q → t σ H Q) : PW X e t' := ⟨fun wh pins s σ H Q I q => h.run wh pins s σ H Q I (w σ H Q q)⟩
theorem dw_and1 {a : Expr} {f : Env → M B Bool} {pos : Pos} (h : DT cl B md W X a f) : DW cl B md W X (.BoolOp .And [a] pos) f := pw_and1 h
theorem dw_or1 {a : Expr} {f : Env → M B Bool} {pos : Pos} (h : DT cl B md W X a f) : DW cl B md W X (.BoolOp .Or [a] pos) f := pw_or1 h
theorem dw_and {a b : Expr} {rest : List Expr} {f g : Env → M B Bool} {pos : Pos} (h : DT cl B md W X a f) (t : DW cl B md W X (.BoolOp .And (b :: rest) pos) g) :
    DW cl B md W X (.BoolOp .And (a :: b :: rest) pos) fun ρ => M.bind (f ρ) fun k => if k = true then g ρ else M.pure false := by
  refine PW.weak (pw_and h t) fun σ H Q ⟨Z, C, s, ρ, w, e, p⟩ => ?_
  refine ⟨Z, C, s, ρ, w, e, Post.seq w.ch p fun b s1 x Z1 C1 H1 w1 n1 r1 p1 => ?_⟩
  cases r1
  cases b with
  | true => exact ⟨Z1, C1, s1, ρ, w1, e.mono n1.zz, p1⟩
  | false => exact p1 false Z1 C1 H1 w1 (.refl ..) rfl
theorem dw_or {a b : Expr} {rest : List Expr} {f g : Env → M B Bool} {pos : Pos} (h : DT cl B md W X a f) (t : DW cl B md W X (.BoolOp .Or (b :: rest) pos) g) :
    DW cl B md W X (.BoolOp .Or (a :: b :: rest) pos) fun ρ => M.bind (f ρ) fun k => if k = true then M.pure true else g ρ := by
  refine PW.weak (pw_or h t) fun σ H Q ⟨Z, C, s, ρ, w, e, p⟩ => ?_
  refine ⟨Z, C, s, ρ, w, e, Post.seq w.ch p fun b s1 x Z1 C1 H1 w1 n1 r1 p1 => ?_⟩
  cases r1
  cases b with
  | true => exact p1 true Z1 C1 H1 w1 (.refl ..) rfl
  | false => exact ⟨Z1, C1, s1, ρ, w1, e.mono n1.zz, p1⟩
theorem dt_of_dw {e : Expr} {f : Env → M B Bool} (h : DW cl B md W X e f) : DT cl B md W X e f := PW.pt h
theorem de_one {op : BoolOp} {a : Expr} {f : Env → M B D} {pos : Pos} (h : DE cl B md W X a f) : DE cl B md W X (.BoolOp op [a] pos) f := pe_one h
theorem de_and {a b : Expr} {rest : List Expr} {f g : Env → M B D} {pos : Pos} (h : DE cl B md W X a f) (t : DE cl B md W X (.BoolOp .And (b :: rest) pos) g) :
    DE cl B md W X (.BoolOp .And (a :: b :: rest) pos) fun ρ => M.bind (f ρ) fun x => M.bind (lift (truthD x)) fun k => if k = true then g ρ else M.pure x := by
  refine PE.weak (pe_andT h t) fun σ H Q ⟨Z, C, s, ρ, w, e, p⟩ => ?_
  refine ⟨Z, C, s, ρ, w, e, Post.seq w.ch p fun dx s1 x Z1 C1 H1 w1 n1 r1 p1 => ?_⟩
  cases hk : truthD dx with
  | none => rw [hk] at p1; exact False.elim p1
  | some k =>
    rw [hk] at p1
    refine ⟨k, truth_v w1.zh r1 hk, ?_⟩
    cases k with
    | true => exact ⟨Z1, C1, s1, ρ, w1, e.mono n1.zz, p1⟩
    | false => exact post_pure w1 p1 r1
theorem de_not {a : Expr} {f : Env → M B D} {pos : Pos} (h : DE cl B md W X a f) :
    DE cl B md W X (.UnaryOp .Not a pos) fun ρ => M.bind (f ρ) fun x => M.bind (lift (truthD x)) fun k => M.pure (.bl (!k)) := by
  refine PE.weak (pe_notT h) fun σ H Q ⟨Z, C, s, ρ, w, e, p⟩ => ?_
  refine ⟨Z, C, s, ρ, w, e, Post.seq w.ch p fun dx s1 x Z1 C1 H1 w1 n1 r1 p1 => ?_⟩
  cases hk : truthD dx with
  | none => rw [hk] at p1; exact False.elim p1
  | some k =>
    rw [hk] at p1
    exact ⟨k, truth_v w1.zh r1 hk, post_pure w1 p1 (.bl _)⟩
theorem de_ifExp {c a b : Expr} {t : Env → M B Bool} {f g : Env → M B D} {pos : Pos} (hc : DT cl B md W X c t) (ha : DE cl B md W X a f) (hb : DE cl B md W X b g) :
    DE cl B md W X (.IfExp c a b pos) fun ρ => M.bind (t ρ) fun k => if k = true then f ρ else g ρ := by
  refine PE.weak (pe_ifExp hc ha hb) fun σ H Q ⟨Z, C, s, ρ, w, e, p⟩ => ?_
  refine ⟨Z, C, s, ρ, w, e, Post.seq w.ch p fun b s1 x Z1 C1 H1 w1 n1 r1 p1 => ?_⟩
  cases r1
  cases b with
  | true => exact ⟨Z1, C1, s1, ρ, w1, e.mono n1.zz, p1⟩
  | false => exact ⟨Z1, C1, s1, ρ, w1, e.mono n1.zz, p1⟩
theorem de_chain {op op' : CmpOp} {r r' : R2} {g g' : D → D → Option D} {a b c : Expr} {f1 f2 f3 : Env → M B D} {pos : Pos} (ho : OpR X (compareOp op) r) (hr : OpV X.K cl r g) (ho' : OpR X (compareOp op') r') (hr' : OpV X.K cl r' g')
    (ha : DE cl B md W X a f1) (hb : DE cl B md W X b f2) (hc : DE cl B md W X c f3) (hm : lastMarks [op, op'] [b, c] = false := by with_unfolding_all rfl) :
    DE cl B md W X (.Compare a [op, op'] [b, c] pos) fun ρ => M.bind (f1 ρ) fun x => M.bind (f2 ρ) fun y => M.bind (lift ((g x y).bind D.asB)) fun k => if k = true then M.bind (f3 ρ) fun z => lift (g' y z) else M.pure (.bl false) := by
  refine PE.weak (pe_chain ho ho' ha hb hc hm) fun σ H Q ⟨Z, C, s, ρ, w, e, p⟩ => ?_
  refine ⟨Z, C, s, ρ, w, e, Post.seq w.ch p fun dx s1 x Z1 C1 H1 w1 n1 r1 p1 => ?_⟩
  refine ⟨Z1, C1, s1, ρ, w1, e.mono n1.zz, Post.seq w1.ch p1 fun dy s2 y Z2 C2 H2 w2 n2 r2 p2 => ?_⟩
  cases hg : g dx dy with
  | none => rw [hg] at p2; exact False.elim p2
  | some d =>
    cases hd : D.asB d with
    | none => rw [hg] at p2; simp only [Option.bind_some, hd] at p2; exact False.elim p2
    | some k =>
      rw [hg] at p2
      simp only [Option.bind_some, hd] at p2
      refine hr Z2 H2 x y dx dy d _ w2.zh (r1.mono n2.zz) r2 hg fun v Z3 H3 al rv => ?_
      cases d <;> (unfold D.asB at hd; cases hd)
      cases rv
      refine ⟨k, rfl, ?_⟩
      have w3 := al.wd w2
      have p3 := Post.step al.nx w2.ch w3.ch p2
      have n13 : SubZ Z Z3 := n1.zz.trans (n2.zz.trans al.zz)
      cases k with
      | false => exact post_pure w3 p3 (.bl false)
      | true =>
        refine ⟨Z3, C2, s2, ρ, w3, e.mono n13, Post.seq w3.ch p3 fun dz s4 z Z4 C4 H4 w4 n4 r4 p4 => ?_⟩
        obtain ⟨d4, hd4, q4⟩ := post_lift w4 p4
        exact hr' Z4 H4 y z dy dz d4 Q w4.zh ((r2.mono al.zz).mono n4.zz) r4 hd4 q4
theorem dt_chain {op op' : CmpOp} {r r' : R2} {g g' : D → D → Option D} {a b c : Expr} {f1 f2 f3 : Env → M B D} {pos : Pos} (ho : OpR X (compareOp op) r) (hr : OpV X.K cl r g) (ho' : OpR X (compareOp op') r') (hr' : OpV X.K cl r' g')
    (ha : DE cl B md W X a f1) (hb : DE cl B md W X b f2) (hc : DE cl B md W X c f3) (hm : lastMarks [op, op'] [b, c] = false := by with_unfolding_all rfl) :
    DT cl B md W X (.Compare a [op, op'] [b, c] pos) fun ρ => M.bind (f1 ρ) fun x => M.bind (f2 ρ) fun y => M.bind (lift ((g x y).bind D.asB)) fun k => if k = true then M.bind (f3 ρ) fun z => lift ((g' y z).bind D.asB) else M.pure false := by
  refine PT.weak (pt_chain ho ho' ha hb hc hm) fun σ H Q ⟨Z, C, s, ρ, w, e, p⟩ => ?_
  refine ⟨Z, C, s, ρ, w, e, Post.seq w.ch p fun dx s1 x Z1 C1 H1 w1 n1 r1 p1 => ?_⟩
  refine ⟨Z1, C1, s1, ρ, w1, e.mono n1.zz, Post.seq w1.ch p1 fun dy s2 y Z2 C2 H2 w2 n2 r2 p2 => ?_⟩
  cases hg : g dx dy with
  | none => rw [hg] at p2; exact False.elim p2
  | some d =>
    cases hd : D.asB d with
    | none => rw [hg] at p2; simp only [Option.bind_some, hd] at p2; exact False.elim p2
    | some k =>
      rw [hg] at p2
      simp only [Option.bind_some, hd] at p2
      refine hr Z2 H2 x y dx dy d _ w2.zh (r1.mono n2.zz) r2 hg fun v Z3 H3 al rv => ?_
      cases d <;> (unfold D.asB at hd; cases hd)
      cases rv
      refine ⟨k, rfl, ?_⟩
      have w3 := al.wd w2
      have p3 := Post.step al.nx w2.ch w3.ch p2
      have n13 : SubZ Z Z3 := n1.zz.trans (n2.zz.trans al.zz)
      cases k with
      | false => exact ⟨false, rfl, p3 false Z3 C2 H3 w3 (.refl ..) rfl⟩
      | true =>
        refine ⟨Z3, C2, s2, ρ, w3, e.mono n13, Post.seq w3.ch p3 fun dz s4 z Z4 C4 H4 w4 n4 r4 p4 => ?_⟩
        cases hg4 : g' dy dz with
        | none => rw [hg4] at p4; exact False.elim p4
        | some d4 =>
          cases hd4 : D.asB d4 with
          | none => rw [hg4] at p4; simp only [Option.bind_some, hd4] at p4; exact False.elim p4
          | some k4 =>
            rw [hg4] at p4
            simp only [Option.bind_some, hd4] at p4
            refine hr' Z4 H4 y z dy dz d4 _ w4.zh ((r2.mono al.zz).mono n4.zz) r4 hg4 fun v5 Z5 H5 al5 rv5 => ?_
            cases d4 <;> (unfold D.asB at hd4; cases hd4)
            cases rv5
            exact ⟨k4, rfl, p4 k4 Z5 C4 H5 (al5.wd w4) al5.nx rfl⟩
end
end DN
namespace DN
open PySem PySem.Spec PyProof.Rows L2 ND
structure ClOk (cl : CTab) (X : Cx) : Prop where
  p : X.prog = cl.P
  w : X.w = cl.w
section
variable {cl : CTab} {X : Cx} {o i value : Expr} {td ty tv : TE} {pos pos' : Pos}
def DGet2 (cl : CTab) (H : Hp) (a : Addr) (y : V) (r : Option V) : Prop := DGet H a y r ∨ NGet cl.P cl.w H a y r
def tDGet2' (cl : CTab) (td ty : TE) : TE := fun σ H Q => td σ H fun x H1 => ty σ H1 fun y H2 => ∃ a v, x = .ref a ∧ DGet2 cl H2 a y (some v) ∧ Q v H2
theorem pe_dget2n (hcl : ClOk cl X) (hu : X.A.units + 9 < cLine) (ho : PE X o td) (hi : PE X i ty) (hs : NoSl i) : PE X (.Subscript o i pos) (tDGet2' cl td ty) := by
  refine ⟨fun pins s σ H Q I h => ?_⟩
  refine subD_of PySem.F.slot_dict_getitem.lookup hs (thn (ho.run pins s σ H _ I h) fun u s1 ⟨x, H1, I1, rx, q1⟩ => thn (hi.run pins s1 σ H1 _ I1 q1) fun iv s2 ⟨y, H2, I2, ry, a, v, ex, g, q2⟩ => ?_)
  subst ex
  obtain rfl : u = Value.ref a := rx
  rcases g with g | g
  · exact ⟨dict_typeIs I2 g, d_getItem (by omega) I2 g ry fun w' s3 I3 rw' => ⟨v, H2, I3, rw', q2⟩⟩
  · rw [← hcl.p, ← hcl.w] at g
    exact ⟨g.type I2 ry, n_getItem hu I2 g ry fun w' s3 I3 rw' => ⟨v, H2, I3, rw', q2⟩⟩
def rInDict (cl : CTab) (neg : Bool) : R2 := fun x y H Q => ∃ a o, y = .ref a ∧ DGet2 cl H a x o ∧ Q (.bl (if neg then !o.isSome else o.isSome)) H
theorem op_inDict (hcl : ClOk cl X) (hu : X.A.units + 9 < cLine) : OpR X (compareOp .In) (rInDict cl false) := by
  intro pins s σ H x y v u Q I rx ry ⟨a, o, ey, g, q⟩
  subst ey
  obtain rfl : u = Value.ref a := ry
  rcases g with g | g
  · exact d_in (by omega) I g rx fun s3 I3 => ⟨.bl o.isSome, H, I3, rfl, q⟩
  · rw [← hcl.p, ← hcl.w] at g
    exact n_in hu I g rx fun s3 I3 => ⟨.bl o.isSome, H, I3, rfl, q⟩
theorem op_notInDict (hcl : ClOk cl X) (hu : X.A.units + 9 < cLine) : OpR X (compareOp .NotIn) (rInDict cl true) := by
  intro pins s σ H x y v u Q I rx ry ⟨a, o, ey, g, q⟩
  subst ey
  obtain rfl : u = Value.ref a := ry
  rcases g with g | g
  · exact d_notIn (by omega) I g rx fun s3 I3 => ⟨.bl (!o.isSome), H, I3, rfl, q⟩
  · rw [← hcl.p, ← hcl.w] at g
    exact n_notIn hu I g rx fun s3 I3 => ⟨.bl (!o.isSome), H, I3, rfl, q⟩
theorem len_dN2 (hcl : ClOk cl X) : CallR X (.builtin "len") (fun xs H Q => ∃ a l, xs = [V.ref a] ∧ Rd H a (dN cl.P cl.w a l) ∧ KsAt H l ∧ Q (.int (l.length : Nat)) H) := by
  rw [← hcl.p, ← hcl.w]; exact len_dN
end
end DN
namespace DN
open PySem PySem.Spec PyProof.Rows L2 ND
variable {B : Sto}
theorem PE.or {X : Cx} {e : Expr} {t t' : TE} (h : PE X e t) (h' : PE X e t') : PE X e (fun σ H Q => t σ H Q ∨ t' σ H Q) :=
  ⟨fun pins s σ H Q I q => q.elim (h.run pins s σ H Q I) (h'.run pins s σ H Q I)⟩
mutual
def D.keyN : D → Option NestedKey
  | .non => some .none
  | .int i => some (.num i)
  | .str x => some (.text x)
  | .tup ds => (D.keyNs ds).map .tup
  | .bl _ => none
  | .lst _ => none
  | .dct _ _ => none
  | .ins _ _ => none
  | .ref _ => none
def D.keyNs : List D → Option (List NestedKey)
  | [] => some []
  | d :: ds => (D.keyN d).bind fun k => (D.keyNs ds).map fun r => k :: r
end
def D.key : D → Option GK
  | .int i => some (.inl (.inl i))
  | .str x => some (.inl (.inr x))
  | .tup ds => (D.keyNs ds).map .inr
  | _ => none
mutual
theorem keyN_keyD : ∀ k : NestedKey, (keyDN k).keyN = some k
  | .none => rfl
  | .num _ => rfl
  | .text _ => rfl
  | .tup ks => by simp only [keyDN, D.keyN, keyNs_keyD ks, Option.map_some]
theorem keyNs_keyD : ∀ ks : List NestedKey, D.keyNs (keyDNs ks) = some ks
  | [] => rfl
  | k :: ks => by simp only [keyDNs, D.keyNs, keyN_keyD k, keyNs_keyD ks, Option.bind_some, Option.map_some]
end
mutual
theorem keyN_eq : ∀ (d : D) {k : NestedKey}, d.keyN = some k → d = keyDN k
  | .non, _, h => by cases h; rfl
  | .int _, _, h => by cases h; rfl
  | .str _, _, h => by cases h; rfl
  | .tup ds, _, h => by
    simp only [D.keyN] at h
    obtain ⟨ks, h1, h2⟩ := Option.map_eq_some_iff.mp h
    subst h2
    rw [keyNs_eq ds h1]; rfl
  | .bl _, _, h => by cases h
  | .lst _, _, h => by cases h
  | .dct _ _, _, h => by cases h
  | .ins _ _, _, h => by cases h
  | .ref _, _, h => by cases h
theorem keyNs_eq : ∀ (ds : List D) {ks : List NestedKey}, D.keyNs ds = some ks → ds = keyDNs ks
  | [], _, h => by cases h; rfl
  | d :: ds, _, h => by
    simp only [D.keyNs] at h
    obtain ⟨k, h1, h2⟩ := Option.bind_eq_some_iff.mp h
    obtain ⟨r, h3, h4⟩ := Option.map_eq_some_iff.mp h2
    subst h4
    rw [keyN_eq d h1, keyNs_eq ds h3]; rfl
end
theorem key_eq {d : D} {k : GK} (h : d.key = some k) : d = keyD k := by
  cases d <;> (unfold D.key at h; try (cases h; done))
  · cases h; rfl
  · cases h; rfl
  · obtain ⟨ks, h1, h2⟩ := Option.map_eq_some_iff.mp h
    subst h2
    rw [keyNs_eq _ h1]; rfl
theorem key_keyD (k : GK) : (keyD k).key = some k := by
  rcases k with (k | k) | ks
  · rfl
  · rfl
  · show (D.keyNs (keyDNs ks)).map _ = _
    rw [keyNs_keyD]; rfl
def GK.isT : GK → Bool
  | .inl _ => false
  | .inr _ => true
def kindT : List D → Bool
  | .tup _ :: _ => true
  | _ => false
def lookD : List D → List D → GK → Option D
  | k :: ks, d :: ds, x => if k.key = some x then some d else lookD ks ds x
  | _, _, _ => none
section
variable {K : PySem.W.Frag} {cl : CTab} {Z : Zp}
theorem look_rep : ∀ {kvs : List (GK × V)} {ds : List D} (k : GK), RepL K cl Z (kvs.map (·.2)) ds →
    (∀ d, lookD (kvs.map fun p => keyD p.1) ds k = some d → ∃ v, valV kvs k = some v ∧ Rep K cl Z v d) ∧ ((lookD (kvs.map fun p => keyD p.1) ds k).isSome = (valV kvs k).isSome)
  | [], ds, k, r => by
    cases r
    exact ⟨fun d e => by simp [lookD] at e, rfl⟩
  | p :: r, ds, k, h => by
    cases h with
    | cons a b =>
      obtain ⟨h1, h2⟩ := look_rep k b
      simp only [List.map_cons, lookD, key_keyD]
      by_cases e : p.1 = k
      · rw [valV_pos e, if_pos (by rw [e])]
        exact ⟨fun d q => ⟨_, rfl, by cases q; exact a⟩, rfl⟩
      · rw [valV_neg e, if_neg (fun q => e (Option.some.inj q))]
        exact ⟨h1, h2⟩
theorem kV_of_rep1 {k : Key} {y : V} (r : Rep K cl Z y (keyD1 k)) : y = kV k := by
  cases k <;> (cases r; rfl)
mutual
theorem kat_of_rep {H : Hp} (h : Sub Z.h H) : ∀ (k : NestedKey) {y : V}, Rep K cl Z y (keyDN k) → KAt H k y
  | .none, _, r => by cases r; simp [KAt]
  | .num _, _, r => by cases r; simp [KAt]
  | .text _, _, r => by cases r with | str a b => simp only [KAt]; exact ⟨trivial, a, b⟩
  | .tup ks, _, r => by
    cases r with
    | tup a b c => simp only [KAt]; exact ⟨_, _, rfl, h _ _ a, b, katL_of_rep h ks c⟩
theorem katL_of_rep {H : Hp} (h : Sub Z.h H) : ∀ (ks : List NestedKey) {ys : List V}, RepL K cl Z ys (keyDNs ks) → KAtL H ks ys
  | [], _, r => by cases r; simp [KAtL]
  | k :: ks, _, r => by
    cases r with
    | cons a b => simp only [KAtL]; exact ⟨_, _, rfl, kat_of_rep h k a, katL_of_rep h ks b⟩
end
def KeyV (H : Hp) : V → GK → Prop
  | y, .inl k => y = kV k
  | y, .inr ks => KAt H (.tup ks) y
theorem keyV_of_rep {k : GK} {y : V} {H : Hp} (r : Rep K cl Z y (keyD k)) (h : Sub Z.h H) : KeyV H y k := by
  rcases k with k | ks
  · exact kV_of_rep1 r
  · exact kat_of_rep h (.tup ks) r
end
theorem valV_inl {l : List (Key × V)} {k : Key} : valV (l.map fun p => ((.inl p.1 : GK), p.2)) (.inl k) = valV l k := by
  induction l with
  | nil => rfl
  | cons p l ih =>
    by_cases e : p.1 = k
    · rw [List.map_cons, valV_pos e, valV_pos (by rw [e])]
    · rw [List.map_cons, valV_neg e, valV_neg (fun q => e (Sum.inl.inj q)), ih]
theorem valV_inr {l : NL} {k : List NestedKey} : valV (l.map fun p => ((.inr p.1 : GK), p.2.2)) (.inr k) = valV (nkv l) k := by
  induction l with
  | nil => rfl
  | cons p l ih =>
    by_cases e : p.1 = k
    · rw [List.map_cons, valV_pos (by rw [e])]
      show _ = valV ((p.1, p.2.2) :: nkv l) k
      rw [valV_pos e]
    · rw [List.map_cons, valV_neg (fun q => e (Sum.inr.inj q)), ih]
      show _ = valV ((p.1, p.2.2) :: nkv l) k
      rw [valV_neg e]
theorem valV_lr {l : List (Key × V)} {k : List NestedKey} : valV (l.map fun p => ((.inl p.1 : GK), p.2)) (.inr k) = none := by
  induction l with
  | nil => rfl
  | cons p l ih => rw [List.map_cons, valV_neg Sum.inl_ne_inr, ih]
theorem valV_rl {l : NL} {k : Key} : valV (l.map fun p => ((.inr p.1 : GK), p.2.2)) (.inl k) = none := by
  induction l with
  | nil => rfl
  | cons p l ih => rw [List.map_cons, valV_neg Sum.inr_ne_inl, ih]
theorem valV_mem {α : Type} [DecidableEq α] {kvs : List (α × V)} {k : α} {v : V} : valV kvs k = some v → (k, v) ∈ kvs := by
  induction kvs with
  | nil => intro h; cases h
  | cons p r ih =>
    intro h
    by_cases e : p.1 = k
    · rw [valV_pos e] at h; cases h; rw [← e]; exact List.mem_cons_self
    · rw [valV_neg e] at h; exact List.mem_cons_of_mem _ (ih h)
theorem dget_some {cl : CTab} {Z H : Hp} {a : Addr} {o : HO} {kvs : List (GK × V)} {k : GK} {y v : V} (rd : Rd H a o) (hz : Sub Z H) (dk : DKV cl Z a o kvs) (ry : KeyV H y k) (e : valV kvs k = some v) : DGet2 cl H a y (some v) := by
  rcases dk with ⟨l, h1, h2⟩ | ⟨l, h0, h1, h2, h3⟩
  · subst h1 h2
    rcases k with k | ks
    · exact .inl (.inl ⟨l, k, rd, ry, by rw [← e, valV_inl]⟩)
    · rw [valV_lr] at e; cases e
  · subst h1 h2
    rcases k with k | ks
    · rw [valV_rl] at e; cases e
    · have m := valV_mem e
      obtain ⟨p, hp, ep⟩ := List.mem_map.mp m
      have e1 : p.1 = ks := Sum.inr.inj (congrArg (·.1) ep)
      refine .inr ⟨ks, ry, ?_, .inl ⟨l, rd, h3.mono fun b xs q => hz _ _ q, by rw [← e, valV_inr]⟩⟩
      rw [← e1]; exact (h3 p hp).2
def ixD : D → D → Option D
  | .tup xs, .int i => atI xs i
  | .lst xs, .int i => atI xs i
  | .str z, .int i => (atI z.cps.toList i).map fun c => .str ⟨#[c]⟩
  | .dct ks ds, x => x.key.bind fun k => lookD ks ds k
  | _, _ => none
theorem atI_rep {K : PySem.W.Frag} {cl : CTab} {Z : Zp} {vs : List V} {ds : List D} {i : Int} {d : D} (r : RepL K cl Z vs ds) (e : atI ds i = some d) : ∃ v, atI vs i = some v ∧ Rep K cl Z v d := by
  unfold atI at e ⊢
  rw [r.len]
  cases q : ixN ds.length i with
  | none => rw [q] at e; cases e
  | some j =>
    rw [q] at e
    exact r.get e
theorem strOk_one {z : Str} {c : Nat} (h : PyData.strOk z = true) (m : c ∈ z.cps.toList) : PyData.strOk ⟨#[c]⟩ = true := by
  unfold PyData.strOk at *
  rw [← Array.all_toList, List.all_eq_true] at h
  rw [← Array.all_toList, List.all_eq_true]
  intro x hx
  have : x = c := by simpa using hx
  rw [this]; exact h c m
theorem atI_mem {α : Type} {xs : List α} {i : Int} {v : α} (h : atI xs i = some v) : v ∈ xs := by
  obtain ⟨j, _, h2, _⟩ := atI_get h
  exact List.mem_of_getElem? h2
section
variable {cl : CTab} {md : Bool} {W : WX} {X : Cx}
theorem hu65 {k : Nat} {A : Around} (hr : Room k A) : A.units + 65 < cLine := by have := hr.un; omega
theorem hu64 {A : Around} (h : A.units + 65 < cLine) : A.units + 64 < cLine := by omega
theorem hu1 {A : Around} (h : A.units + 65 < cLine) : A.units + 9 < cLine := by omega
theorem de_ix {a b : Expr} {f1 f2 : Env → M B D} {pos : Pos} (hcl : ClOk cl X) (hu : X.A.units + 65 < cLine) (ha : DE cl B md W X a f1) (hb : DE cl B md W X b f2) (hs : PlainIx b := by exact fun _ _ => rfl) (hs2 : NoSl b := by exact fun _ _ => rfl) :
    DE cl B md W X (.Subscript a b pos) fun ρ => M.bind (f1 ρ) fun x => M.bind (f2 ρ) fun y => lift (ixD x y) := by
  refine PE.weak (PE.or (pe_ix ix_seq ha hb hs) (pe_dget2n hcl (hu1 hu) ha hb hs2)) fun σ H Q ⟨Z, C, s, ρ, w, e, p⟩ => ?_
  have dic : (∃ ks ds s1, f1 ρ s = .ok (.dct ks ds) s1) ∨ ∀ ks ds s1, f1 ρ s ≠ .ok (.dct ks ds) s1 := by
    by_cases h : ∃ ks ds s1, f1 ρ s = .ok (.dct ks ds) s1
    · exact .inl h
    · exact .inr fun ks ds s1 q => h ⟨ks, ds, s1, q⟩
  rcases dic with ⟨ks, ds, s1, e1⟩ | nd
  · refine .inr ?_
    have p0 := p
    unfold M.bind at p0
    simp only [e1] at p0
    refine ⟨Z, C, s, ρ, w, e, ?_⟩
    rw [e1]
    intro x Z1 C1 H1 w1 n1 r1
    have p1 := Post.step n1 w.ch w1.ch p0
    refine ⟨Z1, C1, s1, ρ, w1, e.mono n1.zz, Post.seq w1.ch p1 fun dy s2 y Z2 C2 H2 w2 n2 r2 p2 => ?_⟩
    obtain ⟨d, hd, q⟩ := post_lift w2 p2
    simp only [ixD] at hd
    cases hk : dy.key with
    | none => rw [hk] at hd; cases hd
    | some k =>
      rw [hk] at hd
      have hd' : lookD ks ds k = some d := hd
      cases key_eq hk
      cases r1 with
      | dct a dkv b c b' =>
        subst b
        obtain ⟨v, h1, h2⟩ := (look_rep k (b'.mono n2.zz)).1 d hd'
        exact ⟨_, v, rfl, dget_some (sub_rd w2.zh (sub_rd n2.zz.h a)) w2.zh (dkv.mono fun _ _ q => n2.zz.h _ _ q) (keyV_of_rep r2 w2.zh) h1, q v Z2 H2 (.refl w2.zh) h2⟩
  · refine .inl ?_
    refine ⟨Z, C, s, ρ, w, e, ?_⟩
    cases e1 : f1 ρ s with
    | stuck => unfold M.bind at p; simp only [e1] at p; exact p
    | err x s1 => unfold M.bind at p; simp only [e1] at p; exact p
    | ok dx s1 =>
      unfold M.bind at p; simp only [e1] at p
      intro x Z1 C1 H1 w1 n1 r1
      have p1 := Post.step n1 w.ch w1.ch p
      refine ⟨Z1, C1, s1, ρ, w1, e.mono n1.zz, Post.seq w1.ch p1 fun dy s2 y Z2 C2 H2 w2 n2 r2 p2 => ?_⟩
      obtain ⟨d, hd, q⟩ := post_lift w2 p2
      cases dx with
      | tup xs =>
        cases dy <;> (simp only [ixD] at hd; try (cases hd; done))
        cases r2
        cases r1 with
        | tup a b c =>
          obtain ⟨v, h1, h2⟩ := atI_rep (c.mono n2.zz) hd
          exact .inr (.inl ⟨_, _, _, v, rfl, rfl, sq_t (w2.zh _ _ (n2.zz _ _ a)), h1, q v Z2 H2 (.refl w2.zh) h2⟩)
      | lst xs =>
        cases dy <;> (simp only [ixD] at hd; try (cases hd; done))
        cases r2
        cases r1 with
        | slst a b c =>
          obtain ⟨v, h1, h2⟩ := atI_rep (c.mono n2.zz) hd
          exact .inl ⟨_, _, _, v, rfl, rfl, SqL.sub w2.zh (a.sub n2.zz.h), h1, q v Z2 H2 (.refl w2.zh) h2⟩
      | str z =>
        cases dy <;> (simp only [ixD] at hd; try (cases hd; done))
        cases r2
        cases r1 with
        | str a b =>
          obtain ⟨c, h1, h2⟩ := Option.map_eq_some_iff.mp hd
          subst h2
          exact .inr (.inr ⟨_, _, c, rfl, rfl, a, h1, q _ Z2 H2 (.refl w2.zh) (.str (by show 1 ≤ sizeLine; decide) (strOk_one b (atI_mem h1)))⟩)
      | dct ks ds => exact absurd e1 (nd ks ds s1)
      | non => simp [ixD] at hd
      | bl => simp [ixD] at hd
      | int => simp [ixD] at hd
      | ins => simp [ixD] at hd
      | ref => simp [ixD] at hd
def D.asI : D → Option Int
  | .int i => some i
  | _ => none
theorem do_none : DO cl B md W X none (fun _ => M.pure none) :=
  PO.weak po_none fun σ H Q ⟨Z, C, s, ρ, w, e, p⟩ => p none Z C H w (.refl ..) rfl
theorem do_some {e : Expr} {f : Env → M B D} (h : DE cl B md W X e f) : DO cl B md W X (some e) fun ρ => M.bind (f ρ) fun x => lift (x.asI.map some) := by
  refine PO.weak (po_some h) fun σ H Q ⟨Z, C, s, ρ, w, e, p⟩ => ?_
  refine ⟨Z, C, s, ρ, w, e, Post.seq w.ch p fun dx s1 x Z1 C1 H1 w1 n1 r1 p1 => ?_⟩
  obtain ⟨a, ha, q⟩ := post_liftG w1 p1
  obtain ⟨i, h1, h2⟩ := Option.map_eq_some_iff.mp ha
  subst h2
  cases dx <;> (unfold D.asI at h1; cases h1)
  cases r1
  exact ⟨_, rfl, q _ rfl⟩
def cutL {α : Type} (xs : List α) (lo hi : Option Int) : List α := (xs.drop (HT.sIx xs.length 0 lo)).take (HT.sIx xs.length xs.length hi - HT.sIx xs.length 0 lo)
def slD : D → Option Int → Option Int → Option D
  | .tup xs, lo, hi => some (.tup (cutL xs lo hi))
  | .lst xs, lo, hi => some (.lst (cutL xs lo hi))
  | .str z, lo, hi => some (.str (cutS z lo hi))
  | _, _, _ => none
theorem cut_rep {K : PySem.W.Frag} {Z : Zp} {vs : List V} {ds : List D} {lo hi : Option Int} (r : RepL K cl Z vs ds) : RepL K cl Z (cutV vs lo hi) (cutL ds lo hi) := by
  unfold cutV cutL
  rw [r.len]
  exact (r.drop _).take _
theorem cut_len {α : Type} (xs : List α) (lo hi : Option Int) : (cutL xs lo hi).length ≤ xs.length := by
  unfold cutL
  rw [List.length_take, List.length_drop]
  omega
theorem cutS_sub {z : Str} {lo hi : Option Int} : ∀ c ∈ (cutS z lo hi).cps.toList, c ∈ z.cps.toList := by
  intro c hc
  unfold cutS at hc
  exact List.mem_of_mem_drop (List.mem_of_mem_take (by simpa using hc))
theorem cutS_len {z : Str} {lo hi : Option Int} : (cutS z lo hi).length ≤ z.length := by
  show (cutS z lo hi).cps.size ≤ z.cps.size
  unfold cutS
  simp only [List.size_toArray, List.length_take, List.length_drop, Array.length_toList]
  omega
theorem strOk_cut {z : Str} {lo hi : Option Int} (h : PyData.strOk z = true) : PyData.strOk (cutS z lo hi) = true := by
  unfold PyData.strOk at *
  rw [← Array.all_toList, List.all_eq_true] at h ⊢
  exact fun x hx => h x (cutS_sub x hx)
theorem de_slice {e : Expr} {lo hi : Option Expr} {f : Env → M B D} {gl gh : Env → M B (Option Int)} {p2 pos : Pos} (h : DE cl B md W X e f) (hl : DO cl B md W X lo gl) (hh : DO cl B md W X hi gh) :
    DE cl B md W X (.Subscript e (.Slice lo hi none p2) pos) fun ρ => M.bind (f ρ) fun x => M.bind (gl ρ) fun l => M.bind (gh ρ) fun u => lift (slD x l u) := by
  refine PE.weak (pe_slice ((sl_tupA.or sl_list).or sl_str) h hl hh) fun σ H Q ⟨Z, C, s, ρ, w, e, p⟩ => ?_
  refine ⟨Z, C, s, ρ, w, e, Post.seq w.ch p fun dx s1 x Z1 C1 H1 w1 n1 r1 p1 => ?_⟩
  refine ⟨Z1, C1, s1, ρ, w1, e.mono n1.zz, Post.seq w1.ch p1 fun l s2 l' Z2 C2 H2 w2 n2 r2 p2 => ?_⟩
  cases r2
  refine ⟨Z2, C2, s2, ρ, w2, e.mono (n1.zz.trans n2.zz), Post.seq w2.ch p2 fun u s3 u' Z3 C3 H3 w3 n3 r3 p3 => ?_⟩
  cases r3
  obtain ⟨d, hd, q⟩ := post_lift w3 p3
  have r1 := (r1.mono n2.zz).mono n3.zz
  cases dx <;> (unfold slD at hd; cases hd)
  · cases r1 with
    | str a b => exact .inr ⟨_, rfl, a, q _ Z3 H3 (.refl w3.zh) (.str (Nat.le_trans cutS_len a) (strOk_cut b))⟩
  · cases r1 with
    | tup a b c =>
      rename_i xs a0 vs
      refine .inl (.inl ⟨_, _, rfl, sq_t (w3.zh _ _ a), fun hc => ?_, fun hc pp hp => ?_⟩)
      · have ev : cutV vs l u = vs := by
          unfold cutV
          rw [hc.1, hc.2, List.drop_zero]
          exact List.take_of_length_le (by omega)
        have cr := cut_rep (lo := l) (hi := u) c
        rw [ev] at cr
        exact q _ Z3 H3 (.refl w3.zh) (.tup a b cr)
      · have al : Al Z3 H3 (upz Z3 pp (.tup (cutV vs l u))) (upd H3 pp (.tup (cutV vs l u))) := .new w3.zh hp (fun _ z => nomatch z)
        have cr := cut_rep (lo := l) (hi := u) c
        refine q _ _ _ al (.tup upd_same ?_ (cr.mono al.zz))
        have := cut_len xs l u
        rw [cr.len]
        have := c.len
        omega
  · cases r1 with
    | slst a b c =>
      rename_i xs a0 vs
      refine .inl (.inr ⟨_, _, rfl, SqL.sub w3.zh a, fun pp hp => ?_⟩)
      have al : Al Z3 H3 (upz Z3 pp (.lst (cutV vs l u))) (upd H3 pp (.lst (cutV vs l u))) := .new w3.zh hp (fun _ z => nomatch z)
      have cr := cut_rep (lo := l) (hi := u) c
      refine q _ _ _ al (.lst upd_same ?_ (cr.mono al.zz))
      have := cut_len xs l u
      rw [cr.len]
      have := c.len
      omega
theorem de_callB {id : String} {x : Str} {r : List V → Hp → VK → Prop} {g : List D → Option D} {e : Expr} {es : List Expr} {f : Env → M B (List D)} {p pos : Pos} (hc : CallR X (.builtin id) r) (hr : CallV X.K cl r g)
    (hg : Gl X x) (hm : X.mg x = none) (hv : bootBuiltins x = some (.builtin id)) (ha : DA cl B md W X (e :: es) f) (hn : x ≠ "__name__" := by decide) (hdb : (x == ("__debug__" : Str)) = false := by decide)
    (he : starEach (e :: es) X.env = (false, eval e X.env) :: starEach es X.env := by rfl) (hpl : (backTo pos (starEach es X.env)).any (·.1) = false := by rfl) :
    DE cl B md W X (.Call (.Name x p) (e :: es) [] pos) fun ρ => M.bind (f ρ) fun xs => lift (g xs) := by
  refine PE.weak (pe_callB hc hg hm hv ha hn hdb he hpl) fun σ H Q ⟨Z, C, s, ρ, w, e, p⟩ => ?_
  refine ⟨Z, C, s, ρ, w, e, Post.seq w.ch p fun dxs s1 xs Z1 C1 H1 w1 n1 r1 p1 => ?_⟩
  obtain ⟨d, hd, q⟩ := post_lift w1 p1
  exact hr Z1 H1 xs dxs d Q w1.zh r1.1 hd q
theorem de_callTy {T : String} {x : Str} {r : List V → Hp → VK → Prop} {g : List D → Option D} {e : Expr} {es : List Expr} {f : Env → M B (List D)} {p pos : Pos} (hc : CallR X (.type T) r) (hr : CallV X.K cl r g)
    (hg : Gl X x) (hm : X.mg x = none) (hv : bootBuiltins x = some (.type T)) (ha : DA cl B md W X (e :: es) f) (hn : x ≠ "__name__" := by decide) (hdb : (x == ("__debug__" : Str)) = false := by decide)
    (he : starEach (e :: es) X.env = (false, eval e X.env) :: starEach es X.env := by rfl) (hpl : (backTo pos (starEach es X.env)).any (·.1) = false := by rfl) :
    DE cl B md W X (.Call (.Name x p) (e :: es) [] pos) fun ρ => M.bind (f ρ) fun xs => lift (g xs) := by
  refine PE.weak (pe_callTy hc hg hm hv ha hn hdb he hpl) fun σ H Q ⟨Z, C, s, ρ, w, e, p⟩ => ?_
  refine ⟨Z, C, s, ρ, w, e, Post.seq w.ch p fun dxs s1 xs Z1 C1 H1 w1 n1 r1 p1 => ?_⟩
  obtain ⟨d, hd, q⟩ := post_lift w1 p1
  exact hr Z1 H1 xs dxs d Q w1.zh r1.1 hd q
end
def lenD : List D → Option D
  | [.str x] => some (.int x.length)
  | [.tup xs] => some (.int xs.length)
  | [.lst xs] => some (.int xs.length)
  | [.dct ks _] => some (.int ks.length)
  | _ => none
def bools : List D → Option (List Bool)
  | [] => some []
  | .bl b :: ds => (bools ds).map fun r => b :: r
  | _ :: _ => none
def allD : List D → Option D
  | [.lst xs] => (bools xs).map fun bs => .bl (bs.all id)
  | _ => none
def anyD : List D → Option D
  | [.lst xs] => (bools xs).map fun bs => .bl (bs.any id)
  | _ => none
def intD : List D → Option D
  | [.int i] => some (.int i)
  | [.bl b] => some (.int (if b then 1 else 0))
  | _ => none
def tupleD : List D → Option D
  | [.tup xs] => some (.tup xs)
  | [.lst xs] => some (.tup xs)
  | _ => none
def listD : List D → Option D
  | [.tup xs] => some (.lst xs)
  | [.lst xs] => some (.lst xs)
  | _ => none
def min2D : List D → Option D
  | [.int i, .int j] => some (.int (if j < i then j else i))
  | _ => none
def max2D : List D → Option D
  | [.int i, .int j] => some (.int (if j > i then j else i))
  | _ => none
def intsOf : List D → Option (List Int)
  | [] => some []
  | .int b :: ds => (intsOf ds).map fun r => b :: r
  | _ :: _ => none
def sumD : List D → Option D
  | [.lst xs] => (intsOf xs).map fun bs => .int bs.sum
  | _ => none
theorem len_dK {X : Cx} : CallR X (.builtin "len") (fun xs H Q => ∃ a kvs, xs = [V.ref a] ∧ Rd H a (.dK kvs) ∧ Q (.int (kvs.length : Nat)) H) := by
  intro pins s σ H xs us Q I r h
  obtain ⟨a, kvs, rfl, ha, q⟩ := h
  obtain ⟨u, rfl, ru⟩ := vals1 r
  cases ru
  exact d_len I ha fun t s' I' => ⟨.int kvs.length, H, I', ⟨t, rfl⟩, q⟩
section
variable {K : PySem.W.Frag} {cl : CTab} {X : Cx}
theorem repL1 {Z : Zp} {xs : List V} {d : D} (r : RepL K cl Z xs [d]) : ∃ x, xs = [x] ∧ Rep K cl Z x d := by
  cases r with | cons a b => cases b; exact ⟨_, rfl, a⟩
theorem repL2 {Z : Zp} {xs : List V} {d e : D} (r : RepL K cl Z xs [d, e]) : ∃ x y, xs = [x, y] ∧ Rep K cl Z x d ∧ Rep K cl Z y e := by
  cases r with | cons a b => cases b with | cons c b => cases b; exact ⟨_, _, rfl, a, c⟩
abbrev rLenA (K : PySem.W.Frag) (cl : CTab) : List V → Hp → VK → Prop := fun xs H Q => (∃ x n, xs = [x] ∧ LenV K x H n ∧ Q (.int n) H) ∨ (∃ a kvs, xs = [V.ref a] ∧ Rd H a (.dK kvs) ∧ Q (.int (kvs.length : Nat)) H) ∨ (∃ a l, xs = [V.ref a] ∧ Rd H a (dN cl.P cl.w a l) ∧ KsAt H l ∧ Q (.int (l.length : Nat)) H)
theorem c_len (hcl : ClOk cl X) : CallR X (.builtin "len") (rLenA X.K cl) := call_len.or (len_dK.or (len_dN2 hcl))
theorem v_len : CallV K cl (rLenA K cl) lenD := by
  intro Z H xs dxs d Q h r e q
  unfold lenD at e
  split at e <;> cases e
  · obtain ⟨x, rfl, r1⟩ := repL1 r
    cases r1 with | str a b => exact .inl ⟨_, _, rfl, ⟨a, rfl⟩, q _ Z H (.refl h) (.int _)⟩
  · obtain ⟨x, rfl, r1⟩ := repL1 r
    cases r1 with | tup a b c => exact .inl ⟨_, _, rfl, .inr ⟨_, sq_t (h _ _ a), c.len.symm⟩, q _ Z H (.refl h) (.int _)⟩
  · obtain ⟨x, rfl, r1⟩ := repL1 r
    cases r1 with | slst a b c => exact .inl ⟨_, _, rfl, .inl ⟨_, SqL.sub h a, c.len.symm⟩, q _ Z H (.refl h) (.int _)⟩
  · obtain ⟨x, rfl, r1⟩ := repL1 r
    cases r1 with
    | dct a dk b n c =>
      subst b
      rcases dk with ⟨l, h1, h2⟩ | ⟨l, _, h1, h2, h3⟩
      · subst h1 h2
        exact .inr (.inl ⟨_, _, rfl, sub_rd h a, by simpa using q (.int _) Z H (.refl h) (.int _)⟩)
      · subst h1 h2
        exact .inr (.inr ⟨_, _, rfl, sub_rd h a, h3.mono fun _ _ q => h _ _ q, by simpa using q (.int _) Z H (.refl h) (.int _)⟩)
theorem bools_rep {Z : Zp} : ∀ {ds : List D} {vs : List V} {bs : List Bool}, RepL K cl Z vs ds → bools ds = some bs → vs = bs.map V.bl
  | [], _, _, r, e => by cases r; cases e; rfl
  | d :: ds, _, bs, r, e => by
    cases r with
    | cons a b =>
      cases d <;> (unfold bools at e; try (cases e; done))
      obtain ⟨t, h1, h2⟩ := Option.map_eq_some_iff.mp e
      subst h2
      cases a
      rw [bools_rep b h1]; rfl
theorem ints_rep {Z : Zp} : ∀ {ds : List D} {vs : List V} {bs : List Int}, RepL K cl Z vs ds → intsOf ds = some bs → vs = bs.map V.int
  | [], _, _, r, e => by cases r; cases e; rfl
  | d :: ds, _, bs, r, e => by
    cases r with
    | cons a b =>
      cases d <;> (unfold intsOf at e; try (cases e; done))
      obtain ⟨t, h1, h2⟩ := Option.map_eq_some_iff.mp e
      subst h2
      cases a
      rw [ints_rep b h1]; rfl
theorem v_all : CallV K cl (rAll K) allD := by
  intro Z H xs dxs d Q h r e q
  unfold allD at e
  split at e
  · obtain ⟨bs, h1, h2⟩ := Option.map_eq_some_iff.mp e
    subst h2
    obtain ⟨x, rfl, r1⟩ := repL1 r
    cases r1 with
    | slst a b c =>
      have := bools_rep c h1
      subst this
      exact ⟨_, bs, rfl, SqL.sub h a, q _ Z H (.refl h) (.bl _)⟩
  · cases e
theorem v_sum : CallV K cl (rSum K) sumD := by
  intro Z H xs dxs d Q h r e q
  unfold sumD at e
  split at e
  · obtain ⟨bs, h1, h2⟩ := Option.map_eq_some_iff.mp e
    subst h2
    obtain ⟨x, rfl, r1⟩ := repL1 r
    cases r1 with
    | slst a b c =>
      have := ints_rep c h1
      subst this
      exact ⟨_, bs, rfl, SqL.sub h a, q _ Z H (.refl h) (.int _)⟩
  · cases e
theorem v_int : CallV K cl (fun xs H Q => (∃ i, xs = [.int i] ∧ Q (.int i) H) ∨ ∃ k, xs = [.bl k] ∧ Q (.int (if k then 1 else 0)) H) intD := by
  intro Z H xs dxs d Q h r e q
  unfold intD at e
  split at e <;> cases e
  · obtain ⟨x, rfl, r1⟩ := repL1 r
    cases r1
    exact .inl ⟨_, rfl, q _ Z H (.refl h) (.int _)⟩
  · obtain ⟨x, rfl, r1⟩ := repL1 r
    cases r1
    exact .inr ⟨_, rfl, q _ Z H (.refl h) (.int _)⟩
theorem v_tuple : CallV K cl (fun xs H Q => ∃ p ys, xs = [.ref p] ∧ ((SqL K H p ys ∧ ∀ l, H l = none → Q (.ref l) (upd H l (.tup ys))) ∨ (SqT K H p ys ∧ Q (.ref p) H))) tupleD := by
  intro Z H xs dxs d Q h r e q
  unfold tupleD at e
  split at e <;> cases e
  · obtain ⟨x, rfl, r1⟩ := repL1 r
    cases r1 with | tup a b c => exact ⟨_, _, rfl, .inr ⟨sq_t (h _ _ a), q _ Z H (.refl h) (.tup a b c)⟩⟩
  · obtain ⟨x, rfl, r1⟩ := repL1 r
    cases r1 with
    | slst a b c =>
      refine ⟨_, _, rfl, .inl ⟨SqL.sub h a, fun p hp => ?_⟩⟩
      rename_i vs
      have al : Al Z H (upz Z p (.tup vs)) (upd H p (.tup vs)) := .new h hp (fun _ z => nomatch z)
      exact q _ _ _ al (.tup upd_same b (c.mono al.zz))
theorem v_min2 : CallV K cl (fun xs H Q => ∃ i j, xs = [.int i, .int j] ∧ Q (.int (if j < i then j else i)) H) min2D := by
  intro Z H xs dxs d Q h r e q
  unfold min2D at e
  split at e <;> cases e
  obtain ⟨x, y, rfl, r1, r2⟩ := repL2 r
  cases r1; cases r2
  exact ⟨_, _, rfl, q _ Z H (.refl h) (.int _)⟩
end
end DN
namespace DN
open PySem PySem.Spec PyProof.Rows L2 ND
variable {B : Sto}
def tyN : D → Option String
  | .non => some "NoneType"
  | .bl _ => some "bool"
  | .int _ => some "int"
  | .str _ => some "str"
  | .tup _ => some "tuple"
  | .lst _ => some "list"
  | .dct _ _ => some "dict"
  | _ => none
def TyY (K : PySem.W.Frag) (H : Hp) (x : V) (t : Value) : Prop := TyX K H x t ∨ (t = .type "dict" ∧ ∃ a P w l, x = .ref a ∧ Rd H a (dN P w a l)) ∨ (t = .type "list" ∧ ∃ a xs, x = .ref a ∧ SqR K H a xs)
theorem kit_ofY {X : Cx} {pins : List (Addr × Obj)} {σ : L2.St} {H : Hp} {s : Shared} {x : V} {u t : Value} (I : Inv X pins σ H s) (rx : RelV x u) (ty : TyY X.K H x t) : ∃ P : Heap → Prop, PySem.W.KitX X.K u t P ∧ P s.heap ∧ u ≠ .builtin "__main__.__loader__#opaque" := by
  rcases ty with ty | ⟨rfl, a, P, w, l, rfl, ea⟩ | ⟨rfl, a, xs, rfl, ea⟩
  · exact kit_of I rx ty
  · cases (show u = Value.ref a from rx)
    obtain ⟨⟨_, _, xs, _, o, es, ep, h1, h2, _⟩, _⟩ := (show ObjOk X.prog X.w H s.heap a (dN P w a l) from rd_of I.hok ea)
    exact ⟨_, PySem.W.kitx_dict, ⟨o, h1, h2.1⟩, fun z => nomatch z⟩
  · cases (show u = Value.ref a from rx)
    obtain ⟨_, its, n, _, _, e⟩ := lstR I ea
    exact ⟨_, PySem.W.kitx_list, ⟨_, e, rfl⟩, fun z => nomatch z⟩
def rIsiY (K : PySem.W.Frag) : List V → Hp → VK → Prop := fun xs H Q => ∃ (x c : V) (t u : Value) (b : Bool), xs = [x, c] ∧ ClsV c u ∧ TyY K H x t ∧ PySem.W.kitOne K t u = some b ∧ Q (.bl b) H
def rIsiTY (K : PySem.W.Frag) : List V → Hp → VK → Prop := fun xs H Q => ∃ (x : V) (tp : Addr) (cs : List V) (t : Value) (us : List Value) (b : Bool), xs = [x, .ref tp] ∧ H tp = some (.tup cs) ∧ Paired ClsV cs us ∧ TyY K H x t ∧ PySem.W.kitAny K t us = some b ∧ Q (.bl b) H
theorem call_isiY {X : Cx} : CallR X (.builtin "isinstance") (rIsiY X.K) := by
  intro pins s σ H xs us Q I r h
  obtain ⟨x, c, t, u, b, rfl, k, ty, e, q⟩ := h
  obtain ⟨u1, u2, rfl, r1, r2⟩ := vals2 r
  have e2 := k.eq r2
  subst e2
  obtain ⟨P, Z, p, hx⟩ := kit_ofY I r1 ty
  exact PySem.W.kia_one Z I.kIn p e hx fun tk => ⟨.bl b, H, I.tok tk, rfl, q⟩
theorem call_isiTY {X : Cx} : CallR X (.builtin "isinstance") (rIsiTY X.K) := by
  intro pins s σ H xs us Q I r h
  obtain ⟨x, tp, cs, t, ws, b, rfl, hT, k, ty, e, q⟩ := h
  obtain ⟨u1, u2, rfl, r1, r2⟩ := vals2 r
  cases (show u2 = Value.ref tp from r2)
  obtain ⟨P, Z, p, hx⟩ := kit_ofY I r1 ty
  obtain ⟨_, its, rv, o, h1, h2, n, h3⟩ := (show ObjOk X.prog X.w H s.heap tp (.tup cs) from I.hok tp _ hT)
  have e3 := ClsV.all k rv
  subst e3
  obtain ⟨oc, od, dt, sl⟩ := o
  simp only at h2 h3
  subst h2 h3
  exact PySem.W.kia_tup Z I.kIn p h1 e hx fun tk => ⟨.bl b, H, I.tok tk, rfl, q⟩
theorem ty_rep {K : PySem.W.Frag} {cl : CTab} {Z : Zp} {H : Hp} {v : V} {d : D} {n : String} (h : Sub Z H) (r : Rep K cl Z v d) (e : tyN d = some n) : TyY K H v (.type n) := by
  cases r <;> (unfold tyN at e; cases e)
  case non => exact .inl <| .base .non
  case bl => exact .inl <| .base (.bl _)
  case int => exact .inl <| .base (.int _)
  case str => exact .inl <| .base (.str _)
  case tup a b c =>
    rcases sq_t (h _ _ a) with (q | ⟨o, q⟩) | ⟨o, its, m, h1, h2, _⟩
    · exact .inl <| .base (.tup q)
    · exact .inl (.fTuple q)
    · exact .inl (.kTuple h1 h2)
  case slst a b c => exact .inr (.inr ⟨rfl, _, _, rfl, a.sub h⟩)
  case dct a dk b c n =>
    rcases dk with ⟨l, h1, h2⟩ | ⟨l, _, h1, h2⟩
    · subst h1
      rcases sub_rd h a with q | ⟨od, q⟩
      · exact .inl (.base (.dK q))
      · exact .inl (.fDict q)
    · subst h1
      exact .inr (.inl ⟨rfl, _, _, _, _, rfl, sub_rd h a⟩)
def isD (n : String) (d : D) : Option D := (tyN d).bind fun t => (kitB t n).map .bl
def isD2 (n m : String) (d : D) : Option D := (tyN d).bind fun t => (kitB t n).bind fun a => (kitB t m).map fun b => .bl (a || b)
section
variable {cl : CTab} {md : Bool} {W : WX} {X : Cx}
theorem de_isi {a : Expr} {f : Env → M B D} {n : String} {x : Str} {p p2 pos : Pos} (ha : DE cl B md W X a f) (hg : Gl X "isinstance") (hm : X.mg "isinstance" = none) (hgx : Gl X x) (hmx : X.mg x = none) (hv : bootBuiltins x = some (.type n))
    (hn : x ≠ "__name__" := by decide) (hd : (x == ("__debug__" : Str)) = false := by decide)
    (he : starEach [a, .Name x p2] X.env = (false, eval a X.env) :: starEach [.Name x p2] X.env := by rfl) (hpl : (backTo pos (starEach [.Name x p2] X.env)).any (·.1) = false := by rfl) :
    DE cl B md W X (.Call (.Name "isinstance" p) [a, .Name x p2] [] pos) fun ρ => M.bind (f ρ) fun x => lift (isD n x) := by
  refine PE.weak (pe_callB call_isiY hg hm boot_isinstance (pa_cons ha (pa_cons (pe_bltn (v := .ty n) hgx hmx hv rfl hn hd) pa_nil) he) (by decide) (by decide) he hpl) fun σ H Q ⟨Z, C, s, ρ, w, e, p⟩ => ?_
  refine ⟨Z, C, s, ρ, w, e, Post.seq w.ch p fun dx s1 x Z1 C1 H1 w1 n1 r1 p1 => ?_⟩
  obtain ⟨d, hd, q⟩ := post_lift w1 p1
  unfold isD at hd
  cases ht : tyN dx with
  | none => rw [ht] at hd; cases hd
  | some t =>
    rw [ht] at hd
    obtain ⟨b, h1, h2⟩ := Option.map_eq_some_iff.mp hd
    subst h2
    exact ⟨x, .ty n, .type t, .type n, b, rfl, .ty n, ty_rep w1.zh r1 ht, kit_ty h1, q _ Z1 H1 (.refl w1.zh) (.bl _)⟩
theorem de_isi2 {a : Expr} {f : Env → M B D} {n m : String} {x y : Str} {k : Nat} {p p2 p3 p4 pos : Pos} (ha : DE cl B md W X a f) (hg : Gl X "isinstance") (hm : X.mg "isinstance" = none) (hgx : Gl X x) (hmx : X.mg x = none) (hv : bootBuiltins x = some (.type n))
    (hgy : Gl X y) (hmy : X.mg y = none) (hvy : bootBuiltins y = some (.type m)) (hn : x ≠ "__name__" := by decide) (hd : (x == ("__debug__" : Str)) = false := by decide) (hny : y ≠ "__name__" := by decide) (hdy : (y == ("__debug__" : Str)) = false := by decide)
    (he : starEach [a, .Tuple [.Name x p2, .Name y p3] k p4] X.env = (false, eval a X.env) :: starEach [.Tuple [.Name x p2, .Name y p3] k p4] X.env := by rfl) (hpl : (backTo pos (starEach [.Tuple [.Name x p2, .Name y p3] k p4] X.env)).any (·.1) = false := by rfl) :
    DE cl B md W X (.Call (.Name "isinstance" p) [a, .Tuple [.Name x p2, .Name y p3] k p4] [] pos) fun ρ => M.bind (f ρ) fun x => lift (isD2 n m x) := by
  refine PE.weak (pe_callB call_isiTY hg hm boot_isinstance (pa_cons ha (pa_cons (pe_tup (pa_cons (pe_bltn (v := .ty n) hgx hmx hv rfl hn hd) (pa_cons (pe_bltn (v := .ty m) hgy hmy hvy rfl hny hdy) pa_nil))) pa_nil) he) (by decide) (by decide) he hpl) fun σ H Q ⟨Z, C, s, ρ, w, e, p⟩ => ?_
  refine ⟨Z, C, s, ρ, w, e, Post.seq w.ch p fun dx s1 x Z1 C1 H1 w1 n1 r1 p1 => ?_⟩
  obtain ⟨d, hd, q⟩ := post_lift w1 p1
  unfold isD2 at hd
  cases ht : tyN dx with
  | none => rw [ht] at hd; cases hd
  | some t =>
    rw [ht] at hd
    have hd' : (kitB t n).bind (fun a => (kitB t m).map fun b => D.bl (a || b)) = some d := hd
    cases hb1 : kitB t n with
    | none => rw [hb1] at hd'; cases hd'
    | some b1 =>
      rw [hb1] at hd'
      obtain ⟨b2, h1, h2⟩ := Option.map_eq_some_iff.mp (show (kitB t m).map (fun b => D.bl (b1 || b)) = some d from hd')
      subst h2
      refine ⟨by show 2 ≤ sizeLine; decide, fun u hu => ?_⟩
      have al : Al Z1 H1 Z1 (upd H1 u (.tup [.ty n, .ty m])) := by
        refine ⟨.refl _, Sub.upd hu, w1.zh.trans (Sub.upd hu), fun _ e => .inl e, rfl⟩
      refine ⟨x, u, [.ty n, .ty m], .type t, [.type n, .type m], b1 || b2, rfl, upd_same, .cons (.ty n) (.cons (.ty m) .nil), ty_rep al.zh r1 ht, ?_, q _ Z1 _ al (.bl _)⟩
      refine kitAny_cons (kit_ty hb1) (fun e => ?_) (fun e => by rw [e]; rfl)
      rw [e]
      exact kitAny_cons (kit_ty h1) (fun e => by rw [e]; exact kitAny_nil) (fun e => by rw [e]; rfl)
def spD (K : PySem.W.Frag) (cl : CTab) (B : Sto) (n : Nat) (f : List D → M B D) : Sp := fun vs H Q E =>
  ∃ Z C s ds, Wd B true Z C H s ∧ RepL K cl Z vs ds ∧ ds.length = n ∧ Post K cl true (RpD K cl) (fun c dx _ H' => E c dx H') [] Z C H (f ds s) Q
theorem spD_len {K : PySem.W.Frag} {n : Nat} {f : List D → M B D} {ps : List Str} (hn : ps.length = n) : ∀ vs H Q E, spD K cl B n f vs H Q E → vs.length = ps.length := by
  rintro vs H Q E ⟨Z, C, s, ds, _, r, l, _⟩
  rw [r.len, l, hn]
theorem de_call {k n : Nat} {g : Addr} {fd : FuncData} {ps : List Str} {f : List D → M B D} {x : Str} {e : Expr} {es : List Expr} {fa : Env → M B (List D)} {p pos : Pos} (F : FnOk X.prog X.w X.K X.mg X.base (L2.CX X.prog X.w) k g fd ps (spD X.K cl B n f)) (hr : Room k X.A)
    (hg : Gl X x) (hm : X.mg x = some (.ref g)) (hk : PySem.W.keepIn X.K (.ref g) = true) (hb : Binds X.K fd ps []) (tk : Takes X W) (ha : DA cl B true W X (e :: es) fa) (hn : (e :: es).length = n)
    (hdb : (x == ("__debug__" : Str)) = false := by decide) (he : starEach (e :: es) X.env = (false, eval e X.env) :: starEach es X.env := by rfl) (hpl : (backTo pos (starEach es X.env)).any (·.1) = false := by rfl) :
    DE cl B true W X (.Call (.Name x p) (e :: es) [] pos) fun ρ => M.bind (fa ρ) f := by
  refine PE.weak (pe_callS F hr hg hm hk hb (fun σ => passAt tk σ) ha hdb he hpl) fun σ H Q ⟨Z, C, s, ρ, w, e, p⟩ => ?_
  refine ⟨Z, C, s, ρ, w, e, Post.seq w.ch p fun dxs s1 xs Z1 C1 H1 w1 n1 r1 p1 => ?_⟩
  refine ⟨Z1, C1, s1, dxs, w1, r1.1, r1.2.trans hn, ?_⟩
  cases hf : f dxs s1 with
  | ok d s2 => rw [hf] at p1; exact p1
  | err x s2 => rw [hf] at p1; exact p1
  | stuck => rw [hf] at p1; exact p1
end
abbrev Asg := List (Nat × D)
def setsE (ρ : Env) (as : Asg) : Env := as.foldl (fun ρ p => ρ.set p.1 (some p.2)) ρ
def setsV (σ : L2.St) (vs : List (Nat × V)) : L2.St := vs.foldl (fun σ p => σ.set p.1 (some p.2)) σ
def AsgR (K : PySem.W.Frag) (cl : CTab) (Z : Zp) : Asg → List (Nat × V) → Prop
  | [], [] => True
  | (i, d) :: as, (j, v) :: vs => i = j ∧ Rep K cl Z v d ∧ AsgR K cl Z as vs
  | _, _ => False
section
variable {K : PySem.W.Frag} {cl : CTab} {Z : Zp}
theorem AsgR.append : ∀ {as bs : Asg} {vs ws : List (Nat × V)}, AsgR K cl Z as vs → AsgR K cl Z bs ws → AsgR K cl Z (as ++ bs) (vs ++ ws)
  | [], _, [], _, _, h => h
  | (i, d) :: as, _, (j, v) :: vs, _, ⟨a, b, c⟩, h => ⟨a, b, AsgR.append c h⟩
  | [], _, _ :: _, _, h, _ => False.elim h
  | _ :: _, _, [], _, h, _ => False.elim h
end
section
variable (K : PySem.W.Frag) (cl : CTab)
def tDG (a : D → Option Asg) : TG := fun v σ H Q => ∃ (Z : Zp) (d : D) (as : Asg), Sub Z H ∧ Rep K cl Z v d ∧ a d = some as ∧ ∀ vs, AsgR K cl Z as vs → Q (setsV σ vs) H
def tDGs (a : List D → Option Asg) : TGs := fun vs σ H Q => ∃ (Z : Zp) (ds : List D) (as : Asg), Sub Z H ∧ RepL K cl Z vs ds ∧ a ds = some as ∧ ∀ ws, AsgR K cl Z as ws → Q (setsV σ ws) H
end
def DG (cl : CTab) (X : Cx) (tg : Expr) (a : D → Option Asg) : Prop := PG X tg (tDG X.K cl a)
def DGs (cl : CTab) (X : Cx) (tgs : List Expr) (a : List D → Option Asg) : Prop := PGs X tgs (tDGs X.K cl a)
theorem PG.weak {X : Cx} {e : Expr} {t t' : TG} (h : PG X e t) (w : ∀ v σ H Q, t' v σ H Q → t v σ H Q) : PG X e t' := ⟨fun pins s σ H v u Q I r q => h.run pins s σ H v u Q I r (w v σ H Q q)⟩
theorem PGs.weak {X : Cx} {e : List Expr} {t t' : TGs} (h : PGs X e t) (w : ∀ v σ H Q, t' v σ H Q → t v σ H Q) : PGs X e t' := ⟨fun pins s σ H v u Q I r q => h.run pins s σ H v u Q I r (w v σ H Q q)⟩
theorem wipe_set {σ : L2.St} {i : Nat} {o : Option V} : ∀ {own : List Nat}, i ∈ own → wipe (σ.set i o) own = wipe σ own
  | [], h => by simp at h
  | j :: r, h => by
    unfold wipe
    by_cases e : i ∈ r
    · rw [wipe_set e]
    · have e2 : i = j := by
        rcases List.mem_cons.mp h with z | z
        · exact z
        · exact absurd z e
      subst e2
      have c : ∀ (l : List Nat) (τ : L2.St), i ∉ l → wipe (τ.set i o) l = (wipe τ l).set i o := by
        intro l
        induction l with
        | nil => intro τ _; rfl
        | cons a l ih =>
          intro τ hn
          simp only [List.mem_cons, not_or] at hn
          unfold wipe
          rw [ih τ hn.2]
          exact List.set_comm _ _ (fun z => hn.1 z)
      rw [c r σ e, List.set_set]
theorem wipe_sets {own : List Nat} : ∀ (vs : List (Nat × V)) (σ : L2.St), (∀ p ∈ vs, p.1 ∈ own) → wipe (setsV σ vs) own = wipe σ own
  | [], _, _ => rfl
  | p :: vs, σ, h => by
    show wipe (setsV (σ.set p.1 (some p.2)) vs) own = wipe σ own
    rw [wipe_sets vs _ (fun q hq => h q (List.mem_cons_of_mem _ hq)), wipe_set (h p List.mem_cons_self)]
theorem asgR_mem {K : PySem.W.Frag} {cl : CTab} {Z : Zp} {own : List Nat} : ∀ {as : Asg} {vs : List (Nat × V)}, AsgR K cl Z as vs → (∀ p ∈ as, p.1 ∈ own) → ∀ p ∈ vs, p.1 ∈ own
  | [], [], _, _, p, hp => by simp at hp
  | (i, d) :: as, (j, v) :: vs, ⟨a, b, c⟩, h, p, hp => by
    rcases List.mem_cons.mp hp with rfl | hp
    · subst a; exact h _ List.mem_cons_self
    · exact asgR_mem c (fun q hq => h q (List.mem_cons_of_mem _ hq)) p hp
  | [], _ :: _, h, _, _, _ => False.elim h
  | _ :: _, [], h, _, _, _ => False.elim h
def aName (i : Nat) : D → Option Asg := fun d => some [(i, d)]
def aNil : List D → Option Asg
  | [] => some []
  | _ => none
def aCons (a : D → Option Asg) (b : List D → Option Asg) : List D → Option Asg
  | d :: ds => (a d).bind fun x => (b ds).map fun y => x ++ y
  | [] => none
def aTup (b : List D → Option Asg) : D → Option Asg
  | .tup ds => b ds
  | _ => none
theorem EnvR.set {K : PySem.W.Frag} {cl : CTab} {Z : Zp} {ρ : Env} {σ : L2.St} {i : Nat} {v : V} {d : D} (e : EnvR K cl Z ρ σ) (r : Rep K cl Z v d) : EnvR K cl Z (ρ.set i (some d)) (σ.set i (some v)) := by
  refine ⟨by simp [e.len], fun j d' q => ?_⟩
  by_cases hj : i = j
  · subst hj
    by_cases hl : i < ρ.length
    · rw [List.getElem?_set_self hl] at q
      cases q
      exact ⟨v, List.getElem?_set_self (by rw [← e.len]; exact hl), r⟩
    · rw [List.getElem?_eq_none (by simpa using hl)] at q
      cases q
  · rw [List.getElem?_set_ne hj] at q
    obtain ⟨v', h1, h2⟩ := e.get j d' q
    exact ⟨v', by rw [List.getElem?_set_ne hj]; exact h1, h2⟩
theorem EnvR.sets {K : PySem.W.Frag} {cl : CTab} {Z : Zp} : ∀ {as : Asg} {vs : List (Nat × V)} {ρ : Env} {σ : L2.St}, EnvR K cl Z ρ σ → AsgR K cl Z as vs → EnvR K cl Z (setsE ρ as) (setsV σ vs)
  | [], [], _, _, e, _ => e
  | (i, d) :: as, (j, v) :: vs, ρ, σ, e, ⟨a, b, c⟩ => by
    subst a
    show EnvR K cl Z (setsE (ρ.set i (some d)) as) (setsV (σ.set i (some v)) vs)
    exact EnvR.sets (e.set b) c
  | [], _ :: _, _, _, _, h => False.elim h
  | _ :: _, [], _, _, _, h => False.elim h
section
variable {cl : CTab} {X : Cx}
theorem dg_name {i : Nat} {x : Str} {pos : Pos} (hN : X.N.Nodup) (hi : X.N[i]? = some x) (hx : Loc X.env.scope x) (hf : X.fn x = true ∨ X.env.scope.names.lookup x = some .local := by first | exact .inl rfl | exact .inr rfl | assumption) :
    DG cl X (.Name x pos) (aName i) :=
  PG.weak (pg_name hN hi hx hf) fun v σ H Q ⟨Z, d, as, h, r, e, q⟩ => by
    cases e
    exact q [(i, v)] ⟨rfl, r, trivial⟩
theorem dgs_nil : DGs cl X [] aNil :=
  PGs.weak pgs_nil fun vs σ H Q ⟨Z, ds, as, h, r, e, q⟩ => by
    cases ds with
    | nil => cases r; cases e; exact ⟨rfl, q [] trivial⟩
    | cons d ds => cases e
theorem dgs_cons {e : Expr} {es : List Expr} {b : D → Option Asg} {bs : List D → Option Asg} (h : DG cl X e b) (t : DGs cl X es bs) (ha : (assignEach (e :: es) X.env).map (·.2) = assign e X.env :: (assignEach es X.env).map (·.2) := by rfl) : DGs cl X (e :: es) (aCons b bs) :=
  PGs.weak (pgs_cons h t ha) fun vs σ H Q ⟨Z, ds, as, hz, r, e, q⟩ => by
    cases ds with
    | nil => cases e
    | cons d ds =>
      cases r with
      | cons r1 r2 =>
        have e' : (b d).bind (fun x => (bs ds).map fun y => x ++ y) = some as := e
        cases hb : b d with
        | none => rw [hb] at e'; cases e'
        | some x =>
          rw [hb] at e'
          obtain ⟨y, h1, h2⟩ := Option.map_eq_some_iff.mp (show (bs ds).map (fun y => x ++ y) = some as from e')
          subst h2
          refine ⟨_, _, rfl, Z, d, x, hz, r1, hb, fun vs1 a1 => ⟨Z, ds, y, hz, r2, h1, fun vs2 a2 => ?_⟩⟩
          have := q (vs1 ++ vs2) (a1.append a2)
          unfold setsV at this ⊢
          rw [List.foldl_append] at this
          exact this
theorem dg_tup {es : List Expr} {k : Nat} {pos : Pos} {bs : List D → Option Asg} (hc : X.calm = true) (h : DGs cl X es bs) (hb : ∀ ds as, bs ds = some as → ds.length = es.length) (hn : (assignEach es X.env).length = es.length := by rfl)
    (hst : (assignEach es X.env).findIdx? (·.1) = none := by rfl) : DG cl X (.Tuple es k pos) (aTup bs) :=
  PG.weak (pg_tup hc h hn hst) fun v σ H Q ⟨Z, d, as, hz, r, e, q⟩ => by
    cases d <;> (unfold aTup at e; try (cases e; done))
    cases r with
    | tup a b c => exact ⟨_, _, rfl, sq_t (hz _ _ a), by rw [c.len]; exact hb _ _ e, Z, _, as, hz, c, e, q⟩
end
theorem aNil_len : ∀ ds as, aNil ds = some as → ds.length = 0 := by
  intro ds as h
  cases ds with
  | nil => rfl
  | cons => cases h
theorem aCons_len {b : D → Option Asg} {bs : List D → Option Asg} {n : Nat} (h : ∀ ds as, bs ds = some as → ds.length = n) : ∀ ds as, aCons b bs ds = some as → ds.length = n + 1 := by
  intro ds as e
  cases ds with
  | nil => cases e
  | cons d ds =>
    have e' : (b d).bind (fun x => (bs ds).map fun y => x ++ y) = some as := e
    cases hb : b d with
    | none => rw [hb] at e'; cases e'
    | some x =>
      rw [hb] at e'
      obtain ⟨y, h1, _⟩ := Option.map_eq_some_iff.mp (show (bs ds).map (fun y => x ++ y) = some as from e')
      rw [List.length_cons, h ds y h1]
def TgIn (own : List Nat) (a : D → Option Asg) : Prop := ∀ d as, a d = some as → ∀ p ∈ as, p.1 ∈ own
def TgsIn (own : List Nat) (a : List D → Option Asg) : Prop := ∀ ds as, a ds = some as → ∀ p ∈ as, p.1 ∈ own
theorem in_name {own : List Nat} {i : Nat} (h : i ∈ own) : TgIn own (aName i) := fun d as e p hp => by
  cases e
  rw [List.mem_singleton.mp hp]; exact h
theorem in_nil {own : List Nat} : TgsIn own aNil := fun ds as e p hp => by
  cases ds with
  | nil => cases e; simp at hp
  | cons => cases e
theorem in_cons {own : List Nat} {a : D → Option Asg} {b : List D → Option Asg} (h : TgIn own a) (t : TgsIn own b) : TgsIn own (aCons a b) := fun ds as e p hp => by
  cases ds with
  | nil => cases e
  | cons d ds =>
    have e' : (a d).bind (fun x => (b ds).map fun y => x ++ y) = some as := e
    cases hb : a d with
    | none => rw [hb] at e'; cases e'
    | some x =>
      rw [hb] at e'
      obtain ⟨y, h1, h2⟩ := Option.map_eq_some_iff.mp (show (b ds).map (fun y => x ++ y) = some as from e')
      subst h2
      rcases List.mem_append.mp hp with q | q
      · exact h d x hb p q
      · exact t ds y h1 p q
theorem in_tup {own : List Nat} {b : List D → Option Asg} (t : TgsIn own b) : TgIn own (aTup b) := fun d as e p hp => by
  cases d <;> (unfold aTup at e; try (cases e; done))
  exact t _ as e p hp
end DN
namespace DN
open PySem PySem.Spec PyProof.Rows L2 RZ ND
variable {B : Sto}
def YIt (K : PySem.W.Frag) (cl : CTab) (Z : Zp) (ds : List D) : Nat → Hp → V → Hp → Prop := fun i H x H' => ∃ d, ds[i]? = some d ∧ ∀ Zc, SubZ Z Zc → Sub Zc H → ∃ Zc', Al Zc H Zc' H' ∧ Rep K cl Zc' x d
def ItR (K : PySem.W.Frag) (cl : CTab) (Z : Zp) (J : It) (ds : List D) : Prop := Walk J ds.length (fun H => Sub Z.h H) (YIt K cl Z ds) ∧ ds.length ≤ sizeLine
abbrev RpI (K : PySem.W.Frag) (cl : CTab) : Zp → It → List D → Prop := fun Z J ds => ItR K cl Z J ds
def DI (cl : CTab) (B : Sto) (md : Bool) (W : WX) (X : Cx) (tg e : Expr) (f : Env → M B (List D)) : Prop := PI X tg e (tG X.K cl B md (RpI X.K cl) W f)
theorem PI.weak {X : Cx} {tg e : Expr} {t t' : TI} (h : PI X tg e t) (w : ∀ σ H Q, t' σ H Q → t σ H Q) : PI X tg e t' := ⟨fun pins s σ H Q I q => h.run pins s σ H Q I (w σ H Q q)⟩
theorem PI.or {X : Cx} {tg e : Expr} {t t' : TI} (h : PI X tg e t) (h' : PI X tg e t') : PI X tg e (fun σ H Q => t σ H Q ∨ t' σ H Q) :=
  ⟨fun pins s σ H Q I q => q.elim (h.run pins s σ H Q I) (h'.run pins s σ H Q I)⟩
section
variable {K : PySem.W.Frag} {cl : CTab} {Z : Zp}
theorem it_list {a : Addr} {vs : List V} {ds : List D} (h : SqR K Z.h a vs) (hz : vs.length ≤ sizeLine) (r : RepL K cl Z vs ds) : ItR K cl Z (Itl K a) ds := by
  refine ⟨?_, by rw [← r.len]; exact hz⟩
  rw [← r.len]
  refine walk_list.mono (fun H s => SqL.sub s h) fun i H x H' hi s ⟨e, q⟩ => ?_
  obtain ⟨d, h1, h2⟩ := r.getV q
  refine ⟨d, h1, fun Zc a b => ⟨Zc, by rw [e]; exact .refl b, h2.mono a⟩⟩
theorem it_tup {a : Addr} {vs : List V} {ds : List D} (h : Z a = some (.tup vs)) (hz : vs.length ≤ sizeLine) (r : RepL K cl Z vs ds) : ItR K cl Z (Itt K a) ds := by
  refine ⟨?_, by rw [← r.len]; exact hz⟩
  rw [← r.len]
  refine walk_tup.mono (fun H s => sq_t (K := K) (s _ _ h)) fun i H x H' hi s ⟨e, q⟩ => ?_
  obtain ⟨d, h1, h2⟩ := r.getV q
  refine ⟨d, h1, fun Zc a b => ⟨Zc, by rw [e]; exact .refl b, h2.mono a⟩⟩
theorem it_str {z : Str} (hz : z.length ≤ sizeLine) (ok : PyData.strOk z = true) : ItR K cl Z (Its z) (z.cps.toList.map fun c => .str ⟨#[c]⟩) := by
  refine ⟨?_, by rw [List.length_map, Array.length_toList]; exact hz⟩
  rw [List.length_map, Array.length_toList]
  refine walk_str.mono (fun H s => trivial) fun i H x H' hi s ⟨e, c, q, hx⟩ => ?_
  have q' : z.cps.toList[i]? = some c := by simpa using q
  refine ⟨.str ⟨#[c]⟩, by rw [List.getElem?_map, q']; rfl, fun Zc a b => ⟨Zc, by rw [e]; exact .refl b, ?_⟩⟩
  rw [hx]
  exact .str (by show 1 ≤ sizeLine; decide) (strOk_one ok (List.mem_of_getElem? q'))
theorem it_range {lo : Int} {n : Nat} (hz : n ≤ sizeLine) : ItR K cl Z (Itr lo n) ((List.range n).map fun i : Nat => .int (lo + (i : Int))) := by
  refine ⟨?_, by rw [List.length_map, List.length_range]; exact hz⟩
  rw [List.length_map, List.length_range]
  refine walk_range.mono (fun H s => trivial) fun i H x H' hi s ⟨e, hx⟩ => ?_
  refine ⟨.int (lo + (i : Int)), by rw [List.getElem?_map, List.getElem?_range hi]; rfl, fun Zc a b => ⟨Zc, by rw [e]; exact .refl b, ?_⟩⟩
  rw [hx]; exact .int _
def zipL : List D → List D → List D
  | x :: xs, y :: ys => .tup [x, y] :: zipL xs ys
  | _, _ => []
end
end DN
namespace DN
open PySem PySem.Spec PyProof.Rows L2 RZ ND
variable {B : Sto}
abbrev tupI (x : D) : Option (List D) := match x with
  | .tup xs => some xs
  | _ => none
abbrev listI (x : D) : Option (List D) := match x with
  | .lst xs => some xs
  | _ => none
abbrev strI (x : D) : Option (List D) := match x with
  | .str z => some (z.cps.toList.map fun c => .str ⟨#[c]⟩)
  | _ => none
abbrev anyI (x : D) : Option (List D) := match x with
  | .tup xs => some xs
  | .lst xs => some xs
  | .str z => some (z.cps.toList.map fun c => .str ⟨#[c]⟩)
  | _ => none
abbrev zipI (x y : D) : Option (List D) := match x, y with
  | .tup xs, .tup ys => some (zipL xs ys)
  | .lst xs, .lst ys => some (zipL xs ys)
  | _, _ => none
section
variable {cl : CTab} {md : Bool} {W : WX} {X : Cx} {tg : Expr}
theorem di_tup {e : Expr} {f : Env → M B D} (h : DE cl B md W X e f) : DI cl B md W X tg e fun ρ => M.bind (f ρ) fun x => lift (tupI x) := by
  refine PI.weak (pi_tup h) fun σ H Q ⟨Z, C, s, ρ, w, e, p⟩ => ?_
  refine ⟨Z, C, s, ρ, w, e, Post.seq w.ch p fun dx s1 x Z1 C1 H1 w1 n1 r1 p1 => ?_⟩
  obtain ⟨ds, hd, q⟩ := post_liftG w1 p1
  cases dx <;> (try (cases hd; done))
  cases hd
  cases r1 with
  | tup a b c => exact ⟨_, rfl, ⟨_, sq_t (w1.zh _ _ a)⟩, q _ (it_tup a b c)⟩
theorem di_list {e : Expr} {f : Env → M B D} (h : DE cl B md W X e f) : DI cl B md W X tg e fun ρ => M.bind (f ρ) fun x => lift (listI x) := by
  refine PI.weak (pi_list h) fun σ H Q ⟨Z, C, s, ρ, w, e, p⟩ => ?_
  refine ⟨Z, C, s, ρ, w, e, Post.seq w.ch p fun dx s1 x Z1 C1 H1 w1 n1 r1 p1 => ?_⟩
  obtain ⟨ds, hd, q⟩ := post_liftG w1 p1
  cases dx <;> (try (cases hd; done))
  cases hd
  cases r1 with
  | slst a b c => exact ⟨_, rfl, ⟨_, SqL.sub w1.zh a⟩, q _ (it_list a b c)⟩
theorem di_str {e : Expr} {f : Env → M B D} (h : DE cl B md W X e f) : DI cl B md W X tg e fun ρ => M.bind (f ρ) fun x => lift (strI x) := by
  refine PI.weak (pi_str h) fun σ H Q ⟨Z, C, s, ρ, w, e, p⟩ => ?_
  refine ⟨Z, C, s, ρ, w, e, Post.seq w.ch p fun dx s1 x Z1 C1 H1 w1 n1 r1 p1 => ?_⟩
  obtain ⟨ds, hd, q⟩ := post_liftG w1 p1
  cases dx <;> (try (cases hd; done))
  cases hd
  cases r1 with
  | str a b => exact ⟨_, rfl, q _ (it_str a b)⟩
theorem di_any {e : Expr} {f : Env → M B D} (h : DE cl B md W X e f) : DI cl B md W X tg e fun ρ => M.bind (f ρ) fun x => lift (anyI x) := by
  refine PI.weak (PI.or (di_tup (tg := tg) h) (PI.or (di_list (tg := tg) h) (di_str (tg := tg) h))) fun σ H Q ⟨Z, C, s, ρ, w, e, p⟩ => ?_
  cases ef : f ρ s with
  | stuck => refine .inl ⟨Z, C, s, ρ, w, e, ?_⟩; unfold M.bind at p ⊢; simp only [ef] at p ⊢; exact p
  | err x s1 => refine .inl ⟨Z, C, s, ρ, w, e, ?_⟩; unfold M.bind at p ⊢; simp only [ef] at p ⊢; exact p
  | ok d s1 =>
    cases d with
    | lst xs => refine .inr (.inl ⟨Z, C, s, ρ, w, e, ?_⟩); unfold M.bind at p ⊢; simp only [ef] at p ⊢; exact p
    | str xs => refine .inr (.inr ⟨Z, C, s, ρ, w, e, ?_⟩); unfold M.bind at p ⊢; simp only [ef] at p ⊢; exact p
    | tup xs => refine .inl ⟨Z, C, s, ρ, w, e, ?_⟩; unfold M.bind at p ⊢; simp only [ef] at p ⊢; exact p
    | _ => refine .inl ⟨Z, C, s, ρ, w, e, ?_⟩; unfold M.bind at p ⊢; simp only [ef] at p ⊢; exact p
def range1 : D → Option (List D)
  | .int j => if -100000 ≤ j ∧ j ≤ 100000 then some ((List.range j.toNat).map fun i : Nat => .int (i : Int)) else none
  | _ => none
def range2 : D → D → Option (List D)
  | .int i, .int j => if -100000 ≤ i ∧ i ≤ 100000 ∧ -100000 ≤ j ∧ j ≤ 100000 then some ((List.range (j - i).toNat).map fun k : Nat => .int (i + (k : Int))) else none
  | _, _ => none
theorem toNat_small {j : Int} (h : j ≤ 200000) : j.toNat ≤ sizeLine := by rw [sizeLine_eq]; omega
theorem di_range1 {a : Expr} {f : Env → M B D} {p pos : Pos} (hg : Gl X "range") (hm : X.mg "range" = none) (ha : DE cl B md W X a f) (hs : starEach [a] X.env = [(false, eval a X.env)] := by rfl) :
    DI cl B md W X tg (.Call (.Name "range" p) [a] [] pos) fun ρ => M.bind (f ρ) fun x => lift (range1 x) := by
  refine PI.weak (pi_range1 hg hm (pa_cons ha pa_nil hs) hs) fun σ H Q ⟨Z, C, s, ρ, w, e, p⟩ => ?_
  refine ⟨Z, C, s, ρ, w, e, Post.seq w.ch p fun dx s1 x Z1 C1 H1 w1 n1 r1 p1 => ?_⟩
  obtain ⟨ds, hd, q⟩ := post_liftG w1 p1
  unfold range1 at hd
  split at hd
  · split at hd <;> cases hd
    rename_i j hj
    cases r1
    refine ⟨j, rfl, by omega, by omega, ?_⟩
    have := it_range (K := X.K) (cl := cl) (Z := Z1) (lo := 0) (n := j.toNat) (toNat_small (by omega))
    have e0 : ((List.range j.toNat).map fun i : Nat => D.int (0 + (i : Int))) = (List.range j.toNat).map fun i : Nat => D.int (i : Int) := List.map_congr_left fun i _ => by rw [Int.zero_add]
    rw [e0] at this
    exact q _ this
  · cases hd
theorem di_range2 {a b : Expr} {f g : Env → M B D} {p pos : Pos} (hg : Gl X "range") (hm : X.mg "range" = none) (ha : DE cl B md W X a f) (hb : DE cl B md W X b g) (hs : starEach [a, b] X.env = [(false, eval a X.env), (false, eval b X.env)] := by rfl) (hs2 : starEach [b] X.env = [(false, eval b X.env)] := by rfl) :
    DI cl B md W X tg (.Call (.Name "range" p) [a, b] [] pos) fun ρ => M.bind (f ρ) fun x => M.bind (g ρ) fun y => lift (range2 x y) := by
  refine PI.weak (pi_range2 hg hm (pa_cons ha (pa_cons hb pa_nil hs2) (hs.trans (by rw [hs2]))) hs hs2) fun σ H Q ⟨Z, C, s, ρ, w, e, p⟩ => ?_
  refine ⟨Z, C, s, ρ, w, e, Post.seq w.ch p fun dx s1 x Z1 C1 H1 w1 n1 r1 p1 => ?_⟩
  refine ⟨Z1, C1, s1, ρ, w1, e.mono n1.zz, Post.seq w1.ch p1 fun dy s2 y Z2 C2 H2 w2 n2 r2 p2 => ?_⟩
  obtain ⟨ds, hd, q⟩ := post_liftG w2 p2
  unfold range2 at hd
  split at hd
  · split at hd <;> cases hd
    rename_i i j hj
    cases r1; cases r2
    exact ⟨i, j, rfl, by omega, q _ (it_range (toNat_small (by omega)))⟩
  · cases hd
end
end DN
namespace DN
open PySem PySem.Spec PyProof.Rows L2 RZ ND
variable {B : Sto}
def OwnR (K : PySem.W.Frag) (cl : CTab) (Z : Zp) (H : Hp) (a : Addr) : D → Prop
  | .lst ds => ∃ vs, H a = some (.lst vs) ∧ vs.length ≤ sizeLine ∧ RepL K cl Z vs ds
  | .dct ks ds => ∃ (o : HO) (kvs : List (GK × V)), H a = some o ∧ DKV cl Z.h a o kvs ∧ ks = kvs.map (fun p => keyD p.1) ∧ KNd kvs ∧ RepL K cl Z (kvs.map (·.2)) ds
  | .ins c ds => ∃ (C dx : Addr) (fs : List (Str × V)) (names : List Str), cl c = some (C, names) ∧ H a = some (.ins C dx fs) ∧ fs.map (·.1) = names.take ds.length ∧ RepL K cl Z (fs.map (·.2)) ds
  | _ => False
theorem OwnR.move {K : PySem.W.Frag} {cl : CTab} {Z Z' : Zp} {H H' : Hp} {a : Addr} (h : SubZ Z Z') (hh : ∀ o, H a = some o → H' a = some o) : ∀ {d : D}, OwnR K cl Z H a d → OwnR K cl Z' H' a d
  | .lst ds, ⟨vs, a, b, c⟩ => ⟨vs, hh _ a, b, c.mono h⟩
  | .dct ks ds, ⟨o, vs, a, b, c, d, e⟩ => ⟨o, vs, hh _ a, b.mono fun _ _ q => h.h _ _ q, c, d, e.mono h⟩
  | .ins c ds, ⟨C, dx, fs, ns, a, b, c1, e⟩ => ⟨C, dx, fs, ns, a, hh _ b, c1, e.mono h⟩
theorem OwnR.mono {K : PySem.W.Frag} {cl : CTab} {Z Z' : Zp} {H : Hp} {a : Addr} (h : SubZ Z Z') {d : D} (o : OwnR K cl Z H a d) : OwnR K cl Z' H a d := o.move h fun _ e => e
section
variable {K : PySem.W.Frag} {cl : CTab} {md : Bool} {W : WX} {σ : L2.St} {Z Z1 : Zp} {C H C1 H1 : Hp}
def PostO (K : PySem.W.Frag) (cl : CTab) (md : Bool) (W : WX) (σ : L2.St) (Z : Zp) (C H : Hp) (r : Res B.T D) (Q : VK) : Prop :=
  match r with
  | .ok d s => ∀ a Z' C' H', Wd B md Z' C' H' s → Nx Z C H Z' C' H' → H a = none → Z' a = none → C' a = none → OwnR K cl Z' H' a d → Q (.ref a) H'
  | .err x s => ∀ c dx Z' C' H', Wd B md Z' C' H' s → Nx Z C H Z' C' H' → ExR K cl Z' C' x c dx H' → W c dx σ H'
  | .stuck => False
theorem Nx.back (n : Nx Z C H Z1 C1 H1) (c1 : Sub C1 H1) {a : Addr} (h : H1 a = none) : H a = none := by
  cases q : H a with
  | none => rfl
  | some o =>
    cases c : C a with
    | none => rw [n.hh a o q c] at h; cases h
    | some u =>
      obtain ⟨u1, e1⟩ := ne_some (n.cp a (some_ne c))
      rw [c1 a u1 e1] at h; cases h
theorem PostO.step {r : Res B.T D} {Q : VK} (n : Nx Z C H Z1 C1 H1) (c0 : Sub C H) (c1 : Sub C1 H1) (h : PostO K cl md W σ Z C H r Q) : PostO K cl md W σ Z1 C1 H1 r Q := by
  cases r with
  | ok a s => exact fun v Z' C' H' w m f => h v Z' C' H' w (n.trans c0 c1 m) (n.back c1 f)
  | err x s => exact fun c dx Z' C' H' w m => h c dx Z' C' H' w (n.trans c0 c1 m)
  | stuck => exact h
theorem PostO.seq {υ α : Type} {Rp : Zp → υ → α → Prop} {m : M B α} {k : α → M B D} {s : B.T} {Q : VK} {Q1 : υ → Hp → Prop} (c0 : Sub C H) (h : PostO K cl md W σ Z C H (M.bind m k s) Q)
    (hk : ∀ a s1 v Z1 C1 H1, Wd B md Z1 C1 H1 s1 → Nx Z C H Z1 C1 H1 → Rp Z1 v a → PostO K cl md W σ Z1 C1 H1 (k a s1) Q → Q1 v H1) : Post K cl md Rp W σ Z C H (m s) Q1 := by
  unfold M.bind at h
  cases e : m s with
  | ok a s1 =>
    rw [e] at h
    exact fun v Z1 C1 H1 w n r => hk a s1 v Z1 C1 H1 w n r (PostO.step n c0 w.ch h)
  | err x s1 =>
    rw [e] at h
    exact h
  | stuck =>
    rw [e] at h
    exact h
theorem Nx.own (n : Nx Z C H Z1 C1 H1) {a : Addr} {o : HO} (h : H a = some o) (z : Z a = none) (c : C a = none) : H1 a = some o ∧ Z1 a = none ∧ C1 a = none := by
  refine ⟨n.hh a o h c, ?_, ?_⟩
  · cases q : Z1 a with
    | none => rfl
    | some u =>
      rcases n.zf a (some_ne q) with e | e
      · exact absurd z e
      · rw [h] at e; cases e
  · cases q : C1 a with
    | none => rfl
    | some u =>
      rcases n.cf a (some_ne q) with e | e
      · exact absurd c e
      · rw [h] at e; cases e
theorem Wd.mut {s : B.T} (w : Wd B md Z C H s) {a : Addr} {o : HO} (z : Z a = none) (c : C a = none) : Wd B md Z C (upd H a o) s :=
  ⟨fun x u e => by rw [upd_ne (ne_of_none e z)]; exact w.zh x u e, fun x u e => by rw [upd_ne (ne_of_none e c)]; exact w.ch x u e, w.dj, w.sr⟩
theorem Nx.mut (n : Nx Z C H Z1 C1 H1) {a : Addr} {o : HO} (h : H a = none) : Nx Z C H Z1 C1 (upd H1 a o) :=
  ⟨n.zz, fun x u e c => by rw [upd_ne (ne_of_none e h)]; exact n.hh x u e c, n.zf, n.cf, n.cp, n.lk⟩
end
section
variable (cl : CTab) (B : Sto) (md : Bool) (W : WX) (X : Cx)
def tO (f : Env → M B D) : TE := fun σ H Q => ∃ Z C s ρ, Wd B md Z C H s ∧ EnvR X.K cl Z ρ σ ∧ PostO X.K cl md W σ Z C H (f ρ s) Q
def DX (e : Expr) (f : Env → M B D) : Prop := PE X e (tO cl B md W X f)
end
theorem PE.imp {X : Cx} {e : Expr} {t : TE} (h : PE X e t) : PE X e t := h
section
variable {cl : CTab} {md : Bool} {W : WX} {X : Cx}
theorem own_core {f : Env → M B D} (hl : ∀ ρ s d s', f ρ s = .ok d s' → ∃ ds, d = .lst ds) {σ : L2.St} {H : Hp} {Q : VK} (h : tG X.K cl B md (RpD X.K cl) W f σ H Q) : tO cl B md W X f σ H Q := by
  obtain ⟨Z, C, s, ρ, w, e, p⟩ := h
  refine ⟨Z, C, s, ρ, w, e, ?_⟩
  cases ef : f ρ s with
  | ok d s1 =>
    obtain ⟨ds, rfl⟩ := hl ρ s d s1 ef
    rw [ef] at p
    rintro a Z1 C1 H1 w1 n1 ha hz hc ⟨vs, h1, h2, h3⟩
    have z1 : SubZ Z1 (upz Z1 a (.lst vs)) := SubZ.upd hz
    refine p (.ref a) (upz Z1 a (.lst vs)) C1 H1 ⟨fun x u e => ?_, w1.ch, fun x e => ?_, B.mono w1.sr (z1.imm rfl)⟩ ⟨n1.zz.trans z1, n1.hh, fun x e => ?_, n1.cf, n1.cp, n1.lk⟩ (.lst upd_same h2 (h3.mono z1))
    · by_cases hx : x = a
      · subst hx; rw [upz_same] at e; cases e; exact h1
      · rw [upz_ne hx] at e; exact w1.zh x u e
    · by_cases hx : x = a
      · subst hx; exact absurd hc e
      · rw [upz_ne hx]; exact w1.dj x e
    · by_cases hx : x = a
      · subst hx; exact .inr ha
      · rw [upz_ne hx] at e; exact n1.zf x e
  | err x s1 => rw [ef] at p; exact p
  | stuck => rw [ef] at p; exact p
theorem de_of_list {e : Expr} {f : Env → M B D} (h : DX cl B md W X e f) (hl : ∀ ρ s d s', f ρ s = .ok d s' → ∃ ds, d = .lst ds) : DE cl B md W X e f := PE.weak h fun σ H Q q => own_core hl q
theorem dx_lst {es : List Expr} {pos : Pos} {f : Env → M B (List D)} (h : DA cl B md W X es f) (hn : es.length ≤ 1000 := by decide) :
    DX cl B md W X (.List es pos) fun ρ => M.bind (f ρ) fun xs => M.pure (.lst xs) := by
  refine PE.weak (pe_lst h) fun σ H Q ⟨Z, C, s, ρ, w, e, p⟩ => ?_
  refine ⟨Z, C, s, ρ, w, e, PostO.seq w.ch p fun ds s1 xs Z1 C1 H1 w1 n1 r1 p1 => ?_⟩
  have hlen : xs.length ≤ sizeLine := by rw [r1.1.len, r1.2, sizeLine_eq]; omega
  refine ⟨hlen, fun q hq => ?_⟩
  have z := none_of_sub w1.zh hq
  have c := none_of_sub w1.ch hq
  exact p1 q Z1 C1 _ (w1.mut z c) ((Nx.refl ..).mut hq) hq z c ⟨xs, upd_same, hlen, r1.1⟩
theorem de_lst {es : List Expr} {pos : Pos} {f : Env → M B (List D)} (h : DA cl B md W X es f) (hn : es.length ≤ 1000 := by decide) :
    DE cl B md W X (.List es pos) fun ρ => M.bind (f ρ) fun xs => M.pure (.lst xs) :=
  de_of_list (dx_lst h hn) fun ρ s d s' e => by
    unfold M.bind at e
    cases ef : f ρ s with
    | ok a s1 => simp only [ef] at e; cases e; exact ⟨_, rfl⟩
    | err x s1 => simp only [ef] at e; cases e
    | stuck => simp only [ef] at e; cases e
end
def noErr {α : Type} (m : M B α) : M B α := fun s => match m s with
  | .ok a s' => .ok a s'
  | _ => .stuck
def consO {α : Type} : Option α → List α → List α
  | some a, r => a :: r
  | none, r => r
def compL {α β : Type} (f : α → M B (Option β)) : List α → M B (List β)
  | [] => M.pure []
  | d :: ds => M.bind (f d) fun o => M.bind (compL f ds) fun r => M.pure (consO o r)
def compF (a : D → Option Asg) (t : Env → M B Bool) (e : Env → M B D) (ρ : Env) (d : D) : M B (Option D) :=
  noErr (M.bind (lift ((a d).map (setsE ρ))) fun ρ' => M.bind (t ρ') fun k => if k = true then M.bind (e ρ') fun x => M.pure (some x) else M.pure none)
def wipeE (ρ : Env) : List Nat → Env
  | [] => ρ
  | v :: vs => (wipeE ρ vs).set v none
theorem EnvR.wipe {K : PySem.W.Frag} {cl : CTab} {Z : Zp} {ρ : Env} {σ : L2.St} (e : EnvR K cl Z ρ σ) : ∀ own : List Nat, EnvR K cl Z (wipeE ρ own) (L2.wipe σ own)
  | [] => e
  | v :: vs => by
    have ih := EnvR.wipe e vs
    refine ⟨by simp [wipeE, L2.wipe, ih.len], fun i d q => ?_⟩
    by_cases hi : v = i
    · subst hi
      unfold wipeE at q
      by_cases hl : v < (wipeE ρ vs).length
      · rw [List.getElem?_set_self hl] at q; cases q
      · rw [List.getElem?_eq_none (by simpa using hl)] at q; cases q
    · unfold wipeE at q
      rw [List.getElem?_set_ne hi] at q
      obtain ⟨u, h1, h2⟩ := ih.get i d q
      exact ⟨u, by unfold L2.wipe; rw [List.getElem?_set_ne hi]; exact h1, h2⟩
abbrev W0 : WX := fun _ _ _ _ => False
def DTs (cl : CTab) (B : Sto) (md : Bool) (X : Cx) (ifs : List Expr) (t : Env → M B Bool) : Prop := PTs X ifs (tG X.K cl B md RpE W0 t)
theorem PTs.weak {X : Cx} {e : List Expr} {t t' : TT} (h : PTs X e t) (w : ∀ σ H Q, t' σ H Q → t σ H Q) : PTs X e t' := ⟨fun pins s σ H Q I q => h.run pins s σ H Q I (w σ H Q q)⟩
theorem dts_nil {cl : CTab} {md : Bool} {X : Cx} : DTs cl B md X [] (fun _ => M.pure true) := PTs.weak pts_nil fun σ H Q ⟨Z, C, s, ρ, w, e, p⟩ => p true Z C H w (.refl ..) rfl
theorem dts_one {cl : CTab} {md : Bool} {X : Cx} {c : Expr} {t : Env → M B Bool} (h : DT cl B md W0 X c t) : DTs cl B md X [c] t := pts_one h
theorem wipe_none {τ : L2.St} {a : Nat} : ∀ (m : List Nat), a ∈ m → (L2.wipe τ m).set a none = L2.wipe τ m
  | [], h => by simp at h
  | c :: m, h => by
    show ((L2.wipe τ m).set c none).set a none = (L2.wipe τ m).set c none
    by_cases hac : a = c
    · subst hac; rw [List.set_set]
    · rw [List.set_comm _ _ (fun z => hac z.symm), wipe_none m ((List.mem_cons.mp h).resolve_left hac)]
theorem wipe_sub {τ : L2.St} {m : List Nat} : ∀ (l : List Nat), (∀ x ∈ l, x ∈ m) → L2.wipe (L2.wipe τ m) l = L2.wipe τ m
  | [], _ => rfl
  | a :: l, h => by
    show (L2.wipe (L2.wipe τ m) l).set a none = L2.wipe τ m
    rw [wipe_sub l (fun x hx => h x (List.mem_cons_of_mem _ hx))]
    exact wipe_none m (h a List.mem_cons_self)
theorem compL_step {α β γ : Type} {f : α → M B (Option β)} {d : α} {ds : List α} {k : List β → M B γ} {s : B.T} : M.bind (compL f (d :: ds)) k s = (match f d s with
    | .ok o s' => M.bind (compL f ds) (fun r => k (consO o r)) s'
    | .err x s' => .err x s'
    | .stuck => .stuck) := by
  simp only [compL, M.bind]
  cases f d s with
  | ok o s' =>
    simp only
    cases compL f ds s' <;> rfl
  | err x s' => rfl
  | stuck => rfl
section
variable {cl : CTab} {md : Bool} {W : WX} {X : Cx}
theorem comp_rest {own : List (Str × Nat)} {b : D → Option Asg} {t : Env → M B Bool} {fe : Env → M B D} (hin : TgIn (own.map (·.2)) b) {σ : L2.St} {Q : VK} {Z1 : Zp} {C1 H1 : Hp} {s1 : B.T} {ρ : Env} {J : It} {ds : List D}
    (w1 : Wd B md Z1 C1 H1 s1) (e1 : EnvR X.K cl Z1 ρ σ) (r1 : ItR X.K cl Z1 J ds) (p1 : PostO X.K cl md W σ Z1 C1 H1 (M.bind (compL (compF b t fe (wipeE ρ (own.map (·.2)))) ds) (fun r => M.pure (D.lst r)) s1) Q) :
    tLc (fun _ _ R => R J H1) (tDG X.K cl b) (tG X.K cl B md RpE W0 t) (tG X.K cl B md (RpD X.K cl) W0 fe) (own.map (·.2)) σ H1 Q := by
  intro Dd hD
  have zD := none_of_sub w1.zh hD
  have cD := none_of_sub w1.ch hD
  refine lc_it r1.1 (fun i H => ∃ Zi Ci si vacc acc, Wd B md Zi Ci H si ∧ Nx Z1 C1 H1 Zi Ci H ∧ H Dd = some (.lst vacc) ∧ Zi Dd = none ∧ Ci Dd = none ∧ RepL X.K cl Zi vacc acc ∧ vacc.length ≤ i ∧ PostO X.K cl md W σ Z1 C1 H1 (M.bind (compL (compF b t fe (wipeE ρ (own.map (·.2)))) (ds.drop i)) (fun r => M.pure (.lst (acc ++ r))) si) Q)
    ⟨Z1, C1, s1, [], [], w1.mut zD cD, (Nx.refl ..).mut hD, upd_same, zD, cD, .nil, Nat.le_refl _, by simpa using p1⟩ (fun i H hi ⟨Zi, Ci, si, vacc, acc, wi, ni, _⟩ => ni.zz.to wi.zh) ?_ ?_
  · rintro i x H2 H2' hi ⟨Zi, Ci, si, vacc, acc, wi, ni, hDi, zi, ci, ri, li, pi⟩ ⟨d, hd, hy⟩
    obtain ⟨Zc, al, rx⟩ := hy Zi ni.zz wi.zh
    have hdr : ds.drop i = d :: ds.drop (i + 1) := by
      have hlt : i < ds.length := hi
      rw [List.drop_eq_getElem_cons hlt]
      have : ds[i] = d := by
        rw [List.getElem?_eq_getElem hlt] at hd
        exact Option.some.inj hd
      rw [this]
    rw [hdr, compL_step] at pi
    have wc := al.wd wi
    have nc := ni.trans w1.ch wi.ch al.nx
    have hDc : H2' Dd = some (.lst vacc) := al.hh _ _ hDi
    have zc : Zc Dd = none := by
      cases q : Zc Dd with
      | none => rfl
      | some u =>
        rcases al.zf Dd (some_ne q) with z | z
        · exact absurd zi z
        · rw [hDi] at z; cases z
    -- what the turn does
    have ew := (e1.mono (ni.zz.trans al.zz)).wipe (own.map (·.2))
    cases hb : b d with
    | none =>
      exfalso
      have hf : compF b t fe (wipeE ρ (own.map (·.2))) d si = .stuck := by simp only [compF, M.bind, noErr, lift, hb, Option.map_none]
      rw [hf] at pi
      exact pi
    | some as =>
      refine ⟨Zc, d, as, wc.zh, rx, hb, fun vs2 a2 => ?_⟩
      have e2 := ew.sets a2
      generalize hρ' : setsE (wipeE ρ (own.map (·.2))) as = ρ' at e2
      have wσ : L2.wipe (setsV (L2.wipe σ (own.map (·.2))) vs2) (own.map (·.2)) = L2.wipe σ (own.map (·.2)) := by
        rw [wipe_sets vs2 _ (asgR_mem a2 (hin d as hb))]
        exact wipe_sub _ (fun _ h => h)
      refine ⟨wσ, Zc, Ci, si, ρ', wc, e2, ?_⟩
      cases et : t ρ' si with
      | stuck =>
        exfalso
        have hf : compF b t fe (wipeE ρ (own.map (·.2))) d si = .stuck := by simp only [compF, M.bind, noErr, lift, M.pure, hb, Option.map_some, hρ', et]
        rw [hf] at pi
        exact pi
      | err xx s2 =>
        exfalso
        have hf : compF b t fe (wipeE ρ (own.map (·.2))) d si = .stuck := by simp only [compF, M.bind, noErr, lift, M.pure, hb, Option.map_some, hρ', et]
        rw [hf] at pi
        exact pi
      | ok k s2 =>
        rintro k' Z3 C3 H3 w3 n3 rfl
        have n3' := nc.trans w1.ch wc.ch n3
        obtain ⟨hD3, z3, c3⟩ := n3.own hDc zc ci
        cases k' with
        | false =>
          refine ⟨Z3, C3, s2, vacc, acc, w3, n3', hD3, z3, c3, (ri.mono al.zz).mono n3.zz, Nat.le_succ_of_le li, ?_⟩
          have hf : compF b t fe (wipeE ρ (own.map (·.2))) d si = .ok none s2 := by simp [compF, M.bind, noErr, lift, M.pure, hb, hρ', et]
          rw [hf] at pi
          exact pi
        | true =>
          refine ⟨Z3, C3, s2, ρ', w3, e2.mono n3.zz, ?_⟩
          cases ee : fe ρ' s2 with
          | stuck =>
            exfalso
            have hf : compF b t fe (wipeE ρ (own.map (·.2))) d si = .stuck := by simp [compF, M.bind, noErr, lift, M.pure, hb, hρ', et, ee]
            rw [hf] at pi
            exact pi
          | err xx s3 =>
            exfalso
            have hf : compF b t fe (wipeE ρ (own.map (·.2))) d si = .stuck := by simp [compF, M.bind, noErr, lift, M.pure, hb, hρ', et, ee]
            rw [hf] at pi
            exact pi
          | ok y s3 =>
            intro vy Z4 C4 H4 w4 n4 ry
            obtain ⟨hD4, z4, c4⟩ := n4.own hD3 z3 c3
            have n4' := n3'.trans w1.ch w3.ch n4
            have lz : vacc.length < sizeLine := Nat.lt_of_le_of_lt li (Nat.lt_of_lt_of_le hi r1.2)
            refine ⟨vacc, hD4, lz, Z4, C4, s3, vacc ++ [vy], acc ++ [y], w4.mut z4 c4, n4'.mut hD, upd_same, z4, c4, (((ri.mono al.zz).mono n3.zz).mono n4.zz).append (.cons ry .nil), by rw [List.length_append]; simpa using li, ?_⟩
            have hf : compF b t fe (wipeE ρ (own.map (·.2))) d si = .ok (some y) s3 := by simp [compF, M.bind, noErr, lift, M.pure, hb, hρ', et, ee]
            rw [hf] at pi
            simpa [consO] using pi
  · rintro H2 ⟨Zi, Ci, si, vacc, acc, wi, ni, hDi, zi, ci, ri, li, pi⟩
    rw [List.drop_length] at pi
    have pi' : PostO X.K cl md W σ Z1 C1 H1 (.ok (.lst (acc ++ [])) si) Q := pi
    rw [List.append_nil] at pi'
    exact pi' Dd Zi Ci H2 wi ni hD zi ci ⟨vacc, hDi, Nat.le_trans li r1.2, ri⟩
theorem comp_core {own : List (Str × Nat)} {src : Env → M B (List D)} {b : D → Option Asg} {t : Env → M B Bool} {fe : Env → M B D} (hin : TgIn (own.map (·.2)) b) {σ : L2.St} {H : Hp} {Q : VK}
    (h : tO cl B md W X (fun ρ => M.bind (src ρ) fun ds => M.bind (compL (compF b t fe (wipeE ρ (own.map (·.2)))) ds) fun r => M.pure (D.lst r)) σ H Q) :
    tLc (tG X.K cl B md (RpI X.K cl) W src) (tDG X.K cl b) (tG X.K cl B md RpE W0 t) (tG X.K cl B md (RpD X.K cl) W0 fe) (own.map (·.2)) σ H Q := by
  obtain ⟨Z, C, s, ρ, w, e, p⟩ := h
  exact ⟨Z, C, s, ρ, w, e, PostO.seq w.ch p fun ds s1 J Z1 C1 H1 w1 n1 r1 p1 => comp_rest hin w1 (e.mono n1.zz) r1 p1⟩
theorem dx_comp {elt tg iter : Expr} {ifs : List Expr} {scope : Scope} {own : List (Str × Nat)} {pos : Pos} {src : Env → M B (List D)} {b : D → Option Asg} {t : Env → M B Bool} {fe : Env → M B D} (hc : X.calm = true) (hN : X.N.Nodup)
    (hi : DI cl B md W X tg iter src) (ok : BlkOk X.N X.env.scope scope own)
    (hg : ∀ (s : Shared) (H : Hp) (C : Addr) (cs : List (Str × Addr)) (fp : List Addr), DG cl (X.blk s H scope (compEnvC scope cs C X.env) fp) tg b) (hin : TgIn (own.map (·.2)) b)
    (ht : ∀ (s : Shared) (H : Hp) (C : Addr) (cs : List (Str × Addr)) (fp : List Addr), DTs cl B md (X.blk s H scope (compEnvC scope cs C X.env) fp) ifs t)
    (he : ∀ (s : Shared) (H : Hp) (C : Addr) (cs : List (Str × Addr)) (fp : List Addr), DE cl B md W0 (X.blk s H scope (compEnvC scope cs C X.env) fp) elt fe) (hs : ∀ x, foldedSetIterable iter X.env x = pure x := by intro _; rfl) :
    DX cl B md W X (.ListComp elt [⟨tg, iter, ifs, 0⟩] scope pos) fun ρ => M.bind (src ρ) fun ds => M.bind (compL (compF b t fe (wipeE ρ (own.map (·.2)))) ds) fun r => M.pure (.lst r) :=
  PE.weak (pe_lc (g := tDG X.K cl b) (tt := tG X.K cl B md RpE W0 t) (te := tG X.K cl B md (RpD X.K cl) W0 fe) hc hN hi ok hg ht he hs) fun σ H Q q => comp_core hin q
theorem comp_list {own : List (Str × Nat)} {src : Env → M B (List D)} {b : D → Option Asg} {t : Env → M B Bool} {fe : Env → M B D} : ∀ (ρ : Env) (s : B.T) (d : D) (s' : B.T), (fun ρ => M.bind (src ρ) fun ds => M.bind (compL (compF b t fe (wipeE ρ (own.map (·.2)))) ds) fun r => M.pure (D.lst r) : Env → M B D) ρ s = .ok d s' → ∃ ds, d = D.lst ds := fun ρ s d s' e => by
    unfold M.bind at e
    cases ef : src ρ s with
    | ok a s1 =>
      simp only [ef] at e
      cases eg : compL (compF b t fe (wipeE ρ (own.map (·.2)))) a s1 with
      | ok r s2 => simp only [eg] at e; cases e; exact ⟨_, rfl⟩
      | err x s2 => simp only [eg] at e; cases e
      | stuck => simp only [eg] at e; cases e
    | err x s1 => simp only [ef] at e; cases e
    | stuck => simp only [ef] at e; cases e
theorem de_comp {elt tg iter : Expr} {ifs : List Expr} {scope : Scope} {own : List (Str × Nat)} {pos : Pos} {src : Env → M B (List D)} {b : D → Option Asg} {t : Env → M B Bool} {fe : Env → M B D} (hc : X.calm = true) (hN : X.N.Nodup)
    (hi : DI cl B md W X tg iter src) (ok : BlkOk X.N X.env.scope scope own)
    (hg : ∀ (s : Shared) (H : Hp) (C : Addr) (cs : List (Str × Addr)) (fp : List Addr), DG cl (X.blk s H scope (compEnvC scope cs C X.env) fp) tg b) (hin : TgIn (own.map (·.2)) b)
    (ht : ∀ (s : Shared) (H : Hp) (C : Addr) (cs : List (Str × Addr)) (fp : List Addr), DTs cl B md (X.blk s H scope (compEnvC scope cs C X.env) fp) ifs t)
    (he : ∀ (s : Shared) (H : Hp) (C : Addr) (cs : List (Str × Addr)) (fp : List Addr), DE cl B md W0 (X.blk s H scope (compEnvC scope cs C X.env) fp) elt fe) (hs : ∀ x, foldedSetIterable iter X.env x = pure x := by intro _; rfl) :
    DE cl B md W X (.ListComp elt [⟨tg, iter, ifs, 0⟩] scope pos) fun ρ => M.bind (src ρ) fun ds => M.bind (compL (compF b t fe (wipeE ρ (own.map (·.2)))) ds) fun r => M.pure (.lst r) :=
  de_of_list (dx_comp hc hN hi ok hg hin ht he hs) comp_list
end
end DN
namespace DN
open PySem PySem.Spec PyProof.Rows L2 RZ ND
variable {B : Sto}
abbrev D.mt (d : D) : D := .ins "" [d]
def D.isMut : D → Bool
  | .ins c _ => decide (c = "")
  | _ => false
def D.strip : D → D
  | .ins c [.lst ds] => if c = "" then .lst (ds.attach.map fun x => D.strip x.1) else .ins c [.lst ds]
  | .ins c [.dct ks ds] => if c = "" then .dct ks (ds.attach.map fun x => D.strip x.1) else .ins c [.dct ks ds]
  | d => d
termination_by d => sizeOf d
decreasing_by
  all_goals
    have := List.sizeOf_lt_of_mem x.2
    simp
    omega
abbrev D.stripL (ds : List D) : List D := ds.map D.strip
theorem strip_lst {ds : List D} : (D.mt (.lst ds)).strip = .lst (D.stripL ds) := by
  rw [D.strip, if_pos rfl]
  simp
theorem strip_dct {ks ds : List D} : (D.mt (.dct ks ds)).strip = .dct ks (D.stripL ds) := by
  rw [D.strip, if_pos rfl]
  simp
theorem strip_leaf {d : D} (h : d.isMut = false) : d.strip = d := by
  unfold D.strip
  split
  · rename_i c ds
    have : ¬ c = "" := by simpa [D.isMut] using h
    rw [if_neg this]
  · rename_i c ks ds
    have : ¬ c = "" := by simpa [D.isMut] using h
    rw [if_neg this]
  · rfl
theorem stripL_leaf {ds : List D} (h : ∀ d ∈ ds, d.isMut = false) : D.stripL ds = ds :=
  (List.map_congr_left fun d hd => strip_leaf (h d hd)).trans (List.map_id' ds)
mutual
inductive OwnT (K : PySem.W.Frag) (cl : CTab) (Z : Zp) (H : Hp) : (Addr → Prop) → V → D → Prop
  | leaf {F : Addr → Prop} {v : V} {d : D} : d.isMut = false → Rep K cl Z v d → OwnT K cl Z H F v d
  | lst {F : Addr → Prop} {a : Addr} {vs : List V} {ds : List D} : F a → H a = some (.lst vs) → vs.length ≤ sizeLine → OwnTL K cl Z H (fun x => F x ∧ x ≠ a) vs ds → OwnT K cl Z H F (.ref a) (.ins "" [.lst ds])
  | dct {F : Addr → Prop} {a : Addr} {o : HO} {kvs : List (GK × V)} {ks ds : List D} : F a → H a = some o → DKV cl Z.h a o kvs → ks = kvs.map (fun p => keyD p.1) → KNd kvs → OwnTL K cl Z H (fun x => F x ∧ x ≠ a) (kvs.map (·.2)) ds →
      OwnT K cl Z H F (.ref a) (.ins "" [.dct ks ds])
inductive OwnTL (K : PySem.W.Frag) (cl : CTab) (Z : Zp) (H : Hp) : (Addr → Prop) → List V → List D → Prop
  | nil {F : Addr → Prop} : OwnTL K cl Z H F [] []
  | cons {F F1 F2 : Addr → Prop} {v : V} {vs : List V} {d : D} {ds : List D} : (∀ x, F1 x → F x) → (∀ x, F2 x → F x) → (∀ x, F1 x → F2 x → False) → OwnT K cl Z H F1 v d → OwnTL K cl Z H F2 vs ds → OwnTL K cl Z H F (v :: vs) (d :: ds)
end
section
variable {K : PySem.W.Frag} {cl : CTab} {Z Z' : Zp} {H H' : Hp}
theorem own_move (h : SubZ Z Z') :
    (∀ {F : Addr → Prop} {v : V} {d : D}, OwnT K cl Z H F v d → (∀ x o, F x → H x = some o → H' x = some o) → OwnT K cl Z' H' F v d) ∧
    (∀ {F : Addr → Prop} {vs : List V} {ds : List D}, OwnTL K cl Z H F vs ds → (∀ x o, F x → H x = some o → H' x = some o) → OwnTL K cl Z' H' F vs ds) := by
  let m1 : ∀ (F : Addr → Prop) (v : V) (d : D), OwnT K cl Z H F v d → Prop := fun F v d _ => (∀ x o, F x → H x = some o → H' x = some o) → OwnT K cl Z' H' F v d
  let m2 : ∀ (F : Addr → Prop) (vs : List V) (ds : List D), OwnTL K cl Z H F vs ds → Prop := fun F vs ds _ => (∀ x o, F x → H x = some o → H' x = some o) → OwnTL K cl Z' H' F vs ds
  have c1 : ∀ {F : Addr → Prop} {v : V} {d : D} (i : d.isMut = false) (r : Rep K cl Z v d), m1 F v d (.leaf i r) := fun i r _ => .leaf i (r.mono h)
  have c2 : ∀ {F : Addr → Prop} {a : Addr} {vs : List V} {ds : List D} (fa : F a) (ha : H a = some (.lst vs)) (l : vs.length ≤ sizeLine) (t : OwnTL K cl Z H (fun x => F x ∧ x ≠ a) vs ds), m2 _ _ _ t → m1 F (.ref a) (.ins "" [.lst ds]) (.lst fa ha l t) :=
    fun fa ha l t ih hh => .lst fa (hh _ _ fa ha) l (ih fun x o q => hh x o q.1)
  have c3 : ∀ {F : Addr → Prop} {a : Addr} {o : HO} {kvs : List (GK × V)} {ks ds : List D} (fa : F a) (ha : H a = some o) (dk : DKV cl Z.h a o kvs) (e : ks = kvs.map (fun p => keyD p.1)) (n : KNd kvs) (t : OwnTL K cl Z H (fun x => F x ∧ x ≠ a) (kvs.map (·.2)) ds), m2 _ _ _ t → m1 F (.ref a) (.ins "" [.dct ks ds]) (.dct fa ha dk e n t) :=
    fun fa ha dk e n t ih hh => .dct fa (hh _ _ fa ha) (dk.mono fun _ _ q => h.h _ _ q) e n (ih fun x o q => hh x o q.1)
  have c4 : ∀ {F : Addr → Prop}, m2 F [] [] .nil := fun _ => .nil
  have c5 : ∀ {F F1 F2 : Addr → Prop} {v : V} {vs : List V} {d : D} {ds : List D} (a : ∀ x, F1 x → F x) (b : ∀ x, F2 x → F x) (c : ∀ x, F1 x → F2 x → False) (o : OwnT K cl Z H F1 v d) (t : OwnTL K cl Z H F2 vs ds), m1 _ _ _ o → m2 _ _ _ t → m2 F (v :: vs) (d :: ds) (.cons a b c o t) :=
    fun a b c o t i1 i2 hh => .cons a b c (i1 fun x o q => hh x o (a x q)) (i2 fun x o q => hh x o (b x q))
  exact ⟨fun o => OwnT.rec (motive_1 := m1) (motive_2 := m2) c1 c2 c3 c4 c5 o, fun o => OwnTL.rec (motive_1 := m1) (motive_2 := m2) c1 c2 c3 c4 c5 o⟩
theorem OwnT.move (h : SubZ Z Z') {F : Addr → Prop} {v : V} {d : D} (o : OwnT K cl Z H F v d) (hh : ∀ x o, F x → H x = some o → H' x = some o) : OwnT K cl Z' H' F v d := (own_move h).1 o hh
theorem OwnTL.move (h : SubZ Z Z') {F : Addr → Prop} {vs : List V} {ds : List D} (o : OwnTL K cl Z H F vs ds) (hh : ∀ x o, F x → H x = some o → H' x = some o) : OwnTL K cl Z' H' F vs ds := (own_move h).2 o hh
theorem own_rep (h : SubZ Z Z') :
    (∀ {F : Addr → Prop} {v : V} {d : D}, OwnT K cl Z H F v d → (∀ x o, F x → H x = some o → Z' x = some o) → Rep K cl Z' v d.strip) ∧
    (∀ {F : Addr → Prop} {vs : List V} {ds : List D}, OwnTL K cl Z H F vs ds → (∀ x o, F x → H x = some o → Z' x = some o) → RepL K cl Z' vs (D.stripL ds)) := by
  let m1 : ∀ (F : Addr → Prop) (v : V) (d : D), OwnT K cl Z H F v d → Prop := fun F v d _ => (∀ x o, F x → H x = some o → Z' x = some o) → Rep K cl Z' v d.strip
  let m2 : ∀ (F : Addr → Prop) (vs : List V) (ds : List D), OwnTL K cl Z H F vs ds → Prop := fun F vs ds _ => (∀ x o, F x → H x = some o → Z' x = some o) → RepL K cl Z' vs (D.stripL ds)
  have c1 : ∀ {F : Addr → Prop} {v : V} {d : D} (i : d.isMut = false) (r : Rep K cl Z v d), m1 F v d (.leaf i r) := fun i r _ => by rw [strip_leaf i]; exact r.mono h
  have c2 : ∀ {F : Addr → Prop} {a : Addr} {vs : List V} {ds : List D} (fa : F a) (ha : H a = some (.lst vs)) (l : vs.length ≤ sizeLine) (t : OwnTL K cl Z H (fun x => F x ∧ x ≠ a) vs ds), m2 _ _ _ t → m1 F (.ref a) (.ins "" [.lst ds]) (.lst fa ha l t) :=
    fun fa ha l t ih hh => by rw [strip_lst]; exact .lst (hh _ _ fa ha) l (ih fun x o q => hh x o q.1)
  have c3 : ∀ {F : Addr → Prop} {a : Addr} {o : HO} {kvs : List (GK × V)} {ks ds : List D} (fa : F a) (ha : H a = some o) (dk : DKV cl Z.h a o kvs) (e : ks = kvs.map (fun p => keyD p.1)) (n : KNd kvs) (t : OwnTL K cl Z H (fun x => F x ∧ x ≠ a) (kvs.map (·.2)) ds), m2 _ _ _ t → m1 F (.ref a) (.ins "" [.dct ks ds]) (.dct fa ha dk e n t) :=
    fun fa ha dk e n t ih hh => by rw [strip_dct]; exact .dct (.inl (hh _ _ fa ha)) (dk.mono fun _ _ q => h.h _ _ q) e n (ih fun x o q => hh x o q.1)
  have c4 : ∀ {F : Addr → Prop}, m2 F [] [] .nil := fun _ => .nil
  have c5 : ∀ {F F1 F2 : Addr → Prop} {v : V} {vs : List V} {d : D} {ds : List D} (a : ∀ x, F1 x → F x) (b : ∀ x, F2 x → F x) (c : ∀ x, F1 x → F2 x → False) (o : OwnT K cl Z H F1 v d) (t : OwnTL K cl Z H F2 vs ds), m1 _ _ _ o → m2 _ _ _ t → m2 F (v :: vs) (d :: ds) (.cons a b c o t) :=
    fun a b c o t i1 i2 hh => .cons (i1 fun x o q => hh x o (a x q)) (i2 fun x o q => hh x o (b x q))
  exact ⟨fun o => OwnT.rec (motive_1 := m1) (motive_2 := m2) c1 c2 c3 c4 c5 o, fun o => OwnTL.rec (motive_1 := m1) (motive_2 := m2) c1 c2 c3 c4 c5 o⟩
theorem OwnT.rep (h : SubZ Z Z') {F : Addr → Prop} {v : V} {d : D} (o : OwnT K cl Z H F v d) (hh : ∀ x o, F x → H x = some o → Z' x = some o) : Rep K cl Z' v d.strip := (own_rep h).1 o hh
theorem OwnTL.len : ∀ {vs : List V} {F : Addr → Prop} {ds : List D}, OwnTL K cl Z H F vs ds → vs.length = ds.length
  | [], _, _, o => by cases o; rfl
  | v :: vs, _, _, o => by
    cases o with
    | cons a b c d e => simp [OwnTL.len e]
theorem OwnTL.ofRep {F : Addr → Prop} : ∀ {vs : List V} {ds : List D}, (∀ d ∈ ds, d.isMut = false) → RepL K cl Z vs ds → OwnTL K cl Z H F vs ds
  | [], _, _, r => by cases r; exact .nil
  | v :: vs, _, h, r => by
    cases r with
    | cons a b => exact .cons (F1 := fun _ => False) (F2 := F) (fun _ q => q.elim) (fun _ q => q) (fun _ q _ => q) (.leaf (h _ List.mem_cons_self) a) (OwnTL.ofRep (fun d hd => h d (List.mem_cons_of_mem _ hd)) b)
theorem OwnTL.snoc {F2 : Addr → Prop} {v : V} {d : D} (o : OwnT K cl Z H F2 v d) : ∀ {vs : List V} {F : Addr → Prop} {ds : List D}, (∀ x, F x → F2 x → False) → OwnTL K cl Z H F vs ds → OwnTL K cl Z H (fun x => F x ∨ F2 x) (vs ++ [v]) (ds ++ [d])
  | [], F, _, dj, t => by
    cases t
    exact .cons (F1 := F2) (F2 := fun _ => False) (fun _ q => .inr q) (fun _ q => q.elim) (fun _ _ q => q) o .nil
  | u :: vs, F, _, dj, t => by
    cases t with
    | cons a b c e f =>
      rename_i F1 F3 d1 ds1
      exact .cons (F1 := F1) (F2 := fun x => F3 x ∨ F2 x) (fun x q => .inl (a x q)) (fun x q => q.elim (fun q => .inl (b x q)) .inr) (fun x q1 q2 => q2.elim (c x q1) (dj x (a x q1))) e (OwnTL.snoc o (fun x q => dj x (b x q)) f)
theorem OwnTL.app {F : Addr → Prop} : ∀ {vs ws : List V} {ds es : List D}, OwnTL K cl Z H F vs ds → (∀ d ∈ es, d.isMut = false) → RepL K cl Z ws es → OwnTL K cl Z H F (vs ++ ws) (ds ++ es) := by
  intro vs
  induction vs generalizing F with
  | nil => intro ws ds es t h r; cases t; exact OwnTL.ofRep h r
  | cons u vs ih =>
    intro ws ds es t h r
    cases t with
    | cons a b c e f => exact .cons a b c e (ih f h r)
theorem OwnTL.at : ∀ {vs : List V} {F : Addr → Prop} {ds : List D} {i : Nat} {d : D}, OwnTL K cl Z H F vs ds → ds[i]? = some d → ∃ (v : V) (F1 : Addr → Prop), vs[i]? = some v ∧ (∀ x, F1 x → F x) ∧ OwnT K cl Z H F1 v d ∧
    ∀ (H' : Hp) (v' : V) (d' : D) (F' : Addr → Prop), (∀ x o, F x → ¬ F1 x → H x = some o → H' x = some o) → OwnT K cl Z H' F' v' d' → (∀ x, F' x → F x → F1 x) → OwnTL K cl Z H' (fun x => F x ∨ F' x) (vs.set i v') (ds.set i d')
  | [], _, _, _, _, t, e => by cases t; simp at e
  | u :: vs, F, _, 0, d, t, e => by
    cases t with
    | cons a b c o f =>
      rename_i F1 F2 d1 ds1
      simp at e
      subst e
      refine ⟨u, F1, rfl, a, o, fun H' v' d' F' hh o' dj => ?_⟩
      exact .cons (F1 := F') (F2 := F2) (fun x q => .inr q) (fun x q => .inl (b x q)) (fun x q1 q2 => c x (dj x q1 (b x q2)) q2) o' (f.move (.refl _) fun x ob q => hh x ob (b x q) fun z => c x z q)
  | u :: vs, F, _, i + 1, d, t, e => by
    cases t with
    | cons a b c o f =>
      rename_i F1 F2 d1 ds1
      obtain ⟨v, F3, h1, h2, h3, h4⟩ := OwnTL.at (i := i) f (by simpa using e)
      refine ⟨v, F3, by simpa using h1, fun x q => b x (h2 x q), h3, fun H' v' d' F' hh o' dj => ?_⟩
      exact .cons (F1 := F1) (F2 := fun x => F2 x ∨ F' x) (fun x q => .inl (a x q)) (fun x q => q.elim (fun q => .inl (b x q)) .inr) (fun x q1 q2 => q2.elim (c x q1) fun q2 => c x q1 (h2 x (dj x q2 (a x q1))))
        (o.move (.refl _) fun x ob q => hh x ob (a x q) fun z => c x q (h2 x z)) (h4 H' v' d' F' (fun x ob q => hh x ob (b x q)) o' fun x q1 q2 => dj x q1 (b x q2))
theorem OwnR.tree {a : Addr} {d : D} (o : OwnR K cl Z H a d) (h : match d with | .lst ds => ∀ e ∈ ds, e.isMut = false | .dct _ ds => ∀ e ∈ ds, e.isMut = false | _ => False) : OwnT K cl Z H (fun x => x = a) (.ref a) (.ins "" [d]) := by
  cases d with
  | lst ds => obtain ⟨vs, h1, h2, h3⟩ := o; exact .lst rfl h1 h2 (.ofRep h h3)
  | dct ks ds => obtain ⟨o, kvs, h1, dk, h2, h3, h4⟩ := o; exact .dct rfl h1 dk h2 h3 (.ofRep h h4)
  | _ => exact False.elim h
end
section
variable {K : PySem.W.Frag} {cl : CTab} {md : Bool} {W : WX} {σ : L2.St} {Z Z1 : Zp} {C H C1 H1 : Hp}
def PostM (K : PySem.W.Frag) (cl : CTab) (md : Bool) (W : WX) (σ : L2.St) (Z : Zp) (C H : Hp) (r : Res B.T D) (Q : VK) : Prop :=
  match r with
  | .ok d s => ∀ v (F : Addr → Prop) Z' C' H', Wd B md Z' C' H' s → Nx Z C H Z' C' H' → (∀ x, F x → H x = none ∧ Z' x = none ∧ C' x = none ∧ ∃ o, H' x = some o ∧ immO o = false) → OwnT K cl Z' H' F v d → Q v H'
  | .err x s => ∀ c dx Z' C' H', Wd B md Z' C' H' s → Nx Z C H Z' C' H' → ExR K cl Z' C' x c dx H' → W c dx σ H'
  | .stuck => False
theorem PostM.step {r : Res B.T D} {Q : VK} (n : Nx Z C H Z1 C1 H1) (c0 : Sub C H) (c1 : Sub C1 H1) (h : PostM K cl md W σ Z C H r Q) : PostM K cl md W σ Z1 C1 H1 r Q := by
  cases r with
  | ok a s => exact fun v F Z' C' H' w m f => h v F Z' C' H' w (n.trans c0 c1 m) fun x hx => ⟨n.back c1 (f x hx).1, (f x hx).2⟩
  | err x s => exact fun c dx Z' C' H' w m => h c dx Z' C' H' w (n.trans c0 c1 m)
  | stuck => exact h
theorem PostM.seq {υ α : Type} {Rp : Zp → υ → α → Prop} {m : M B α} {k : α → M B D} {s : B.T} {Q : VK} {Q1 : υ → Hp → Prop} (c0 : Sub C H) (h : PostM K cl md W σ Z C H (M.bind m k s) Q)
    (hk : ∀ a s1 v Z1 C1 H1, Wd B md Z1 C1 H1 s1 → Nx Z C H Z1 C1 H1 → Rp Z1 v a → PostM K cl md W σ Z1 C1 H1 (k a s1) Q → Q1 v H1) : Post K cl md Rp W σ Z C H (m s) Q1 := by
  unfold M.bind at h
  cases e : m s with
  | ok a s1 =>
    rw [e] at h
    exact fun v Z1 C1 H1 w n r => hk a s1 v Z1 C1 H1 w n r (PostM.step n c0 w.ch h)
  | err x s1 => rw [e] at h; exact h
  | stuck => rw [e] at h; exact h
end
section
variable (cl : CTab) (B : Sto) (md : Bool) (W : WX) (X : Cx)
def tM (f : Env → M B D) : TE := fun σ H Q => ∃ Z C s ρ, Wd B md Z C H s ∧ EnvR X.K cl Z ρ σ ∧ PostM X.K cl md W σ Z C H (f ρ s) Q
def DM (e : Expr) (f : Env → M B D) : Prop := PE X e (tM cl B md W X f)
end
def flatB : D → Bool
  | .lst ds => ds.all fun d => !d.isMut
  | .dct _ ds => ds.all fun d => !d.isMut
  | _ => false
section
variable {cl : CTab} {md : Bool} {W : WX} {X : Cx}
theorem dm_of_dx {e : Expr} {f : Env → M B D} (h : DX cl B md W X e f) : DM cl B md W X e fun ρ => M.bind (f ρ) fun d => guardM (flatB d) (M.pure (.ins "" [d])) := by
  refine PE.weak h fun σ H Q ⟨Z, C, s, ρ, w, e, p⟩ => ⟨Z, C, s, ρ, w, e, ?_⟩
  unfold M.bind at p
  cases ef : f ρ s with
  | stuck => simp only [ef] at p; exact p
  | err x s1 => simp only [ef] at p; exact p
  | ok d s1 =>
    simp only [ef] at p
    intro a Z1 C1 H1 w1 n1 ha hz hc o
    unfold guardM at p
    split at p
    · rename_i hd
      have o2 := o
      refine p (.ref a) (fun x => x = a) Z1 C1 H1 w1 n1 (fun x hx => ?_) (OwnR.tree o ?_)
      · have hx : x = a := hx
        subst hx
        refine ⟨ha, hz, hc, ?_⟩
        cases d with
        | lst ds => obtain ⟨vs, h1, _⟩ := o2; exact ⟨_, h1, rfl⟩
        | dct ks ds => obtain ⟨o, vs, h1, dk, _⟩ := o2; exact ⟨_, h1, by rcases dk with ⟨l, rfl, _⟩ | ⟨l, _, rfl, _⟩ <;> rfl⟩
        | _ => cases hd
      · cases d with
        | lst ds => exact fun e he => by simpa using List.all_eq_true.mp hd e he
        | dct ks ds => exact fun e he => by simpa using List.all_eq_true.mp hd e he
        | _ => cases hd
    · exact False.elim p
end
end DN
namespace DN
open PySem PySem.Spec PyProof.Rows L2 RZ ND
variable {B : Sto}
inductive Sl where
  | no | val (d : D) | own (d : D)
abbrev SEnv := List Sl
inductive Fl where
  | nx (ρ : SEnv) | rt (d : D) | bk (ρ : SEnv) | ct (ρ : SEnv) | ro (d : D)
structure SRel (K : PySem.W.Frag) (cl : CTab) (Z : Zp) (C H H0 : Hp) (ρ : SEnv) (σ : L2.St) (α : Nat → Addr → Prop) : Prop where
  len : ρ.length = σ.length
  val : ∀ (i : Nat) (d : D), ρ[i]? = some (.val d) → ∃ v, σ[i]? = some (some v) ∧ Rep K cl Z v d
  own : ∀ (i : Nat) (d : D), ρ[i]? = some (.own d) → ∃ v, σ[i]? = some (some v) ∧ OwnT K cl Z H (α i) v (.ins "" [d])
  fp : ∀ (i : Nat) (d : D) (x : Addr), ρ[i]? = some (.own d) → α i x → H0 x = none ∧ Z x = none ∧ C x = none ∧ ∃ o, H x = some o ∧ immO o = false
  dj : ∀ (i j : Nat) (d e : D) (x : Addr), ρ[i]? = some (.own d) → ρ[j]? = some (.own e) → α i x → α j x → i = j
def PostS (K : PySem.W.Frag) (cl : CTab) (W : WX) (Z0 : Zp) (C0 H0 : Hp) (r : Res B.T Fl) (E : Ends) : Prop :=
  match r with
  | .ok (.nx ρ) s => ∀ σ Z C H α, Wd B true Z C H s → Nx Z0 C0 H0 Z C H → SRel K cl Z C H H0 ρ σ α → E.nx σ H
  | .ok (.bk ρ) s => ∀ σ Z C H α, Wd B true Z C H s → Nx Z0 C0 H0 Z C H → SRel K cl Z C H H0 ρ σ α → E.bk σ H
  | .ok (.ct ρ) s => ∀ σ Z C H α, Wd B true Z C H s → Nx Z0 C0 H0 Z C H → SRel K cl Z C H H0 ρ σ α → E.ct σ H
  | .ok (.rt d) s => ∀ v Z C H, Wd B true Z C H s → Nx Z0 C0 H0 Z C H → Rep K cl Z v d → E.rt v H
  | .ok (.ro d) s => ∀ v (F : Addr → Prop) Z C H, Wd B true Z C H s → Nx Z0 C0 H0 Z C H → (∀ x, F x → H0 x = none ∧ Z x = none ∧ C x = none ∧ ∃ o, H x = some o ∧ immO o = false) → OwnT K cl Z H F v (.ins "" [d]) → E.rt v H
  | .err x s => ∀ c dx σ Z C H, Wd B true Z C H s → Nx Z0 C0 H0 Z C H → ExR K cl Z C x c dx H → W c dx σ H
  | .stuck => False
def tS (K : PySem.W.Frag) (cl : CTab) (B : Sto) (W : WX) (F : SEnv → M B Fl) : TS := fun E σ H => ∃ Z0 C0 H0 Z C s ρ α, Sub C0 H0 ∧ Wd B true Z C H s ∧ Nx Z0 C0 H0 Z C H ∧ SRel K cl Z C H H0 ρ σ α ∧ PostS K cl W Z0 C0 H0 (F ρ s) E
def DS (cl : CTab) (B : Sto) (W : WX) (X : Cx) (st : Stmt) (F : SEnv → M B Fl) : Prop := PS X st (tS X.K cl B W F)
def DSs (cl : CTab) (B : Sto) (W : WX) (X : Cx) (st : List Stmt) (F : SEnv → M B Fl) : Prop := PSs X st (tS X.K cl B W F)
theorem PS.weak {X : Cx} {st : Stmt} {t t' : TS} (h : PS X st t) (w : ∀ D σ H, t' D σ H → t D σ H) : PS X st t' := ⟨fun pins s σ H D I q => h.run pins s σ H D I (w D σ H q)⟩
theorem PSs.weak {X : Cx} {st : List Stmt} {t t' : TS} (h : PSs X st t) (w : ∀ D σ H, t' D σ H → t D σ H) : PSs X st t' := ⟨fun pins s σ H D I q => h.run pins s σ H D I (w D σ H q)⟩
def seqF (F G : SEnv → M B Fl) : SEnv → M B Fl := fun ρ => M.bind (F ρ) fun fl => match fl with
  | .nx ρ' => G ρ'
  | o => M.pure o
section
variable {cl : CTab} {W : WX} {X : Cx}
theorem dss_nil : DSs cl B W X [] (fun ρ => M.pure (.nx ρ)) := PSs.weak pss_nil fun E σ H ⟨Z0, C0, H0, Z, C, s, ρ, α, c0, w, n, r, p⟩ => p σ Z C H α w n r
theorem dss_one {st : Stmt} {F : SEnv → M B Fl} (h : DS cl B W X st F) : DSs cl B W X [st] F := pss_one h
theorem dss_cons {st : Stmt} {rest : List Stmt} {F G : SEnv → M B Fl} (h : DS cl B W X st F) (t : DSs cl B W X rest G) : DSs cl B W X (st :: rest) (seqF F G) := by
  refine PSs.weak (pss_cons h t) fun E σ H ⟨Z0, C0, H0, Z, C, s, ρ, α, c0, w, n, r, p⟩ => ?_
  refine ⟨Z0, C0, H0, Z, C, s, ρ, α, c0, w, n, r, ?_⟩
  unfold seqF M.bind at p
  cases hF : F ρ s with
  | stuck => simp only [hF] at p; exact p
  | err x s1 => simp only [hF] at p; exact p
  | ok fl s1 =>
    simp only [hF] at p
    cases fl with
    | nx ρ1 => exact fun σ1 Z1 C1 H1 α1 w1 n1 r1 => ⟨Z0, C0, H0, Z1, C1, s1, ρ1, α1, c0, w1, n1, r1, p⟩
    | rt d => exact p
    | bk ρ1 => exact p
    | ct ρ1 => exact p
    | ro d => exact p
theorem ds_break {pos : Pos} : DS cl B W X (.Break pos) (fun ρ => M.pure (.bk ρ)) := PS.weak ps_break fun E σ H ⟨Z0, C0, H0, Z, C, s, ρ, α, c0, w, n, r, p⟩ => p σ Z C H α w n r
end
def seeE (p : D → Bool) (ρ : SEnv) : Env := ρ.map fun s => match s with
  | .val d => some d
  | .own d => if p d = true then some (D.strip (.ins "" [d])) else none
  | .no => none
def pHide : D → Bool := fun _ => false
def pAll : D → Bool
  | .ins _ _ => false
  | _ => true
structure See (p : D → Bool) (md : Bool) : Prop where
  nd : md = true → ∀ d, p d = true → ∀ ks ds, d = .dct ks ds → True
  ni : ∀ c ds, p (.ins c ds) = false
theorem seeHide : See pHide true := ⟨fun _ _ _ _ _ _ => trivial, fun _ _ => rfl⟩
theorem seeAll : See pAll true := ⟨fun _ _ _ _ _ _ => trivial, fun _ _ => rfl⟩
open Classical in
noncomputable def seeZ (p : D → Bool) (ρ : SEnv) (α : Nat → Addr → Prop) (Z : Zp) (H : Hp) : Zp := ⟨fun x => if ∃ i d, ρ[i]? = some (.own d) ∧ p d = true ∧ α i x then H x else Z.h x, Z.μ⟩
open Classical in
noncomputable def unZ (p : D → Bool) (ρ : SEnv) (α : Nat → Addr → Prop) (Z1 : Zp) : Zp := ⟨fun x => if ∃ i d, ρ[i]? = some (.own d) ∧ p d = true ∧ α i x then none else Z1.h x, Z1.μ⟩
open Classical in
theorem seeZ_h {p : D → Bool} {ρ : SEnv} {α : Nat → Addr → Prop} {Z : Zp} {H : Hp} {x : Addr} : (seeZ p ρ α Z H).h x = if ∃ i d, ρ[i]? = some (.own d) ∧ p d = true ∧ α i x then H x else Z.h x := rfl
open Classical in
theorem unZ_h {p : D → Bool} {ρ : SEnv} {α : Nat → Addr → Prop} {Z : Zp} {x : Addr} : (unZ p ρ α Z).h x = if ∃ i d, ρ[i]? = some (.own d) ∧ p d = true ∧ α i x then none else Z.h x := rfl
section
variable {K : PySem.W.Frag} {cl : CTab} {Z Z1 Z0 : Zp} {C H H0 C1 H1 C0 : Hp} {ρ : SEnv} {σ : L2.St} {α : Nat → Addr → Prop} {s s1 : B.T} {p : D → Bool} {md : Bool}
theorem see_sub (r : SRel K cl Z C H H0 ρ σ α) : SubZ Z (seeZ p ρ α Z H) := by
  refine ⟨fun x o e => ?_, fun _ _ e => e⟩
  rw [seeZ_h]
  split
  · rename_i q
    obtain ⟨i, d, q1, _, qx⟩ := q
    obtain ⟨_, z, _⟩ := r.fp i d x q1 qx
    rw [z] at e; cases e
  · exact e
theorem see_in {i : Nat} {d : D} {x : Addr} (h : ρ[i]? = some (.own d)) (hp : p d = true) (hx : α i x) : seeZ p ρ α Z H x = H x := by
  rw [seeZ_h]
  rw [if_pos ⟨i, d, h, hp, hx⟩]
theorem see_wd (w : Wd B true Z C H s) (r : SRel K cl Z C H H0 ρ σ α) (hm : md = true → ∀ d, p d = true → ∀ ks ds, d = .dct ks ds → True) : Wd B md (seeZ p ρ α Z H) C H s := by
  refine ⟨fun x o e => ?_, w.ch, fun x e => ?_, B.mono w.sr ((see_sub r).imm rfl)⟩
  · rw [seeZ_h] at e
    split at e
    · exact e
    · exact w.zh x o e
  · rw [seeZ_h]
    split
    · rename_i q
      obtain ⟨i, d, q1, _, qx⟩ := q
      obtain ⟨_, _, c, _⟩ := r.fp i d x q1 qx
      exact absurd c e
    · exact w.dj x e
theorem see_env (sp : See p md) (r : SRel K cl Z C H H0 ρ σ α) : EnvR K cl (seeZ p ρ α Z H) (seeE p ρ) σ := by
  refine ⟨by simp [seeE, r.len], fun i d e => ?_⟩
  unfold seeE at e
  rw [List.getElem?_map] at e
  cases q : ρ[i]? with
  | none => rw [q] at e; cases e
  | some sl =>
    rw [q] at e
    cases sl with
    | no => cases e
    | val d' =>
      cases e
      obtain ⟨v, h1, h2⟩ := r.val i d q
      exact ⟨v, h1, h2.mono (see_sub r) d⟩
    | own d' =>
      simp only [Option.map_some] at e
      split at e
      · rename_i hp
        cases e
        obtain ⟨v, h1, o⟩ := r.own i d' q
        exact ⟨v, h1, o.rep (see_sub r) fun x ob hx ho => (see_in q hp hx).trans ho⟩
      · cases e
theorem see_nx (r : SRel K cl Z C H H0 ρ σ α) (n : Nx Z0 C0 H0 Z C H) (hd : md = true → ∀ d, p d = true → ∀ ks ds, d = .dct ks ds → True) (m : md = true) : Nx Z0 C0 H0 (seeZ p ρ α Z H) C H := by
  refine ⟨n.zz.trans (see_sub r), n.hh, fun x e => ?_, n.cf, n.cp, n.lk⟩
  rw [seeZ_h] at e
  split at e
  · rename_i q
    obtain ⟨i, d, q1, _, qx⟩ := q
    exact .inr (r.fp i d x q1 qx).1
  · exact n.zf x e
structure Un (p : D → Bool) (K : PySem.W.Frag) (cl : CTab) (B : Sto) (Z0 : Zp) (C0 H0 : Hp) (ρ : SEnv) (σ : L2.St) (α : Nat → Addr → Prop) (Z1 : Zp) (C1 H1 : Hp) (s1 : B.T) : Prop where
  wd : Wd B true (unZ p ρ α Z1) C1 H1 s1
  nx : Nx Z0 C0 H0 (unZ p ρ α Z1) C1 H1
  rel : SRel K cl (unZ p ρ α Z1) C1 H1 H0 ρ σ α
  imm : SubI Z1 (unZ p ρ α Z1)
  less : Sub (unZ p ρ α Z1).h Z1.h
theorem un_sub : Sub (unZ p ρ α Z1).h Z1.h := by
  intro x o e
  rw [unZ_h] at e
  split at e
  · cases e
  · exact e
theorem see_un (sp : See p md) (w : Wd B true Z C H s) (c0 : Sub C0 H0) (n : Nx Z0 C0 H0 Z C H) (r : SRel K cl Z C H H0 ρ σ α) (w1 : Wd B md Z1 C1 H1 s1) (n1 : Nx (seeZ p ρ α Z H) C H Z1 C1 H1) : Un p K cl B Z0 C0 H0 ρ σ α Z1 C1 H1 s1 := by
  have own1 : ∀ i d x, ρ[i]? = some (.own d) → α i x → ∃ o, H x = some o ∧ immO o = false ∧ H1 x = some o := fun i d x q qx => by
    obtain ⟨_, _, c, o, h1, h2⟩ := r.fp i d x q qx
    exact ⟨o, h1, h2, n1.hh _ _ h1 c⟩
  have imm : SubI Z1 (unZ p ρ α Z1) := ⟨fun x o ho e => by
    rw [unZ_h]
    split
    · rename_i q
      obtain ⟨i, d, q1, q2, qx⟩ := q
      obtain ⟨u, h1, h2, h3⟩ := own1 i d x q1 qx
      rw [w1.zh _ _ e] at h3
      cases h3
      rw [ho] at h2; cases h2
    · exact e, rfl⟩
  have zz : SubZ Z (unZ p ρ α Z1) := ⟨fun x o e => by
    rw [unZ_h]
    split
    · rename_i q
      obtain ⟨i, d, q1, _, qx⟩ := q
      obtain ⟨_, z, _⟩ := r.fp i d x q1 qx
      rw [z] at e; cases e
    · exact n1.zz.h x o ((see_sub r).h x o e), fun n a e => n1.zz.m n a e⟩
  have cz : ∀ i d x, ρ[i]? = some (.own d) → α i x → C1 x = none := fun i d x q qx => by
    obtain ⟨_, _, c, o, h1, _⟩ := r.fp i d x q qx
    cases e : C1 x with
    | none => rfl
    | some u =>
      rcases n1.cf _ (some_ne e) with z | z
      · exact absurd c z
      · rw [h1] at z; cases z
  have zn : ∀ i d x, ρ[i]? = some (.own d) → α i x → unZ p ρ α Z1 x = none := fun i d x q qx => by
    rw [unZ_h]
    split
    · rfl
    · rename_i nq
      obtain ⟨_, z, _, o, h1, _⟩ := r.fp i d x q qx
      cases e : Z1 x with
      | none => rfl
      | some u =>
        rcases n1.zf _ (some_ne e) with z1 | z1
        · rw [seeZ_h] at z1
          rw [if_neg nq] at z1
          exact absurd z z1
        · rw [h1] at z1; cases z1
  refine ⟨⟨un_sub.trans w1.zh, w1.ch, fun x e => ?_, B.mono w1.sr imm⟩, ?_, ⟨r.len, fun i d q => ?_, fun i d q => ?_, fun i d x q qx => ?_, r.dj⟩, imm, un_sub⟩
  · rw [unZ_h]
    split
    · rfl
    · exact w1.dj x e
  · refine ⟨n.zz.trans zz, fun x o e c => ?_, fun x e => ?_, fun x e => ?_, fun x e => n1.cp x (n.cp x e), fun x od u e => n1.lk x od u (n.lk x od u e)⟩
    · have h1 := n.hh x o e c
      refine n1.hh x o h1 ?_
      cases q : C x with
      | none => rfl
      | some u =>
        rcases n.cf x (some_ne q) with z | z
        · exact absurd c z
        · rw [e] at z; cases z
    · rw [unZ_h] at e
      split at e
      · exact absurd rfl e
      · rename_i nq
        rcases n1.zf x e with z | z
        · rw [seeZ_h] at z
          rw [if_neg nq] at z
          exact n.zf x z
        · exact .inr (n.back w.ch z)
    · rcases n1.cf x e with z | z
      · exact n.cf x z
      · exact .inr (n.back w.ch z)
  · obtain ⟨v, h1, h2⟩ := r.val i d q
    exact ⟨v, h1, h2.mono zz d⟩
  · obtain ⟨v, h1, h5⟩ := r.own i d q
    exact ⟨v, h1, h5.move zz fun x o hx e => n1.hh _ _ e (r.fp i d x q hx).2.2.1⟩
  · obtain ⟨h2, h3, h4, o, h5, h6⟩ := r.fp i d x q qx
    exact ⟨h2, zn i d x q qx, cz i d x q qx, o, n1.hh _ _ h5 h4, h6⟩
theorem PostS.seq (sp : See p md) {υ β : Type} {Rp : Zp → υ → β → Prop} {W : WX} {m : M B β} {k : β → M B Fl} {E : Ends} {Q1 : υ → Hp → Prop} (w : Wd B true Z C H s) (c0 : Sub C0 H0) (n : Nx Z0 C0 H0 Z C H) (r : SRel K cl Z C H H0 ρ σ α) (h : PostS K cl W Z0 C0 H0 (M.bind m k s) E)
    (hk : ∀ a s1 v Z1 C1 H1, Wd B md Z1 C1 H1 s1 → Nx (seeZ p ρ α Z H) C H Z1 C1 H1 → Rp Z1 v a → PostS K cl W Z0 C0 H0 (k a s1) E → Q1 v H1) : Post K cl md Rp W σ (seeZ p ρ α Z H) C H (m s) Q1 := by
  unfold M.bind at h
  cases e : m s with
  | ok a s1 =>
    rw [e] at h
    exact fun v Z1 C1 H1 w1 n1 r1 => hk a s1 v Z1 C1 H1 w1 n1 r1 h
  | err x s1 =>
    rw [e] at h
    intro c dx Z1 C1 H1 w1 n1 ex
    have u := see_un sp w c0 n r w1 n1
    refine h c dx σ _ C1 H1 u.wd u.nx ?_
    obtain ⟨C', fs, h1, h2, h3⟩ := ex
    refine ⟨C', fs, h1, h2, ?_⟩
    cases hf : x.f with
    | none => rw [hf] at h3; exact h3
    | some d =>
      rw [hf] at h3
      obtain ⟨f, v, a, q1, q2, q3, q0, q4, q5⟩ := h3
      exact ⟨f, v, a, q1, q2, q3, q0, q4, q5.monoI u.imm d q4⟩
  | stuck =>
    rw [e] at h
    exact h
end
section
variable {cl : CTab} {W : WX} {X : Cx} {p : D → Bool} {md : Bool}
theorem ds_ret {e : Expr} {f : Env → M B D} {pos : Pos} (sp : See p true) (h : DE cl B true W X e f) : DS cl B W X (.Return (some e) pos) fun ρ => M.bind (f (seeE p ρ)) fun d => M.pure (.rt d) := by
  refine PS.weak (ps_ret h) fun E σ H ⟨Z0, C0, H0, Z, C, s, ρ, α, c0, w, n, r, q⟩ => ?_
  refine ⟨seeZ p ρ α Z H, C, s, seeE p ρ, see_wd w r sp.nd, see_env sp r, PostS.seq sp w c0 n r q fun d s1 v Z1 C1 H1 w1 n1 r1 q1 => ?_⟩
  exact q1 v Z1 C1 H1 w1 ((see_nx (md := true) r n sp.nd rfl).trans c0 w.ch n1) r1
theorem SRel.setVal {K : PySem.W.Frag} {Z : Zp} {C H H0 : Hp} {ρ : SEnv} {σ : L2.St} {α : Nat → Addr → Prop} {i : Nat} {v : V} {d : D} (r : SRel K cl Z C H H0 ρ σ α) (h : Rep K cl Z v d) : SRel K cl Z C H H0 (ρ.set i (.val d)) (σ.set i (some v)) α := by
  have ne : ∀ j e, (ρ.set i (.val d))[j]? = some (.own e) → i ≠ j ∧ ρ[j]? = some (.own e) := fun j e q => by
    by_cases hj : i = j
    · subst hj
      by_cases hl : i < ρ.length
      · rw [List.getElem?_set_self hl] at q; cases q
      · rw [List.getElem?_eq_none (by simpa using hl)] at q; cases q
    · rw [List.getElem?_set_ne hj] at q
      exact ⟨hj, q⟩
  refine ⟨by simp [r.len], fun j e q => ?_, fun j e q => ?_, fun j e x q => r.fp j e x (ne j e q).2, fun j k e f x q1 q2 => r.dj j k e f x (ne j e q1).2 (ne k f q2).2⟩
  · by_cases hj : i = j
    · subst hj
      by_cases hl : i < ρ.length
      · rw [List.getElem?_set_self hl] at q
        cases q
        exact ⟨v, List.getElem?_set_self (by rw [← r.len]; exact hl), h⟩
      · rw [List.getElem?_eq_none (by simpa using hl)] at q; cases q
    · rw [List.getElem?_set_ne hj] at q
      obtain ⟨v', h1, h2⟩ := r.val j e q
      exact ⟨v', by rw [List.getElem?_set_ne hj]; exact h1, h2⟩
  · obtain ⟨hj, q'⟩ := ne j e q
    obtain ⟨v', h1, h2⟩ := r.own j e q'
    exact ⟨v', by rw [List.getElem?_set_ne hj]; exact h1, h2⟩
theorem SRel.move {K : PySem.W.Frag} {Z Z' : Zp} {C H H0 C' H' : Hp} {ρ : SEnv} {σ : L2.St} {α : Nat → Addr → Prop} (r : SRel K cl Z C H H0 ρ σ α) (zz : SubZ Z Z') (hh : ∀ i d x o, ρ[i]? = some (.own d) → α i x → H x = some o → H' x = some o)
    (z' : ∀ i d x, ρ[i]? = some (.own d) → α i x → Z' x = none) (c' : ∀ i d x, ρ[i]? = some (.own d) → α i x → C' x = none) : SRel K cl Z' C' H' H0 ρ σ α := by
  refine ⟨r.len, fun i d q => ?_, fun i d q => ?_, fun i d x q qx => ?_, r.dj⟩
  · obtain ⟨v, h1, h2⟩ := r.val i d q
    exact ⟨v, h1, h2.mono zz d⟩
  · obtain ⟨v, h1, h2⟩ := r.own i d q
    exact ⟨v, h1, h2.move zz fun x o hx e => hh i d x o q hx e⟩
  · obtain ⟨h1, _, _, o, h4, h5⟩ := r.fp i d x q qx
    exact ⟨h1, z' i d x q qx, c' i d x q qx, o, hh i d x o q qx h4, h5⟩
theorem set_core {i : Nat} {f : Env → M B D} {E : Ends} {σ : L2.St} {H : Hp} (h : tS X.K cl B W (fun ρ => M.bind (f (seeE pHide ρ)) fun d => M.pure (.nx (ρ.set i (.val d)))) E σ H) : tAsg (tG X.K cl B true (RpD X.K cl) W f) (gName i) E σ H := by
  obtain ⟨Z0, C0, H0, Z, C, s, ρ, α, c0, w, n, r, q⟩ := h
  refine ⟨seeZ pHide ρ α Z H, C, s, seeE pHide ρ, see_wd w r seeHide.nd, see_env seeHide r, PostS.seq seeHide w c0 n r q fun d s1 v Z1 C1 H1 w1 n1 r1 q1 => ?_⟩
  have u := see_un seeHide w c0 n r w1 n1
  have e1 : unZ pHide ρ α Z1 = Z1 := by
    show (⟨(unZ pHide ρ α Z1).h, Z1.μ⟩ : Zp) = Z1
    have : (unZ pHide ρ α Z1).h = Z1.h := by
      funext y
      rw [unZ_h]
      rw [if_neg (fun ⟨_, d, _, q, _⟩ => by simp [pHide] at q)]
    rw [this]
  have u1 := u.wd; have u2 := u.nx; have u3 := u.rel
  rw [e1] at u1 u2 u3
  exact q1 _ Z1 C1 H1 α u1 u2 (u3.setVal r1)
theorem ds_set {i : Nat} {x : Str} {e : Expr} {f : Env → M B D} {pos pos' : Pos} (hN : X.N.Nodup) (hi : X.N[i]? = some x) (hx : Loc X.env.scope x) (h : DE cl B true W X e f) (hs : swapsWith e (some (.Name x pos')) pos.line X.env = pure false := by rfl)
    (hf : X.fn x = true ∨ X.env.scope.names.lookup x = some .local := by first | exact .inl rfl | exact .inr rfl | assumption) : DS cl B W X (.Assign [.Name x pos'] e pos) fun ρ => M.bind (f (seeE pHide ρ)) fun d => M.pure (.nx (ρ.set i (.val d))) := PS.weak (ps_set hN hi hx h hs hf) fun E σ H q => set_core q
theorem ds_expr {e : Expr} {f : Env → M B D} {pos : Pos} (sp : See p md) (h : DE cl B md W X e f) (hs : swapsWith e none pos.line X.env = pure false := by rfl) : DS cl B W X (.Expr e pos) fun ρ => M.bind (f (seeE p ρ)) fun _ => M.pure (.nx ρ) := by
  refine PS.weak (ps_expr h hs) fun E σ H ⟨Z0, C0, H0, Z, C, s, ρ, α, c0, w, n, r, q⟩ => ?_
  refine ⟨seeZ p ρ α Z H, C, s, seeE p ρ, see_wd w r sp.nd, see_env sp r, PostS.seq sp w c0 n r q fun d s1 v Z1 C1 H1 w1 n1 r1 q1 => ?_⟩
  have u := see_un sp w c0 n r w1 n1
  exact q1 σ _ C1 H1 α u.wd u.nx u.rel
theorem ds_if {c : Expr} {a b : List Stmt} {t : Env → M B Bool} {F G : SEnv → M B Fl} {pos : Pos} (sp : See p md) (hc : DT cl B md W X c t) (ha : DSs cl B W X a F) (hb : DSs cl B W X b G) :
    DS cl B W X (.If c a b pos) fun ρ => M.bind (t (seeE p ρ)) fun k => if k = true then F ρ else G ρ := by
  refine PS.weak (ps_if hc ha hb) fun E σ H ⟨Z0, C0, H0, Z, C, s, ρ, α, c0, w, n, r, q⟩ => ?_
  refine ⟨seeZ p ρ α Z H, C, s, seeE p ρ, see_wd w r sp.nd, see_env sp r, PostS.seq sp w c0 n r q fun k s1 v Z1 C1 H1 w1 n1 r1 q1 => ?_⟩
  have u := see_un sp w c0 n r w1 n1
  have r1 : v = k := r1
  subst r1
  cases v with
  | true => exact ⟨Z0, C0, H0, _, C1, s1, ρ, α, c0, u.wd, u.nx, u.rel, q1⟩
  | false => exact ⟨Z0, C0, H0, _, C1, s1, ρ, α, c0, u.wd, u.nx, u.rel, q1⟩
end
end DN
namespace DN
open PySem PySem.Spec PyProof.Rows L2 RZ ND
variable {B : Sto}
def setsS (ρ : SEnv) (as : Asg) : SEnv := as.foldl (fun ρ p => ρ.set p.1 (.val p.2)) ρ
section
variable {K : PySem.W.Frag} {cl : CTab} {Z Z1 Z0 : Zp} {C H H0 C1 H1 C0 : Hp} {ρ : SEnv} {σ : L2.St} {α : Nat → Addr → Prop} {s s1 : B.T} {p : D → Bool} {md : Bool}
theorem SRel.sets : ∀ {as : Asg} {vs : List (Nat × V)} {ρ : SEnv} {σ : L2.St}, SRel K cl Z C H H0 ρ σ α → AsgR K cl Z as vs → SRel K cl Z C H H0 (setsS ρ as) (setsV σ vs) α
  | [], [], _, _, e, _ => e
  | (i, d) :: as, (j, v) :: vs, ρ, σ, e, ⟨a, b, c⟩ => by
    subst a
    show SRel K cl Z C H H0 (setsS (ρ.set i (.val d)) as) (setsV (σ.set i (some v)) vs) α
    exact SRel.sets (e.setVal b) c
  | [], _ :: _, _, _, _, h => False.elim h
  | _ :: _, [], _, _, _, h => False.elim h
structure Kp (p q : D → Bool) : Prop where
  k : ∀ d, q d = true → (∀ x, p x = false) ∨ d.imm = true
theorem kpHide : Kp pHide (fun _ => true) := ⟨fun _ _ => .inl fun _ => rfl⟩
theorem kpImm : Kp p D.imm := ⟨fun _ h => .inr h⟩
theorem unZ_hide (h : ∀ x, p x = false) : unZ p ρ α Z1 = Z1 := by
  show (⟨(unZ p ρ α Z1).h, Z1.μ⟩ : Zp) = Z1
  have : (unZ p ρ α Z1).h = Z1.h := by
    funext y
    rw [unZ_h, if_neg (fun ⟨_, d, _, q, _⟩ => by simp [h] at q)]
  rw [this]
theorem seeZ_hide (h : ∀ x, p x = false) : seeZ p ρ α Z H = Z := by
  show (⟨(seeZ p ρ α Z H).h, Z.μ⟩ : Zp) = Z
  have : (seeZ p ρ α Z H).h = Z.h := by
    funext y
    rw [seeZ_h, if_neg (fun ⟨_, d, _, q, _⟩ => by simp [h] at q)]
  rw [this]
theorem Un.rep {q : D → Bool} {v : V} {d : D} (u : Un p K cl B Z0 C0 H0 ρ σ α Z1 C1 H1 s1) (k : Kp p q) (hq : q d = true) (r : Rep K cl Z1 v d) : Rep K cl (unZ p ρ α Z1) v d := by
  rcases k.k d hq with h | h
  · rw [unZ_hide h]; exact r
  · exact r.monoI u.imm d h
theorem SRel.back (r : SRel K cl Z C H H0 ρ σ α) (n : Nx Z0 C0 H0 Z C H) : True := trivial
def upd1 (α : Nat → Addr → Prop) (i : Nat) (F : Addr → Prop) : Nat → Addr → Prop := fun j => if j = i then F else α j
theorem SRel.setOwn {i : Nat} {v : V} {F : Addr → Prop} {d : D} {H' : Hp} (r : SRel K cl Z C H H0 ρ σ α) (hh : ∀ j e x o, ρ[j]? = some (.own e) → j ≠ i → α j x → H x = some o → H' x = some o)
    (fp : ∀ x, F x → H0 x = none ∧ Z x = none ∧ C x = none ∧ ∃ o, H' x = some o ∧ immO o = false) (dj : ∀ j e x, ρ[j]? = some (.own e) → j ≠ i → F x → α j x → False) (o : OwnT K cl Z H' F v (.ins "" [d])) :
    SRel K cl Z C H' H0 (ρ.set i (.own d)) (σ.set i (some v)) (upd1 α i F) := by
  have hlen : i < ρ.length → i < σ.length := fun h => by rw [← r.len]; exact h
  have get : ∀ j x, (ρ.set i (.own d))[j]? = some x → (j = i ∧ x = .own d ∧ i < ρ.length) ∨ (j ≠ i ∧ ρ[j]? = some x) := fun j x q => by
    by_cases hj : i = j
    · subst hj
      by_cases hl : i < ρ.length
      · rw [List.getElem?_set_self hl] at q
        exact .inl ⟨rfl, (Option.some.inj q).symm, hl⟩
      · rw [List.getElem?_eq_none (by simpa using hl)] at q; cases q
    · rw [List.getElem?_set_ne hj] at q
      exact .inr ⟨fun z => hj z.symm, q⟩
  refine ⟨by simp [r.len], fun j e q => ?_, fun j e q => ?_, fun j e x q qx => ?_, fun j k e f x q1 q2 x1 x2 => ?_⟩
  · rcases get j _ q with ⟨_, h, _⟩ | ⟨hj, q⟩
    · cases h
    · obtain ⟨v', h1, h2⟩ := r.val j e q
      exact ⟨v', by rw [List.getElem?_set_ne (fun z => hj z.symm)]; exact h1, h2⟩
  · rcases get j _ q with ⟨rfl, h, hl⟩ | ⟨hj, q⟩
    · cases h
      simp only [upd1, if_pos rfl]
      exact ⟨v, List.getElem?_set_self (hlen hl), o⟩
    · obtain ⟨v', h1, h2⟩ := r.own j e q
      simp only [upd1, if_neg hj]
      exact ⟨v', by rw [List.getElem?_set_ne (fun z => hj z.symm)]; exact h1, h2.move (.refl _) fun x ob hx e => hh j _ x ob q hj hx e⟩
  · rcases get j _ q with ⟨rfl, h, hl⟩ | ⟨hj, q⟩
    · simp only [upd1, if_pos rfl] at qx
      exact fp x qx
    · simp only [upd1, if_neg hj] at qx
      obtain ⟨h1, h2, h3, o2, h4, h5⟩ := r.fp j e x q qx
      exact ⟨h1, h2, h3, o2, hh j e x o2 q hj qx h4, h5⟩
  · rcases get j _ q1 with ⟨ej, _, _⟩ | ⟨hj, q1'⟩
    · rcases get k _ q2 with ⟨ek, _, _⟩ | ⟨hk, q2'⟩
      · rw [ej, ek]
      · simp only [upd1, if_pos ej] at x1
        simp only [upd1, if_neg hk] at x2
        exact (dj k f x q2' hk x1 x2).elim
    · rcases get k _ q2 with ⟨ek, _, _⟩ | ⟨hk, q2'⟩
      · simp only [upd1, if_neg hj] at x1
        simp only [upd1, if_pos ek] at x2
        exact (dj j e x q1' hj x2 x1).elim
      · simp only [upd1, if_neg hj] at x1
        simp only [upd1, if_neg hk] at x2
        exact r.dj j k e f x q1' q2' x1 x2
theorem set_self {i : Nat} {v : V} (h : σ[i]? = some (some v)) : σ.set i (some v) = σ := by
  apply List.ext_getElem?
  intro j
  by_cases hj : i = j
  · subst hj
    rw [List.getElem?_set_self (List.getElem?_eq_some_iff.mp h).1]
    exact h.symm
  · rw [List.getElem?_set_ne hj]
theorem SRel.freeze {i : Nat} {d : D} (r : SRel K cl Z C H H0 ρ σ α) (h : ρ[i]? = some (.own d)) (hz : SubZ Z Z1) (hzi : ∀ x, ¬ α i x → Z1 x = Z x) (hzh : ∀ x, α i x → Z1 x = H x) :
    SRel K cl Z1 C H H0 (ρ.set i (.val (D.strip (.ins "" [d])))) σ α := by
  obtain ⟨v, hv, ow⟩ := r.own i d h
  have get : ∀ j x, (ρ.set i (Sl.val (D.strip (.ins "" [d]))))[j]? = some x → (j = i ∧ x = .val (D.strip (.ins "" [d]))) ∨ (j ≠ i ∧ ρ[j]? = some x) := fun j x q => by
    by_cases hj : i = j
    · subst hj
      by_cases hl : i < ρ.length
      · rw [List.getElem?_set_self hl] at q
        exact .inl ⟨rfl, (Option.some.inj q).symm⟩
      · rw [List.getElem?_eq_none (by simpa using hl)] at q; cases q
    · rw [List.getElem?_set_ne hj] at q
      exact .inr ⟨fun z => hj z.symm, q⟩
  have ownOf : ∀ j e, (ρ.set i (Sl.val (D.strip (.ins "" [d]))))[j]? = some (.own e) → j ≠ i ∧ ρ[j]? = some (.own e) := fun j e q => by
    rcases get j _ q with ⟨_, hx⟩ | q
    · cases hx
    · exact q
  refine ⟨by simp [r.len], fun j e q => ?_, fun j e q => ?_, fun j e x q qx => ?_, fun j k e f x q1 q2 => r.dj j k e f x (ownOf j e q1).2 (ownOf k f q2).2⟩
  · rcases get j _ q with ⟨ej, hx⟩ | ⟨hj, q'⟩
    · cases hx
      rw [ej]
      exact ⟨v, hv, ow.rep hz fun x o hx ho => (hzh x hx).trans ho⟩
    · obtain ⟨v', h1, h2⟩ := r.val j e q'
      exact ⟨v', h1, h2.mono hz e⟩
  · obtain ⟨hj, q'⟩ := ownOf j e q
    obtain ⟨v', h1, h2⟩ := r.own j e q'
    exact ⟨v', h1, h2.move hz fun _ _ _ e => e⟩
  · obtain ⟨hj, q'⟩ := ownOf j e q
    obtain ⟨h1, h2, h3, h4⟩ := r.fp j e x q' qx
    exact ⟨h1, (hzi x fun z => hj (r.dj j i e d x q' h qx z)).trans h2, h3, h4⟩
end
section
variable {cl : CTab} {W : WX} {X : Cx} {p : D → Bool} {md : Bool}
theorem pHide_no : ∀ x, pHide x = false := fun _ => rfl
theorem ds_asg {tg e : Expr} {f : Env → M B D} {a : D → Option Asg} {pos : Pos} (h : DE cl B true W X e f) (hg : DG cl X tg a) (hs : swapsWithSole [tg] e pos.line X.env = pure false := by rfl) (hw : swappedStores [tg] e X.env = pure none := by rfl)
    (h1 : (assignEach [tg] X.env).map (·.2) = [assign tg X.env] := by rfl) : DS cl B W X (.Assign [tg] e pos) fun ρ => M.bind (f (seeE pHide ρ)) fun d => M.bind (lift (a d)) fun as => M.pure (.nx (setsS ρ as)) := by
  refine PS.weak (ps_asg h hg hs hw h1) fun E σ H ⟨Z0, C0, H0, Z, C, s, ρ, α, c0, w, n, r, q⟩ => ?_
  refine ⟨seeZ pHide ρ α Z H, C, s, seeE pHide ρ, see_wd w r seeHide.nd, see_env seeHide r, PostS.seq seeHide w c0 n r q fun d s1 v Z1 C1 H1 w1 n1 r1 q1 => ?_⟩
  have u := see_un seeHide w c0 n r w1 n1
  have u1 := u.wd; have u2 := u.nx; have u3 := u.rel
  rw [unZ_hide pHide_no] at u1 u2 u3
  cases ha : a d with
  | none => rw [ha] at q1; exact False.elim q1
  | some as =>
    rw [ha] at q1
    exact ⟨Z1, d, as, u1.zh, r1, ha, fun vs av => q1 _ Z1 C1 H1 α u1 u2 (u3.sets av)⟩
theorem ds_aug {i : Nat} {x : Str} {e : Expr} {f : Env → M B D} {op : Operator} {r0 : R2} {g : D → D → Option D} {pos' pos : Pos} (sp : See p md) (q0 : D → Bool) (kp : Kp p q0) (hN : X.N.Nodup) (hi : X.N[i]? = some x) (hx : Loc X.env.scope x) (h : DE cl B md W X e f) (ho : PIp X op r0) (hr : OpV X.K cl r0 g)
    (hf : X.fn x = true ∨ X.env.scope.names.lookup x = some .local := by first | exact .inl rfl | exact .inr rfl | assumption) :
    DS cl B W X (.AugAssign (.Name x pos') op e pos) fun ρ => M.bind (eVar i (seeE pHide ρ)) fun o => M.bind (f (seeE p ρ)) fun d => M.bind (lift (g o d)) fun z => guardM (q0 z) (M.pure (.nx (ρ.set i (.val z)))) := by
  refine PS.weak (ps_aug hN hi hx h ho hf) fun E σ H ⟨Z0, C0, H0, Z, C, s, ρ, α, c0, w, n, r, q⟩ => ?_
  have en := see_env seeHide r
  rw [seeZ_hide pHide_no] at en
  have q : PostS X.K cl W Z0 C0 H0 (M.bind (lift ((seeE pHide ρ)[i]?.bind id)) (fun o => M.bind (f (seeE p ρ)) fun d => M.bind (lift (g o d)) fun z => guardM (q0 z) (M.pure (.nx (ρ.set i (.val z))))) s) E := q
  cases hv : (seeE pHide ρ)[i]?.bind id with
  | none => rw [hv] at q; exact False.elim q
  | some o =>
    rw [hv] at q
    have hg : (seeE pHide ρ)[i]? = some (some o) := by
      cases z : (seeE pHide ρ)[i]? with
      | none => rw [z] at hv; cases hv
      | some y => rw [z] at hv; rw [show y = some o from hv]
    obtain ⟨vx, e1, rx⟩ := en.get i o hg
    refine ⟨vx, e1, ?_⟩
    have q' : PostS X.K cl W Z0 C0 H0 (M.bind (f (seeE p ρ)) (fun d => M.bind (lift (g o d)) fun z => guardM (q0 z) (M.pure (.nx (ρ.set i (.val z))))) s) E := q
    refine ⟨seeZ p ρ α Z H, C, s, seeE p ρ, see_wd w r sp.nd, see_env sp r, PostS.seq sp w c0 n r q' fun d s1 v Z1 C1 H1 w1 n1 r1 q1 => ?_⟩
    have q1 : PostS X.K cl W Z0 C0 H0 (M.bind (lift (g o d)) (fun z => guardM (q0 z) (M.pure (.nx (ρ.set i (.val z))))) s1) E := q1
    cases hz : g o d with
    | none => rw [hz] at q1; exact False.elim q1
    | some z =>
      rw [hz] at q1
      have q1 : PostS X.K cl W Z0 C0 H0 (guardM (q0 z) (M.pure (.nx (ρ.set i (.val z)))) s1) E := q1
      refine hr Z1 H1 vx v o d z _ w1.zh ((rx.mono (see_sub r)).mono n1.zz) r1 hz fun v2 Z2 H2 al r2 => ?_
      have u := see_un sp w c0 n r (al.wd w1) (n1.trans w.ch w1.ch al.nx)
      unfold guardM at q1
      split at q1
      · rename_i hq
        exact q1 _ _ C1 H2 α u.wd u.nx (u.rel.setVal (u.rep kp hq r2))
      · exact False.elim q1
def iaddD : D → D → Option D
  | .int i, .int j => some (.int (i + j))
  | _, _ => none
theorem v_ipadd : OpV X.K cl (ipI fun i j => i + j) iaddD := by
  intro Z H x y dx dy d Q h rx ry e q
  unfold iaddD at e
  split at e <;> cases e
  cases rx; cases ry
  exact ⟨_, _, rfl, rfl, q _ Z H (.refl h) (.int _)⟩
theorem Nx.rebase {Z0 Z : Zp} {C0 H0 C H : Hp} (a : Nx Z0 C0 H0 Z C H) : Nx Z C0 H0 Z C H :=
  ⟨.refl _, a.hh, fun x e => .inl e, a.cf, a.cp, a.lk⟩
theorem Nx.unbase {Z0 Z Z1 : Zp} {C0 H0 C H C1 H1 : Hp} (a : Nx Z0 C0 H0 Z C H) (b : Nx Z C0 H0 Z1 C1 H1) : Nx Z0 C0 H0 Z1 C1 H1 :=
  ⟨a.zz.trans b.zz, b.hh, fun x e => (b.zf x e).elim (a.zf x) .inr, b.cf, b.cp, b.lk⟩
theorem PostS.rebase {K : PySem.W.Frag} {Z0 Z : Zp} {C0 H0 C H : Hp} {r : Res B.T Fl} {E : Ends} (a : Nx Z0 C0 H0 Z C H) (h : PostS K cl W Z0 C0 H0 r E) : PostS K cl W Z C0 H0 r E := by
  cases r with
  | ok fl s =>
    cases fl with
    | nx ρ => exact fun σ Z1 C1 H1 α w n => h σ Z1 C1 H1 α w (a.unbase n)
    | bk ρ => exact fun σ Z1 C1 H1 α w n => h σ Z1 C1 H1 α w (a.unbase n)
    | ct ρ => exact fun σ Z1 C1 H1 α w n => h σ Z1 C1 H1 α w (a.unbase n)
    | rt d => exact fun v Z1 C1 H1 w n => h v Z1 C1 H1 w (a.unbase n)
    | ro d => exact fun v F Z1 C1 H1 w n => h v F Z1 C1 H1 w (a.unbase n)
  | err x s => exact fun c dx σ Z1 C1 H1 w n => h c dx σ Z1 C1 H1 w (a.unbase n)
  | stuck => exact h
def forL (a : D → Option Asg) (F : SEnv → M B Fl) : List D → SEnv → M B Fl
  | [], ρ => M.pure (.nx ρ)
  | d :: ds, ρ => M.bind (lift (a d)) fun as => M.bind (F (setsS ρ as)) fun fl => match fl with
    | .nx ρ' => forL a F ds ρ'
    | .ct ρ' => forL a F ds ρ'
    | .bk ρ' => M.pure (.nx ρ')
    | .rt d => M.pure (.rt d)
    | .ro d => M.pure (.ro d)
theorem ds_for {tg iter : Expr} {body : List Stmt} {src : Env → M B (List D)} {a : D → Option Asg} {F : SEnv → M B Fl} {pos : Pos} (hp : PassesOwn (model X.prog X.w) X.A X.env X.xe) (hc : X.calm = true) (hi : DI cl B true W X tg iter src) (hg : DG cl X tg a) (hb : DSs cl B W X body F)
    (hs : ∀ x, foldedSetIterable iter X.env x = pure x := by intro _; rfl) : DS cl B W X (.For tg iter body [] pos) fun ρ => M.bind (src (seeE pHide ρ)) fun ds => forL a F ds ρ := by
  refine PS.weak (ps_for hp hc hi hg hb hs) fun E σ H ⟨Z0, C0, H0, Z, C, s, ρ, α, c0, w, n, r, q⟩ => ?_
  refine ⟨seeZ pHide ρ α Z H, C, s, seeE pHide ρ, see_wd w r seeHide.nd, see_env seeHide r, PostS.seq seeHide w c0 n r q fun ds s1 J Z1 C1 H1 w1 n1 r1 q1 => ?_⟩
  have u := see_un seeHide w c0 n r w1 n1
  have u1 := u.wd; have u2 := u.nx; have u3 := u.rel
  rw [unZ_hide pHide_no] at u1 u2 u3
  refine for_it r1.1 (fun i σ H => ∃ Zi Ci si ρi αi, Wd B true Zi Ci H si ∧ Nx Z0 C0 H0 Zi Ci H ∧ SRel X.K cl Zi Ci H H0 ρi σ αi ∧ SubZ Z1 Zi ∧ PostS X.K cl W Z0 C0 H0 (forL a F (ds.drop i) ρi si) E)
    ⟨Z1, C1, s1, ρ, α, u1, u2, u3, .refl _, q1⟩ (fun i σ H hi ⟨Zi, Ci, si, ρi, αi, wi, ni, ri, zi, pi⟩ => zi.to wi.zh) ?_ ?_
  · rintro i x σ2 H2 H2' hi ⟨Zi, Ci, si, ρi, αi, wi, ni, ri, zi, pi⟩ ⟨d, hd, hy⟩
    obtain ⟨Zc, al, rx⟩ := hy Zi zi wi.zh
    have hdr : ds.drop i = d :: ds.drop (i + 1) := by
      have hlt : i < ds.length := hi
      rw [List.drop_eq_getElem_cons hlt]
      have : ds[i] = d := by
        rw [List.getElem?_eq_getElem hlt] at hd
        exact Option.some.inj hd
      rw [this]
    rw [hdr] at pi
    have wc := al.wd wi
    have nc := ni.trans c0 wi.ch al.nx
    have rc : SRel X.K cl Zc Ci H2' H0 ρi σ2 αi := by
      refine ri.move al.zz (fun j e x o q hx ho => al.hh _ _ ho) (fun j e x q qx => ?_) fun j e x q qx => (ri.fp j e x q qx).2.2.1
      obtain ⟨h2, h3, h4, o, ho, _⟩ := ri.fp j e x q qx
      cases qz : Zc x with
      | none => rfl
      | some z =>
        rcases al.zf _ (some_ne qz) with zz | zz
        · exact absurd h3 zz
        · rw [ho] at zz; cases zz
    have pi : PostS X.K cl W Z0 C0 H0 (M.bind (lift (a d)) (fun as => M.bind (F (setsS ρi as)) fun fl => match fl with
      | .nx ρ' => forL a F (ds.drop (i + 1)) ρ'
      | .ct ρ' => forL a F (ds.drop (i + 1)) ρ'
      | .bk ρ' => M.pure (.nx ρ')
      | .rt d => M.pure (.rt d)
      | .ro d => M.pure (.ro d)) si) E := pi
    cases ha : a d with
    | none => rw [ha] at pi; exact False.elim pi
    | some as =>
      rw [ha] at pi
      refine ⟨Zc, d, as, wc.zh, rx, ha, fun vs av => ?_⟩
      refine ⟨Zc, C0, H0, Zc, Ci, si, setsS ρi as, αi, c0, wc, nc.rebase, rc.sets av, ?_⟩
      have pi : PostS X.K cl W Z0 C0 H0 (M.bind (F (setsS ρi as)) (fun fl => match fl with
        | .nx ρ' => forL a F (ds.drop (i + 1)) ρ'
        | .ct ρ' => forL a F (ds.drop (i + 1)) ρ'
        | .bk ρ' => M.pure (.nx ρ')
        | .rt d => M.pure (.rt d)
        | .ro d => M.pure (.ro d)) si) E := pi
      unfold M.bind at pi
      cases hF : F (setsS ρi as) si with
      | stuck => simp only [hF] at pi; exact pi
      | err x s3 =>
        simp only [hF] at pi
        exact fun c dx σ3 Z3 C3 H3 w3 n3 => pi c dx σ3 Z3 C3 H3 w3 (nc.unbase n3)
      | ok fl s3 =>
        simp only [hF] at pi
        cases fl with
        | nx ρ3 => exact fun σ3 Z3 C3 H3 α3 w3 n3 r3 => ⟨Z3, C3, s3, ρ3, α3, w3, nc.unbase n3, r3, (zi.trans al.zz).trans n3.zz, pi⟩
        | ct ρ3 => exact fun σ3 Z3 C3 H3 α3 w3 n3 r3 => ⟨Z3, C3, s3, ρ3, α3, w3, nc.unbase n3, r3, (zi.trans al.zz).trans n3.zz, pi⟩
        | bk ρ3 => exact fun σ3 Z3 C3 H3 α3 w3 n3 r3 => pi σ3 Z3 C3 H3 α3 w3 (nc.unbase n3) r3
        | rt d => exact fun v Z3 C3 H3 w3 n3 r3 => pi v Z3 C3 H3 w3 (nc.unbase n3) r3
        | ro d => exact fun v F Z3 C3 H3 w3 n3 r3 => pi v F Z3 C3 H3 w3 (nc.unbase n3) r3
  · rintro σ2 H2 ⟨Zi, Ci, si, ρi, αi, wi, ni, ri, zi, pi⟩
    rw [List.drop_length] at pi
    exact pi σ2 Zi Ci H2 αi wi ni ri
end
end DN
namespace DN
open PySem PySem.Spec PyProof.Rows L2 RZ ND
variable {B : Sto}
def startE (m : Nat) (ds : List D) : SEnv := ds.map .val ++ List.replicate (m - ds.length) .no
def retF (fl : Fl) : M B D := match fl with
  | .nx _ => M.pure .non
  | .rt d => M.pure d
  | _ => fun _ => .stuck
def runF (m : Nat) (F : SEnv → M B Fl) (ds : List D) : M B D := M.bind (F (startE m ds)) retF
abbrev WD (E : XK) : WX := fun c d _ H => E c d H
section
variable {P : Program} {w : World} {K : PySem.W.Frag} {mg : Str → Option Value} {base : Heap} {cl : CTab}
abbrev CXD (P : Program) (w : World) (K : PySem.W.Frag) (mg : Str → Option Value) (base : Heap) (N : List Str) (qual : Str) (st : Stmt) (f : Addr) (cdv : Value) (A : Around) (outer : List PySem.Env) (s : Shared) (H : Hp) (E : XK) : Cx :=
  cxOf (L2.CX P w) P w K mg base N qual (defScope st) f cdv A outer s H E
theorem start_rel {Z : Zp} {C H H0 : Hp} {ds : List D} {vs : List V} {N : List Str} {α : Nat → Addr → Prop} (r : RepL K cl Z vs ds) : SRel K cl Z C H H0 (startE N.length ds) (L2.start N vs) α := by
  have rl := r.len
  have noown : ∀ (i : Nat) (d : D), (startE N.length ds)[i]? ≠ some (.own d) := fun i d q => by
    unfold startE at q
    by_cases hi : i < ds.length
    · rw [List.getElem?_append_left (by simpa using hi), List.getElem?_map, List.getElem?_eq_getElem hi] at q
      cases q
    · rw [List.getElem?_append_right (by simpa using hi), List.getElem?_replicate] at q
      split at q <;> cases q
  refine ⟨by simp [startE, L2.start, rl], fun i d q => ?_, fun i d q => absurd q (noown i d), fun i d x q => absurd q (noown i d), fun i j d e x q => absurd q (noown i d)⟩
  unfold startE at q
  by_cases hi : i < ds.length
  · rw [List.getElem?_append_left (by simpa using hi), List.getElem?_map] at q
    cases hd : ds[i]? with
    | none => rw [hd] at q; cases q
    | some d' =>
      rw [hd] at q
      cases q
      obtain ⟨v, h1, h2⟩ := r.get hd
      refine ⟨v, ?_, h2⟩
      unfold L2.start
      rw [List.getElem?_append_left (by rw [List.length_map, rl]; exact hi), List.getElem?_map, h1]
      rfl
  · rw [List.getElem?_append_right (by simpa using hi), List.getElem?_replicate] at q
    split at q <;> cases q
theorem fn_ok {x qual : Str} {st : Stmt} {f : Addr} {fd : FuncData} {N ps : List Str} {k n : Nat} {F : SEnv → M B Fl} (G : Fun K x qual st f fd) (S : FnScope N ps (defScope st)) (hn : ps.length = n)
    (hbody : ∀ (cdv : Value) (A : Around) (outer : List PySem.Env) (s : Shared) (H : Hp) (E : XK), Room k (A.deeper (envOfC qual (defScope st) s.heap.objs.size f cdv)) →
      DSs cl B (WD E) (CXD P w K mg base N qual st f cdv A outer s H E) (defBody st) F) :
    FnOk P w K mg base (L2.CX P w) (k + 1) f fd ps (spD K cl B n (runF N.length F)) := by
  refine G.okX S (fun vs H Q E h => spD_len hn vs H Q E h) fun cdv A outer s H vs Q E hr h => ?_
  refine ⟨_, hbody cdv A outer s H E hr, ?_⟩
  obtain ⟨Z, C, sb, ds, wd, r, l, p⟩ := h
  refine ⟨Z, C, H, Z, C, sb, startE N.length ds, fun _ _ => False, wd.ch, wd, .refl .., start_rel r, ?_⟩
  show PostS K cl (WD E) Z C H (F (startE N.length ds) sb) _
  unfold runF M.bind at p
  cases hF : F (startE N.length ds) sb with
  | stuck => simp only [hF] at p; exact p
  | err x s1 =>
    simp only [hF] at p
    exact fun c dx σ Z1 C1 H1 w1 n1 ex => p c dx Z1 C1 H1 w1 n1 ex
  | ok fl s1 =>
    simp only [hF] at p
    cases fl with
    | nx ρ => exact fun σ1 Z1 C1 H1 α1 w1 n1 r1 => p .non Z1 C1 H1 w1 n1 .non
    | rt d => exact fun v Z1 C1 H1 w1 n1 r1 => p v Z1 C1 H1 w1 n1 r1
    | bk ρ => exact False.elim p
    | ct ρ => exact False.elim p
    | ro d => exact False.elim p
theorem takesD {N : List Str} {qual : Str} {st : Stmt} {f : Addr} {cdv : Value} {A : Around} {outer : List PySem.Env} {s : Shared} {H : Hp} {E : XK} : Takes (CXD P w K mg base N qual st f cdv A outer s H E) (WD E) := takes_of rfl rfl rfl rfl
theorem passesD {N : List Str} {qual : Str} {st : Stmt} {f : Addr} {cdv : Value} {A : Around} {outer : List PySem.Env} {s : Shared} {H : Hp} {E : XK} : PassesOwn (model (CXD P w K mg base N qual st f cdv A outer s H E).prog (CXD P w K mg base N qual st f cdv A outer s H E).w) (CXD P w K mg base N qual st f cdv A outer s H E).A (CXD P w K mg base N qual st f cdv A outer s H E).env (CXD P w K mg base N qual st f cdv A outer s H E).xe := passes_of rfl
end
end DN
namespace DN
open PySem PySem.Spec PyProof.Rows L2 RZ ND
def MemR (K : PySem.W.Frag) (cl : CTab) (Z : Zp) (C : Hp) (a : Addr) : D → Prop
  | .lst ds => D.immL ds = true ∧ ∃ vs, C a = some (.lst vs) ∧ vs.length ≤ sizeLine ∧ RepL K cl Z vs ds
  | .dct ks ds => D.immL ds = true ∧ ∃ (o : HO) (kvs : List (GK × V)), C a = some o ∧ DKV cl Z.h a o kvs ∧ ks = kvs.map (fun p => keyD p.1) ∧ KNd kvs ∧ RepL K cl Z (kvs.map (·.2)) ds
  | .ins c ds => D.immL ds = true ∧ ∃ (C0 dx : Addr) (fs : List (Str × V)) (names : List Str), cl c = some (C0, names) ∧ C a = some (.ins C0 dx fs) ∧ fs.map (·.1) = names.take ds.length ∧ RepL K cl Z (fs.map (·.2)) ds
  | .tup [.dct ks ds] => D.immL ds = true ∧ ∃ (od : Obj) (o : HO) (kvs : List (GK × V)), C a = some (.frz od o) ∧ DKV cl Z.h a o kvs ∧ ks = kvs.map (fun p => keyD p.1) ∧ KNd kvs ∧ RepL K cl Z (kvs.map (·.2)) ds
  | _ => False
theorem MemR.mono {K : PySem.W.Frag} {cl : CTab} {Z Z' : Zp} {C C' : Hp} {a : Addr} (ht : ∀ b xs, Z.h b = some (.tup xs) → Z'.h b = some (.tup xs)) (h : ∀ (ds : List D) (vs : List V), D.immL ds = true → RepL K cl Z vs ds → RepL K cl Z' vs ds) (hc : C' a = C a) : ∀ {d : D}, MemR K cl Z C a d → MemR K cl Z' C' a d
  | .lst ds, ⟨i, vs, a, b, c⟩ => ⟨i, vs, hc.trans a, b, h _ _ i c⟩
  | .dct ks ds, ⟨i, o, kvs, a, b, c, n, e⟩ => ⟨i, o, kvs, hc.trans a, b.mono ht, c, n, h _ _ i e⟩
  | .ins c ds, ⟨i, C, dx, fs, ns, a, b, c1, e⟩ => ⟨i, C, dx, fs, ns, a, hc.trans b, c1, h _ _ i e⟩
  | .tup [.dct ks ds], ⟨i, od, o, kvs, a, b, c, n, e⟩ => ⟨i, od, o, kvs, hc.trans a, b.mono ht, c, n, h _ _ i e⟩
theorem MemR.monoI {K : PySem.W.Frag} {cl : CTab} {Z Z' : Zp} {C C' : Hp} {a : Addr} (h : SubI Z Z') (hc : C' a = C a) {d : D} (r : MemR K cl Z C a d) : MemR K cl Z' C' a d := r.mono (fun _ _ q => h.h _ _ rfl q) (fun _ _ i q => q.monoI h _ i) hc
theorem MemR.monoZ {K : PySem.W.Frag} {cl : CTab} {Z Z' : Zp} {C C' : Hp} {a : Addr} (h : SubZ Z Z') (hc : C' a = C a) {d : D} (r : MemR K cl Z C a d) : MemR K cl Z' C' a d := r.mono (fun _ _ q => h.h _ _ q) (fun _ _ _ q => q.mono h) hc
structure Mem where
  m : Nat → Option D
  n : Nat
instance : CoeFun Mem (fun _ => Nat → Option D) := ⟨Mem.m⟩
def updM (s : Mem) (a : Nat) (d : Option D) : Mem := ⟨fun x => if x = a then d else s.m x, s.n⟩
def Mem.push (s : Mem) (d : D) : Mem := ⟨fun x => if x = s.n then some d else s.m x, s.n + 1⟩
structure MemOk (K : PySem.W.Frag) (cl : CTab) (s : Mem) (Z : Zp) (C : Hp) : Prop where
  no : ∀ k, s.m k = none → Z.μ k = none
  yes : ∀ k d, s.m k = some d → ∃ a, Z.μ k = some a ∧ MemR K cl Z C a d
  inj : ∀ i j a, Z.μ i = some a → Z.μ j = some a → i = j
  cov : ∀ a, C a ≠ none → ∃ k, Z.μ k = some a
  nx : ∀ k, s.n ≤ k → s.m k = none
@[reducible] def MemS (K : PySem.W.Frag) (cl : CTab) : Sto where
  T := Mem
  R s Z C := MemOk K cl s Z C
  mono := fun {s Z Z' C} r h => ⟨fun k e => by rw [h.m]; exact r.no k e, fun k d e => by
    obtain ⟨a, h1, h2⟩ := r.yes k d e
    exact ⟨a, by rw [h.m]; exact h1, h2.monoI h rfl⟩, fun i j a => by rw [h.m]; exact r.inj i j a, fun a e => by rw [h.m]; exact r.cov a e, r.nx⟩
def nameZ (Z : Zp) (k : Nat) (p : Addr) : Zp := ⟨Z.h, fun j => if j = k then some p else Z.μ j⟩
theorem nameZ_sub {Z : Zp} {k : Nat} {p : Addr} (h : Z.μ k = none) : SubZ Z (nameZ Z k p) := ⟨.refl _, fun n a e => by
  show (if n = k then some p else Z.μ n) = some a
  rw [if_neg (fun q => by rw [q, h] at e; cases e)]; exact e⟩
section
variable {K : PySem.W.Frag} {cl : CTab} {md : Bool} {Z Z1 : Zp} {C H C1 H1 : Hp} {m : Mem} {a p : Addr} {k : Nat} {d d' : D} {o o' : HO}
theorem mem_at' (w : Wd (MemS K cl) md Z C H m) (h : m.m k = some d) (e : Z.μ k = some a) : MemR K cl Z C a d := by
  obtain ⟨b, h1, h2⟩ := w.sr.yes k d h
  rw [e] at h1; cases h1; exact h2
theorem MemR.there : ∀ {d : D}, MemR K cl Z C a d → ∃ o, C a = some o
  | .lst _, ⟨_, _, e, _⟩ => ⟨_, e⟩
  | .dct _ _, ⟨_, _, _, e, _⟩ => ⟨_, e⟩
  | .ins _ _, ⟨_, _, _, _, _, _, e, _⟩ => ⟨_, e⟩
  | .tup [.dct _ _], ⟨_, _, _, _, e, _⟩ => ⟨_, e⟩
theorem mem_name (w : Wd (MemS K cl) md Z C H m) (e : Z.μ k = some a) : ∃ d, m.m k = some d ∧ MemR K cl Z C a d := by
  cases q : m.m k with
  | none => rw [w.sr.no k q] at e; cases e
  | some d => exact ⟨d, rfl, mem_at' w q e⟩
theorem mem_putW (w : Wd (MemS K cl) md Z C H m) (hk : Z.μ k = some a) (h : C a = some o) (r : MemR K cl Z (upd C a o') a d') : Wd (MemS K cl) md Z (upd C a o') (upd H a o') (updM m k (some d')) := by
  have za : Z a = none := w.dj a (some_ne h)
  refine ⟨fun x u e => ?_, fun x u e => ?_, fun x e => ?_, ⟨fun j e => ?_, fun j d e => ?_, w.sr.inj, fun x e => ?_, fun j e => ?_⟩⟩
  · rw [upd_ne (ne_of_none e za)]; exact w.zh x u e
  · by_cases hx : x = a
    · rw [hx, upd_same] at e ⊢; exact e
    · rw [upd_ne hx] at e ⊢; exact w.ch x u e
  · by_cases hx : x = a
    · rw [hx]; exact za
    · rw [upd_ne hx] at e; exact w.dj x e
  · have e : (if j = k then some d' else m.m j) = none := e
    split at e
    · cases e
    · exact w.sr.no j e
  · have e : (if j = k then some d' else m.m j) = some d := e
    split at e
    · rename_i q
      cases e; subst q
      exact ⟨a, hk, r⟩
    · rename_i q
      obtain ⟨b, h1, h2⟩ := w.sr.yes j d e
      refine ⟨b, h1, h2.monoZ (.refl _) (upd_ne fun z => ?_)⟩
      subst z
      exact q (w.sr.inj _ _ _ h1 hk)
  · by_cases hx : x = a
    · rw [hx]; exact ⟨k, hk⟩
    · rw [upd_ne hx] at e; exact w.sr.cov x e
  · show (if j = k then some d' else m.m j) = none
    rw [if_neg]
    · exact w.sr.nx j e
    · intro q
      subst q
      rw [w.sr.no j (w.sr.nx j e)] at hk; cases hk
theorem mem_put (w : Wd (MemS K cl) md Z C H m) (hk : Z.μ k = some a) (h : C a = some o) (nf : ∀ od u, o ≠ .frz od u) (r : MemR K cl Z (upd C a o') a d') : Wd (MemS K cl) md Z (upd C a o') (upd H a o') (updM m k (some d')) ∧ Nx Z C H Z (upd C a o') (upd H a o') := by
  refine ⟨mem_putW w hk h r, ⟨.refl _, fun x u e c => ?_, fun x e => .inl e, fun x e => ?_, fun x e => ?_, fun x od u e => (upd_ne (fun z => by rw [z, h] at e; exact nf od u (Option.some.inj e))).trans e⟩⟩
  · rw [upd_ne (fun z => by rw [z, h] at c; cases c)]; exact e
  · by_cases hx : x = a
    · rw [hx]; exact .inl (some_ne h)
    · rw [upd_ne hx] at e; exact .inl e
  · by_cases hx : x = a
    · rw [hx, upd_same]; exact fun z => nomatch z
    · rw [upd_ne hx]; exact e
theorem mem_free (w : Wd (MemS K cl) md Z C H m) : Z.μ m.n = none := w.sr.no _ (w.sr.nx _ (Nat.le_refl _))
end
def rdM {K : PySem.W.Frag} {cl : CTab} (a : Nat) : M (MemS K cl) D := fun m => match m.m a with
  | some d => .ok d m
  | none => .stuck
def ixM {K : PySem.W.Frag} {cl : CTab} (x y : D) : M (MemS K cl) D := match x with
  | .ref a => M.bind (rdM a) fun l => lift (match l, y with
    | .lst ds, .int i => atI ds i
    | _, _ => none)
  | x => lift (ixD x y)
def lenM {K : PySem.W.Frag} {cl : CTab} (x : D) : M (MemS K cl) D := match x with
  | .ref a => M.bind (rdM a) fun l => lift (match l with
    | .lst ds => some (.int ds.length)
    | _ => none)
  | _ => fun _ => .stuck
section
variable {cl : CTab} {md : Bool} {W : WX} {X : Cx}
theorem de_ixM {a b : Expr} {f1 f2 : Env → M (MemS X.K cl) D} {pos : Pos} (ha : DE cl (MemS X.K cl) md W X a f1) (hb : DE cl (MemS X.K cl) md W X b f2) (hs : PlainIx b := by exact fun _ _ => rfl) :
    DE cl (MemS X.K cl) md W X (.Subscript a b pos) fun ρ => M.bind (f1 ρ) fun x => M.bind (f2 ρ) fun y => match x with
      | .ref a => ixM (.ref a) y
      | _ => fun _ => .stuck := by
  refine PE.weak (pe_ix ix_seq ha hb hs) fun σ H Q ⟨Z, C, s, ρ, w, e, p⟩ => ?_
  refine ⟨Z, C, s, ρ, w, e, Post.seq w.ch p fun dx s1 x Z1 C1 H1 w1 n1 r1 p1 => ?_⟩
  refine ⟨Z1, C1, s1, ρ, w1, e.mono n1.zz, Post.seq w1.ch p1 fun dy s2 y Z2 C2 H2 w2 n2 r2 p2 => ?_⟩
  cases dx <;> (try (exact False.elim p2))
  rename_i ad
  unfold ixM rdM M.bind at p2
  cases hm : s2.m ad with
  | none => simp only [hm] at p2; exact False.elim p2
  | some l =>
    simp only [hm] at p2
    cases r1 with | ref e1 =>
    have mr := mem_at' w2 hm (n2.zz.m _ _ e1)
    cases l <;> (try (exact False.elim p2))
    cases dy <;> (try (exact False.elim p2))
    obtain ⟨im, vs, h1, h2, h3⟩ := mr
    cases r2
    obtain ⟨d, hd, q⟩ := post_lift w2 p2
    obtain ⟨v, h4, h5⟩ := atI_rep h3 hd
    exact .inl ⟨_, _, _, v, rfl, rfl, SqL.of (w2.ch _ _ h1), h4, q v Z2 H2 (.refl w2.zh) h5⟩
end
end DN
namespace DN
open PySem PySem.Spec PyProof.Rows L2 RZ ND
structure FldAt (K : PySem.W.Frag) (cl : CTab) (c : Str) (f : Str) (i : Nat) : Prop where
  ex : ∃ C names, cl c = some (C, names) ∧ names[i]? = some f ∧ names.Nodup ∧ names.length < 1000 ∧ Cls K C ∧ NoAttr K C f
def fldM {K : PySem.W.Frag} {cl : CTab} (c : Str) (i : Nat) (x : D) : M (MemS K cl) D := match x with
  | .ins c' ds => lift (if c' = c then ds[i]? else none)
  | .ref a => M.bind (rdM a) fun l => lift (match l with
    | .ins c' ds => if c' = c then ds[i]? else none
    | _ => none)
  | _ => fun _ => .stuck
def setfM {K : PySem.W.Frag} {cl : CTab} (c : Str) (i : Nat) (x d : D) : M (MemS K cl) Unit := fun m => match x with
  | .ref a => match m.m a with
    | some (.ins c' ds) => if c' = c ∧ d.imm = true ∧ i = ds.length then .ok () (updM m a (some (.ins c (ds ++ [d])))) else .stuck
    | _ => .stuck
  | _ => .stuck
section
variable {cl : CTab} {md : Bool} {W : WX} {X : Cx} {p : D → Bool}
def setM {K : PySem.W.Frag} {cl : CTab} (x y d : D) : M (MemS K cl) Unit := fun m => match x, y with
  | .ref a, .int k => match m.m a with
    | some (.lst ds) => match ixN ds.length k with
      | some j => if d.imm = true then .ok () (updM m a (some (.lst (ds.set j d)))) else .stuck
      | none => .stuck
    | _ => .stuck
  | _, _ => .stuck
theorem immL_set {d : D} (h : d.imm = true) : ∀ {ds : List D} (j : Nat), D.immL ds = true → D.immL (ds.set j d) = true
  | [], _, e => e
  | x :: xs, 0, e => by
    have e2 : x.imm = true ∧ D.immL xs = true := by simpa [D.immL] using e
    simp [D.immL, h, e2.2]
  | x :: xs, j + 1, e => by
    have e2 : x.imm = true ∧ D.immL xs = true := by simpa [D.immL] using e
    simp [D.immL, e2.1, immL_set h j e2.2]
theorem ds_setM {o i e : Expr} {f fo fi : Env → M (MemS X.K cl) D} {tpos pos : Pos} (sp : See p md) (he : DE cl (MemS X.K cl) md W X e f) (ho : DE cl (MemS X.K cl) true W X o fo) (hi : DE cl (MemS X.K cl) true W X i fi)
    (hs : swapsWithSole [.Subscript o i tpos] e pos.line X.env = pure false := by rfl) (hw : swappedStores [.Subscript o i tpos] e X.env = pure none := by rfl) (h1 : (assignEach [.Subscript o i tpos] X.env).map (·.2) = [assign (.Subscript o i tpos) X.env] := by rfl)
    (ha : ∀ v, assign (.Subscript o i tpos) X.env v = (do
      let ov ← holding [v] (eval o X.env)
      let iv ← holding [v, ov] (eval i X.env)
      standAt tpos
      holding [v, ov, iv] (setItem ov iv v)
      release [v, ov, iv] []) := by intro _; rfl) :
    DS cl (MemS X.K cl) W X (.Assign [.Subscript o i tpos] e pos) fun ρ => M.bind (f (seeE p ρ)) fun d => M.bind (fo (seeE pHide ρ)) fun x => M.bind (fi (seeE pHide ρ)) fun y => M.bind (setM x y d) fun _ => M.pure (.nx ρ) := by
  refine PS.weak (ps_asg he (pg_sub ho hi set_list ha) hs hw h1) fun E σ H ⟨Z0, C0, H0, Z, C, s, ρ, α, c0, w, n, r, q⟩ => ?_
  refine ⟨seeZ p ρ α Z H, C, s, seeE p ρ, see_wd w r sp.nd, see_env sp r, PostS.seq sp w c0 n r q fun d s1 v Z1 C1 H1 w1 n1 r1 q1 => ?_⟩
  have u := see_un sp w c0 n r w1 n1
  have r1i : d.imm = true → Rep X.K cl (unZ p ρ α Z1) v d := fun h => r1.monoI u.imm d h
  have uw := u.wd; have un := u.nx; have ur := u.rel
  generalize unZ p ρ α Z1 = Zu at uw un ur r1i
  refine ⟨seeZ pHide ρ α Zu H1, C1, s1, seeE pHide ρ, see_wd uw ur seeHide.nd, see_env seeHide ur, PostS.seq seeHide uw c0 un ur q1 fun x s2 vx Z2 C2 H2 w2 n2 r2 q2 => ?_⟩
  have u2 := see_un seeHide uw c0 un ur w2 n2
  have uw2 := u2.wd; have un2 := u2.nx; have ur2 := u2.rel
  rw [seeZ_hide pHide_no] at n2
  rw [unZ_hide pHide_no] at uw2 un2 ur2
  refine ⟨seeZ pHide ρ α Z2 H2, C2, s2, seeE pHide ρ, see_wd uw2 ur2 seeHide.nd, see_env seeHide ur2, PostS.seq seeHide uw2 c0 un2 ur2 q2 fun y s3 vy Z3 C3 H3 w3 n3 r3 q3 => ?_⟩
  have u3 := see_un seeHide uw2 c0 un2 ur2 w3 n3
  have uw3 := u3.wd; have un3 := u3.nx; have ur3 := u3.rel
  rw [seeZ_hide pHide_no] at n3
  rw [unZ_hide pHide_no] at uw3 un3 ur3
  unfold setM M.bind at q3
  cases x <;> (try (exact False.elim q3))
  rename_i ad0
  cases y <;> (try (exact False.elim q3))
  rename_i kk
  cases hm : s3.m ad0 with
  | none => simp only [hm] at q3; exact False.elim q3
  | some l =>
    cases l <;> (simp only [hm] at q3; try (exact False.elim q3))
    rename_i ds
    cases hj : ixN ds.length kk with
    | none => simp only [hj] at q3; exact False.elim q3
    | some j =>
      by_cases hd : d.imm = true
      · simp only [hj, hd, if_true] at q3
        cases r3
        cases r2 with | ref er2 =>
        rename_i ad
        have er3 := n3.zz.m _ _ er2
        obtain ⟨im, vs, e1, e2, e3⟩ := mem_at' uw3 hm er3
        have rd : Rep X.K cl Z3 v d := ((r1i hd).mono n2.zz).mono n3.zz
        refine ⟨ad, vs, kk, j, rfl, rfl, uw3.ch _ _ e1, by rw [e3.len]; exact hj, ?_⟩
        have mr : MemR X.K cl Z3 (upd C3 ad (.lst (vs.set j v))) ad (.lst (ds.set j d)) := ⟨immL_set hd j im, _, upd_same, by rw [List.length_set]; exact e2, e3.set rd j⟩
        obtain ⟨w4, n4⟩ := mem_put (o' := .lst (vs.set j v)) uw3 er3 e1 (fun _ _ z => nomatch z) mr
        refine q3 σ Z3 _ _ α w4 (un3.trans c0 uw3.ch n4) (ur3.move (.refl _) (fun a b x o c hx ho => ?_) (fun a b x c hx => (ur3.fp a b x c hx).2.1) fun a b x c hx => ?_)
        · have h4 := (ur3.fp a b x c hx).2.2.1
          have hne : x ≠ ad := fun z => by rw [z, e1] at h4; cases h4
          rw [upd_ne hne]; exact ho
        · have h4 := (ur3.fp a b x c hx).2.2.1
          have hne : x ≠ ad := fun z => by rw [z, e1] at h4; cases h4
          rw [upd_ne hne]; exact h4
      · simp only [hj, if_neg hd] at q3; exact False.elim q3
end
end DN
namespace DN
open PySem PySem.Spec PyProof.Rows L2 RZ ND
def insM {K : PySem.W.Frag} {cl : CTab} (c : Str) (x : D) : M (MemS K cl) Unit := match x with
  | .ins c' _ => if c' = c then M.pure () else fun _ => .stuck
  | .ref a => M.bind (rdM a) fun l => match l with
    | .ins c' _ => if c' = c then M.pure () else fun _ => .stuck
    | _ => fun _ => .stuck
  | _ => fun _ => .stuck
inductive IR where
  | ok (fs : List D) | err (x : Exn) (fs : List D) | stuck
mutual
def D.pur : D → Bool
  | .tup xs => D.purL xs
  | .lst _ => false
  | .dct _ _ => false
  | .ins _ xs => D.purL xs
  | .ref _ => false
  | _ => true
def D.purL : List D → Bool
  | [] => true
  | d :: ds => d.pur && D.purL ds
end
section
variable {cl : CTab} {W : WX} {X : Cx}
def mkM {K : PySem.W.Frag} {cl : CTab} (c : Str) (n : Nat) (r : IR) : M (MemS K cl) D := match r with
  | .ok fs => if fs.length = n ∧ D.purL fs = true then M.pure (.ins c fs) else fun _ => .stuck
  | .err x _ => fun s => match x.f with
    | none => .err x s
    | some d => if d.pur = true then .err x s else .stuck
  | .stuck => fun _ => .stuck
theorem nameZ_at {Z : Zp} {k : Nat} {p : Addr} : (nameZ Z k p).μ k = some p := if_pos rfl
def newM {K : PySem.W.Frag} {cl : CTab} (d : D) : M (MemS K cl) D := fun s => .ok (.ref s.n) (s.push d)
def makeM {K : PySem.W.Frag} {cl : CTab} (c : Str) (f : List D → M (MemS K cl) D) (ds : List D) : M (MemS K cl) D := M.bind (newM (.ins c [])) fun r => M.bind (f (r :: ds)) fun v => match v with
  | .non => M.pure r
  | _ => fun _ => .stuck
end
end DN
namespace DN
open PySem PySem.Spec PyProof.Rows L2 RZ ND
open PySem.AutoSeq1 (wpAny_loadPart')
variable {B : Sto}
theorem tuple_mulW1 (l : Addr) (items : Array Value) (n : Nat) (dd : Option Addr) (sl : Array (Option Value)) (x : Int) (u : Tok) (c0 : (decide (x < -(2 ^ 63)) || decide (x ≥ 2 ^ 63)) = false) (c1 : (items.isEmpty || x == 1) = true) :
    Meets (Builtin.«tuple.__mul__» ⟨[.ref l, .int x u], []⟩) (fun _ R s => s.heap.get? l = some { cls := .type "tuple", dict := dd, data := .seq items n, slots := sl } ∧
      R (.ok (.ret (Value.ref l))) s) :=
  .of_wp fun prog w A R s h => by
    obtain ⟨hp, g, d, tk, os⟩ := s
    obtain ⟨hl, h⟩ := h
    have f1 := AutoSeq1.idx_int
    wp_walk using wpAny_loadPart' hl
    repeat (first
      | (refine wpAny_ite_false (decide_eq_false (by rw [c0]; exact Bool.false_ne_true)) ?_; wp_walk using wpAny_loadPart' hl)
      | (refine wpAny_ite_true (decide_eq_true c1) ?_; wp_walk using wpAny_loadPart' hl))
    exact ⟨_, rfl, h⟩
def rRep1 (K : PySem.W.Frag) : R2 := fun x y H Q => ∃ l k xs, x = .ref l ∧ y = .int k ∧ SqT K H l xs ∧ (xs = [] ∨ k = 1) ∧ -1000 ≤ k ∧ k ≤ 1000 ∧ Q (.ref l) H
theorem op_rep1 {X : Cx} : OpR X (binaryOp .Mult) (rRep1 X.K) := by
  intro pins s σ H x y v u Q I rx ry h
  obtain ⟨l, k, xs, rfl, rfl, hT, hne, h1, h2, q⟩ := h
  cases rx
  obtain ⟨t, rfl⟩ := ry
  obtain ⟨its, r, ⟨⟨cls, dd, data, sl⟩, ho, hc, n, hd⟩, hs⟩ := I.tuple hT
  simp only at hc hd
  subst hc hd
  have c0 : (decide (k < -(2 ^ 63)) || decide (k ≥ 2 ^ 63)) = false := by
    rw [decide_eq_false (by omega), decide_eq_false (by omega)] <;> rfl
  have c1 : (its.toArray.isEmpty || k == 1) = true := by
    rcases hne with rfl | rfl
    · cases r; rfl
    · simp
  refine wpAny_binaryOp_repeat_ref (T := "tuple") (U := "int") (by decide) ⟨_, ho, rfl⟩ (fun s' => typeIs_int s' k t) noFill_tuple_mul F.fills_int_mul F.slot_int_rmul repeat_tuple F.slot_int_index.lookup
    (call_meets F.slot_int_rmul (typeIs_int s k t) F.entry_int_rmul (F.args_int_rmul_2 _ _) (int_rmul_tuple k t l its.toArray n dd sl)
      ⟨ho, rfl, ⟨_, ho, rfl⟩, call_meets F.slot_tuple_mul ⟨_, ho, rfl⟩ F.entry_tuple_mul (F.args_tuple_mul_2 _ _) (tuple_mulW1 l its.toArray n dd sl k t c0 c1) ⟨ho, ?_⟩⟩)
  exact ⟨.ref l, H, I, rfl, q⟩
theorem tuple_mulW0 (l : Addr) (items : Array Value) (n : Nat) (dd : Option Addr) (sl : Array (Option Value)) (x : Int) (u : Tok) (c0 : (decide (x < -(2 ^ 63)) || decide (x ≥ 2 ^ 63)) = false) (c1 : (items.isEmpty || x == 1) = false) (c2 : (decide (x ≤ 0) || items.isEmpty) = true) :
    Meets (Builtin.«tuple.__mul__» ⟨[.ref l, .int x u], []⟩) (fun _ R s => s.heap.get? l = some { cls := .type "tuple", dict := dd, data := .seq items n, slots := sl } ∧
      R (.ok (.ret (Value.ref s.heap.objs.size))) { s with heap := s.heap.push { cls := Value.type "tuple", data := Data.seq #[] }, toks := s.toks }) :=
  .of_wp fun prog w A R s h => by
    obtain ⟨hp, g, d, tk, os⟩ := s
    obtain ⟨hl, h⟩ := h
    have f1 := AutoSeq1.idx_int
    wp_walk using wpAny_loadPart' hl
    repeat (first
      | (refine wpAny_ite_false (decide_eq_false (by rw [c0]; exact Bool.false_ne_true)) ?_; wp_walk using wpAny_loadPart' hl)
      | (refine wpAny_ite_false (decide_eq_false (by rw [c1]; exact Bool.false_ne_true)) ?_; wp_walk using wpAny_loadPart' hl)
      | (refine wpAny_ite_true (decide_eq_true c2) ?_; wp_walk using wpAny_loadPart' hl))
    exact ⟨_, rfl, h⟩
def rRep0 (K : PySem.W.Frag) : R2 := fun x y H Q => ∃ l k xs, x = .ref l ∧ y = .int k ∧ SqT K H l xs ∧ xs ≠ [] ∧ -1000 ≤ k ∧ k ≤ 0 ∧ ∀ p, H p = none → Q (.ref p) (upd H p (.tup []))
theorem op_rep0 {X : Cx} : OpR X (binaryOp .Mult) (rRep0 X.K) := by
  intro pins s σ H x y v u Q I rx ry h
  obtain ⟨l, k, xs, rfl, rfl, hT, hne, h1, h2, q⟩ := h
  cases rx
  obtain ⟨t, rfl⟩ := ry
  obtain ⟨its, r, ⟨⟨cls, dd, data, sl⟩, ho, hc, n, hd⟩, hs⟩ := I.tuple hT
  simp only at hc hd
  subst hc hd
  have hi : its.toArray.isEmpty = false := by
    cases its with
    | nil => cases r; exact absurd rfl hne
    | cons a b => rfl
  have c0 : (decide (k < -(2 ^ 63)) || decide (k ≥ 2 ^ 63)) = false := by
    rw [decide_eq_false (by omega), decide_eq_false (by omega)] <;> rfl
  have c1 : (its.toArray.isEmpty || k == 1) = false := by
    rw [hi, Bool.false_or]
    exact beq_eq_false_iff_ne.mpr (by omega)
  have c2 : (decide (k ≤ 0) || its.toArray.isEmpty) = true := by
    rw [decide_eq_true h2, Bool.true_or]
  refine wpAny_binaryOp_repeat_ref (T := "tuple") (U := "int") (by decide) ⟨_, ho, rfl⟩ (fun s' => typeIs_int s' k t) noFill_tuple_mul F.fills_int_mul F.slot_int_rmul repeat_tuple F.slot_int_index.lookup
    (call_meets F.slot_int_rmul (typeIs_int s k t) F.entry_int_rmul (F.args_int_rmul_2 _ _) (int_rmul_tuple k t l its.toArray n dd sl)
      ⟨ho, rfl, ⟨_, ho, rfl⟩, call_meets F.slot_tuple_mul ⟨_, ho, rfl⟩ F.entry_tuple_mul (F.args_tuple_mul_2 _ _) (tuple_mulW0 l its.toArray n dd sl k t c0 c1 c2) ⟨ho, ?_⟩⟩)
  refine ⟨.ref s.heap.objs.size, _, I.laid (t' := s.toks) (o := .tup []) (fun b ob q => Heap.get?_push_of_some _ q) (Nat.le_refl _) ?_, rfl, q _ (I.hok.fresh (Nat.le_refl _))⟩
  exact ⟨Nat.zero_le _, [], .nil, IsTup.new _ _⟩
def rRepR (K : PySem.W.Frag) : R2 := fun x y H Q => ∃ l k xs, x = .ref l ∧ y = .int k ∧ SqR K H l xs ∧ -1000 ≤ k ∧ k ≤ 1000 ∧ xs.length * k.toNat ≤ sizeLine ∧
  ∀ p, H p = none → Q (.ref p) (upd H p (.lst (List.replicate k.toNat xs).flatten))
theorem flat_fold {α : Type} (its : List α) : ∀ (m : Nat) (acc : List α), List.foldl (fun x1 x2 => x1 ++ x2) acc.toArray (List.replicate m its.toArray) = (acc ++ (List.replicate m its).flatten).toArray
  | 0, acc => by simp
  | m + 1, acc => by
    rw [List.replicate_succ, List.foldl_cons, show acc.toArray ++ its.toArray = (acc ++ its).toArray by simp, flat_fold its m (acc ++ its), List.replicate_succ, List.flatten_cons, List.append_assoc]
theorem op_repR {X : Cx} : OpR X (binaryOp .Mult) (rRepR X.K) := by
  intro pins s σ H x y v u Q I rx ry ⟨l, k, xs, ex, ey, hT, h1, h2, hz, q⟩
  subst ex ey
  cases rx
  obtain ⟨t, rfl⟩ := ry
  obtain ⟨_, its, n, r, hl, e⟩ := lstR I hT
  have hs : its.toArray.size * k.toNat ≤ sizeLine := by rw [List.size_toArray, ← hl]; exact hz
  have c1 : ¬ (!Builtin.List.listFitsIndex k) = true := by
    rw [fitsIndex_both (by omega) (by omega)]
    exact Bool.false_ne_true
  have c2 : ¬ its.toArray.size * k.toNat > (2 ^ 63 - 1) / 8 := by
    have : (sizeLine : Nat) ≤ (2 ^ 63 - 1) / 8 := by decide
    omega
  have c3 : ¬ Builtin.List.listTooLong (its.toArray.size * k.toNat) = true := by
    rw [notLongL hs]
    exact Bool.false_ne_true
  refine wpAny_binaryOp_repeat_ref (T := "list") (U := "int") (by decide) ⟨_, e, rfl⟩ (fun s' => typeIs_int s' k t) noFill_list_mul F.fills_int_mul F.slot_int_rmul repeat_list F.slot_int_index.lookup
    (call_meets F.slot_int_rmul (typeIs_int s k t) F.entry_int_rmul (F.args_int_rmul_2 _ _) (int___rmul___int_list k t l its.toArray n)
      ⟨e, rfl, ⟨_, e, rfl⟩, call_meets F.slot_list_mul ⟨_, e, rfl⟩ F.entry_list_mul (F.args_list_mul_2 _ _) (AutoListH.list___mul___list_int_3 l its.toArray n k t c1 c2 c3) ⟨e, ?_⟩⟩)
  have en : List.foldl (fun x1 x2 => x1 ++ x2) #[] (List.replicate (if its.toArray.isEmpty = true then 0 else k.toNat) its.toArray) = (List.replicate k.toNat its).flatten.toArray := by
    have := flat_fold its (if its.toArray.isEmpty = true then 0 else k.toNat) []
    rw [List.nil_append] at this
    rw [this]
    cases its with
    | nil => simp
    | cons a r' => rw [if_neg (by simp)]
  rw [en]
  exact ⟨.ref _, _, I.lnew (t' := s.toks) (r.rep k.toNat) (by rw [PyProof.Rows.lm_len_rep_flat, Nat.mul_comm]; exact hz), rfl, q _ I.fresh⟩
def mulD : D → D → Option D
  | .int i, .int j => mulI (.int i) (.int j)
  | .tup xs, .int k => if (xs.isEmpty = true ∨ k = 1) ∧ -1000 ≤ k ∧ k ≤ 1000 then some (.tup xs) else if xs.isEmpty = false ∧ 2 ≤ k ∧ k ≤ 1000 ∧ xs.length ≤ 1000 then some (.tup (List.replicate k.toNat xs).flatten) else if xs.isEmpty = false ∧ -1000 ≤ k ∧ k ≤ 0 then some (.tup []) else none
  | .lst xs, .int k => if -1000 ≤ k ∧ k ≤ 1000 ∧ xs.length ≤ 1000 then some (.lst (List.replicate k.toNat xs).flatten) else none
  | _, _ => none
abbrev rMulA (K : PySem.W.Frag) : R2 := fun x y H Q => ((rI CMul (fun i j => .int (i * j)) x y H Q ∨ rRep1 K x y H Q) ∨ rRepT K x y H Q) ∨ (rRep0 K x y H Q ∨ rRepR K x y H Q)
theorem op_mulA {X : Cx} : OpR X (binaryOp .Mult) (rMulA X.K) := ((op_mul.or op_rep1).or op_repT).or (op_rep0.or op_repR)
theorem RepL.rep {K : PySem.W.Frag} {cl : CTab} {Z : Zp} {vs : List V} {ds : List D} (r : RepL K cl Z vs ds) : ∀ n : Nat, RepL K cl Z (List.replicate n vs).flatten (List.replicate n ds).flatten
  | 0 => .nil
  | n + 1 => by
    rw [List.replicate_succ, List.flatten_cons, List.replicate_succ, List.flatten_cons]
    exact r.append (RepL.rep r n)
theorem v_mul {K : PySem.W.Frag} {cl : CTab} : OpV K cl (rMulA K) mulD := by
  intro Z H x y dx dy d Q h rx ry e q
  unfold mulD at e
  split at e
  · exact .inl (.inl (.inl (v_mulI Z H x y _ _ d Q h rx ry e q)))
  · cases ry
    rename_i xs k
    cases rx with
    | tup a b c =>
      rename_i pa va
      split at e
      · rename_i hc
        cases e
        refine .inl (.inl (.inr ⟨_, k, _, rfl, rfl, sq_t (h _ _ a), ?_, hc.2.1, hc.2.2, q _ Z H (.refl h) (.tup a b c)⟩))
        rcases hc.1 with z | z
        · cases xs with
          | nil => cases c; exact .inl rfl
          | cons => cases z
        · exact .inr z
      · split at e
        · rename_i hc
          cases e
          have hl := c.len
          refine .inl (.inr ⟨_, k, _, rfl, rfl, sq_t (h _ _ a), fun z => ?_, hc.2.1, hc.2.2.1, by omega, fun p hp => ?_⟩)
          · subst z; cases c; cases hc.1
          · have al : Al Z H (upz Z p (.tup (List.replicate k.toNat va).flatten)) (upd H p (.tup (List.replicate k.toNat va).flatten)) := .new h hp (fun _ z => nomatch z)
            refine q _ _ _ al (.tup upd_same ?_ ((c.rep k.toNat).mono al.zz))
            rw [PyProof.Rows.lm_len_rep_flat, hl, sizeLine_eq]
            have : k.toNat * xs.length ≤ 1000 * 1000 := Nat.mul_le_mul (by omega) hc.2.2.2
            omega
        · split at e
          · rename_i hc
            cases e
            refine .inr (.inl ⟨_, k, _, rfl, rfl, sq_t (h _ _ a), fun z => ?_, hc.2.1, hc.2.2, fun p hp => ?_⟩)
            · subst z; cases c; cases hc.1
            · have al : Al Z H (upz Z p (.tup [])) (upd H p (.tup [])) := .new h hp (fun _ z => nomatch z)
              exact q _ _ _ al (.tup upd_same (Nat.zero_le _) .nil)
          · cases e
  · cases ry
    rename_i xs k
    cases rx with
    | slst a b c =>
      rename_i pa va
      split at e
      · rename_i hc
        cases e
        have hl := c.len
        have hz : xs.length * k.toNat ≤ 1000 * 1000 := Nat.mul_le_mul hc.2.2 (by omega)
        refine .inr (.inr ⟨_, k, _, rfl, rfl, a.sub h, by omega, by omega, by rw [hl, sizeLine_eq]; omega, fun p hp => ?_⟩)
        have al : Al Z H (upz Z p (.lst (List.replicate k.toNat va).flatten)) (upd H p (.lst (List.replicate k.toNat va).flatten)) := .new h hp (fun _ z => nomatch z)
        refine q _ _ _ al (.lst upd_same ?_ ((c.rep k.toNat).mono al.zz))
        rw [PyProof.Rows.lm_len_rep_flat, hl, sizeLine_eq, Nat.mul_comm]
        omega
      · cases e
  · cases e
def flV : D → Option V
  | .non => some .non
  | .bl b => some (.bl b)
  | .int i => some (.int i)
  | .str x => some (.str x)
  | _ => none
def flVs : List D → Option (List V)
  | [] => some []
  | d :: ds => (flV d).bind fun v => (flVs ds).map fun r => v :: r
def asL : D → Option (List D)
  | .lst ds => some ds
  | _ => none
def countD (ds : List D) (y : D) : Option D := (flVs ds).bind fun vs => (flV y).map fun v => .int (vs.countP fun z => eqV z v : Nat)
end DN
namespace DN
open PySem PySem.Spec PyProof.Rows L2 RZ ND
variable {B : Sto}
def hasK (ks : List D) (k : GK) : Bool := ks.any fun x => decide (x.key = some k)
def repV : List D → List D → GK → D → List D
  | x :: ks, y :: ds, k, d => (if x.key = some k then d else y) :: repV ks ds k d
  | _, ds, _, _ => ds
def putKs (ks : List D) (k : GK) : List D := if hasK ks k = true then ks else ks ++ [keyD k]
def putVs (ks ds : List D) (k : GK) (d : D) : List D := if hasK ks k = true then repV ks ds k d else ds ++ [d]
section
variable {K : PySem.W.Frag} {cl : CTab} {Z : Zp}
theorem hasK_eq (kvs : List (GK × V)) (k : GK) : hasK (kvs.map fun p => keyD p.1) k = kvs.any fun kv => decide (kv.1 = k) := by
  unfold hasK
  rw [List.any_map]
  congr 1
  funext p
  simp only [Function.comp_apply, key_keyD, Option.some.injEq]
end
def GK.low : GK → Bool
  | .inl _ => true
  | .inr ks => decide ((NestedKey.tup ks).depth ≤ 8)
def okK (ks : List D) (k : GK) : Bool := (ks.isEmpty || kindT ks == k.isT) && k.low
section
variable {cl : CTab}
theorem okK_cases {kvs : List (GK × V)} {k : GK} (h : okK (kvs.map fun p => keyD p.1) k = true) : (kvs = [] ∨ kindT (kvs.map fun p => keyD p.1) = k.isT) ∧ ∀ ks, k = .inr ks → (NestedKey.tup ks).depth ≤ 8 := by
  unfold okK at h
  rw [Bool.and_eq_true] at h
  refine ⟨?_, fun ks e => ?_⟩
  · have h := h.1
    rcases Bool.or_eq_true _ _ ▸ h with h | h
    · left
      cases kvs with
      | nil => rfl
      | cons a b => cases h
    · right; exact eq_of_beq h
  · subst e
    exact of_decide_eq_true h.2
end
def putAll : List D → List D → List (D × D) → Option D
  | ks, ds, [] => some (.dct ks ds)
  | ks, ds, (k, d) :: r => k.key.bind fun k => if okK ks k = true then putAll (putKs ks k) (putVs ks ds k d) r else none
def compFD (a : D → Option Asg) (t : Env → M B Bool) (ek e : Env → M B D) (ρ : Env) (d : D) : M B (Option (D × D)) :=
  noErr (M.bind (lift ((a d).map (setsE ρ))) fun ρ' => M.bind (t ρ') fun k => if k = true then M.bind (ek ρ') fun x => M.bind (e ρ') fun y => M.pure (some (x, y)) else M.pure none)
theorem compL_noErr {β : Type} {f : D → M B (Option β)} {g : D → M B (Option β)} (hf : ∀ d, f d = noErr (g d)) : ∀ {ds : List D} {s s' : B.T} {x : Exn}, compL f ds s ≠ .err x s'
  | [], _, _, _, h => by cases h
  | d :: ds, s, s', x, h => by
    unfold compL M.bind at h
    cases e : f d s with
    | ok o s1 =>
      simp only [e] at h
      cases e2 : compL f ds s1 with
      | ok r s2 => simp only [e2] at h; cases h
      | err y s2 => exact compL_noErr hf e2
      | stuck => simp only [e2] at h; cases h
    | err y s1 =>
      rw [hf d] at e
      unfold noErr at e
      split at e <;> cases e
    | stuck => simp only [e] at h; cases h
end DN
namespace DN
section
open PySem PySem.Calls PyProof.Rows PySem.W PySem.SeqAt
theorem firsts_opt {M : Model} {A : Around} {E : Value → Shared → Prop} {s : Shared} : ∀ (vs : List Value) (ds : List PyData) {Q : List (Option Value) → Shared → Prop}, EachIs (fun v d => ∃ as, Reads s.heap v d as) vs ds → (∀ d ∈ ds, ∃ xs, d = .tuple xs) →
    (∀ fs, fs.length = vs.length → (∀ (i : Nat) xs, ds[i]? = some (.tuple xs) → (fs[i]?.map Option.isSome = some (!xs.isEmpty))) → Q fs s) → wpAny M A (vs.mapM firstOfTuple') Q E s
  | [], [], _, _, _, h => by rw [List.mapM_nil]; exact wpAny_pure (h [] rfl fun i xs e => by simp at e)
  | [], _ :: _, _, e, _, _ => by cases e
  | _ :: _, [], _, e, _, _ => by cases e
  | v :: vs, d :: ds, Q, e, ht, h => by
    cases e with
    | cons r t =>
      obtain ⟨as, r⟩ := r
      obtain ⟨ys, rfl⟩ := ht d List.mem_cons_self
      cases r with
      | @tuple a o xs n _ _ ho hc hd hr =>
        rw [List.mapM_cons]
        refine wpAny_bind ?_
        rw [kas_first_eq]
        refine wpAny_bind (Looks.here (show Looks M s.heap (typeOf (.ref a)) o.cls from (Looks.ld ho).andThen .now) ?_)
        rw [hc, if_neg (by first | decide | simp)]
        refine wpAny_bind (listItems_at ho hd (wpAny_pure ?_))
        refine wpAny_bind (firsts_opt vs ds t (fun d hd => ht d (List.mem_cons_of_mem _ hd)) fun fs hl hf => wpAny_pure (h (xs[0]? :: fs) (by simp [hl]) fun i zs hz => ?_))
        cases i with
        | zero =>
          simp only [List.getElem?_cons_zero, Option.some.injEq, PyData.tuple.injEq] at hz
          subst hz
          simp only [List.getElem?_cons_zero, Option.map_some]
          congr 1
          rw [← Array.getElem?_toList]
          cases q : xs.toList with
          | nil => rw [q] at hr; cases hr; rfl
          | cons f fr => rw [q] at hr; cases hr; rfl
        | succ i =>
          simp only [List.getElem?_cons_succ] at hz ⊢
          exact hf i zs hz
theorem call_tup_lt {A : Around} {s : Shared} {prog : Program} {w : World} {E : Value → Shared → Prop} {Q : Value → Shared → Prop} {l b : Addr} {items items2 : Array Value} {e r : Nat → Bool} (hl : s.heap.IsTuple l items) (hb : s.heap.IsTuple b items2)
    (he : ∀ j (h1 : j < items.size) (h2 : j < items2.size), EqAt A.in1 s items[j] items2[j] (e j)) (hr : ∀ j (h1 : j < items.size) (h2 : j < items2.size), e j = false → RcLt A.in1 s items[j] items2[j] (r j))
    (h : Q (.bool (firstLt e r (decide (items.size < items2.size)) (List.range (min items.size items2.size)))) s) : wpAny (model prog w) A (call (.builtin "tuple.__lt__") [.ref l, .ref b]) Q E s := by
  obtain ⟨⟨cls, dd, data, sl⟩, ho, hc, n, hd⟩ := id hl
  obtain ⟨⟨cls2, dd2, data2, sl2⟩, ho2, hc2, n2, hd2⟩ := id hb
  simp only at hc hd hc2 hd2
  subst hc hd hc2 hd2
  exact call_meets F.slot_tuple_lt ⟨_, ho, rfl⟩ F.entry_tuple_lt (F.args_tuple_lt_2 _ _) (PySem.SeqAt.tuple_ltAt l b items items2 n n2 dd dd2 sl sl2 e r) ⟨ho, ho2, he, hr, h⟩
theorem oneLt_tup {prog : Program} {w : World} {A : Around} {E : Value → Shared → Prop} {s : Shared} {f : Bool} {xs ys : List PyData} {a b : Value} {as bs : List Addr} {Q : Bool → Shared → Prop} (ra : Reads s.heap a (.tuple xs) as) (rb : Reads s.heap b (.tuple ys) bs) (h : alike (.tuple xs) (.tuple ys) = true)
    (hu : A.units + min (PyData.tuple xs).depth (PyData.tuple ys).depth < cLine) (hq : Q (dataLt (.tuple xs) (.tuple ys)) s) : wpAny (model prog w) A (oneLt' f a b) Q E s := by
  cases f with
  | false =>
    rw [oneLt'_eq]
    simp only [Bool.false_eq_true, if_false]
    exact wpAny_bind (rcLt_alike (.tuple xs) (.tuple ys) A s a b as bs ra rb h (by simp) hu prog w E _ (wpAny_truthy_bool hq))
  | true =>
    have hal : alikeAll xs ys = true := by simpa [alike] using h
    cases ra with
    | @tuple l o vs n _ as₁ h1 h2 h3 h4 =>
      cases rb with
      | @tuple l' o' vs' n' _ bs₁ k1 k2 k3 k4 =>
        have n1 : vs.size = xs.length := by simpa using ReadsAll.length _ _ _ h4
        have n2 : vs'.size = ys.length := by simpa using ReadsAll.length _ _ _ k4
        rw [dataLt_tuple, ← firstLt_toks xs ys hal, ← n1, ← n2] at hq
        rw [oneLt'_eq]
        simp only [if_true]
        refine wpAny_bind (wpAny_cRoomFor (room_here hu) ?_)
        refine wpAny_bind (wpAny_callSpecialIfBound?_slot (T := "tuple") ⟨_, h1, h2⟩ F.slot_tuple_lt (call_tup_lt (e := pairEq xs ys) (r := fun j => dataLt (xs.getD j .none) (ys.getD j .none)) ⟨_, h1, h2, _, h3⟩ ⟨_, k1, k2, _, k3⟩ (fun j j1 j2 => ?_) (fun j j1 j2 hj => ?_) ?_))
        · have := eqAt_alikeAll xs ys A.in1 s vs.toList vs'.toList _ _ h4 k4 hal (room_in hu) j (by simpa using j1) (by simpa using j2)
          simpa using this
        · have := rcLt_alikeAll xs ys A.in1 s vs.toList vs'.toList _ _ h4 k4 hal (room_in hu) j (by simpa using j1) (by simpa using j2) hj
          simpa using this
        · exact wpAny_truthy_bool hq
theorem keyLt_general (x y : Value) : keyLt' general' x y = oneLt' false x y := rfl
theorem sortsAt_tups {prog : Program} {w : World} {A : Around} {s : Shared} {vs : List Value} {ds : List PyData} (e : EachIs (fun v d => ∃ as, Reads s.heap v d as) vs ds) (hal : AllAlike ds) (ht : ∀ d ∈ ds, ∃ xs, d = .tuple xs) (hu : ∀ d, d ∈ ds → A.units + d.depth < cLine) :
    SortsAt prog w A s (dataKind s.heap ds) vs := by
  by_cases hne : ∀ d ∈ ds, ∃ x r, d = .tuple (x :: r)
  · exact SortsAt.data e hal (.inl hne) hu
  have room : ∀ {d d' : PyData}, d ∈ ds → A.units + min d.depth d'.depth < cLine := fun {d d'} hd => Nat.lt_of_le_of_lt (Nat.add_le_add_left (Nat.min_le_left _ _) _) (hu d hd)
  have lt : ∀ f : Bool, ∀ (kd : SortKind), (∀ x y, keyLt' kd x y = oneLt' f x y) → PyProof.Rows.H.LtAt prog w A s (dataKind s.heap ds) kd := by
    intro f kd hkd E x y a b Q ha hb hq
    obtain ⟨d, as, hd, ra, rfl⟩ := dataKind_inv ha
    obtain ⟨d', as', hd', rb, rfl⟩ := dataKind_inv hb
    obtain ⟨xs, rfl⟩ := ht d hd
    obtain ⟨ys, rfl⟩ := ht d' hd'
    rw [hkd]
    exact oneLt_tup ra rb (hal _ hd _ hd') (room hd) hq
  refine ⟨fun v hv => ?_, ?_⟩
  · obtain ⟨d, hd, as, r⟩ := e.left v hv
    exact ⟨_, dataKind_some hal hd r⟩
  have some_empty : ∃ i : Nat, ds[i]? = some (.tuple []) := by
    apply Classical.byContradiction
    intro hno
    apply hne
    intro d hd
    obtain ⟨xs, rfl⟩ := ht d hd
    cases xs with
    | nil =>
      obtain ⟨i, hi⟩ := List.mem_iff_getElem?.mp hd
      exact absurd ⟨i, hi⟩ hno
    | cons x r => exact ⟨x, r, rfl⟩
  have tys : ∀ (M : Model), ∀ v ∈ vs, Looks M s.heap (typeOf v) (.type "tuple") := fun M v hv => by
    obtain ⟨d, hd, as, r⟩ := e.left v hv
    obtain ⟨xs, rfl⟩ := ht d hd
    exact looks_reads r
  have hlen := e.length
  -- the first one
  cases hds : ds with
  | nil => rw [hds] at some_empty; obtain ⟨i, hi⟩ := some_empty; simp at hi
  | cons d0 ds0 =>
    obtain ⟨x0, rfl⟩ := ht d0 (by rw [hds]; exact List.mem_cons_self)
    have hfst : ds[0]? = some (.tuple x0) := by rw [hds]; rfl
    have notall : ∀ fs : List (Option Value), fs.length = vs.length → (∀ (i : Nat) xs, ds[i]? = some (.tuple xs) → (fs[i]?.map Option.isSome = some (!xs.isEmpty))) → (fs.toArray.all fun x => x.isSome) = false := by
      intro fs hl hf
      obtain ⟨i, hi⟩ := some_empty
      have := hf i [] hi
      cases hx : fs[i]? with
      | none => rw [hx] at this; simp at this
      | some o =>
        rw [hx] at this
        have ho : o.isSome = false := by simpa using this
        rw [List.all_toArray]
        rw [Bool.eq_false_iff]
        intro hall
        have := List.all_eq_true.mp hall o (List.mem_of_getElem? hx)
        rw [ho] at this; cases this
    rw [← hds]
    by_cases hx0 : x0 = []
    · -- one type
      refine ⟨oneType', lt true oneType' (fun x y => keyLt'_oneType x y), fun h2 E Q hq => ?_⟩
      rw [keyKind'_eq, List.mapM_toArray, map_eq_pure_bind]
      refine wpAny_bind (wpAny_bind (firsts_opt vs ds e ht fun fs hl hf => wpAny_pure ?_))
      rw [if_neg (by rw [notall fs hl hf]; simp)]
      have h0 : (fs.toArray[0]?.bind id).isSome = false := by
        have := hf 0 x0 hfst
        rw [List.getElem?_toArray]
        cases hx : fs[0]? with
        | none => rfl
        | some o =>
          rw [hx] at this
          subst hx0
          simpa using this
      rw [if_neg (by rw [h0]; simp)]
      rw [oneTypeOnly'_eq, List.mapM_toArray, map_eq_pure_bind]
      refine wpAny_bind (wpAny_bind (wpAny_bind (kas_mapM (r := Value.type "tuple") _ (fun v hv Q' hq => (tys _ v hv).here hq) (wpAny_pure ?_))))
      obtain ⟨v1, vr, rfl⟩ : ∃ v1 vr, vs = v1 :: vr := by
        cases vs with
        | nil => simp at h2
        | cons a b => exact ⟨a, b, rfl⟩
      have hall : ((List.map (fun _ => Value.type "tuple") (v1 :: vr)).toArray.all fun x => x == Value.type "tuple") = true := by
        simp only [List.all_toArray, List.all_map, List.all_eq_true]
        intro _ _
        exact (beq_self_eq_true _)
      have h0' : (List.map (fun _ => Value.type "tuple") (v1 :: vr)).toArray[0]? = some (Value.type "tuple") := by simp
      rw [h0']
      simp only [hall, if_true]
      exact wpAny_pure (wpAny_pure hq)
    · refine ⟨general', lt false general' keyLt_general, fun h2 E Q hq => ?_⟩
      rw [keyKind'_eq, List.mapM_toArray, map_eq_pure_bind]
      refine wpAny_bind (wpAny_bind (firsts_opt vs ds e ht fun fs hl hf => wpAny_pure ?_))
      rw [if_neg (by rw [notall fs hl hf]; simp)]
      have h0 : (fs.toArray[0]?.bind id).isSome = true := by
        have := hf 0 x0 hfst
        rw [List.getElem?_toArray]
        cases hx : fs[0]? with
        | none => rw [hx] at this; simp at this
        | some o =>
          rw [hx] at this
          cases x0 with
          | nil => exact absurd rfl hx0
          | cons a b => simpa using this
      rw [if_pos h0]
      exact wpAny_pure hq
def IsSeq (h : Heap) (l : Addr) (xs : Array Value) : Prop := h.IsList l xs ∨ h.IsTuple l xs
theorem collect_seq {prog : Program} {w : World} {A : Around} {E : Value → Shared → Prop} {s : Shared} {l : Addr} {vs : List Value} {Q : List Value → Shared → Prop} (hl : IsSeq s.heap l vs.toArray)
    (h : Q vs { s with heap := (s.heap.push (seqObj "list" #[] 0)).update s.heap.objs.size (Obj.mapSeq (· ++ vs.toArray)) }) (hsz : vs.length ≤ sizeLine) :
    wpAny (model prog w) A (collect (.ref l)) Q E s := by
  rcases hl with hl | hl
  · exact collect_list hl h hsz
  obtain ⟨o, ho, hc, n, hd⟩ := id hl
  unfold collect
  refine wpAny_bind (wpAny_runValue (codeAny_builtin entry_proto_collect' ?_))
  show wpAny _ _ (do again (.builtin "list.__iadd__" ⟨[← newList [], .ref l], []⟩)) _ _ s
  refine wpAny_bind (wpAny_newList (wpAny_pure ⟨Code.quiet_builtin _ (by decide +kernel), codeAny_builtin entry_list_iadd' ?_⟩))
  show wpAny _ _ (Builtin.List.listExtendWith (.ref s.heap.objs.size) (.ref l) (.ref s.heap.objs.size)) _ _ { s with heap := s.heap.push (seqObj "list" #[] 0) }
  unfold Builtin.List.listExtendWith
  have ho' : (s.heap.push (seqObj "list" #[] 0)).get? l = some o := Heap.get?_push_of_some _ ho
  refine wpAny_bind (wpAny_typeOf (T := "tuple") ⟨o, ho', hc⟩ ?_)
  have ht : (Value.type "tuple" == Value.type "tuple") = true := by rfl
  rw [if_pos (by rw [ht]; simp)]
  refine wpAny_bind (listItems_at ho' hd ?_)
  refine wpAny_bind (listItems_at (xs := #[]) (n := 0) (Heap.get?_push_size _ rfl) rfl ?_)
  rw [if_neg (by simp)]
  refine wpAny_bind (listUpdate_at (xs := #[]) (n := 0) (Heap.get?_push_size _ rfl) rfl ?_ (Nat.zero_le _) (by show (#[] ++ vs.toArray).size ≤ sizeLine + 1; simp only [Array.size_append, List.size_toArray, List.length_nil]; omega))
  refine wpAny_pure ?_
  show wpAny (model prog w) A (do
      let o ← load s.heap.objs.size
      match o.data with
      | .seq xs _ => pure xs.toList
      | _ => unsupported "internal:collect") Q E { s with heap := (s.heap.push (seqObj "list" #[] 0)).update s.heap.objs.size (Obj.mapSeq (· ++ vs.toArray)) }
  refine wpAny_bind (wpAny_load (get?_update_seq (Heap.get?_push_size _ rfl) _) ?_)
  show wpAny _ _ (pure ((#[] : Array Value) ++ vs.toArray).toList) Q E _
  rw [show ((#[] : Array Value) ++ vs.toArray).toList = vs by simp]
  exact wpAny_pure h
theorem sorted_of_seq {prog : Program} {w : World} {A : Around} {E : Value → Shared → Prop} {s : Shared} {κ : PyProof.Rows.KeyKind} {l : Addr} {vs : List Value} {Q : Value → Shared → Prop} (hl : IsSeq s.heap l vs.toArray) (S : SortsAt prog w A.in1.in1 { s with heap := sortingHeap (copyHeap s.heap vs) (s.heap.objs.size + 1) vs } κ vs) (hL : vs.length ≤ sizeLine)
    (h : Q (.ref (s.heap.objs.size + 1)) { s with heap := sortedAll s.heap vs (sortVals κ false vs vs).toArray }) : wpAny (model prog w) A (call (.builtin "sorted") [.ref l]) Q E s := by
  refine call_function_entry_kw kind_sorted plain_sorted entry_sorted (args_sorted1 _) ?_
  unfold Builtin.«sorted»
  refine wpAny_bind (m := checkCount "sorted" 1 1 _) (wpAny_pure ?_)
  refine wpAny_bind (collect_seq hl ?_ hL)
  refine wpAny_bind (wpAny_newList ?_ hL)
  have hsz : ((s.heap.push (seqObj "list" #[] 0)).update s.heap.objs.size (Obj.mapSeq (· ++ vs.toArray))).objs.size = s.heap.objs.size + 1 := by
    rw [Heap.size_update, size_push']
  show wpAny _ _ _ _ _ { s with heap := copyHeap s.heap vs }
  rw [hsz]
  refine wpAny_bind (wpAny_holding (wpAny_call_entry_kw slot_list_sort ⟨_, copyHeap_at s.heap vs, rfl⟩ entry_list_sort ?body (args_list_sort _)))
  case body =>
    show wpAny (model prog w) A.in1.in1 (Builtin.«list.sort» ⟨[.ref (s.heap.objs.size + 1)], []⟩) _ _ _
    refine wpAny_mono (list_sort_vals (P := fun f s' => f = .done (.ret .none) ∧ Q (.ref (s.heap.objs.size + 1)) s') (s := { s with heap := copyHeap s.heap vs }) (copyHeap_at s.heap vs) S hL ⟨rfl, h⟩) (fun f s' hf => ?_) fun _ _ e => e
    obtain ⟨rfl, hq⟩ := hf
    exact ⟨_, rfl, wpAny_pure ⟨_, rfl, hq⟩⟩
theorem sorted_dataT {prog : Program} {w : World} {A : Around} {E : Value → Shared → Prop} {s : Shared} {β : Type} {vs : List Value} {bs : List β} {enc : β → PyData} {R : Value → β → Prop} {l : Addr} {Q : Value → Shared → Prop} (hl : IsSeq s.heap l vs.toArray) (e : EachIs R vs bs) (er : EachIs (fun v b => ∃ as, Reads s.heap v (enc b) as) vs bs) (hal : AllAlike (bs.map enc)) (hk : Sortable (bs.map enc)) (hL : bs.length ≤ sizeLine)
    (hu : ∀ b, b ∈ bs → A.units + 2 + (enc b).depth < cLine) (h : ∀ out, out.length = bs.length → EachIs R out (bs.mergeSort (dataLe false enc)) → Q (.ref (s.heap.objs.size + 1)) { s with heap := sortedAll s.heap vs (List.toArray out) }) :
    wpAny (model prog w) A (call (.builtin "sorted") [.ref l]) Q E s := by
  have er' : EachIs (fun v b => ∃ as, Reads (sortingHeap (copyHeap s.heap vs) (s.heap.objs.size + 1) vs) v (enc b) as) vs bs := er.mono fun _ _ ⟨as, r⟩ => ⟨as, PyProof.Rows.Reads.keeps (fun _ _ => sorting_copy_old) r⟩
  exact sorted_of_seq hl (SortsAt.data (s := { s with heap := sortingHeap (copyHeap s.heap vs) (s.heap.objs.size + 1) vs }) (each_map (R := fun v d => ∃ as, Reads (sortingHeap (copyHeap s.heap vs) (s.heap.objs.size + 1) vs) v d as) enc er') hal hk (bound_map hu)) (by rw [e.length]; exact hL)
    (h _ (by rw [sortVals_length false rfl]; exact e.length) (sortVals_data false e er' hal))
theorem sorted_tups {prog : Program} {w : World} {A : Around} {E : Value → Shared → Prop} {s : Shared} {β : Type} {vs : List Value} {bs : List β} {enc : β → PyData} {R : Value → β → Prop} {l : Addr} {Q : Value → Shared → Prop} (hl : IsSeq s.heap l vs.toArray) (e : EachIs R vs bs) (er : EachIs (fun v b => ∃ as, Reads s.heap v (enc b) as) vs bs) (hal : AllAlike (bs.map enc)) (hk : ∀ d ∈ bs.map enc, ∃ xs, d = .tuple xs) (hL : bs.length ≤ sizeLine)
    (hu : ∀ b, b ∈ bs → A.units + 2 + (enc b).depth < cLine) (h : ∀ out, out.length = bs.length → EachIs R out (bs.mergeSort (dataLe false enc)) → Q (.ref (s.heap.objs.size + 1)) { s with heap := sortedAll s.heap vs (List.toArray out) }) :
    wpAny (model prog w) A (call (.builtin "sorted") [.ref l]) Q E s := by
  have er' : EachIs (fun v b => ∃ as, Reads (sortingHeap (copyHeap s.heap vs) (s.heap.objs.size + 1) vs) v (enc b) as) vs bs := er.mono fun _ _ ⟨as, r⟩ => ⟨as, PyProof.Rows.Reads.keeps (fun _ _ => sorting_copy_old) r⟩
  exact sorted_of_seq hl (sortsAt_tups (s := { s with heap := sortingHeap (copyHeap s.heap vs) (s.heap.objs.size + 1) vs }) (each_map (R := fun v d => ∃ as, Reads (sortingHeap (copyHeap s.heap vs) (s.heap.objs.size + 1) vs) v d as) enc er') hal hk (bound_map hu)) (by rw [e.length]; exact hL)
    (h _ (by rw [sortVals_length false rfl]; exact e.length) (sortVals_data false e er' hal))
end
end DN
namespace DN
open PySem PySem.Spec PyProof.Rows L2 RZ ND
variable {B : Sto}
def leS (a b : Str) : Bool := !ltCps b.cps.toList a.cps.toList
theorem leS_iff {a b : Str} : leS a b = true ↔ a.cps.toList ≤ b.cps.toList := by
  unfold leS
  rw [PyProof.Rows.ltCps_eq]
  simp [List.not_lt]
theorem leS_trans (a b c : Str) (h1 : leS a b = true) (h2 : leS b c = true) : leS a c = true := leS_iff.mpr (List.le_trans (leS_iff.mp h1) (leS_iff.mp h2))
theorem leS_total (a b : Str) : (leS a b || leS b a) = true := by
  rw [Bool.or_eq_true, leS_iff, leS_iff]
  exact List.le_total _ _
theorem leS_anti {a b : Str} (h1 : leS a b = true) (h2 : leS b a = true) : a = b := by
  have := List.le_antisymm (leS_iff.mp h1) (leS_iff.mp h2)
  cases a with | mk x => cases b with | mk y =>
    simp only at this
    congr 1
    exact Array.ext' this
def sortS (xs : List Str) : List Str := xs.mergeSort leS
theorem rising_pair : ∀ {l : List Str} {p : Str}, risingS p l = true → (p :: l).Pairwise fun a b => leS a b = true
  | [], p, _ => by simp
  | x :: r, p, h => by
    unfold risingS at h
    rw [Bool.and_eq_true] at h
    have ih := rising_pair h.2
    refine List.pairwise_cons.mpr ⟨fun y hy => ?_, ih⟩
    rcases List.mem_cons.mp hy with rfl | hy
    · exact h.1
    · exact leS_trans _ _ _ h.1 ((List.pairwise_cons.mp ih).1 y hy)
theorem sortedS_pair : ∀ {l : List Str}, sortedS l = true → l.Pairwise fun a b => leS a b = true
  | [], _ => .nil
  | _ :: _, h => rising_pair h
theorem sortS_uniq {ys xs : List Str} (h : ys.Perm xs) (s : sortedS ys = true) : ys = sortS xs := by
  refine List.Perm.eq_of_pairwise (le := fun a b => leS a b = true) (fun a b _ _ h1 h2 => leS_anti h1 h2) (sortedS_pair s) (List.pairwise_mergeSort leS_trans leS_total xs) (h.trans (List.mergeSort_perm xs leS).symm)
def strsOf : List D → Option (List Str)
  | [] => some []
  | .str x :: ds => (strsOf ds).map fun r => x :: r
  | _ :: _ => none
theorem strsOf_eq : ∀ {ds : List D} {xs : List Str}, strsOf ds = some xs → ds = xs.map D.str
  | [], _, e => by cases e; rfl
  | d :: ds, xs, e => by
    cases d <;> (unfold strsOf at e; try (cases e; done))
    obtain ⟨r, h1, h2⟩ := Option.map_eq_some_iff.mp e
    subst h2
    rw [strsOf_eq h1]
    rfl
section
variable {K : PySem.W.Frag} {cl : CTab} {Z : Zp}
theorem strs_rep : ∀ {ys : List Str}, (∀ y ∈ ys, y.length ≤ sizeLine ∧ PyData.strOk y = true) → RepL K cl Z (ys.map V.str) (ys.map D.str)
  | [], _ => .nil
  | y :: ys, h => .cons (.str (h y List.mem_cons_self).1 (h y List.mem_cons_self).2) (strs_rep fun z hz => h z (List.mem_cons_of_mem _ hz))
end
def alikeAllD (xs : List D) : Bool := xs.all fun x => xs.all fun y => PySem.W.alike x.py y.py
def tupCons : D → Bool
  | .tup _ => true
  | _ => false
def SortableT (ds : List PyData) : Prop := (∀ d ∈ ds, ∃ xs, d = .tuple xs) ∨ ∀ d, d ∈ ds → d ≠ .none ∧ ∀ xs, d ≠ .tuple xs
def noTup : D → Bool
  | .tup _ => false
  | .non => false
  | _ => true
def sortableD (xs : List D) : Bool := xs.all D.okc && alikeAllD xs && (xs.all tupCons || xs.all noTup)
noncomputable def leData (x y : D) : Bool := PySem.W.dataLe false D.py x y
noncomputable def sortDL (xs : List D) : List D := xs.mergeSort leData
noncomputable def sortedDD : List D → Option D
  | [.lst xs] => if sortableD xs = true then some (.lst (sortDL xs)) else none
  | [.tup xs] => if sortableD xs = true then some (.lst (sortDL xs)) else none
  | _ => none
def rSortDat (K : PySem.W.Frag) : List V → Hp → VK → Prop := fun vs H Q => ∃ (a : Addr) (L : List (V × D)), vs = [V.ref a] ∧ (SqL K H a (L.map (·.1)) ∨ SqT K H a (L.map (·.1))) ∧ (∀ b ∈ L, Dp K H b.1 b.2.py ∧ b.2.py.depth ≤ 60) ∧ PySem.W.AllAlike (L.map fun b => b.2.py) ∧ SortableT (L.map fun b => b.2.py) ∧
  ∀ p, H p = none → Q (.ref p) (upd H p (.lst ((L.mergeSort (PySem.W.dataLe false fun b => b.2.py)).map (·.1))))
theorem each_of {R : Value → V × D → Prop} : ∀ {L : List (V × D)} {its : List Value}, Vals (L.map (·.1)) its → (∀ b ∈ L, ∀ u, RelV b.1 u → R u b) → PySem.W.EachIs R its L
  | [], _, h, _ => by cases h; exact .nil
  | b :: L, _, h, q => by
    cases h with
    | cons r t => exact .cons (q b List.mem_cons_self _ r) (each_of t fun b' hb => q b' (List.mem_cons_of_mem _ hb))
theorem vals_of_each : ∀ {L : List (V × D)} {its : List Value}, PySem.W.EachIs (fun u (b : V × D) => RelV b.1 u) its L → Vals (L.map (·.1)) its
  | [], _, h => by cases h; exact .nil
  | b :: L, _, h => by cases h with | cons r t => exact .cons r (vals_of_each t)
theorem cr_sortDat {X : Cx} (hu : X.A.units + 65 < cLine) : CallR X (.builtin "sorted") (rSortDat X.K) := by
  intro pins s σ H vs us Q I r h
  obtain ⟨a, L, rfl, hs, hL, hal, hk, q⟩ := h
  obtain ⟨its, rv, hl, hz⟩ : ∃ its : List Value, Vals (L.map (·.1)) its ∧ IsSeq s.heap a its.toArray ∧ (L.map (·.1)).length ≤ sizeLine := by
    rcases hs with hs | hs
    · obtain ⟨its, rv, hl, hz⟩ := I.list hs
      exact ⟨its, rv, .inl hl.isList, hz⟩
    · obtain ⟨its, rv, hl, hz⟩ := I.tuple hs
      exact ⟨its, rv, .inr hl, hz⟩
  rw [Vals.ref1 r]
  have key : ∀ {Q' : Value → Shared → Prop}, (∀ out, out.length = L.length → PySem.W.EachIs (fun u (b : V × D) => RelV b.1 u) out (L.mergeSort (PySem.W.dataLe false fun b => b.2.py)) → Q' (.ref (s.heap.objs.size + 1)) { s with heap := sortedAll s.heap its (List.toArray out) }) → wpAny (model X.prog X.w) X.A (call (.builtin "sorted") [.ref a]) Q' X.xe s := by
    intro Q' hq'
    rcases hk with hk | hk
    · exact sorted_tups (R := fun u (b : V × D) => RelV b.1 u) (enc := fun b : V × D => b.2.py) hl (each_of rv fun b _ u r => r) (each_of rv fun b hb u r => Dp.reads I b.2.py b.1 u (hL b hb).1 r) hal hk (by rw [List.length_map] at hz; exact hz) (fun b hb => by have := (hL b hb).2; omega) hq'
    · exact sorted_dataT (R := fun u (b : V × D) => RelV b.1 u) (enc := fun b : V × D => b.2.py) hl (each_of rv fun b _ u r => r) (each_of rv fun b hb u r => Dp.reads I b.2.py b.1 u (hL b hb).1 r) hal (.inr hk) (by rw [List.length_map] at hz; exact hz) (fun b hb => by have := (hL b hb).2; omega) hq'
  refine key fun out h1 h2 => ?_
  obtain ⟨ep, he'⟩ := PyProof.Rows.sortedAll_at s.heap its out.toArray
  have hlen : ((L.mergeSort (PySem.W.dataLe false fun b => b.2.py)).map (·.1)).length ≤ sizeLine := by
    rw [List.length_map, List.length_mergeSort]
    rw [List.length_map] at hz
    exact hz
  exact ⟨.ref _, upd H (s.heap.objs.size + 1) (.lst ((L.mergeSort (PySem.W.dataLe false fun b => b.2.py)).map (·.1))), I.laid (t' := s.toks) (fun _ _ => PyProof.Rows.sortedAll_old) (Nat.le_succ _) ⟨hlen, out, ep, vals_of_each h2, he'⟩, rfl, q _ (I.hok.fresh (Nat.le_succ _))⟩
section
variable {K : PySem.W.Frag} {cl : CTab}
theorem zip_fst : ∀ {vs : List V} {ds : List D}, vs.length = ds.length → (vs.zip ds).map (·.1) = vs
  | [], [], _ => rfl
  | v :: vs, d :: ds, h => by simp at h; simp [zip_fst h]
theorem zip_snd : ∀ {vs : List V} {ds : List D}, vs.length = ds.length → (vs.zip ds).map (·.2) = ds
  | [], [], _ => rfl
  | v :: vs, d :: ds, h => by simp at h; simp [zip_snd h]
theorem zip_mem {Z : Zp} : ∀ {vs : List V} {ds : List D}, RepL K cl Z vs ds → ∀ b ∈ vs.zip ds, Rep K cl Z b.1 b.2 ∧ b.2 ∈ ds
  | _, _, .nil, b, h => by simp at h
  | _, _, .cons r t, b, h => by
    rcases List.mem_cons.mp h with rfl | h
    · exact ⟨r, List.mem_cons_self⟩
    · exact ⟨(zip_mem t b h).1, List.mem_cons_of_mem _ (zip_mem t b h).2⟩
theorem repL_of {Z : Zp} : ∀ {L : List (V × D)}, (∀ b ∈ L, Rep K cl Z b.1 b.2) → RepL K cl Z (L.map (·.1)) (L.map (·.2))
  | [], _ => .nil
  | b :: L, h => .cons (h b List.mem_cons_self) (repL_of fun c hc => h c (List.mem_cons_of_mem _ hc))
theorem v_sort_go {Z : Zp} {H : Hp} {aa : Addr} {vs : List V} {ds : List D} {Q : VK} (h : Sub Z.h H) (sq : SqL K H aa vs ∨ SqT K H aa vs) (c : RepL K cl Z vs ds) (hz : vs.length ≤ sizeLine) (ho : sortableD ds = true)
    (q : ∀ (v : V) (Z' : Zp) (H' : Hp), Al Z H Z' H' → Rep K cl Z' v (.lst (sortDL ds)) → Q v H') : rSortDat K [.ref aa] H Q := by
  unfold sortableD at ho
  simp only [Bool.and_eq_true] at ho
  obtain ⟨⟨o1, o2⟩, o3⟩ := ho
  have hl := c.len
  have hsnd := zip_snd hl
  have hpy : (vs.zip ds).map (fun b => b.2.py) = ds.map D.py := by
    conv => rhs; rw [← hsnd]
    rw [List.map_map]; rfl
  refine ⟨aa, vs.zip ds, rfl, ?_, fun b hb => ?_, ?_, ?_, fun p hp => ?_⟩
  · rw [zip_fst hl]; exact sq
  · obtain ⟨q1, q2⟩ := zip_mem c b hb
    have := List.all_eq_true.mp o1 b.2 q2
    obtain ⟨z1, _, _, z4⟩ := okc_shaped h this q1
    exact ⟨z1, z4⟩
  · rw [hpy]
    intro x hx y hy
    obtain ⟨x', hx', rfl⟩ := List.mem_map.mp hx
    obtain ⟨y', hy', rfl⟩ := List.mem_map.mp hy
    exact List.all_eq_true.mp (List.all_eq_true.mp o2 x' hx') y' hy'
  · rw [hpy]
    rw [Bool.or_eq_true] at o3
    rcases o3 with o3 | o3
    · refine .inl fun x hx => ?_
      obtain ⟨x', hx', rfl⟩ := List.mem_map.mp hx
      have := List.all_eq_true.mp o3 x' hx'
      unfold tupCons at this
      split at this
      · exact ⟨_, by rw [D.py]⟩
      · cases this
    · refine .inr fun x hx => ?_
      obtain ⟨x', hx', rfl⟩ := List.mem_map.mp hx
      have := List.all_eq_true.mp o3 x' hx'
      cases x' <;> first | (simp [noTup] at this; done) | (refine ⟨?_, fun xs => ?_⟩ <;> simp [D.py])
  · have eL : ((vs.zip ds).mergeSort (PySem.W.dataLe false fun b => b.2.py)).map (·.2) = sortDL ds := by
      conv => rhs; rw [← hsnd]
      unfold sortDL
      exact List.map_mergeSort (fun x _ y _ => rfl)
    have al : Al Z H (upz Z p (.lst (((vs.zip ds).mergeSort (PySem.W.dataLe false fun b => b.2.py)).map (·.1)))) (upd H p (.lst (((vs.zip ds).mergeSort (PySem.W.dataLe false fun b => b.2.py)).map (·.1)))) := .new h hp (fun _ z => nomatch z)
    refine q _ _ _ al (.lst upd_same ?_ ?_)
    · rw [List.length_map, List.length_mergeSort, List.length_zip]; omega
    · rw [← eL]
      refine RepL.mono al.zz _ (repL_of fun b hb => (zip_mem c b ?_).1)
      exact (List.mergeSort_perm _ _).mem_iff.mp hb
theorem v_sorted : CallV K cl (rSortDat K) sortedDD := by
  intro Z H xs dxs d Q h r e q
  unfold sortedDD at e
  split at e
  case h_3 => cases e
  all_goals
    split at e
    case isFalse => cases e
  all_goals
    cases e
    rename_i ds ho
    cases r with
    | cons r1 r2 =>
      cases r2
      first
      | (cases r1 with
        | slst a b c => exact v_sort_go h (.inl (SqL.sub h a)) c b ho q)
      | (cases r1 with
        | tup a b c => exact v_sort_go h (.inr (SqT.of (h _ _ a))) c b ho q)
end
end DN
namespace DN
open PySem PySem.Spec PyProof.Rows L2 RZ ND
variable {B : Sto}
@[simp] abbrev xOp (g : D → D → Option D) (f1 f2 : Env → M B D) : Env → M B D := fun ρ => M.bind (f1 ρ) fun x => M.bind (f2 ρ) fun y => lift (g x y)
@[simp] abbrev xUn (g : D → Option D) (f1 : Env → M B D) : Env → M B D := fun ρ => M.bind (f1 ρ) fun x => lift (g x)
@[simp] abbrev aN : Env → M B (List D) := fun _ => M.pure []
@[simp] abbrev aC (f : Env → M B D) (g : Env → M B (List D)) : Env → M B (List D) := fun ρ => M.bind (f ρ) fun x => M.bind (g ρ) fun xs => M.pure (x :: xs)
@[simp] abbrev xTup (f : Env → M B (List D)) : Env → M B D := fun ρ => M.bind (f ρ) fun xs => M.pure (.tup xs)
@[simp] abbrev xLst (f : Env → M B (List D)) : Env → M B D := fun ρ => M.bind (f ρ) fun xs => M.pure (.lst xs)
@[simp] abbrev tTr (f : Env → M B D) : Env → M B Bool := fun ρ => M.bind (f ρ) fun x => lift (truthD x)
@[simp] abbrev tCm (g : D → D → Option D) (f1 f2 : Env → M B D) : Env → M B Bool := fun ρ => M.bind (f1 ρ) fun x => M.bind (f2 ρ) fun y => lift ((g x y).bind D.asB)
@[simp] abbrev tNt (f : Env → M B Bool) : Env → M B Bool := fun ρ => M.bind (f ρ) fun b => M.pure (!b)
@[simp] abbrev tAn (f g : Env → M B Bool) : Env → M B Bool := fun ρ => M.bind (f ρ) fun k => if k = true then g ρ else M.pure false
@[simp] abbrev tOo (f g : Env → M B Bool) : Env → M B Bool := fun ρ => M.bind (f ρ) fun k => if k = true then M.pure true else g ρ
@[simp] abbrev xAn (f g : Env → M B D) : Env → M B D := fun ρ => M.bind (f ρ) fun x => M.bind (lift (truthD x)) fun k => if k = true then g ρ else M.pure x
@[simp] abbrev xOr (f g : Env → M B D) : Env → M B D := fun ρ => M.bind (f ρ) fun x => M.bind (lift (truthD x)) fun k => if k = true then M.pure x else g ρ
@[simp] abbrev xNt (f : Env → M B D) : Env → M B D := fun ρ => M.bind (f ρ) fun x => M.bind (lift (truthD x)) fun k => M.pure (.bl (!k))
@[simp] abbrev xIf (t : Env → M B Bool) (f g : Env → M B D) : Env → M B D := fun ρ => M.bind (t ρ) fun k => if k = true then f ρ else g ρ
@[simp] abbrev xCh (g g' : D → D → Option D) (f1 f2 f3 : Env → M B D) : Env → M B D := fun ρ => M.bind (f1 ρ) fun x => M.bind (f2 ρ) fun y => M.bind (lift ((g x y).bind D.asB)) fun k => if k = true then M.bind (f3 ρ) fun z => lift (g' y z) else M.pure (.bl false)
@[simp] abbrev tCh (g g' : D → D → Option D) (f1 f2 f3 : Env → M B D) : Env → M B Bool := fun ρ => M.bind (f1 ρ) fun x => M.bind (f2 ρ) fun y => M.bind (lift ((g x y).bind D.asB)) fun k => if k = true then M.bind (f3 ρ) fun z => lift ((g' y z).bind D.asB) else M.pure false
@[simp] abbrev xIx (f1 f2 : Env → M B D) : Env → M B D := xOp ixD f1 f2
@[simp] abbrev oN : Env → M B (Option Int) := fun _ => M.pure none
@[simp] abbrev oS (f : Env → M B D) : Env → M B (Option Int) := fun ρ => M.bind (f ρ) fun x => lift (x.asI.map some)
@[simp] abbrev xSl (f : Env → M B D) (gl gh : Env → M B (Option Int)) : Env → M B D := fun ρ => M.bind (f ρ) fun x => M.bind (gl ρ) fun l => M.bind (gh ρ) fun u => lift (slD x l u)
@[simp] abbrev xB (g : List D → Option D) (f : Env → M B (List D)) : Env → M B D := fun ρ => M.bind (f ρ) fun xs => lift (g xs)
@[simp] abbrev xCall (g : List D → M B D) (f : Env → M B (List D)) : Env → M B D := fun ρ => M.bind (f ρ) g
@[simp] abbrev iOf (g : D → Option (List D)) (f : Env → M B D) : Env → M B (List D) := fun ρ => M.bind (f ρ) fun x => lift (g x)
@[simp] abbrev iOf2 (g : D → D → Option (List D)) (f f' : Env → M B D) : Env → M B (List D) := fun ρ => M.bind (f ρ) fun x => M.bind (f' ρ) fun y => lift (g x y)
@[simp] abbrev xLc (own : List Nat) (b : D → Option Asg) (t : Env → M B Bool) (fe : Env → M B D) (src : Env → M B (List D)) : Env → M B D := fun ρ => M.bind (src ρ) fun ds => M.bind (compL (compF b t fe (wipeE ρ own)) ds) fun r => M.pure (.lst r)
@[simp] abbrev xDc (own : List Nat) (b : D → Option Asg) (t : Env → M B Bool) (fk fe : Env → M B D) (src : Env → M B (List D)) : Env → M B D := fun ρ => M.bind (src ρ) fun ds => M.bind (compL (compFD b t fk fe (wipeE ρ own)) ds) fun r => lift (putAll [] [] r)
@[simp] abbrev tY : Env → M B Bool := fun _ => M.pure true
@[simp] abbrev xCount (fo f : Env → M B D) : Env → M B D := fun ρ => M.bind (fo ρ) fun x => M.bind (lift (asL x)) fun ds => M.bind (f ρ) fun y => lift (countD ds y)
@[simp] abbrev xRg (c : List D → D) (f : Env → M B D) : Env → M B D := fun ρ => M.bind (f ρ) fun x => lift ((range1 x).map c)
section
variable {K : PySem.W.Frag} {cl : CTab}
@[simp] abbrev xIxM (f1 f2 : Env → M (MemS K cl) D) : Env → M (MemS K cl) D := fun ρ => M.bind (f1 ρ) fun x => M.bind (f2 ρ) fun y => match x with
      | .ref a => ixM (.ref a) y
      | _ => fun _ => .stuck
@[simp] abbrev xLenM (f : Env → M (MemS K cl) D) : Env → M (MemS K cl) D := fun ρ => M.bind (f ρ) fun x => lenM x
@[simp] abbrev xFld (c : Str) (i : Nat) (f : Env → M (MemS K cl) D) : Env → M (MemS K cl) D := fun ρ => M.bind (f ρ) (fldM c i)
@[simp] abbrev xMeth (c : Str) (f : List D → M (MemS K cl) D) (fo : Env → M (MemS K cl) D) (fa : Env → M (MemS K cl) (List D)) : Env → M (MemS K cl) D := fun ρ => M.bind (fo ρ) fun x => M.bind (insM c x) fun _ => M.bind (fa ρ) fun ds => f (x :: ds)
@[simp] abbrev xMeth0 (c : Str) (f : List D → M (MemS K cl) D) (fo : Env → M (MemS K cl) D) : Env → M (MemS K cl) D := fun ρ => M.bind (fo ρ) fun x => M.bind (insM c x) fun _ => f [x]
@[simp] abbrev xMake (c : Str) (n : Nat) (fi : List D → IR) (fa : Env → M (MemS K cl) (List D)) : Env → M (MemS K cl) D := fun ρ => M.bind (fa ρ) fun ds => mkM c n (fi ds)
@[simp] abbrev sSetM (p : D → Bool) (fo fi f : Env → M (MemS K cl) D) : SEnv → M (MemS K cl) Fl := fun ρ => M.bind (f (seeE p ρ)) fun d => M.bind (fo (seeE pHide ρ)) fun x => M.bind (fi (seeE pHide ρ)) fun y => M.bind (setM x y d) fun _ => M.pure (.nx ρ)
@[simp] abbrev sSetF (p : D → Bool) (c : Str) (i : Nat) (fo f : Env → M (MemS K cl) D) : SEnv → M (MemS K cl) Fl := fun ρ => M.bind (f (seeE p ρ)) fun d => M.bind (fo (seeE pHide ρ)) fun x => M.bind (setfM c i x d) fun _ => M.pure (.nx ρ)
end
@[simp] abbrev sPass : SEnv → M B Fl := fun ρ => M.pure (.nx ρ)
@[simp] abbrev sBrk : SEnv → M B Fl := fun ρ => M.pure (.bk ρ)
@[simp] abbrev sCnt : SEnv → M B Fl := fun ρ => M.pure (.ct ρ)
@[simp] abbrev sRet (p : D → Bool) (f : Env → M B D) : SEnv → M B Fl := fun ρ => M.bind (f (seeE p ρ)) fun d => M.pure (.rt d)
@[simp] abbrev sRetN : SEnv → M B Fl := fun _ => M.pure (.rt .non)
@[simp] abbrev sSet (i : Nat) (f : Env → M B D) : SEnv → M B Fl := fun ρ => M.bind (f (seeE pHide ρ)) fun d => M.pure (.nx (ρ.set i (.val d)))
@[simp] abbrev sAsg (a : D → Option Asg) (f : Env → M B D) : SEnv → M B Fl := fun ρ => M.bind (f (seeE pHide ρ)) fun d => M.bind (lift (a d)) fun as => M.pure (.nx (setsS ρ as))
@[simp] abbrev sAug (p q : D → Bool) (i : Nat) (g : D → D → Option D) (f : Env → M B D) : SEnv → M B Fl := fun ρ => M.bind (eVar i (seeE pHide ρ)) fun o => M.bind (f (seeE p ρ)) fun d => M.bind (lift (g o d)) fun z => guardM (q z) (M.pure (.nx (ρ.set i (.val z))))
@[simp] abbrev sEx (p : D → Bool) (f : Env → M B D) : SEnv → M B Fl := fun ρ => M.bind (f (seeE p ρ)) fun _ => M.pure (.nx ρ)
@[simp] abbrev sIf (p : D → Bool) (t : Env → M B Bool) (F G : SEnv → M B Fl) : SEnv → M B Fl := fun ρ => M.bind (t (seeE p ρ)) fun k => if k = true then F ρ else G ρ
@[simp] abbrev sFor (a : D → Option Asg) (src : Env → M B (List D)) (F : SEnv → M B Fl) : SEnv → M B Fl := fun ρ => M.bind (src (seeE pHide ρ)) fun ds => forL a F ds ρ
@[simp] abbrev sNv : SEnv → M B Fl := fun _ _ => .stuck
@[simp] abbrev yes : D → Bool := fun _ => true
section
variable {cl : CTab} {md : Bool} {W : WX} {X : Cx}
theorem de_int {i j pos} : DE cl B md W X (.Constant (.int i) j pos) (eC (.int i)) := de_c pe_int fun _ => .int _
theorem de_bl {b j pos} : DE cl B md W X (.Constant (.bool b) j pos) (eC (.bl b)) := de_c pe_bl fun _ => .bl _
theorem de_non {j pos} : DE cl B md W X (.Constant .none j pos) (eC .non) := de_c pe_non fun _ => .non
theorem de_str {x j pos} (h : x.length ≤ sizeLine := by decide) (h2 : PyData.strOk x = true := by decide +kernel) : DE cl B md W X (.Constant (.str x) j pos) (eC (.str x)) := de_c pe_str fun _ => .str h h2
structure GlC (K : PySem.W.Frag) (mg : Str → Option Value) (cl : CTab) (x : Str) (d : D) : Prop where
  ex : ∃ u v, mg x = some u ∧ RelV v u ∧ ∀ Z, Rep K cl Z v d
theorem de_gl {x : Str} {d : D} {pos : Pos} (g : GlC X.K X.mg cl x d) (hg : Gl X x) (hd : (x == ("__debug__" : Str)) = false := by decide) : DE cl B md W X (.Name x pos) (eC d) := by
  obtain ⟨u, v, h1, h2, h3⟩ := g.ex
  exact de_c (pe_glob hg h1 h2 hd) h3
theorem glInt {K : PySem.W.Frag} {mg : Str → Option Value} {x : Str} {i : Int} {t : Tok} (h : mg x = some (.int i t)) : GlC K mg cl x (.int i) := ⟨⟨_, .int i, h, ⟨t, rfl⟩, fun _ => .int _⟩⟩
theorem glStr {K : PySem.W.Frag} {mg : Str → Option Value} {x : Str} {z : Str} {t : Tok} (h : mg x = some (.str z t)) (h1 : z.length ≤ sizeLine := by decide) (h2 : PyData.strOk z = true := by decide +kernel) : GlC K mg cl x (.str z) := ⟨⟨_, .str z, h, ⟨t, rfl⟩, fun _ => .str h1 h2⟩⟩
theorem ds_setLc {i : Nat} {y : Str} {py : Pos} {elt tg iter : Expr} {ifs : List Expr} {scope : Scope} {own : List (Str × Nat)} {pos spos : Pos} {src : Env → M B (List D)} {b : D → Option Asg} {t : Env → M B Bool} {fe : Env → M B D} (hc : X.calm = true) (hN : X.N.Nodup) (hy : X.N[i]? = some y) (hyl : X.env.scope.names.lookup y = some .local)
    (hsw : swapsWith (.ListComp elt [⟨tg, iter, ifs, 0⟩] scope pos) (some (.Name y py)) spos.line X.env = pure true) (hi : DI cl B true W X tg iter src) (ok : BlkOk X.N X.env.scope scope own)
    (hg : ∀ (s : Shared) (H : Hp) (C : Addr) (cs : List (Str × Addr)) (fp : List Addr), DG cl (X.blk s H scope (compEnvC scope cs C X.env) fp) tg b) (hin : TgIn (own.map (·.2)) b)
    (ht : ∀ (s : Shared) (H : Hp) (C : Addr) (cs : List (Str × Addr)) (fp : List Addr), DTs cl B true (X.blk s H scope (compEnvC scope cs C X.env) fp) ifs t)
    (he : ∀ (s : Shared) (H : Hp) (C : Addr) (cs : List (Str × Addr)) (fp : List Addr), DE cl B true W0 (X.blk s H scope (compEnvC scope cs C X.env) fp) elt fe) (hs : ∀ x, foldedSetIterable iter X.env x = pure x := by intro _; rfl) :
    DS cl B W X (.Assign [.Name y py] (.ListComp elt [⟨tg, iter, ifs, 0⟩] scope pos) spos) (sSet i (xLc (own.map (·.2)) b t fe src)) :=
  PS.weak (ps_setLc (g := tDG X.K cl b) (tt := tG X.K cl B true RpE W0 t) (te := tG X.K cl B true (RpD X.K cl) W0 fe) hc hN hy hyl hsw hi ok hg ht he hs) fun E σ H h => comp_core (md := true) (W := W) hin (own_core (md := true) (W := W) comp_list (set_core h))
theorem fn_stuck {P : Program} {w : World} {K : PySem.W.Frag} {mg : Str → Option Value} {base : Heap} {CX : CXT} {k n : Nat} {f : Addr} {fd : FuncData} {ps : List Str} (hn : ps.length = n) : FnOk P w K mg base CX k f fd ps (spD K cl B n (fun _ _ => .stuck)) :=
  ⟨spD_len hn, fun A outer s H args us vs Q E hr he hb hv hs => by
    obtain ⟨Z, C, sb, ds, wd, r, l, p⟩ := hs
    exact False.elim p⟩
end
end DN
namespace DN
open PySem PySem.Spec PyProof.Rows L2 RZ ND
variable {B : Sto} {α β γ : Type}
theorem bind_assoc (m : M B α) (f : α → M B β) (g : β → M B γ) : M.bind (M.bind m f) g = M.bind m fun a => M.bind (f a) g := by
  funext s
  unfold M.bind
  cases m s <;> rfl
@[simp] theorem bind_pure (a : α) (f : α → M B β) : M.bind (M.pure a) f = f a := rfl
@[simp] theorem bind_some (a : α) (f : α → M B β) : M.bind (lift (some a)) f = f a := rfl
def wp (m : M B α) (R : α → B.T → Prop) (s : B.T) : Prop := match m s with
  | .ok a s' => R a s'
  | _ => False
theorem wp_pure {a : α} {R : α → B.T → Prop} {s : B.T} (h : R a s) : wp (M.pure a : M B α) R s := h
theorem wp_bind {m : M B α} {k : α → M B β} {R : β → B.T → Prop} {s : B.T} (h : wp m (fun a s' => wp (k a) R s') s) : wp (M.bind m k) R s := by
  unfold wp M.bind at *
  cases e : m s with
  | ok a s' => rw [e] at h; exact h
  | err x s' => rw [e] at h; exact h
  | stuck => rw [e] at h; exact h
theorem wp_mono {m : M B α} {R R' : α → B.T → Prop} {s : B.T} (h : wp m R s) (q : ∀ a s', R a s' → R' a s') : wp m R' s := by
  unfold wp at *
  cases e : m s with
  | ok a s' => rw [e] at h; exact q _ _ h
  | err x s' => rw [e] at h; exact h
  | stuck => rw [e] at h; exact h
theorem wp_ok {m : M B α} {R : α → B.T → Prop} {s : B.T} (h : wp m R s) : ∃ a s', m s = .ok a s' ∧ R a s' := by
  unfold wp at h
  cases e : m s with
  | ok a s' => rw [e] at h; exact ⟨a, s', rfl, h⟩
  | err x s' => rw [e] at h; exact False.elim h
  | stuck => rw [e] at h; exact False.elim h
theorem wp_of {m : M B α} {R : α → B.T → Prop} {s s' : B.T} {a : α} (h : m s = .ok a s') (q : R a s') : wp m R s := by
  unfold wp
  rw [h]
  exact q
theorem wp_noErr {m : M B α} {R : α → B.T → Prop} {s : B.T} (h : wp m R s) : wp (noErr m) R s := by
  obtain ⟨a, s', e, r⟩ := wp_ok h
  refine wp_of (a := a) (s' := s') ?_ r
  unfold noErr
  rw [e]
section
variable {K : PySem.W.Frag} {cl : CTab}
structure TF where
  t : Nat
  f : Mem
  sc : Nat
instance : CoeOut TF Nat := ⟨TF.t⟩
def tapeM (sc : Nat) (t : TF) (ns : List Int) (pos carry seed cnt : Int) : Mem := ⟨fun x => if x = t.t then some (.lst [.ref sc, .int pos, .int carry, .int seed, .int cnt]) else if x = sc then some (.lst (ns.map .int)) else t.f.m x, t.f.n⟩
def Tape (t : TF) (m : Mem) : Prop := ∃ ns pos carry seed cnt, (t.sc ≠ t.t ∧ t.sc < t.f.n ∧ t.t < t.f.n ∧ ∀ j, t.f.n ≤ j → t.f.m j = none) ∧ 0 ≤ pos ∧ m = tapeM t.sc t ns pos carry seed cnt
theorem tapeM_t {sc : Nat} {t : TF} {ns : List Int} {p c s n : Int} : (tapeM sc t ns p c s n).m t.t = some (.lst [.ref sc, .int p, .int c, .int s, .int n]) := if_pos rfl
theorem tapeM_sc {sc : Nat} {t : TF} {ns : List Int} {p c s n : Int} (h : sc ≠ t.t) : (tapeM sc t ns p c s n).m sc = some (.lst (ns.map .int)) := by
  show (if sc = t.t then _ else if sc = sc then _ else _) = _
  rw [if_neg h, if_pos rfl]
end
@[simp] theorem wp_bind_iff {m : M B α} {k : α → M B β} {R : β → B.T → Prop} {s : B.T} : wp (M.bind m k) R s ↔ wp m (fun a s' => wp (k a) R s') s := by
  unfold wp M.bind
  cases m s <;> exact Iff.rfl
@[simp] theorem wp_pure_iff {a : α} {R : α → B.T → Prop} {s : B.T} : wp (M.pure a : M B α) R s ↔ R a s := Iff.rfl
@[simp] theorem wp_lift_iff {a : α} {R : α → B.T → Prop} {s : B.T} : wp (lift (some a) : M B α) R s ↔ R a s := Iff.rfl
@[simp] theorem wp_if_iff {c : Prop} [Decidable c] {a b : M B α} {R : α → B.T → Prop} {s : B.T} : wp (if c then a else b) R s ↔ if c then wp a R s else wp b R s := by split <;> exact Iff.rfl
@[simp] theorem wp_guard_iff {m : M B α} {R : α → B.T → Prop} {s : B.T} : wp (guardM true m) R s ↔ wp m R s := Iff.rfl
section
variable {a b : Int} {x y : Bool} {p : D → Bool} {d e : D} {i : Nat} {ρ : SEnv} {ε : Env} {ds : List D}
@[simp] theorem s_gtI : gtI (.int a) (.int b) = some (.bl (decide (b < a))) := rfl
@[simp] theorem s_ltI : ltI (.int a) (.int b) = some (.bl (decide (a < b))) := rfl
@[simp] theorem s_leI : leI (.int a) (.int b) = some (.bl (decide (a ≤ b))) := rfl
@[simp] theorem s_geI : geI (.int a) (.int b) = some (.bl (decide (b ≤ a))) := rfl
@[simp] theorem s_asB : D.asB (.bl x) = some x := rfl
@[simp] theorem s_asI : D.asI (.int a) = some a := rfl
@[simp] theorem s_addI : addD (.int a) (.int b) = some (.int (a + b)) := rfl
@[simp] theorem s_iaddI : iaddD (.int a) (.int b) = some (.int (a + b)) := rfl
@[simp] theorem s_subI : subD (.int a) (.int b) = some (.int (a - b)) := rfl
@[simp] theorem s_negI : negD (.int a) = some (.int (-a)) := rfl
@[simp] theorem s_mulI : mulD (.int a) (.int b) = if (-(2 ^ 64) < a ∧ a < 2 ^ 64) ∨ (-(2 ^ 64) < b ∧ b < 2 ^ 64) then some (.int (a * b)) else none := rfl
@[simp] theorem s_modI : modD (.int a) (.int b) = if 0 < b then some (.int (a % b)) else none := rfl
@[simp] theorem s_fdivI : fdivD (.int a) (.int b) = if 0 < b ∧ b < 1073741824 then some (.int (a / b)) else if 0 < b ∧ b.natAbs < 2 ^ 200 then some (.int (a / b)) else none := rfl
@[simp] theorem s_shlI : shlD (.int a) (.int b) = if 0 ≤ b ∧ b ≤ 1000000 ∧ a.natAbs < 2 ^ 64 then some (.int (a * 2 ^ b.toNat)) else none := rfl
@[simp] theorem s_shrI : shrD (.int a) (.int b) = if 0 ≤ b then some (.int (a / 2 ^ b.toNat)) else none := rfl
@[simp] theorem s_andI : andD (.int a) (.int b) = some (.int (Builtin.bitAnd a b)) := rfl
@[simp] theorem s_orI : orD (.int a) (.int b) = some (.int (Builtin.bitOr a b)) := rfl
@[simp] theorem s_powI : powD (.int a) (.int b) = if 0 ≤ b ∧ b ≤ 1000000 ∧ a.natAbs < 2 ^ 64 then some (.int (a ^ b.toNat)) else none := rfl
@[simp] theorem s_trN : truthD .non = some false := rfl
@[simp] theorem s_trB : truthD (.bl x) = some x := rfl
@[simp] theorem s_trI : truthD (.int a) = some (a != 0) := rfl
@[simp] theorem s_trT : truthD (.tup ds) = some (!ds.isEmpty) := rfl
@[simp] theorem s_trL : truthD (.lst ds) = some (!ds.isEmpty) := rfl
@[simp] theorem s_int : intD [.int a] = some (.int a) := rfl
@[simp] theorem s_lenT : lenD [.tup ds] = some (.int ds.length) := rfl
@[simp] theorem s_lenL : lenD [.lst ds] = some (.int ds.length) := rfl
@[simp] theorem s_lenS {z : Str} : lenD [.str z] = some (.int z.length) := rfl
@[simp] theorem s_tupT : tupleD [.tup ds] = some (.tup ds) := rfl
@[simp] theorem s_tupL : tupleD [.lst ds] = some (.tup ds) := rfl
@[simp] theorem s_lstT : listD [.tup ds] = some (.lst ds) := rfl
@[simp] theorem s_lstL : listD [.lst ds] = some (.lst ds) := rfl
@[simp] theorem s_aName : aName i d = some [(i, d)] := rfl
@[simp] theorem s_setsS0 : setsS ρ [] = ρ := rfl
@[simp] theorem s_setsS1 {as : Asg} : setsS ρ ((i, d) :: as) = setsS (ρ.set i (.val d)) as := rfl
@[simp] theorem s_setsE0 : setsE ε [] = ε := rfl
@[simp] theorem s_setsE1 {as : Asg} : setsE ε ((i, d) :: as) = setsE (ε.set i (some d)) as := rfl
@[simp] theorem s_see0 : seeE p [] = [] := rfl
@[simp] theorem s_seeV : seeE p (.val d :: ρ) = some d :: seeE p ρ := rfl
@[simp] theorem s_seeN : seeE p (.no :: ρ) = none :: seeE p ρ := rfl
@[simp] theorem s_seeO : seeE pHide (.own d :: ρ) = none :: seeE pHide ρ := rfl
@[simp] theorem s_eVar {ε : Env} : (eVar i : Env → M B D) ε = lift ((ε[i]?).bind id) := rfl
@[simp] theorem s_eC {ε : Env} : (eC d : Env → M B D) ε = M.pure d := rfl
@[simp] theorem s_seq {F G : SEnv → M B Fl} : seqF F G ρ = M.bind (F ρ) fun fl => match fl with
  | .nx ρ' => G ρ'
  | o => M.pure o := rfl
@[simp] theorem s_ret1 : (retF (.rt d) : M B D) = M.pure d := rfl
@[simp] theorem s_ret2 : (retF (.nx ρ) : M B D) = M.pure .non := rfl
@[simp] theorem s_isN : isN d .non = some (.bl d.isNon) := rfl
@[simp] theorem s_isNotN : isNotN d .non = some (.bl (!d.isNon)) := rfl
@[simp] theorem s_non1 : D.isNon .non = true := rfl
@[simp] theorem s_non2 : D.isNon (.int a) = false := rfl
@[simp] theorem s_non3 : D.isNon (.tup ds) = false := rfl
@[simp] theorem s_non4 : D.isNon (.bl x) = false := rfl
@[simp] theorem s_isBl : isBl (.bl x) (.bl y) = some (.bl (decide (x = y))) := rfl
@[simp] theorem s_isNotBl : isNotBl (.bl x) (.bl y) = some (.bl (!decide (x = y))) := rfl
@[simp] theorem s_aNil : aNil [] = some [] := rfl
@[simp] theorem s_aCons {a0 : D → Option Asg} {b0 : List D → Option Asg} : aCons a0 b0 (d :: ds) = (a0 d).bind fun x => (b0 ds).map fun y => x ++ y := rfl
@[simp] theorem s_aTup {b0 : List D → Option Asg} : aTup b0 (.tup ds) = b0 ds := rfl
end
end DN
namespace DN
open PySem PySem.Spec PyProof.Rows L2 RZ ND
def spLaw (K : PySem.W.Frag) : Sp := fun vs H Q _ => ∃ (a : Addr) (ns : List Int), vs = [.ref a] ∧ SqL K H a (ns.map V.int) ∧ ns.length ≤ 63 ∧ ∀ H', Q (.bl true) H'
theorem spLaw_len {K : PySem.W.Frag} : ∀ vs H Q E, spLaw K vs H Q E → vs.length = ["_law_script"].length := by
  rintro vs H Q E ⟨a, ns, rfl, _⟩
  rfl
theorem repL_num {K : PySem.W.Frag} {cl : CTab} {Z : Zp} : ∀ ns : List Int, RepL K cl Z (ns.map V.int) (ns.map D.int)
  | [] => .nil
  | n :: ns => .cons (.int n) (repL_num ns)
end DN
namespace DN
open PySem PySem.Spec PyProof.Rows L2 RZ ND
variable {B : Sto} {α β γ : Type}
section
variable {a b : Int} {x y : Bool} {u v : Str} {d e : D} {i : Nat} {ds es ks vs : List D} {c : Str} {ad : Addr}
theorem beq_dec {α : Type} [BEq α] [LawfulBEq α] [DecidableEq α] {a b : α} : (a == b) = decide (a = b) := by
  by_cases h : a = b <;> simp [h]
theorem okc_int : D.okc (.int a) = true := by simp [D.okc, D.plain, D.py, PyData.depth]
theorem okc_bl : D.okc (.bl x) = true := by simp [D.okc, D.plain, D.py, PyData.depth]
theorem okc_str : D.okc (.str u) = true := by simp [D.okc, D.plain, D.py, PyData.depth]
@[simp] theorem s_eqI : eqD (.int a) (.int b) = some (.bl (decide (a = b))) := by
  unfold eqD; rw [okc_int, okc_int]; simp only [D.py, PyData.eqv, Bool.and_self, if_true]; congr 2
@[simp] theorem s_eqB : eqD (.bl x) (.bl y) = some (.bl (decide (x = y))) := by
  unfold eqD; rw [okc_bl, okc_bl]; cases x <;> cases y <;> simp [D.py, PyData.eqv]
@[simp] theorem s_eqS : eqD (.str u) (.str v) = some (.bl (decide (u = v))) := by
  unfold eqD; rw [okc_str, okc_str]; simp only [D.py, PyData.eqv, Bool.and_self, if_true]; congr 2
@[simp] theorem s_neI : neD (.int a) (.int b) = some (.bl (!decide (a = b))) := by
  unfold neD; rw [okc_int, okc_int]; simp only [D.py, PyData.eqv, Bool.and_self, if_true]; congr 3
@[simp] theorem s_neB : neD (.bl x) (.bl y) = some (.bl (!decide (x = y))) := by
  unfold neD; rw [okc_bl, okc_bl]; cases x <;> cases y <;> simp [D.py, PyData.eqv]
@[simp] theorem s_neS : neD (.str u) (.str v) = some (.bl (!decide (u = v))) := by
  unfold neD; rw [okc_str, okc_str]; simp only [D.py, PyData.eqv, Bool.and_self, if_true]; congr 3
theorem k_NoneType_int : kitB "NoneType" "int" = some false := by with_unfolding_all rfl
@[simp] theorem s_is_int_N : isD "int" .non = some (.bl false) := by show (kitB "NoneType" "int").map D.bl = _; rw [k_NoneType_int]; rfl
theorem k_bool_int : kitB "bool" "int" = some true := by with_unfolding_all rfl
@[simp] theorem s_is_int_B : isD "int" (.bl x) = some (.bl true) := by show (kitB "bool" "int").map D.bl = _; rw [k_bool_int]; rfl
theorem k_int_int : kitB "int" "int" = some true := by with_unfolding_all rfl
@[simp] theorem s_is_int_I : isD "int" (.int a) = some (.bl true) := by show (kitB "int" "int").map D.bl = _; rw [k_int_int]; rfl
theorem k_str_int : kitB "str" "int" = some false := by with_unfolding_all rfl
@[simp] theorem s_is_int_S : isD "int" (.str u) = some (.bl false) := by show (kitB "str" "int").map D.bl = _; rw [k_str_int]; rfl
theorem k_tuple_int : kitB "tuple" "int" = some false := by with_unfolding_all rfl
@[simp] theorem s_is_int_T : isD "int" (.tup ds) = some (.bl false) := by show (kitB "tuple" "int").map D.bl = _; rw [k_tuple_int]; rfl
theorem k_list_int : kitB "list" "int" = some false := by with_unfolding_all rfl
@[simp] theorem s_is_int_L : isD "int" (.lst ds) = some (.bl false) := by show (kitB "list" "int").map D.bl = _; rw [k_list_int]; rfl
theorem k_dict_int : kitB "dict" "int" = some false := by with_unfolding_all rfl
@[simp] theorem s_is_int_D : isD "int" (.dct ks ds) = some (.bl false) := by show (kitB "dict" "int").map D.bl = _; rw [k_dict_int]; rfl
theorem k_NoneType_bool : kitB "NoneType" "bool" = some false := by with_unfolding_all rfl
@[simp] theorem s_is_bool_N : isD "bool" .non = some (.bl false) := by show (kitB "NoneType" "bool").map D.bl = _; rw [k_NoneType_bool]; rfl
theorem k_bool_bool : kitB "bool" "bool" = some true := by with_unfolding_all rfl
@[simp] theorem s_is_bool_B : isD "bool" (.bl x) = some (.bl true) := by show (kitB "bool" "bool").map D.bl = _; rw [k_bool_bool]; rfl
theorem k_int_bool : kitB "int" "bool" = some false := by with_unfolding_all rfl
@[simp] theorem s_is_bool_I : isD "bool" (.int a) = some (.bl false) := by show (kitB "int" "bool").map D.bl = _; rw [k_int_bool]; rfl
theorem k_str_bool : kitB "str" "bool" = some false := by with_unfolding_all rfl
@[simp] theorem s_is_bool_S : isD "bool" (.str u) = some (.bl false) := by show (kitB "str" "bool").map D.bl = _; rw [k_str_bool]; rfl
theorem k_tuple_bool : kitB "tuple" "bool" = some false := by with_unfolding_all rfl
@[simp] theorem s_is_bool_T : isD "bool" (.tup ds) = some (.bl false) := by show (kitB "tuple" "bool").map D.bl = _; rw [k_tuple_bool]; rfl
theorem k_list_bool : kitB "list" "bool" = some false := by with_unfolding_all rfl
@[simp] theorem s_is_bool_L : isD "bool" (.lst ds) = some (.bl false) := by show (kitB "list" "bool").map D.bl = _; rw [k_list_bool]; rfl
theorem k_dict_bool : kitB "dict" "bool" = some false := by with_unfolding_all rfl
@[simp] theorem s_is_bool_D : isD "bool" (.dct ks ds) = some (.bl false) := by show (kitB "dict" "bool").map D.bl = _; rw [k_dict_bool]; rfl
theorem k_NoneType_str : kitB "NoneType" "str" = some false := by with_unfolding_all rfl
@[simp] theorem s_is_str_N : isD "str" .non = some (.bl false) := by show (kitB "NoneType" "str").map D.bl = _; rw [k_NoneType_str]; rfl
theorem k_bool_str : kitB "bool" "str" = some false := by with_unfolding_all rfl
@[simp] theorem s_is_str_B : isD "str" (.bl x) = some (.bl false) := by show (kitB "bool" "str").map D.bl = _; rw [k_bool_str]; rfl
theorem k_int_str : kitB "int" "str" = some false := by with_unfolding_all rfl
@[simp] theorem s_is_str_I : isD "str" (.int a) = some (.bl false) := by show (kitB "int" "str").map D.bl = _; rw [k_int_str]; rfl
theorem k_str_str : kitB "str" "str" = some true := by with_unfolding_all rfl
@[simp] theorem s_is_str_S : isD "str" (.str u) = some (.bl true) := by show (kitB "str" "str").map D.bl = _; rw [k_str_str]; rfl
theorem k_tuple_str : kitB "tuple" "str" = some false := by with_unfolding_all rfl
@[simp] theorem s_is_str_T : isD "str" (.tup ds) = some (.bl false) := by show (kitB "tuple" "str").map D.bl = _; rw [k_tuple_str]; rfl
theorem k_list_str : kitB "list" "str" = some false := by with_unfolding_all rfl
@[simp] theorem s_is_str_L : isD "str" (.lst ds) = some (.bl false) := by show (kitB "list" "str").map D.bl = _; rw [k_list_str]; rfl
theorem k_dict_str : kitB "dict" "str" = some false := by with_unfolding_all rfl
@[simp] theorem s_is_str_D : isD "str" (.dct ks ds) = some (.bl false) := by show (kitB "dict" "str").map D.bl = _; rw [k_dict_str]; rfl
theorem k_NoneType_tuple : kitB "NoneType" "tuple" = some false := by with_unfolding_all rfl
@[simp] theorem s_is_tuple_N : isD "tuple" .non = some (.bl false) := by show (kitB "NoneType" "tuple").map D.bl = _; rw [k_NoneType_tuple]; rfl
theorem k_bool_tuple : kitB "bool" "tuple" = some false := by with_unfolding_all rfl
@[simp] theorem s_is_tuple_B : isD "tuple" (.bl x) = some (.bl false) := by show (kitB "bool" "tuple").map D.bl = _; rw [k_bool_tuple]; rfl
theorem k_int_tuple : kitB "int" "tuple" = some false := by with_unfolding_all rfl
@[simp] theorem s_is_tuple_I : isD "tuple" (.int a) = some (.bl false) := by show (kitB "int" "tuple").map D.bl = _; rw [k_int_tuple]; rfl
theorem k_str_tuple : kitB "str" "tuple" = some false := by with_unfolding_all rfl
@[simp] theorem s_is_tuple_S : isD "tuple" (.str u) = some (.bl false) := by show (kitB "str" "tuple").map D.bl = _; rw [k_str_tuple]; rfl
theorem k_tuple_tuple : kitB "tuple" "tuple" = some true := by with_unfolding_all rfl
@[simp] theorem s_is_tuple_T : isD "tuple" (.tup ds) = some (.bl true) := by show (kitB "tuple" "tuple").map D.bl = _; rw [k_tuple_tuple]; rfl
theorem k_list_tuple : kitB "list" "tuple" = some false := by with_unfolding_all rfl
@[simp] theorem s_is_tuple_L : isD "tuple" (.lst ds) = some (.bl false) := by show (kitB "list" "tuple").map D.bl = _; rw [k_list_tuple]; rfl
theorem k_dict_tuple : kitB "dict" "tuple" = some false := by with_unfolding_all rfl
@[simp] theorem s_is_tuple_D : isD "tuple" (.dct ks ds) = some (.bl false) := by show (kitB "dict" "tuple").map D.bl = _; rw [k_dict_tuple]; rfl
theorem k_NoneType_list : kitB "NoneType" "list" = some false := by with_unfolding_all rfl
@[simp] theorem s_is_list_N : isD "list" .non = some (.bl false) := by show (kitB "NoneType" "list").map D.bl = _; rw [k_NoneType_list]; rfl
theorem k_bool_list : kitB "bool" "list" = some false := by with_unfolding_all rfl
@[simp] theorem s_is_list_B : isD "list" (.bl x) = some (.bl false) := by show (kitB "bool" "list").map D.bl = _; rw [k_bool_list]; rfl
theorem k_int_list : kitB "int" "list" = some false := by with_unfolding_all rfl
@[simp] theorem s_is_list_I : isD "list" (.int a) = some (.bl false) := by show (kitB "int" "list").map D.bl = _; rw [k_int_list]; rfl
theorem k_str_list : kitB "str" "list" = some false := by with_unfolding_all rfl
@[simp] theorem s_is_list_S : isD "list" (.str u) = some (.bl false) := by show (kitB "str" "list").map D.bl = _; rw [k_str_list]; rfl
theorem k_tuple_list : kitB "tuple" "list" = some false := by with_unfolding_all rfl
@[simp] theorem s_is_list_T : isD "list" (.tup ds) = some (.bl false) := by show (kitB "tuple" "list").map D.bl = _; rw [k_tuple_list]; rfl
theorem k_list_list : kitB "list" "list" = some true := by with_unfolding_all rfl
@[simp] theorem s_is_list_L : isD "list" (.lst ds) = some (.bl true) := by show (kitB "list" "list").map D.bl = _; rw [k_list_list]; rfl
theorem k_dict_list : kitB "dict" "list" = some false := by with_unfolding_all rfl
@[simp] theorem s_is_list_D : isD "list" (.dct ks ds) = some (.bl false) := by show (kitB "dict" "list").map D.bl = _; rw [k_dict_list]; rfl
theorem k_NoneType_dict : kitB "NoneType" "dict" = some false := by with_unfolding_all rfl
@[simp] theorem s_is_dict_N : isD "dict" .non = some (.bl false) := by show (kitB "NoneType" "dict").map D.bl = _; rw [k_NoneType_dict]; rfl
theorem k_bool_dict : kitB "bool" "dict" = some false := by with_unfolding_all rfl
@[simp] theorem s_is_dict_B : isD "dict" (.bl x) = some (.bl false) := by show (kitB "bool" "dict").map D.bl = _; rw [k_bool_dict]; rfl
theorem k_int_dict : kitB "int" "dict" = some false := by with_unfolding_all rfl
@[simp] theorem s_is_dict_I : isD "dict" (.int a) = some (.bl false) := by show (kitB "int" "dict").map D.bl = _; rw [k_int_dict]; rfl
theorem k_str_dict : kitB "str" "dict" = some false := by with_unfolding_all rfl
@[simp] theorem s_is_dict_S : isD "dict" (.str u) = some (.bl false) := by show (kitB "str" "dict").map D.bl = _; rw [k_str_dict]; rfl
theorem k_tuple_dict : kitB "tuple" "dict" = some false := by with_unfolding_all rfl
@[simp] theorem s_is_dict_T : isD "dict" (.tup ds) = some (.bl false) := by show (kitB "tuple" "dict").map D.bl = _; rw [k_tuple_dict]; rfl
theorem k_list_dict : kitB "list" "dict" = some false := by with_unfolding_all rfl
@[simp] theorem s_is_dict_L : isD "dict" (.lst ds) = some (.bl false) := by show (kitB "list" "dict").map D.bl = _; rw [k_list_dict]; rfl
theorem k_dict_dict : kitB "dict" "dict" = some true := by with_unfolding_all rfl
@[simp] theorem s_is_dict_D : isD "dict" (.dct ks ds) = some (.bl true) := by show (kitB "dict" "dict").map D.bl = _; rw [k_dict_dict]; rfl
@[simp] theorem s_anyT : anyI (.tup ds) = some ds := rfl
@[simp] theorem s_anyL : anyI (.lst ds) = some ds := rfl
theorem pyL_map : ∀ {ds : List D}, D.pyL ds = ds.map D.py
  | [] => rfl
  | d :: ds => by rw [D.pyL, pyL_map, List.map_cons]
@[simp] theorem bools_map {f : α → Bool} : ∀ {as : List α}, bools (as.map fun a => .bl (f a)) = some (as.map f)
  | [] => rfl
  | a :: as => by simp [bools, bools_map]
@[simp] theorem allD_map {f : α → Bool} {as : List α} : allD [.lst (as.map fun a => .bl (f a))] = some (.bl (as.all f)) := by
  simp [allD]
@[simp] theorem anyD_map {f : α → Bool} {as : List α} : anyD [.lst (as.map fun a => .bl (f a))] = some (.bl (as.any f)) := by
  simp [anyD]
end
theorem eq_of_wp {m : M B α} {v : α} {s : B.T} (h : wp m (fun a s' => a = v ∧ s' = s) s) : m s = .ok v s := by
  obtain ⟨a, s', e, rfl, rfl⟩ := wp_ok h
  exact e
theorem pure_of_wp {m : M B α} {v : α} (h : ∀ s, wp m (fun a s' => a = v ∧ s' = s) s) : m = M.pure v := funext fun s => eq_of_wp (h s)
@[simp] theorem noErr_pure {a : α} : (noErr (M.pure a) : M B α) = M.pure a := rfl
@[simp] theorem if_pure {c : Prop} [Decidable c] {a b : α} : (if c then M.pure a else M.pure b : M B α) = M.pure (if c then a else b) := by split <;> rfl
theorem compL_pure {f : α → M B (Option β)} {g : α → Option β} : ∀ {ds : List α}, (∀ d ∈ ds, f d = M.pure (g d)) → compL f ds = M.pure (ds.filterMap g)
  | [], _ => rfl
  | d :: ds, h => by
    unfold compL
    rw [h d List.mem_cons_self, bind_pure, compL_pure (fun d hd => h d (List.mem_cons_of_mem _ hd)), bind_pure]
    cases e : g d <;> simp [consO, List.filterMap_cons, e]
theorem compL_map {f : β → M B (Option γ)} {g : α → β} {k : α → γ} {as : List α} (h : ∀ a ∈ as, f (g a) = M.pure (some (k a))) : compL f (as.map g) = M.pure (as.map k) := by
  have : ∀ d ∈ as, (fun a => f (g a)) d = M.pure ((fun a => some (k a)) d) := h
  have q := compL_pure this
  rw [show as.filterMap (fun a => some (k a)) = as.map k from by simp] at q
  rw [← q]
  clear q this h
  induction as with
  | nil => rfl
  | cons a as ih => simp only [List.map_cons, compL, ih]
theorem compL_all {f : D → M B (Option D)} {k : D → D} {ds : List D} (h : ∀ d ∈ ds, f d = M.pure (some (k d))) : compL f ds = M.pure (ds.map k) := by
  have := compL_map (g := id) (as := ds) h
  simpa using this
theorem wp_forI {a : D → Option Asg} {F : SEnv → M B Fl} {R : Fl → B.T → Prop} (I : List D → SEnv → B.T → Prop) : ∀ {ds : List D} {ρ : SEnv} {s : B.T}, I ds ρ s →
    (∀ d r ρ s, I (d :: r) ρ s → ∃ as, a d = some as ∧ wp (F (setsS ρ as)) (fun fl s' => match fl with
      | .nx ρ' => I r ρ' s'
      | .ct ρ' => I r ρ' s'
      | .bk ρ' => R (.nx ρ') s'
      | .rt d => R (.rt d) s'
      | .ro d => R (.ro d) s') s) → (∀ ρ' s', I [] ρ' s' → R (.nx ρ') s') → wp (forL a F ds ρ) R s
  | [], ρ, s, hi, hf, hr => hr ρ s hi
  | d :: ds, ρ, s, hi, hf, hr => by
    obtain ⟨as, ha, hw⟩ := hf d ds ρ s hi
    unfold forL
    rw [ha, bind_some]
    refine wp_bind (wp_mono hw fun fl s1 h => ?_)
    cases fl with
    | nx ρ' => exact wp_forI I h hf hr
    | ct ρ' => exact wp_forI I h hf hr
    | bk ρ' => exact h
    | rt d => exact h
    | ro d => exact h
@[simp] theorem s_ixT0 {d : D} {ds : List D} : ixD (.tup (d :: ds)) (.int 0) = some d := by
  have : (0 : Int) < ds.length + 1 := by omega
  simp [ixD, atI, ixN, this]
@[simp] theorem s_ixT1 {d e : D} {ds : List D} : ixD (.tup (d :: e :: ds)) (.int 1) = some e := by
  have : (1 : Int) < ds.length + 1 + 1 := by omega
  simp [ixD, atI, ixN, this]
@[simp] theorem s_ixT2 {d e f : D} {ds : List D} : ixD (.tup (d :: e :: f :: ds)) (.int 2) = some f := by
  have : (2 : Int) < ds.length + 1 + 1 + 1 := by omega
  simp [ixD, atI, ixN, this]
@[simp] theorem s_ixTm {d : D} : ixD (.tup [d]) (.int (-1)) = some d := by simp [ixD, atI, ixN]
@[simp] theorem s_ixTm2 {d e : D} : ixD (.tup [d, e]) (.int (-1)) = some e := by simp [ixD, atI, ixN]
@[simp] theorem s_ixTm3 {d e f : D} : ixD (.tup [d, e, f]) (.int (-1)) = some f := by simp [ixD, atI, ixN]
@[simp] theorem compF_eq {a : D → Option Asg} {t : Env → M B Bool} {e : Env → M B D} {ρ : Env} {d : D} :
    compF a t e ρ d = noErr (M.bind (lift ((a d).map (setsE ρ))) fun ρ' => M.bind (t ρ') fun k => if k = true then M.bind (e ρ') fun x => M.pure (some x) else M.pure none) := rfl
@[simp] theorem s_runF {m : Nat} {F : SEnv → M B Fl} {ds : List D} : runF m F ds = M.bind (F (startE m ds)) retF := rfl
@[simp] theorem lift_some' {a : α} : (lift (some a) : M B α) = M.pure a := rfl
theorem wp_compLx {f : α → M B (Option γ)} (Inv : B.T → Prop) (P : β → Prop) (g : β → γ) : ∀ {ds : List α} {R : List γ → B.T → Prop} {s : B.T}, Inv s → (∀ d ∈ ds, ∀ s, Inv s → wp (f d) (fun o s' => Inv s' ∧ ∃ b, P b ∧ o = some (g b)) s) →
    (∀ (bs : List β) s', Inv s' → bs.length = ds.length → (∀ b ∈ bs, P b) → R (bs.map g) s') → wp (compL f ds) R s
  | [], R, s, hi, hf, hr => hr [] s hi rfl (fun b h => nomatch h)
  | d :: ds, R, s, hi, hf, hr => by
    unfold compL
    refine wp_bind (wp_mono (hf d List.mem_cons_self s hi) fun o s1 ⟨i1, b, pb, eb⟩ => ?_)
    refine wp_bind (wp_compLx Inv P g (ds := ds) i1 (fun d' hd => hf d' (List.mem_cons_of_mem _ hd)) fun bs s2 i2 l2 q2 => ?_)
    subst eb
    refine wp_pure ?_
    exact hr (b :: bs) s2 i2 (by simp [l2]) (fun x hx => by
      rcases List.mem_cons.mp hx with rfl | h
      · exact pb
      · exact q2 x h)
def maskN (l : List Nat) : Nat := l.foldl (fun m b => m ||| 2 ^ b) 0
theorem mask_fold : ∀ (l : List Nat) (m i : Nat), (l.foldl (fun m b => m ||| 2 ^ b) m).testBit i = (m.testBit i || decide (i ∈ l))
  | [], m, i => by simp
  | b :: l, m, i => by
    rw [List.foldl_cons, mask_fold l, Nat.testBit_or, Nat.testBit_two_pow]
    by_cases h : i = b
    · subst h; simp
    · have h' : ¬ b = i := fun z => h z.symm
      simp [h, h']
theorem mask_bit (l : List Nat) (i : Nat) : (maskN l).testBit i = decide (i ∈ l) := by
  unfold maskN
  rw [mask_fold]; simp
@[simp] theorem asB_bl {b : Bool} : (some (D.bl b)).bind D.asB = some b := rfl
@[simp] theorem anyI_tup {ds : List D} : anyI (.tup ds) = some ds := rfl
@[simp] theorem zipI_tup {xs ys : List D} : zipI (.tup xs) (.tup ys) = some (zipL xs ys) := rfl
@[simp] theorem ltDT_int {a b : Int} : ltDT (.int a) (.int b) = some (.bl (decide (a < b))) := by
  unfold ltDT
  rw [okc_int, okc_int]
  have h1 : PySem.W.alike (D.int a).py (D.int b).py = true := by
    have := PySem.W.alike_ints [a] [b]
    simpa [PySem.W.alikeAll, D.py] using this
  rw [h1]
  simp only [D.isNon, D.py, Bool.and_self, Bool.not_false, if_true]
  rw [PySem.W.dataLt_int]
@[simp] theorem map_some {a : α} {f : α → β} : Option.map f (some a) = some (f a) := rfl
theorem char_inj : ∀ x y : Char, x.toNat = y.toNat → x = y := fun x y h => by
  apply Char.ext
  apply UInt32.toNat_inj.mp
  exact h
@[simp] theorem ofString_inj {a b : String} : Str.ofString a = Str.ofString b ↔ a = b := by
  rw [Str.ofString_eq_toList, Str.ofString_eq_toList]
  constructor
  · intro h
    have h1 : a.toList.map Char.toNat = b.toList.map Char.toNat := by simpa using h
    have h2 : a.toList = b.toList := (List.map_inj_right char_inj).mp h1
    exact String.toList_inj.mp h2
  · rintro rfl; rfl
theorem okc_strs {ds : List D} (h : ∀ d ∈ ds, ∃ x, d = .str x) : (D.lst ds).okc = true := by
  have h1 : ∀ ds : List D, (∀ d ∈ ds, ∃ x, d = .str x) → D.plainL ds = true ∧ PyData.depthAll (D.pyL ds) = 0 := by
    intro ds
    induction ds with
    | nil => intro _; exact ⟨rfl, rfl⟩
    | cons d ds ih =>
      intro h
      obtain ⟨x, rfl⟩ := h d List.mem_cons_self
      obtain ⟨a, b⟩ := ih fun e he => h e (List.mem_cons_of_mem _ he)
      exact ⟨by simp [D.plainL, D.plain, a], by rw [D.pyL, PyData.depthAll, b]; rfl⟩
  obtain ⟨a, b⟩ := h1 ds h
  unfold D.okc
  rw [show (D.lst ds).plain = true from a, D.py, PyData.depth, b]
  rfl
theorem okc_nums {ds : List D} (h : ∀ d ∈ ds, ∃ x, d = .int x) : (D.lst ds).okc = true := by
  have h1 : ∀ ds : List D, (∀ d ∈ ds, ∃ x, d = .int x) → D.plainL ds = true ∧ PyData.depthAll (D.pyL ds) = 0 := by
    intro ds
    induction ds with
    | nil => intro _; exact ⟨rfl, rfl⟩
    | cons d ds ih =>
      intro h
      obtain ⟨x, rfl⟩ := h d List.mem_cons_self
      obtain ⟨a, b⟩ := ih fun e he => h e (List.mem_cons_of_mem _ he)
      exact ⟨by simp [D.plainL, D.plain, a], by rw [D.pyL, PyData.depthAll, b]; rfl⟩
  obtain ⟨a, b⟩ := h1 ds h
  unfold D.okc
  rw [show (D.lst ds).plain = true from a, D.py, PyData.depth, b]
  rfl
theorem inSeqS1 {a z : Str} : inSeq (.str z) [.str a] = some (decide (a = z)) := by
  unfold inSeq
  rw [okc_str, okc_strs (by simp)]
  simp [D.pyL, D.py, PyData.eqv, beq_dec, Bool.or_assoc]
@[simp] theorem s_inS1 {a z : Str} : inD (.str z) (.tup [.str a]) = some (.bl (decide (a = z))) := by
  show (inSeq (.str z) [.str a]).map D.bl = _
  rw [inSeqS1]; rfl
@[simp] theorem s_notInS1 {a z : Str} : notInD (.str z) (.tup [.str a]) = some (.bl (!(decide (a = z)))) := by
  show (inSeq (.str z) [.str a]).map (fun b => D.bl (!b)) = _
  rw [inSeqS1]; rfl
theorem inSeqS2 {a b z : Str} : inSeq (.str z) [.str a, .str b] = some (decide (a = z) || decide (b = z)) := by
  unfold inSeq
  rw [okc_str, okc_strs (by simp)]
  simp [D.pyL, D.py, PyData.eqv, beq_dec, Bool.or_assoc]
@[simp] theorem s_inS2 {a b z : Str} : inD (.str z) (.tup [.str a, .str b]) = some (.bl (decide (a = z) || decide (b = z))) := by
  show (inSeq (.str z) [.str a, .str b]).map D.bl = _
  rw [inSeqS2]; rfl
@[simp] theorem s_notInS2 {a b z : Str} : notInD (.str z) (.tup [.str a, .str b]) = some (.bl (!(decide (a = z) || decide (b = z)))) := by
  show (inSeq (.str z) [.str a, .str b]).map (fun b => D.bl (!b)) = _
  rw [inSeqS2]; rfl
theorem inSeqS3 {a b c z : Str} : inSeq (.str z) [.str a, .str b, .str c] = some (decide (a = z) || decide (b = z) || decide (c = z)) := by
  unfold inSeq
  rw [okc_str, okc_strs (by simp)]
  simp [D.pyL, D.py, PyData.eqv, beq_dec, Bool.or_assoc]
@[simp] theorem s_inS3 {a b c z : Str} : inD (.str z) (.tup [.str a, .str b, .str c]) = some (.bl (decide (a = z) || decide (b = z) || decide (c = z))) := by
  show (inSeq (.str z) [.str a, .str b, .str c]).map D.bl = _
  rw [inSeqS3]; rfl
@[simp] theorem s_notInS3 {a b c z : Str} : notInD (.str z) (.tup [.str a, .str b, .str c]) = some (.bl (!(decide (a = z) || decide (b = z) || decide (c = z)))) := by
  show (inSeq (.str z) [.str a, .str b, .str c]).map (fun b => D.bl (!b)) = _
  rw [inSeqS3]; rfl
theorem inSeqS4 {a b c d z : Str} : inSeq (.str z) [.str a, .str b, .str c, .str d] = some (decide (a = z) || decide (b = z) || decide (c = z) || decide (d = z)) := by
  unfold inSeq
  rw [okc_str, okc_strs (by simp)]
  simp [D.pyL, D.py, PyData.eqv, beq_dec, Bool.or_assoc]
@[simp] theorem s_inS4 {a b c d z : Str} : inD (.str z) (.tup [.str a, .str b, .str c, .str d]) = some (.bl (decide (a = z) || decide (b = z) || decide (c = z) || decide (d = z))) := by
  show (inSeq (.str z) [.str a, .str b, .str c, .str d]).map D.bl = _
  rw [inSeqS4]; rfl
@[simp] theorem s_notInS4 {a b c d z : Str} : notInD (.str z) (.tup [.str a, .str b, .str c, .str d]) = some (.bl (!(decide (a = z) || decide (b = z) || decide (c = z) || decide (d = z)))) := by
  show (inSeq (.str z) [.str a, .str b, .str c, .str d]).map (fun b => D.bl (!b)) = _
  rw [inSeqS4]; rfl
theorem inSeqS5 {a b c d e z : Str} : inSeq (.str z) [.str a, .str b, .str c, .str d, .str e] = some (decide (a = z) || decide (b = z) || decide (c = z) || decide (d = z) || decide (e = z)) := by
  unfold inSeq
  rw [okc_str, okc_strs (by simp)]
  simp [D.pyL, D.py, PyData.eqv, beq_dec, Bool.or_assoc]
@[simp] theorem s_inS5 {a b c d e z : Str} : inD (.str z) (.tup [.str a, .str b, .str c, .str d, .str e]) = some (.bl (decide (a = z) || decide (b = z) || decide (c = z) || decide (d = z) || decide (e = z))) := by
  show (inSeq (.str z) [.str a, .str b, .str c, .str d, .str e]).map D.bl = _
  rw [inSeqS5]; rfl
@[simp] theorem s_notInS5 {a b c d e z : Str} : notInD (.str z) (.tup [.str a, .str b, .str c, .str d, .str e]) = some (.bl (!(decide (a = z) || decide (b = z) || decide (c = z) || decide (d = z) || decide (e = z)))) := by
  show (inSeq (.str z) [.str a, .str b, .str c, .str d, .str e]).map (fun b => D.bl (!b)) = _
  rw [inSeqS5]; rfl
theorem inSeqI1 {a z : Int} : inSeq (.int z) [.int a] = some (decide (a = z)) := by
  unfold inSeq
  rw [okc_int, okc_nums (by simp)]
  simp [D.pyL, D.py, PyData.eqv, beq_dec, Bool.or_assoc]
@[simp] theorem s_inI1 {a z : Int} : inD (.int z) (.tup [.int a]) = some (.bl (decide (a = z))) := by
  show (inSeq (.int z) [.int a]).map D.bl = _
  rw [inSeqI1]; rfl
@[simp] theorem s_notInI1 {a z : Int} : notInD (.int z) (.tup [.int a]) = some (.bl (!(decide (a = z)))) := by
  show (inSeq (.int z) [.int a]).map (fun b => D.bl (!b)) = _
  rw [inSeqI1]; rfl
theorem inSeqI2 {a b z : Int} : inSeq (.int z) [.int a, .int b] = some (decide (a = z) || decide (b = z)) := by
  unfold inSeq
  rw [okc_int, okc_nums (by simp)]
  simp [D.pyL, D.py, PyData.eqv, beq_dec, Bool.or_assoc]
@[simp] theorem s_inI2 {a b z : Int} : inD (.int z) (.tup [.int a, .int b]) = some (.bl (decide (a = z) || decide (b = z))) := by
  show (inSeq (.int z) [.int a, .int b]).map D.bl = _
  rw [inSeqI2]; rfl
@[simp] theorem s_notInI2 {a b z : Int} : notInD (.int z) (.tup [.int a, .int b]) = some (.bl (!(decide (a = z) || decide (b = z)))) := by
  show (inSeq (.int z) [.int a, .int b]).map (fun b => D.bl (!b)) = _
  rw [inSeqI2]; rfl
theorem inSeqI3 {a b c z : Int} : inSeq (.int z) [.int a, .int b, .int c] = some (decide (a = z) || decide (b = z) || decide (c = z)) := by
  unfold inSeq
  rw [okc_int, okc_nums (by simp)]
  simp [D.pyL, D.py, PyData.eqv, beq_dec, Bool.or_assoc]
@[simp] theorem s_inI3 {a b c z : Int} : inD (.int z) (.tup [.int a, .int b, .int c]) = some (.bl (decide (a = z) || decide (b = z) || decide (c = z))) := by
  show (inSeq (.int z) [.int a, .int b, .int c]).map D.bl = _
  rw [inSeqI3]; rfl
@[simp] theorem s_notInI3 {a b c z : Int} : notInD (.int z) (.tup [.int a, .int b, .int c]) = some (.bl (!(decide (a = z) || decide (b = z) || decide (c = z)))) := by
  show (inSeq (.int z) [.int a, .int b, .int c]).map (fun b => D.bl (!b)) = _
  rw [inSeqI3]; rfl
theorem inSeqI4 {a b c d z : Int} : inSeq (.int z) [.int a, .int b, .int c, .int d] = some (decide (a = z) || decide (b = z) || decide (c = z) || decide (d = z)) := by
  unfold inSeq
  rw [okc_int, okc_nums (by simp)]
  simp [D.pyL, D.py, PyData.eqv, beq_dec, Bool.or_assoc]
@[simp] theorem s_inI4 {a b c d z : Int} : inD (.int z) (.tup [.int a, .int b, .int c, .int d]) = some (.bl (decide (a = z) || decide (b = z) || decide (c = z) || decide (d = z))) := by
  show (inSeq (.int z) [.int a, .int b, .int c, .int d]).map D.bl = _
  rw [inSeqI4]; rfl
@[simp] theorem s_notInI4 {a b c d z : Int} : notInD (.int z) (.tup [.int a, .int b, .int c, .int d]) = some (.bl (!(decide (a = z) || decide (b = z) || decide (c = z) || decide (d = z)))) := by
  show (inSeq (.int z) [.int a, .int b, .int c, .int d]).map (fun b => D.bl (!b)) = _
  rw [inSeqI4]; rfl
theorem inSeqI5 {a b c d e z : Int} : inSeq (.int z) [.int a, .int b, .int c, .int d, .int e] = some (decide (a = z) || decide (b = z) || decide (c = z) || decide (d = z) || decide (e = z)) := by
  unfold inSeq
  rw [okc_int, okc_nums (by simp)]
  simp [D.pyL, D.py, PyData.eqv, beq_dec, Bool.or_assoc]
@[simp] theorem s_inI5 {a b c d e z : Int} : inD (.int z) (.tup [.int a, .int b, .int c, .int d, .int e]) = some (.bl (decide (a = z) || decide (b = z) || decide (c = z) || decide (d = z) || decide (e = z))) := by
  show (inSeq (.int z) [.int a, .int b, .int c, .int d, .int e]).map D.bl = _
  rw [inSeqI5]; rfl
@[simp] theorem s_notInI5 {a b c d e z : Int} : notInD (.int z) (.tup [.int a, .int b, .int c, .int d, .int e]) = some (.bl (!(decide (a = z) || decide (b = z) || decide (c = z) || decide (d = z) || decide (e = z)))) := by
  show (inSeq (.int z) [.int a, .int b, .int c, .int d, .int e]).map (fun b => D.bl (!b)) = _
  rw [inSeqI5]; rfl
section
variable {K : PySem.W.Frag} {cl : CTab} {c : Str} {i : Nat} {ds : List D} {d : D} {p : Nat} {s : Mem}
@[simp] theorem updM_same {o : Option D} : (updM s p o).m p = o := if_pos rfl
@[simp] theorem push_at : (s.push d).m s.n = some d := if_pos rfl
@[simp] theorem push_n : (s.push d).n = s.n + 1 := rfl
@[simp] theorem updM_n {o : Option D} : (updM s p o).n = s.n := rfl
@[simp] theorem updM_upd {o o' : Option D} : updM (updM s p o) p o' = updM s p o' := by
  unfold updM
  congr 1
  funext x
  show (if x = p then _ else if x = p then _ else _) = _
  split <;> rfl
@[simp] theorem push_upd {e : D} : updM (s.push d) s.n (some e) = s.push e := by
  unfold updM Mem.push
  congr 1
  funext x
  show (if x = s.n then _ else if x = s.n then _ else _) = _
  split <;> rfl
@[simp] theorem fld_ins : fldM (K := K) (cl := cl) c i (.ins c ds) = lift ds[i]? := by simp [fldM]
@[simp] theorem ins_ins : insM (K := K) (cl := cl) c (.ins c ds) = M.pure () := by simp [insM]
end
end DN
namespace DN
open PySem PySem.Spec PyProof.Rows L2 RZ ND
def see1 (p : D → Bool) (s : Sl) : Option D := match s with
  | .val d => some d
  | .own d => if p d = true then some (D.strip (.ins "" [d])) else none
  | .no => none
section
variable {p : D → Bool} {s : Sl} {ρ : SEnv} {d : D}
@[simp] theorem seeE_cons : seeE p (s :: ρ) = see1 p s :: seeE p ρ := by
  cases s <;> rfl
@[simp] theorem see1_val : see1 p (.val d) = some d := rfl
@[simp] theorem see1_no : see1 p .no = none := rfl
@[simp] theorem see1_own : see1 pHide (.own d) = none := rfl
end
end DN
namespace DN
open PySem PySem.Spec PyProof.Rows L2 RZ ND
variable {B : Sto}
section
variable {K : PySem.W.Frag} {cl : CTab} {Z Z0 : Zp} {C H H0 C0 : Hp} {ρ : SEnv} {σ : L2.St} {α : Nat → Addr → Prop} {s : B.T} {p : Addr} {o : HO} {d : D} {i : Nat}
theorem own_new (w : Wd B true Z C H s) (n : Nx Z0 C0 H0 Z C H) (r : SRel K cl Z C H H0 ρ σ α) (hp : H p = none) (hm : immO o = false) (o' : OwnT K cl Z (upd H p o) (fun x => x = p) (.ref p) (.ins "" [d])) :
    Wd B true Z C (upd H p o) s ∧ Nx Z0 C0 H0 Z C (upd H p o) ∧ SRel K cl Z C (upd H p o) H0 (ρ.set i (.own d)) (σ.set i (some (.ref p))) (upd1 α i (fun x => x = p)) := by
  have h0 : H0 p = none := n.back w.ch hp
  have zp := none_of_sub w.zh hp
  have cp := none_of_sub w.ch hp
  refine ⟨w.mut zp cp, n.mut h0, r.setOwn (fun j e x ob q hj hx ho => by rw [upd_ne (ne_of_none ho hp)]; exact ho) (fun x hx => ?_) (fun j e x q hj hx hx2 => ?_) o'⟩
  · have hx : x = p := hx
    subst hx
    exact ⟨h0, zp, cp, o, upd_same, hm⟩
  · have hx : x = p := hx
    subst hx
    obtain ⟨_, _, _, u, hu, _⟩ := r.fp j e x q hx2
    rw [hp] at hu; cases hu
theorem own_mut {a : Addr} {v : V} {d' : D} {F : Addr → Prop} (w : Wd B true Z C H s) (n : Nx Z0 C0 H0 Z C H) (r : SRel K cl Z C H H0 ρ σ α) (h : ρ[i]? = some (.own d)) (hv : σ[i]? = some (some v)) (ha : α i a) (hm : immO o = false)
    (hF : ∀ x, F x → α i x) (o' : OwnT K cl Z (upd H a o) F v (.ins "" [d'])) :
    Wd B true Z C (upd H a o) s ∧ Nx Z0 C0 H0 Z C (upd H a o) ∧ SRel K cl Z C (upd H a o) H0 (ρ.set i (.own d')) σ (upd1 α i F) := by
  obtain ⟨h0, zp, cp, _⟩ := r.fp i d a h ha
  have := r.setOwn (i := i) (v := v) (F := F) (d := d') (H' := upd H a o) (fun j e x ob q hj hx ho => by
      have hne : x ≠ a := fun z => hj (r.dj j i e d x q h hx (by rw [z]; exact ha))
      rw [upd_ne hne]; exact ho) (fun x hx => by
      obtain ⟨g1, g2, g3, ob, g4, g5⟩ := r.fp i d x h (hF x hx)
      by_cases hxa : x = a
      · subst hxa; exact ⟨g1, g2, g3, o, upd_same, hm⟩
      · exact ⟨g1, g2, g3, ob, by rw [upd_ne hxa]; exact g4, g5⟩) (fun j e x q hj hx hx2 => hj (r.dj j i e d x q h hx2 (hF x hx))) o'
  rw [set_self hv] at this
  exact ⟨w.mut zp cp, n.mut h0, this⟩
theorem own_lst {ds : List D} (r : SRel K cl Z C H H0 ρ σ α) (h : ρ[i]? = some (.own (.lst ds))) : ∃ a vs, σ[i]? = some (some (.ref a)) ∧ α i a ∧ H a = some (.lst vs) ∧ vs.length ≤ sizeLine ∧ OwnTL K cl Z H (fun x => α i x ∧ x ≠ a) vs ds := by
  obtain ⟨v, hv, o⟩ := r.own i _ h
  cases o with
  | leaf i _ => simp [D.isMut] at i
  | lst fa ha l t => exact ⟨_, _, hv, fa, ha, l, t⟩
theorem own_frz (w : Wd B true Z C H s) (n : Nx Z0 C0 H0 Z C H) (r : SRel K cl Z C H H0 ρ σ α) (h : ρ[i]? = some (.own d)) :
    ∃ Z1, Wd B true Z1 C H s ∧ Nx Z0 C0 H0 Z1 C H ∧ SRel K cl Z1 C H H0 (ρ.set i (.val (D.strip (.ins "" [d])))) σ α := by
  classical
  let Z1 : Zp := ⟨fun x => if α i x then H x else Z.h x, Z.μ⟩
  have zin : ∀ x, α i x → Z1 x = H x := fun x hx => if_pos hx
  have zout : ∀ x, ¬ α i x → Z1 x = Z x := fun x hx => if_neg hx
  have sz : SubZ Z Z1 := ⟨fun x ob e => by
    by_cases hx : α i x
    · rw [(r.fp i d x h hx).2.1] at e; cases e
    · rw [zout x hx]; exact e, fun _ _ e => e⟩
  refine ⟨Z1, ⟨fun x u e => ?_, w.ch, fun x e => ?_, B.mono w.sr (sz.imm rfl)⟩, ⟨n.zz.trans sz, n.hh, fun x e => ?_, n.cf, n.cp, n.lk⟩, r.freeze h sz zout zin⟩
  · by_cases hx : α i x
    · rw [zin x hx] at e; exact e
    · rw [zout x hx] at e; exact w.zh x u e
  · by_cases hx : α i x
    · exact absurd (r.fp i d x h hx).2.2.1 e
    · rw [zout x hx]; exact w.dj x e
  · by_cases hx : α i x
    · exact .inr (r.fp i d x h hx).1
    · rw [zout x hx] at e; exact n.zf x e
end
@[simp] def sNewL (i : Nat) : SEnv → M B Fl := fun ρ => M.pure (.nx (ρ.set i (.own (.lst []))))
@[simp] def sNewD (i : Nat) : SEnv → M B Fl := fun ρ => M.pure (.nx (ρ.set i (.own (.dct [] []))))
@[simp] def sApp (p q : D → Bool) (i : Nat) (f : Env → M B D) : SEnv → M B Fl := fun ρ => match ρ[i]? with
  | some (.own (.lst ds)) => M.bind (f (seeE p ρ)) fun d => guardM (q d && !d.isMut && decide (ds.length < sizeLine)) (M.pure (.nx (ρ.set i (.own (.lst (ds ++ [d]))))))
  | _ => fun _ => .stuck
@[simp] def sPut (p q : D → Bool) (i : Nat) (fk f : Env → M B D) : SEnv → M B Fl := fun ρ => match ρ[i]? with
  | some (.own (.dct ks ds)) => M.bind (f (seeE p ρ)) fun d => M.bind (fk (seeE pHide ρ)) fun k => M.bind (lift k.key) fun k => guardM (q d && !d.isMut && decide (ks.length < sizeLine) && okK ks k) (M.pure (.nx (ρ.set i (.own (.dct (putKs ks k) (putVs ks ds k d))))))
  | _ => fun _ => .stuck
def ixK : List D → GK → Option Nat
  | [], _ => none
  | x :: ks, k => if x.key = some k then some 0 else (ixK ks k).map (· + 1)
@[simp] def sAppAt (p q : D → Bool) (i : Nat) (fk f : Env → M B D) : SEnv → M B Fl := fun ρ => match ρ[i]? with
  | some (.own (.dct ks ds)) => M.bind (fk (seeE pHide ρ)) fun k => M.bind (lift (k.key.bind fun k => ixK ks k)) fun j => match ds[j]? with
    | some (.ins c [.lst es]) => M.bind (f (seeE p ρ)) fun d => guardM (decide (c = "") && q d && !d.isMut && decide (es.length < sizeLine)) (M.pure (.nx (ρ.set i (.own (.dct ks (ds.set j (.ins "" [.lst (es ++ [d])])))))))
    | _ => fun _ => .stuck
  | _ => fun _ => .stuck
@[simp] def sAppSd (p q : D → Bool) (i : Nat) (fk f : Env → M B D) : SEnv → M B Fl := fun ρ => match ρ[i]? with
  | some (.own (.dct ks ds)) => M.bind (fk (seeE pHide ρ)) fun k => M.bind (lift k.key) fun k => match ixK ks k with
    | some j => match ds[j]? with
      | some (.ins c [.lst es]) => M.bind (f (seeE p ρ)) fun d => guardM (decide (c = "") && q d && !d.isMut && decide (es.length < sizeLine) && decide (ks.length < sizeLine) && !kindT ks) (M.pure (.nx (ρ.set i (.own (.dct ks (ds.set j (.ins "" [.lst (es ++ [d])])))))))
      | _ => fun _ => .stuck
    | none => M.bind (f (seeE p ρ)) fun d => guardM (q d && !d.isMut && decide (ks.length < sizeLine) && !kindT ks && !k.isT) (M.pure (.nx (ρ.set i (.own (.dct (ks ++ [keyD k]) (ds ++ [.ins "" [.lst [d]]]))))))
  | _ => fun _ => .stuck
def ownS (d : D) : Sl := match d with
  | .ins c [d'] => if c = "" then .own d' else .val d
  | d => .val d
@[simp] def sOwn (i : Nat) (f : Env → M B D) : SEnv → M B Fl := fun ρ => M.bind (f (seeE pHide ρ)) fun d => M.pure (.nx (ρ.set i (ownS d)))
@[simp] def sRetO (i : Nat) : SEnv → M B Fl := fun ρ => match ρ[i]? with
  | some (.own d) => M.pure (.ro d)
  | some (.val d) => M.pure (.rt d)
  | _ => fun _ => .stuck
def frzS (i : Nat) (ρ : SEnv) : SEnv := match ρ[i]? with
  | some (.own d) => ρ.set i (.val (D.strip (.ins "" [d])))
  | _ => ρ
@[simp] def sFrz (i : Nat) (G : SEnv → M B Fl) : SEnv → M B Fl := fun ρ => G (frzS i ρ)
section
variable {cl : CTab} {md : Bool} {W : WX} {X : Cx} {p q : D → Bool} {i : Nat} {x : Str}
theorem ds_newL {pos pos' p2 : Pos} (hN : X.N.Nodup) (hi : X.N[i]? = some x) (hx : Loc X.env.scope x) (hs : swapsWith (.List [] p2) (some (.Name x pos')) pos.line X.env = pure false := by rfl)
    (hf : X.fn x = true ∨ X.env.scope.names.lookup x = some .local := by first | exact .inl rfl | exact .inr rfl | assumption) : DS cl B W X (.Assign [.Name x pos'] (.List [] p2) pos) (sNewL i) := by
  refine PS.weak (ps_set hN hi hx (pe_lst pa_nil) hs hf) fun E σ H ⟨Z0, C0, H0, Z, C, s, ρ, α, c0, w, n, r, q⟩ => ?_
  refine ⟨Nat.zero_le _, fun p hp => ?_⟩
  obtain ⟨w1, n1, r1⟩ := own_new (i := i) (o := .lst []) (d := .lst []) w n r hp rfl (.lst rfl upd_same (Nat.zero_le _) .nil)
  exact q _ _ _ _ _ w1 n1 r1
theorem ds_own {e : Expr} {f : Env → M B D} {pos pos' : Pos} (hN : X.N.Nodup) (hi : X.N[i]? = some x) (hx : Loc X.env.scope x) (h : DM cl B true W X e f) (hs : swapsWith e (some (.Name x pos')) pos.line X.env = pure false := by rfl)
    (hf : X.fn x = true ∨ X.env.scope.names.lookup x = some .local := by first | exact .inl rfl | exact .inr rfl | assumption) : DS cl B W X (.Assign [.Name x pos'] e pos) (sOwn i f) := by
  refine PS.weak (ps_set hN hi hx h hs hf) fun E σ H ⟨Z0, C0, H0, Z, C, s, ρ, α, c0, w, n, r, q⟩ => ?_
  have wd := see_wd (md := true) w r seeHide.nd
  have en := see_env seeHide r
  have key : ∀ {Z1 : Zp} {C1 H1 : Hp} {s1 : B.T}, Wd B true Z1 C1 H1 s1 → Nx (seeZ pHide ρ α Z H) C H Z1 C1 H1 → Nx Z0 C0 H0 Z1 C1 H1 ∧ SRel X.K cl Z1 C1 H1 H0 ρ σ α := fun w1 n1 => by
    have u := see_un seeHide w c0 n r w1 n1
    have u2 := u.nx; have u3 := u.rel
    rw [unZ_hide pHide_no] at u2 u3
    exact ⟨u2, u3⟩
  refine ⟨seeZ pHide ρ α Z H, C, s, seeE pHide ρ, wd, en, ?_⟩
  unfold sOwn M.bind at q
  cases ef : f (seeE pHide ρ) s with
  | stuck => simp only [ef] at q; exact q
  | err x s1 =>
    simp only [ef] at q
    intro c dx Z1 C1 H1 w1 n1 ex
    obtain ⟨u2, _⟩ := key w1 n1
    exact q c dx σ Z1 C1 H1 w1 u2 ex
  | ok d s1 =>
    simp only [ef] at q
    intro v F Z1 C1 H1 w1 n1 hF o
    obtain ⟨u2, u3⟩ := key w1 n1
    have q : PostS X.K cl W Z0 C0 H0 (.ok (.nx (ρ.set i (ownS d))) s1) E := q
    have isV : d.isMut = false → E.nx (σ.set i (some v)) H1 := fun hd => by
      have e1 : ownS d = .val d := by
        unfold ownS
        split
        · rename_i c d'
          rw [if_neg (show ¬ _ by simpa [D.isMut] using hd)]
        · rfl
      rw [e1] at q
      cases o with
      | leaf _ rv => exact q _ Z1 C1 H1 α w1 u2 (u3.setVal rv)
      | lst => simp [D.isMut] at hd
      | dct => simp [D.isMut] at hd
    have isO : ∀ d', d = .ins "" [d'] → E.nx (σ.set i (some v)) H1 := fun d' hd => by
      subst hd
      have q : PostS X.K cl W Z0 C0 H0 (.ok (.nx (ρ.set i (.own d'))) s1) E := q
      exact q _ Z1 C1 H1 _ w1 u2 (u3.setOwn (fun _ _ _ _ _ _ _ h => h) (fun x hx => ⟨n.back w.ch (hF x hx).1, (hF x hx).2⟩) (fun j e x qq _ hx hx2 => by
        obtain ⟨_, _, _, u, hu, _⟩ := r.fp j e x qq hx2
        rw [(hF x hx).1] at hu; cases hu) o)
    cases o with
    | leaf hd _ => exact isV hd
    | lst a b c t => exact isO _ rfl
    | dct a b dk c n t => exact isO _ rfl
theorem ds_app {e : Expr} {f : Env → M B D} {px apos cpos pos : Pos} (sp : See p md) (kp : Kp p q) (hv : PE X (.Name x px) (tVar i)) (he : DE cl B md W X e f)
    (hbase : attributeBase (.Name x px) "append" X.env (eval (.Name x px) X.env) = eval (.Name x px) X.env := by rfl)
    (hfew : ((backTo cpos (starEach [e] X.env)).all (fun x => !x.1) && (backToKw cpos (keywordEach [] X.env)).all (fun x => x.1.isSome)
      && decide ([e].length + ([] : List Keyword).length + (if ([] : List Keyword).isEmpty then 0 else 1) < 30)) = true := by rfl)
    (hline : (apos.endLine == cpos.line) = true := by rfl) (hs : starEach [e] X.env = (false, eval e X.env) :: starEach [] X.env := by rfl) (hplain : (backTo cpos (starEach [] X.env)).any (·.1) = false := by rfl)
    (hsw : swapsWith (.Call (.Attribute (.Name x px) "append" apos) [e] [] cpos) none pos.line X.env = pure false := by rfl) :
    DS cl B W X (.Expr (.Call (.Attribute (.Name x px) "append" apos) [e] [] cpos) pos) (sApp p q i f) := by
  refine PS.weak (ps_expr (pe_bm PySem.F.plainAttrs_list PySem.F.slot_list_append PySem.F.type_list_append mt_append hv (pa_cons he pa_nil hs) hbase hfew hline hs hplain) hsw) fun E σ H ⟨Z0, C0, H0, Z, C, s, ρ, α, c0, w, n, r, q0⟩ => ?_
  unfold sApp at q0
  cases hρ : ρ[i]? with
  | none => simp only [hρ] at q0; exact False.elim q0
  | some sl =>
    cases sl with
    | no => simp only [hρ] at q0; exact False.elim q0
    | val d => simp only [hρ] at q0; exact False.elim q0
    | own d =>
      cases d <;> (try (simp only [hρ] at q0; exact False.elim q0))
      rename_i ds
      simp only [hρ] at q0
      obtain ⟨a, vs, hσ, fa, h1, h2, h3⟩ := own_lst r hρ
      refine ⟨_, hσ, .inl ⟨rfl, vs, SqL.of h1⟩, ?_⟩
      refine ⟨seeZ p ρ α Z H, C, s, seeE p ρ, see_wd w r sp.nd, see_env sp r, PostS.seq sp w c0 n r q0 fun d s1 v Z1 C1 H1 w1 n1 r1 q1 => ?_⟩
      have u := see_un sp w c0 n r w1 n1
      unfold guardM at q1
      split at q1
      · rename_i hq
        rw [Bool.and_eq_true, Bool.and_eq_true] at hq
        have hl : ds.length < sizeLine := of_decide_eq_true hq.2
        obtain ⟨a', vs', hσ', fa', h1', h2', h3'⟩ := own_lst u.rel hρ
        obtain rfl : a' = a := by rw [hσ] at hσ'; cases hσ'; rfl
        refine ⟨a', vs', v, rfl, rfl, h1', by rw [h3'.len]; exact hl, ?_⟩
        have rv := u.rep kp hq.1.1 r1
        obtain ⟨w2, n2, r2⟩ := own_mut (i := i) (o := .lst (vs' ++ [v])) (d' := .lst (ds ++ [d])) u.wd u.nx u.rel hρ hσ fa' rfl (fun _ h => h) (.lst fa' upd_same (by rw [List.length_append, h3'.len]; exact hl)
          ((h3'.move (.refl _) fun x ob hx ho => by rw [upd_ne hx.2]; exact ho).app (fun e he => by rw [List.mem_singleton.mp he]; simpa using hq.1.2) (.cons rv .nil)))
        exact q1 σ _ _ _ _ w2 n2 r2
      · exact False.elim q1
theorem dss_frz {rest : List Stmt} {G : SEnv → M B Fl} (h : DSs cl B W X rest G) : DSs cl B W X rest (sFrz i G) := by
  refine PSs.weak h fun E σ H ⟨Z0, C0, H0, Z, C, s, ρ, α, c0, w, n, r, q⟩ => ?_
  unfold sFrz frzS at q
  cases hρ : ρ[i]? with
  | none => simp only [hρ] at q; exact ⟨Z0, C0, H0, Z, C, s, ρ, α, c0, w, n, r, q⟩
  | some sl =>
    cases sl with
    | no => simp only [hρ] at q; exact ⟨Z0, C0, H0, Z, C, s, ρ, α, c0, w, n, r, q⟩
    | val d => simp only [hρ] at q; exact ⟨Z0, C0, H0, Z, C, s, ρ, α, c0, w, n, r, q⟩
    | own d =>
      simp only [hρ] at q
      obtain ⟨Z1, w1, n1, r1⟩ := own_frz w n r hρ
      exact ⟨Z0, C0, H0, Z1, C, s, _, α, c0, w1, n1, r1, q⟩
end
end DN
namespace DN
open PySem PySem.Spec PyProof.Rows L2 RZ ND
variable {B : Sto}
section
variable {X : Cx} {C : Addr} {bmB : List Value} {Bn newId initId : String}
theorem pmk_own0 {x : Str} {p pos : Pos} (F : ExcBaseFacts Bn newId initId bmB) (q : PySem.W.excIn X.K C bmB newId = true) (gC : X.mg x = some (.ref C)) (kC : PySem.W.keepIn X.K (.ref C) = true) (r : Raises X (.ref C)) (hg : Gl X x)
    (hdb : (x == ("__debug__" : Str)) = false := by decide) : PMk X (.Call (.Name x p) [] [] pos) (fun _ H Q => Q (.ref C) none H) := by
  intro pins s σ H Q I h
  refine wpAny_Call_Name_kw (ld_glob I hg gC ?_ hdb)
  refine PySem.W.callWith_K0 (first := []) I.kIn kC ?_
  show wpAny _ _ (call (.ref C) []) _ _ _
  obtain ⟨bm, N, nm, qn, bs, hdct, sn, sub, ab, col, dd, k0, k1, k2, k3, k5, mN, hC, hN, hni, T⟩ := exc_obj I.kIn q
  refine wpAny_call_exc_subT F T hC hN hni (fun h' e hm => ?_) (Nat.zero_le _)
  exact mk_of I hm r h (I.hok.gone hm.new)
end
structure RaiseAt (K : PySem.W.Frag) (mg : Str → Option Value) (cl : CTab) (x : Str) (C : Addr) : Prop where
  c : cl x = some (C, [])
  mg : mg x = some (.ref C)
  xf : PySem.W.excIn K C [.type "ValueError", .type "Exception", .type "BaseException", .type "object"] "ValueError.__new__" = true
  kc : PySem.W.keepIn K (.ref C) = true
  bf : PySem.W.subIn K (.ref C) (.type "BaseException") = some true
  tf : PySem.W.typeIn K (.ref C) = some (.type "type")
def sRaise (x : Str) : SEnv → M B Fl := fun _ s => .err ⟨x, none⟩ s
section
variable {cl : CTab} {W : WX} {X : Cx} {x : Str} {C : Addr}
theorem ds_raise0 {p pos pos' : Pos} (R : RaiseAt X.K X.mg cl x C) (hc : X.calm = true) (tk : Takes X W) (hg : Gl X x) (hdb : (x == ("__debug__" : Str)) = false := by decide) :
    DS cl B W X (.Raise (some (.Call (.Name x p) [] [] pos)) none pos') (sRaise x) :=
  PS.weak (ps_raise hc tk (pmk_own0 PySem.F.excBase_ValueError R.xf R.mg R.kc (raises_own R.bf R.tf) hg hdb)) fun E σ H ⟨Z0, C0, H0, Z, C1, s, ρ, α, c0, w, n, r, q⟩ =>
    q (.ref C) none σ Z C1 H w n ⟨C, [], R.c, rfl, rfl, rfl⟩
end
inductive Fx where
  | fl (f : Fl) | ex (x : Exn) (ρ : SEnv)
def PostX (K : PySem.W.Frag) (cl : CTab) (W : WX) (Z0 : Zp) (C0 H0 : Hp) (r : Res B.T Fx) (E : Ends) : Prop :=
  match r with
  | .ok (.fl f) s => PostS (B := B) K cl W Z0 C0 H0 (.ok f s) E
  | .ok (.ex x ρ) s => ∀ c dx σ Z C H α, Wd B true Z C H s → Nx Z0 C0 H0 Z C H → SRel K cl Z C H H0 ρ σ α → ExR K cl Z C x c dx H → W c dx σ H
  | .err _ _ => False
  | .stuck => False
def catchX {α : Type} (ρ : SEnv) (m : M B α) (k : α → M B Fx) : M B Fx := fun s => match m s with
  | .ok a s' => k a s'
  | .err x s' => .ok (.ex x ρ) s'
  | .stuck => .stuck
@[simp] def xSeq (F G : SEnv → M B Fx) : SEnv → M B Fx := fun ρ => M.bind (F ρ) fun r => match r with
  | .fl (.nx ρ') => G ρ'
  | o => M.pure o
@[simp] def xSet (i : Nat) (f : Env → M B D) : SEnv → M B Fx := fun ρ => catchX ρ (f (seeE pHide ρ)) fun d => M.pure (.fl (.nx (ρ.set i (.val d))))
@[simp] def xEx (f : Env → M B D) : SEnv → M B Fx := fun ρ => catchX ρ (f (seeE pHide ρ)) fun _ => M.pure (.fl (.nx ρ))
@[simp] def xRet (f : Env → M B D) : SEnv → M B Fx := fun ρ => catchX ρ (f (seeE pHide ρ)) fun d => M.pure (.fl (.rt d))
@[simp] def xIff (t : Env → M B Bool) (F G : SEnv → M B Fx) : SEnv → M B Fx := fun ρ => catchX ρ (t (seeE pHide ρ)) fun k => if k = true then F ρ else G ρ
@[simp] def xPass : SEnv → M B Fx := fun ρ => M.pure (.fl (.nx ρ))
section
variable {cl : CTab} {W : WX} {X : Cx}
theorem unZ_pHide {ρ : SEnv} {α : Nat → Addr → Prop} {Z1 : Zp} : unZ pHide ρ α Z1 = Z1 := unZ_hide pHide_no
theorem PostX.seq {K : PySem.W.Frag} {Z Z0 : Zp} {C H H0 C0 : Hp} {ρ : SEnv} {σ : L2.St} {α : Nat → Addr → Prop} {s : B.T} {υ β : Type} {Rp : Zp → υ → β → Prop} {m : M B β} {k : β → M B Fx} {E : Ends} {Q1 : υ → Hp → Prop} (w : Wd B true Z C H s) (c0 : Sub C0 H0) (n : Nx Z0 C0 H0 Z C H) (r : SRel K cl Z C H H0 ρ σ α)
    (h : PostX K cl W Z0 C0 H0 (catchX ρ m k s) E)
    (hk : ∀ a s1 v Z1 C1 H1, Wd B true Z1 C1 H1 s1 → Nx Z0 C0 H0 Z1 C1 H1 → SRel K cl Z1 C1 H1 H0 ρ σ α → Rp Z1 v a → PostX K cl W Z0 C0 H0 (k a s1) E → Q1 v H1) : Post K cl true Rp W σ (seeZ pHide ρ α Z H) C H (m s) Q1 := by
  unfold catchX at h
  have key : ∀ {Z1 : Zp} {C1 H1 : Hp} {s1 : B.T}, Wd B true Z1 C1 H1 s1 → Nx (seeZ pHide ρ α Z H) C H Z1 C1 H1 → Nx Z0 C0 H0 Z1 C1 H1 ∧ SRel K cl Z1 C1 H1 H0 ρ σ α := fun w1 n1 => by
    have u := see_un seeHide w c0 n r w1 n1
    have u2 := u.nx; have u3 := u.rel
    rw [unZ_pHide] at u2 u3
    exact ⟨u2, u3⟩
  cases e : m s with
  | ok a s1 =>
    simp only [e] at h
    exact fun v Z1 C1 H1 w1 n1 r1 => by
      obtain ⟨u2, u3⟩ := key w1 n1
      exact hk a s1 v Z1 C1 H1 w1 u2 u3 r1 h
  | err x s1 =>
    simp only [e] at h
    intro c dx Z1 C1 H1 w1 n1 ex
    obtain ⟨u2, u3⟩ := key w1 n1
    exact h c dx σ Z1 C1 H1 α w1 u2 u3 ex
  | stuck => simp only [e] at h; exact h
end
abbrev Hnd (B : Sto) := (Str → Option Bool) × (SEnv → M B Fl)
def hGo : List (Hnd B) → Exn → SEnv → M B Fl
  | [], x, _ => fun s => .err x s
  | (t, G) :: r, x, ρ => match t x.c with
    | some true => noErr (G ρ)
    | some false => hGo r x ρ
    | none => fun _ => .stuck
@[simp] def sTry (F : SEnv → M B Fx) (hs : List (Hnd B)) : SEnv → M B Fl := fun ρ => M.bind (noErr (F ρ)) fun r => match r with
  | .fl f => M.pure f
  | .ex x ρ' => hGo hs x ρ'
end DN
namespace DN
open PySem PySem.Spec PyProof.Rows L2 RZ ND
variable {B : Sto}
def fldMs {K : PySem.W.Frag} {cl : CTab} (cs : List Str) (i : Nat) (x : D) : M (MemS K cl) D := match x with
  | .ins c' ds => lift (if c' ∈ cs then ds[i]? else none)
  | .ref a => M.bind (rdM a) fun l => lift (match l with
    | .ins c' ds => if c' ∈ cs then ds[i]? else none
    | _ => none)
  | _ => fun _ => .stuck
@[simp] abbrev xFlds {K : PySem.W.Frag} {cl : CTab} (cs : List Str) (i : Nat) (f : Env → M (MemS K cl) D) : Env → M (MemS K cl) D := fun ρ => M.bind (f ρ) (fldMs cs i)
section
variable {K : PySem.W.Frag} {cl : CTab} {c : Str} {cs : List Str} {i : Nat} {ds : List D} {d : D} {p : Nat} {s : Mem}
@[simp] theorem flds_ins (h : c ∈ cs) : fldMs (K := K) (cl := cl) cs i (.ins c ds) = lift ds[i]? := by simp [fldMs, h]
end
@[simp] abbrev pN : Env → M B (List (D × D)) := fun _ => M.pure []
@[simp] abbrev pC (f g : Env → M B D) (h : Env → M B (List (D × D))) : Env → M B (List (D × D)) := fun ρ => M.bind (f ρ) fun x => M.bind (g ρ) fun y => M.bind (h ρ) fun r => M.pure ((x, y) :: r)
def putAll0 : List D → List D → List (D × D) → Option D
  | ks, ds, [] => some (.dct ks ds)
  | ks, ds, (k, d) :: r => k.key.bind fun k => if k.isT = true then none else putAll0 (putKs ks k) (putVs ks ds k d) r
@[simp] abbrev xDct (f : Env → M B (List (D × D))) : Env → M B D := fun ρ => M.bind (f ρ) fun ps => lift (putAll0 [] [] ps)
section
variable {cl : CTab} {md : Bool} {W : WX} {X : Cx}
def setfMs {K : PySem.W.Frag} {cl : CTab} (cs : List Str) (i : Nat) (x d : D) : M (MemS K cl) Unit := fun m => match x with
  | .ref a => match m.m a with
    | some (.ins c' ds) => if c' ∈ cs ∧ d.imm = true ∧ i = ds.length then .ok () (updM m a (some (.ins c' (ds ++ [d])))) else .stuck
    | _ => .stuck
  | _ => .stuck
@[simp] abbrev sSetFs {K : PySem.W.Frag} {cl : CTab} (p : D → Bool) (cs : List Str) (i : Nat) (fo f : Env → M (MemS K cl) D) : SEnv → M (MemS K cl) Fl := fun ρ => M.bind (f (seeE p ρ)) fun d => M.bind (fo (seeE pHide ρ)) fun x => M.bind (setfMs cs i x d) fun _ => M.pure (.nx ρ)
end
end DN
namespace DN
open PySem PySem.Spec PyProof.Rows L2 RZ ND
def lettersD : D := .str "abcdefghijklmnopqrstuvwxyz"
def WordOk (m : Nat) (z : Str) : Prop := 1 ≤ z.length ∧ z.length ≤ m ∧ ∀ c ∈ z.cps.toList, inD (.str ⟨#[c]⟩) lettersD = some (.bl true)
def boardD (n : Str) (s : Int) (r : List Str) : D := .tup [.str n, .int s, .tup (r.map .str)]
def BoardOk (b : D) : Prop := ∃ n s r, b = boardD n s r ∧ WordOk 8 n ∧ 0 ≤ s ∧ s ≤ 1 ∧ r.length ≤ 20 ∧ ∀ w ∈ r, WordOk 20 w
theorem immL_str : ∀ r : List Str, D.immL (r.map .str) = true
  | [] => rfl
  | a :: r => by simp [D.immL, D.imm, immL_str r]
theorem BoardOk.imm {b : D} (h : BoardOk b) : b.imm = true := by
  obtain ⟨n, s, r, rfl, _⟩ := h
  simp [boardD, D.imm, D.immL, immL_str]
theorem purL_str : ∀ r : List Str, D.purL (r.map .str) = true
  | [] => rfl
  | a :: r => by simp [D.purL, D.pur, purL_str r]
theorem BoardOk.pur {b : D} (h : BoardOk b) : b.pur = true := by
  obtain ⟨n, s, r, rfl, _⟩ := h
  simp [boardD, D.pur, D.purL, purL_str]
theorem strsOf_map : ∀ ks : List Str, strsOf (ks.map D.str) = some ks
  | [] => rfl
  | k :: ks => by simp [strsOf, strsOf_map ks]
def Pt : Nat → D → Prop
  | 0, _ => False
  | k + 1, d => (∃ i, d = .int i) ∨ (∃ x, d = .str x) ∨ (∃ b, d = .bl b) ∨ (∃ ds, d = .tup ds ∧ ∀ x ∈ ds, Pt k x) ∨ ∃ ds, d = .lst ds ∧ ∀ x ∈ ds, Pt k x
theorem Pt.up : ∀ {k : Nat} {d : D}, Pt k d → Pt (k + 1) d
  | 0, _, h => False.elim h
  | k + 1, d, h => by
    rcases h with ⟨i, rfl⟩ | ⟨x, rfl⟩ | ⟨b, rfl⟩ | ⟨ds, rfl, h⟩ | ⟨ds, rfl, h⟩
    · exact .inl ⟨i, rfl⟩
    · exact .inr (.inl ⟨x, rfl⟩)
    · exact .inr (.inr (.inl ⟨b, rfl⟩))
    · exact .inr (.inr (.inr (.inl ⟨ds, rfl, fun x hx => (h x hx).up⟩)))
    · exact .inr (.inr (.inr (.inr ⟨ds, rfl, fun x hx => (h x hx).up⟩)))
theorem Pt.le {k k' : Nat} {d : D} (h : Pt k d) (l : k ≤ k') : Pt k' d := by
  induction l with
  | refl => exact h
  | step _ ih => exact ih.up
theorem plainL_all : ∀ {ds : List D}, (∀ d ∈ ds, d.plain = true) → D.plainL ds = true
  | [], _ => rfl
  | d :: ds, h => by
    rw [D.plainL, h d List.mem_cons_self, plainL_all fun e he => h e (List.mem_cons_of_mem _ he)]
    rfl
theorem depthAll_le {n : Nat} : ∀ {ds : List D}, (∀ d ∈ ds, d.py.depth ≤ n) → PyData.depthAll (D.pyL ds) ≤ n
  | [], _ => Nat.zero_le _
  | d :: ds, h => by
    rw [D.pyL, PyData.depthAll]
    exact Nat.max_le.mpr ⟨h d List.mem_cons_self, depthAll_le fun e he => h e (List.mem_cons_of_mem _ he)⟩
theorem eqvAll_self : ∀ {ds : List D}, (∀ d ∈ ds, PyData.eqv d.py d.py = true) → PyData.eqvAll (D.pyL ds) (D.pyL ds) = true
  | [], _ => rfl
  | d :: ds, h => by
    rw [D.pyL, PyData.eqvAll, h d List.mem_cons_self, eqvAll_self fun e he => h e (List.mem_cons_of_mem _ he)]
    rfl
theorem Pt.facts : ∀ {k : Nat} {d : D}, Pt k d → d.plain = true ∧ d.py.depth ≤ k ∧ PyData.eqv d.py d.py = true
  | 0, _, h => False.elim h
  | k + 1, d, h => by
    rcases h with ⟨i, rfl⟩ | ⟨x, rfl⟩ | ⟨b, rfl⟩ | ⟨ds, rfl, h⟩ | ⟨ds, rfl, h⟩
    · exact ⟨rfl, by simp [D.py, PyData.depth], by simp [D.py, PyData.eqv]⟩
    · exact ⟨rfl, by simp [D.py, PyData.depth], by simp [D.py, PyData.eqv]⟩
    · exact ⟨rfl, by simp [D.py, PyData.depth], by simp [D.py, PyData.eqv]⟩
    · exact ⟨plainL_all fun x hx => (h x hx).facts.1, by rw [D.py, PyData.depth]; exact Nat.succ_le_succ (depthAll_le fun x hx => (h x hx).facts.2.1), by rw [D.py, PyData.eqv]; exact eqvAll_self fun x hx => (h x hx).facts.2.2⟩
    · exact ⟨plainL_all fun x hx => (h x hx).facts.1, by rw [D.py, PyData.depth]; exact Nat.succ_le_succ (depthAll_le fun x hx => (h x hx).facts.2.1), by rw [D.py, PyData.eqv]; exact eqvAll_self fun x hx => (h x hx).facts.2.2⟩
theorem Pt.okc {k : Nat} {d : D} (h : Pt k d) (hk : k ≤ 60) : d.okc = true := by
  obtain ⟨a, b, _⟩ := h.facts
  unfold D.okc
  rw [a, decide_eq_true (by omega)]
  rfl
theorem Pt.eq {k : Nat} {d : D} (h : Pt k d) (hk : k ≤ 60) : eqD d d = some (.bl true) := by
  unfold eqD
  rw [h.okc hk, h.facts.2.2]
  rfl
theorem Pt.ne {k : Nat} {d : D} (h : Pt k d) (hk : k ≤ 60) : neD d d = some (.bl false) := by
  unfold neD
  rw [h.okc hk, h.facts.2.2]
  rfl
theorem rng (n : Nat) (h : n ≤ 100000) : range1 (.int (n : Int)) = some ((List.range n).map fun i : Nat => .int (i : Int)) := by
  show (if _ then _ else _) = _
  rw [if_pos (by omega)]
  rfl
end DN
namespace DN
open PySem PySem.Spec PyProof.Rows L2 RZ ND
variable {B : Sto}
theorem compL_filter {α β γ : Type} {f : β → M B (Option γ)} {g : α → β} {k : α → γ} {p : α → Bool} : ∀ {as : List α}, (∀ a ∈ as, f (g a) = M.pure (if p a = true then some (k a) else none)) → compL f (as.map g) = M.pure ((as.filter p).map k)
  | [], _ => rfl
  | a :: as, h => by
    rw [List.map_cons]
    unfold compL
    rw [h a List.mem_cons_self, bind_pure, compL_filter (fun b hb => h b (List.mem_cons_of_mem _ hb)), bind_pure]
    cases hp : p a <;> simp [consO, hp]
def retS (d : D) : Fl := match d with
  | .ins c [d'] => if c = "" then .ro d' else .rt d
  | d => .rt d
@[simp] def sRetM (f : Env → M B D) : SEnv → M B Fl := fun ρ => M.bind (f (seeE pHide ρ)) fun d => M.pure (retS d)
section
variable {cl : CTab} {W : WX} {X : Cx} {p q : D → Bool} {i : Nat} {x : Str} {md : Bool}
theorem OwnTL.repV {K : PySem.W.Frag} {Z : Zp} {H : Hp} {k : GK} {v : V} {d : D} (hd : d.isMut = false) (r : Rep K cl Z v d) : ∀ {kvs : List (GK × V)} {F : Addr → Prop} {ds : List D}, OwnTL K cl Z H F (kvs.map (·.2)) ds →
    OwnTL K cl Z H F ((kvs.map fun kv => if kv.1 = k then (kv.1, v) else kv).map (·.2)) (DN.repV (kvs.map fun p => keyD p.1) ds k d)
  | [], F, ds, t => by cases t; exact .nil
  | kv :: kvs, F, ds, t => by
    cases t with
    | cons a b c o f =>
      rename_i F1 F2 d1 ds1
      have ih := OwnTL.repV (k := k) hd r f
      by_cases h : kv.1 = k
      · simp only [List.map_cons, DN.repV, key_keyD, h, if_true]
        exact .cons (F1 := fun _ => False) (F2 := F2) (fun _ q => q.elim) b (fun _ q _ => q) (.leaf hd r) ih
      · simp only [List.map_cons, DN.repV, key_keyD, if_neg h, Option.some.injEq]
        exact .cons a b c o ih
theorem OwnTL.put {K : PySem.W.Frag} {Z : Zp} {H : Hp} {F : Addr → Prop} {k : GK} {v : V} {d : D} (hd : d.isMut = false) (r : Rep K cl Z v d) {kvs : List (GK × V)} {ds : List D} (t : OwnTL K cl Z H F (kvs.map (·.2)) ds) :
    OwnTL K cl Z H F ((putK kvs k v).map (·.2)) (putVs (kvs.map fun p => keyD p.1) ds k d) := by
  unfold putVs putK
  rw [hasK_eq]
  split
  · exact t.repV hd r
  · rw [List.map_append]
    exact t.app (fun e he => by rw [List.mem_singleton.mp he]; exact hd) (.cons r .nil)
theorem din_of {Z H : Hp} {a : Addr} {o : HO} {kvs : List (GK × V)} {k : GK} {y : V} (e : Rd H a o) (hz : Sub Z H) (dk : DKV cl Z a o kvs) (ry : KeyV H y k) (ok : okK (kvs.map fun p => keyD p.1) k = true) : DGet2 cl H a y (valV kvs k) := by
  obtain ⟨oc, dp⟩ := okK_cases ok
  rcases dk with ⟨l, h1, h2⟩ | ⟨l, h0, h1, h2, h3⟩
  · subst h1 h2
    rcases k with k | k
    · exact .inl (.inl ⟨l, k, e, ry, valV_inl⟩)
    · have l0 : l = [] := by
        rcases oc with h | h
        · cases l with
          | nil => rfl
          | cons => cases h
        · rcases l with _ | ⟨⟨k | k, v⟩, l⟩
          · rfl
          · exact nomatch h
          · exact nomatch h
      subst l0
      exact .inr ⟨k, ry, dp _ rfl, .inr ⟨e, rfl⟩⟩
  · subst h1 h2
    rcases k with k | k
    · exfalso
      rcases oc with h | h
      · cases l with
        | nil => exact h0 rfl
        | cons => cases h
      · cases l with
        | nil => exact h0 rfl
        | cons => exact nomatch h
    · exact .inr ⟨k, ry, dp _ rfl, .inl ⟨l, e, h3.mono fun _ _ q => hz _ _ q, valV_inr⟩⟩
def inK (x : D) : D → Option D
  | .dct ks _ => x.key.bind fun k => if okK ks k = true then some (.bl (hasK ks k)) else none
  | y => inD x y
def notInK (x : D) : D → Option D
  | .dct ks _ => x.key.bind fun k => if okK ks k = true then some (.bl (!hasK ks k)) else none
  | y => notInD x y
@[simp] theorem inK_T {x : D} {ys : List D} : inK x (.tup ys) = inD x (.tup ys) := rfl
@[simp] theorem inK_L {x : D} {ys : List D} : inK x (.lst ys) = inD x (.lst ys) := rfl
@[simp] theorem inK_S {x : D} {y : Str} : inK x (.str y) = inD x (.str y) := rfl
@[simp] theorem notInK_T {x : D} {ys : List D} : notInK x (.tup ys) = notInD x (.tup ys) := rfl
@[simp] theorem notInK_L {x : D} {ys : List D} : notInK x (.lst ys) = notInD x (.lst ys) := rfl
@[simp] theorem notInK_S {x : D} {y : Str} : notInK x (.str y) = notInD x (.str y) := rfl
abbrev rInK (K : PySem.W.Frag) (cl : CTab) : R2 := fun x y H Q => rInA K x y H Q ∨ rInDict cl false x y H Q
abbrev rNotInK (K : PySem.W.Frag) (cl : CTab) : R2 := fun x y H Q => rNotInA K x y H Q ∨ rInDict cl true x y H Q
theorem op_inK (hcl : ClOk cl X) (hu : X.A.units + 65 < cLine) : OpR X (compareOp .In) (rInK X.K cl) := (op_inA hu).or (op_inDict hcl (by omega))
theorem op_notInK (hcl : ClOk cl X) (hu : X.A.units + 65 < cLine) : OpR X (compareOp .NotIn) (rNotInK X.K cl) := (op_notInA hu).or (op_notInDict hcl (by omega))
theorem hasK_val {kvs : List (GK × V)} {k : GK} : hasK (kvs.map fun p => keyD p.1) k = (valV kvs k).isSome := by rw [hasK_eq, valV_any]
theorem v_inK {K : PySem.W.Frag} : OpV K cl (rInK K cl) inK := by
  intro Z H x y dx dy d Q h rx ry e q
  cases dy with
  | dct ks ds =>
    obtain ⟨k, hk, he⟩ := Option.bind_eq_some_iff.mp (show (dx.key.bind fun k => if okK ks k = true then some (D.bl (hasK ks k)) else none) = some d from e)
    obtain rfl := key_eq hk
    have kv := keyV_of_rep rx h
    split at he
    case isFalse => cases he
    rename_i hok
    cases ry with
    | dct a dk b n c =>
      subst b; cases he
      rw [hasK_val] at q
      exact .inr ⟨_, _, rfl, din_of (sub_rdn h a) h dk kv hok, q _ Z H (.refl h) (.bl _)⟩
  | _ => exact .inl (v_in Z H x y dx _ d Q h rx ry e q)
theorem v_notInK {K : PySem.W.Frag} : OpV K cl (rNotInK K cl) notInK := by
  intro Z H x y dx dy d Q h rx ry e q
  cases dy with
  | dct ks ds =>
    obtain ⟨k, hk, he⟩ := Option.bind_eq_some_iff.mp (show (dx.key.bind fun k => if okK ks k = true then some (D.bl (!hasK ks k)) else none) = some d from e)
    obtain rfl := key_eq hk
    have kv := keyV_of_rep rx h
    split at he
    case isFalse => cases he
    rename_i hok
    cases ry with
    | dct a dk b n c =>
      subst b; cases he
      rw [hasK_val] at q
      exact .inr ⟨_, _, rfl, din_of (sub_rdn h a) h dk kv hok, q _ Z H (.refl h) (.bl _)⟩
  | _ => exact .inl (v_notIn Z H x y dx _ d Q h rx ry e q)
end
@[simp] abbrev xStrip (f : Env → M B D) : Env → M B D := fun ρ => M.bind (f ρ) fun d => M.pure d.strip
@[simp] abbrev xFl (f : Env → M B D) : Env → M B D := fun ρ => M.bind (f ρ) fun d => guardM (flatB d) (M.pure (.ins "" [d]))
@[simp] abbrev xNm (f : Env → M B D) : Env → M B D := fun ρ => M.bind (f ρ) fun d => guardM (!d.isMut) (M.pure d)
theorem wp_cut {A REST : SEnv → M B Fl} {ρ : SEnv} {s : B.T} {R : Fl → B.T → Prop} (P : SEnv → B.T → Prop) (h : wp (A ρ) (fun fl s' => match fl with
      | .nx ρ' => P ρ' s'
      | .rt d => R (.rt d) s'
      | .bk ρ' => R (.bk ρ') s'
      | .ct ρ' => R (.ct ρ') s'
      | .ro d => R (.ro d) s') s) (hr : ∀ ρ' s', P ρ' s' → wp (REST ρ') R s') : wp (seqF A REST ρ) R s := by
  rw [s_seq]
  refine wp_bind (wp_mono h fun fl s' q => ?_)
  cases fl with
  | nx ρ' => exact hr ρ' s' q
  | rt d => exact q
  | bk ρ' => exact q
  | ct ρ' => exact q
  | ro d => exact q
end DN
namespace DN
open PySem PySem.Spec PyProof.Rows L2 RZ ND
structure FldO (K : PySem.W.Frag) (cl : CTab) (c : Str) (f : Str) (i : Nat) : Prop where
  ex : FldAt K cl c f i ∨ cl c = none
theorem FldAt.o {K : PySem.W.Frag} {cl : CTab} {c f : Str} {i : Nat} (h : FldAt K cl c f i) : FldO K cl c f i := ⟨.inl h⟩
end DN
namespace DN
open PySem PySem.Spec PyProof.Rows L2 RZ ND
def errNames : List Str := ((["HallError", "NoRow", "NoGame", "NoRows", "TooMany", "NoSide", "BadHall", "NoLot", "NoAim", "NoNumber", "NoGames"] ++ ["NoBoard", "NoWord", "NotTurn", "NotLet", "NothingDone", "NoLog", "NoMove", "NoAnswer", "NoPairing", "NotSpoiled", "Over", "NotFresh", "NoChoice", "NoSorts", "NoPoints", "NoStocks", "NoPrices", "NoRelay", "NoName", "Full", "BadText", "NoText", "NoLine", "NoKey"] : List String)).map Str.ofString
def t_of (x y : Str) : Option Bool := if y = x then some true else if y ∈ errNames then some false else none
@[simp] theorem t_of_self {x : Str} : t_of x x = some true := if_pos rfl
structure Cal (K : PySem.W.Frag) (mg : Str → Option Value) (x : Str) (g : Addr) (fd : FuncData) (ps : List Str) : Prop where
  mg : mg x = some (.ref g)
  kp : PySem.W.keepIn K (.ref g) = true
  b : Binds K fd ps []
end DN
namespace DN
open PySem PySem.Spec PyProof.Rows L2 RZ ND
section
variable {K : PySem.W.Frag} {cl : CTab} {md : Bool} {Z Z0 : Zp} {C H C0 H0 : Hp} {m : Mem} {p : Addr} {d : D} {o : HO}
theorem mem_adopt (w : Wd (MemS K cl) md Z C H m) (zp : Z p = none) (cp : C p = none) (hp : H p = some o) (n : Nx Z0 C0 H0 Z C H) (h0 : H0 p = none) (r : MemR K cl (nameZ Z m.n p) (upd C p o) p d) :
    Wd (MemS K cl) md (nameZ Z m.n p) (upd C p o) H (m.push d) ∧ Nx Z0 C0 H0 (nameZ Z m.n p) (upd C p o) H := by
  have np : ∀ j, Z.μ j ≠ some p := fun j e => by
    obtain ⟨_, _, h⟩ := mem_name w e
    obtain ⟨o, ho⟩ := h.there
    rw [cp] at ho; cases ho
  have sm := nameZ_sub (p := p) (mem_free w)
  refine ⟨⟨w.zh, fun x u e => ?_, fun x e => ?_, ⟨fun j e => ?_, fun j d e => ?_, fun i j a => ?_, fun x e => ?_, fun j e => ?_⟩⟩, ⟨n.zz.trans sm, n.hh, n.zf, fun x e => ?_, fun x e => ?_, fun x od u e => (upd_ne (fun z => by have := n.lk x od u e; rw [z, cp] at this; cases this)).trans (n.lk x od u e)⟩⟩
  · by_cases hx : x = p
    · rw [hx, upd_same] at e; rw [hx, hp]; exact e
    · rw [upd_ne hx] at e; exact w.ch x u e
  · by_cases hx : x = p
    · rw [hx]; exact zp
    · rw [upd_ne hx] at e; exact w.dj x e
  · have e : (if j = m.n then some _ else m.m j) = none := e
    show (if j = m.n then some p else Z.μ j) = none
    split at e
    · cases e
    · rename_i q; rw [if_neg q]; exact w.sr.no j e
  · rename_i d2
    have e : (if j = m.n then some d2 else m.m j) = some d := e
    show ∃ a, (if j = m.n then some p else Z.μ j) = some a ∧ _
    split at e
    · rename_i q
      cases e
      exact ⟨p, by rw [if_pos q], r⟩
    · rename_i q
      obtain ⟨b, h1, h4⟩ := w.sr.yes j d e
      refine ⟨b, by rw [if_neg q]; exact h1, h4.monoZ sm (upd_ne fun z => ?_)⟩
      subst z
      exact np _ h1
  · show (if i = m.n then some p else Z.μ i) = some a → (if j = m.n then some p else Z.μ j) = some a → i = j
    intro e1 e2
    by_cases hi : i = m.n
    · by_cases hj : j = m.n
      · rw [hi, hj]
      · rw [if_pos hi] at e1; rw [if_neg hj] at e2; cases e1; exact absurd e2 (np j)
    · by_cases hj : j = m.n
      · rw [if_neg hi] at e1; rw [if_pos hj] at e2; cases e2; exact absurd e1 (np i)
      · rw [if_neg hi] at e1; rw [if_neg hj] at e2; exact w.sr.inj _ _ _ e1 e2
  · by_cases hx : x = p
    · exact ⟨m.n, by rw [hx]; exact if_pos rfl⟩
    · rw [upd_ne hx] at e
      obtain ⟨k, hk⟩ := w.sr.cov x e
      exact ⟨k, sm.m _ _ hk⟩
  · show (if j = m.n then some d else m.m j) = none
    have e : m.n + 1 ≤ j := e
    rw [if_neg (by omega)]
    exact w.sr.nx j (by omega)
  · by_cases hx : x = p
    · rw [hx]; exact .inr h0
    · rw [upd_ne hx] at e; exact n.cf x e
  · by_cases hx : x = p
    · rw [hx, upd_same]; exact fun z => nomatch z
    · rw [upd_ne hx]; exact n.cp x e
end
def D.memb : D → Bool
  | .lst ds => D.immL ds
  | .dct _ ds => D.immL ds
  | _ => false
def entM {K : PySem.W.Frag} {cl : CTab} (d : D) : M (MemS K cl) D := fun s => if d.memb = true then .ok (.ref s.n) (s.push d) else .stuck
section
variable {cl : CTab} {W : WX} {X : Cx}
theorem de_ent {e : Expr} {f : Env → M (MemS X.K cl) D} (h : DX cl (MemS X.K cl) true W X e f) : DE cl (MemS X.K cl) true W X e fun ρ => M.bind (f ρ) entM := by
  refine PE.weak h fun σ H Q ⟨Z, C, s, ρ, w, e, p⟩ => ⟨Z, C, s, ρ, w, e, ?_⟩
  unfold M.bind at p
  cases ef : f ρ s with
  | stuck => simp only [ef] at p; exact p
  | err x s1 => simp only [ef] at p; exact p
  | ok d s1 =>
    simp only [ef] at p
    intro a Z1 C1 H1 w1 n1 ha hz hc o
    unfold entM at p
    by_cases hm : d.memb = true
    · rw [if_pos hm] at p
      have sm := nameZ_sub (p := a) (mem_free w1)
      cases d with
      | lst ds =>
        obtain ⟨vs, h1, h2, h3⟩ := o
        obtain ⟨w2, n2⟩ := mem_adopt (d := .lst ds) w1 hz hc h1 n1 ha ⟨hm, vs, upd_same, h2, h3.mono sm⟩
        exact p _ _ _ _ w2 n2 (.ref nameZ_at)
      | dct ks ds =>
        obtain ⟨o, kvs, h1, dk, h2, h3, h4⟩ := o
        obtain ⟨w2, n2⟩ := mem_adopt (d := .dct ks ds) w1 hz hc h1 n1 ha ⟨hm, o, kvs, upd_same, dk, h2, h3, h4.mono sm⟩
        exact p _ _ _ _ w2 n2 (.ref nameZ_at)
      | _ => cases hm
    · rw [if_neg hm] at p; exact False.elim p
end
abbrev LstG := List D → List D → Option (D × List D)
def mutM {K : PySem.W.Frag} {cl : CTab} (g : LstG) (x : D) (us : List D) : M (MemS K cl) D := fun s => match x with
  | .ref k => match s.m k with
    | some (.lst xs) => match g xs us with
      | some (r, ys) => if D.immL ys = true then .ok r (updM s k (some (.lst ys))) else .stuck
      | none => .stuck
    | _ => .stuck
  | _ => .stuck
def rdL {K : PySem.W.Frag} {cl : CTab} (x : D) : M (MemS K cl) (List D) := fun s => match x with
  | .ref k => match s.m k with
    | some (.lst xs) => .ok xs s
    | _ => .stuck
  | _ => .stuck
end DN
namespace DN
open PySem PySem.Spec PyProof.Rows L2 RZ ND
def insG : LstG := fun xs us => match us with
  | [.int i, d] => if xs.length < sizeLine ∧ 0 ≤ i ∧ i < 2 ^ 63 then some (.non, xs.take i.toNat ++ [d] ++ xs.drop i.toNat) else none
  | _ => none
section
variable {cl : CTab} {W : WX} {X : Cx} {o e e2 : Expr} {fo f f2 : Env → M (MemS X.K cl) D} {apos cpos : Pos}
@[simp] abbrev xMut {K : PySem.W.Frag} {cl : CTab} (g : LstG) (fo : Env → M (MemS K cl) D) (fa : Env → M (MemS K cl) (List D)) : Env → M (MemS K cl) D := fun ρ => M.bind (fo ρ) fun x => M.bind (rdL x) fun _ => M.bind (fa ρ) fun us => mutM g x us
end
def derefM {K : PySem.W.Frag} {cl : CTab} (x : D) : M (MemS K cl) D := fun s => match x with
  | .ref k => match s.m k with
    | some (.lst ds) => .ok (.lst ds) s
    | some (.dct ks ds) => .ok (.dct ks ds) s
    | _ => .ok (.ref k) s
  | x => .ok x s
def derefL {K : PySem.W.Frag} {cl : CTab} : List D → M (MemS K cl) (List D)
  | [] => M.pure []
  | d :: ds => M.bind (derefM d) fun x => M.bind (derefL ds) fun xs => M.pure (x :: xs)
def immF (o : Option D) : Option D := o.bind fun d => if d.imm = true then some d else none
section
variable {cl : CTab} {md : Bool} {W : WX} {X : Cx}
def opM {K : PySem.W.Frag} {cl : CTab} (g : D → D → Option D) (x y : D) : M (MemS K cl) D := M.bind (derefM x) fun a => M.bind (derefM y) fun b => lift (immF (g a b))
def callBM {K : PySem.W.Frag} {cl : CTab} (g : List D → Option D) (xs : List D) : M (MemS K cl) D := M.bind (derefL xs) fun ys => lift (immF (g ys))
end
end DN
namespace DN
open PySem PySem.Spec PyProof.Rows L2 RZ ND
def rdD {K : PySem.W.Frag} {cl : CTab} (x : D) : M (MemS K cl) (List D × List D) := fun s => match x with
  | .ref k => match s.m k with
    | some (.dct ks ds) => .ok (ks, ds) s
    | _ => .stuck
  | _ => .stuck
def dgM {K : PySem.W.Frag} {cl : CTab} (x y : D) : M (MemS K cl) D := M.bind (rdD x) fun p => lift (y.key.bind fun k => lookD p.1 p.2 k)
def putM {K : PySem.W.Frag} {cl : CTab} (x y d : D) : M (MemS K cl) Unit := M.bind (rdD x) fun p => M.bind (lift y.key) fun k => fun s => match x with
  | .ref n => if p.1.length < sizeLine ∧ okK p.1 k = true ∧ d.imm = true then .ok () (updM s n (some (.dct (putKs p.1 k) (putVs p.1 p.2 k d)))) else .stuck
  | _ => .stuck
def rdK {K : PySem.W.Frag} {cl : CTab} (x : D) : M (MemS K cl) Unit := M.bind (rdD x) fun p => if kindT p.1 = true then fun _ => .stuck else M.pure ()
def sdM {K : PySem.W.Frag} {cl : CTab} (x y d : D) : M (MemS K cl) D := M.bind (rdD x) fun p => M.bind (lift y.key) fun k => if k.isT = true ∨ kindT p.1 = true ∨ ¬ p.1.length < sizeLine then fun _ => .stuck else match lookD p.1 p.2 k with
  | some v => M.pure v
  | none => M.bind (putM x y d) fun _ => M.pure d
end DN
namespace DN
open PySem PySem.Spec PyProof.Rows L2 RZ ND
def sortI (xs : List Int) : List Int := xs.mergeSort fun a b => decide (a ≤ b)
theorem sortI_pair (xs : List Int) : (sortI xs).Pairwise (· ≤ ·) := by
  have := List.pairwise_mergeSort (le := fun a b : Int => decide (a ≤ b)) (fun a b c h1 h2 => by simp at *; omega) (fun a b => by simp; omega) xs
  exact this.imp fun h => by simpa using h
theorem sortI_uniq {xs ys : List Int} (h : ys.Perm xs) (s : ys.Pairwise (· ≤ ·)) : ys = sortI xs :=
  List.Perm.eq_of_pairwise (le := fun a b => a ≤ b) (fun a b _ _ h1 h2 => by omega) s (sortI_pair xs) (h.trans (List.mergeSort_perm xs _).symm)
theorem intsOf_eq : ∀ {ds : List D} {xs : List Int}, intsOf ds = some xs → ds = xs.map D.int
  | [], _, e => by cases e; rfl
  | d :: ds, xs, e => by
    cases d <;> (unfold intsOf at e; try (cases e; done))
    obtain ⟨r, h1, h2⟩ := Option.map_eq_some_iff.mp e
    subst h2
    rw [intsOf_eq h1]
    rfl
theorem ints_repL {K : PySem.W.Frag} {cl : CTab} {Z : Zp} : ∀ ys : List Int, RepL K cl Z (ys.map V.int) (ys.map D.int)
  | [] => .nil
  | y :: ys => .cons (.int y) (ints_repL ys)
def sortKI (ks : List D) : Option D := (intsOf ks).bind fun xs => if xs.length < 64 then some (.lst ((sortI xs).map .int)) else none
section
variable {cl : CTab} {md : Bool} {W : WX} {X : Cx} {p q : D → Bool}
def setgM {K : PySem.W.Frag} {cl : CTab} (c : Str) (i : Nat) (x d : D) : M (MemS K cl) Unit := fun m => match x with
  | .ref a => match m.m a with
    | some (.ins c' ds) => if c' = c ∧ d.imm = true ∧ i < ds.length then .ok () (updM m a (some (.ins c (ds.set i d)))) else .stuck
    | _ => .stuck
  | _ => .stuck
open Classical in
noncomputable def chkM {K : PySem.W.Frag} {cl : CTab} (k : Nat) (ds : List D) : M (MemS K cl) Unit := fun s => if s.m k = some (.lst ds) then .ok () s else .stuck
noncomputable def forLM {K : PySem.W.Frag} {cl : CTab} (a : D → Option Asg) (F : SEnv → M (MemS K cl) Fl) (k : Nat) (ds0 : List D) : List D → SEnv → M (MemS K cl) Fl
  | [], ρ => M.bind (chkM k ds0) fun _ => M.pure (.nx ρ)
  | d :: ds, ρ => M.bind (chkM k ds0) fun _ => M.bind (lift (a d)) fun as => M.bind (F (setsS ρ as)) fun fl => match fl with
    | .nx ρ' => forLM a F k ds0 ds ρ'
    | .ct ρ' => forLM a F k ds0 ds ρ'
    | .bk ρ' => M.pure (.nx ρ')
    | .rt d => M.pure (.rt d)
    | .ro d => M.pure (.ro d)
noncomputable def forM {K : PySem.W.Frag} {cl : CTab} (a : D → Option Asg) (F : SEnv → M (MemS K cl) Fl) (x : D) (ρ : SEnv) : M (MemS K cl) Fl := M.bind (rdL x) fun ds => match x with
  | .ref k => forLM a F k ds ds ρ
  | _ => fun _ => .stuck
end
end DN
namespace DN
open PySem PySem.Spec PyProof.Rows L2 RZ ND
abbrev SrcD (K : PySem.W.Frag) (cl : CTab) := List D × M (MemS K cl) Unit
section
variable {cl : CTab} {md : Bool} {W : WX} {X : Cx} {tg : Expr}
noncomputable def srcM {K : PySem.W.Frag} {cl : CTab} (x : D) : M (MemS K cl) (SrcD K cl) := M.bind (rdL x) fun ds => match x with
  | .ref k => M.pure (ds, chkM k ds)
  | _ => fun _ => .stuck
end
def compA {K : PySem.W.Frag} {cl : CTab} (chk : M (MemS K cl) Unit) (f : List D → D → M (MemS K cl) (List D)) : List D → List D → M (MemS K cl) (List D)
  | acc, [] => M.bind chk fun _ => M.pure acc
  | acc, d :: ds => M.bind chk fun _ => M.bind (f acc d) fun acc' => compA chk f acc' ds
def turnA {K : PySem.W.Frag} {cl : CTab} (a : D → Option Asg) (t : Env → M (MemS K cl) Bool) (e : Env → M (MemS K cl) D) (ρ : Env) (acc : List D) (d : D) : M (MemS K cl) (List D) :=
  noErr (M.bind (lift ((a d).map (setsE ρ))) fun ρ' => M.bind (t ρ') fun k => if k = true then M.bind (e ρ') fun x => guardM (decide (acc.length < sizeLine)) (M.pure (acc ++ [x])) else M.pure acc)
def headF {K : PySem.W.Frag} {cl : CTab} (a : D → Option Asg) (t : Env → M (MemS K cl) Bool) (src : Env → M (MemS K cl) (SrcD K cl)) (ρ : Env) (d : D) : M (MemS K cl) (Option (Env × SrcD K cl)) :=
  noErr (M.bind (lift ((a d).map (setsE ρ))) fun ρ' => M.bind (t ρ') fun k => if k = true then M.bind (src ρ') fun x => M.pure (some (ρ', x)) else M.pure none)
def outA {K : PySem.W.Frag} {cl : CTab} (a : D → Option Asg) (t : Env → M (MemS K cl) Bool) (src : Env → M (MemS K cl) (SrcD K cl)) (own1 : List Nat) (a1 : D → Option Asg) (t1 : Env → M (MemS K cl) Bool) (e : Env → M (MemS K cl) D) (ρ : Env) (acc : List D) (d : D) : M (MemS K cl) (List D) :=
  M.bind (headF a t src ρ d) fun o => match o with
    | none => M.pure acc
    | some (ρ', sc) => compA sc.2 (turnA a1 t1 e (wipeE ρ' own1)) acc sc.1
end DN
namespace DN
open PySem PySem.Spec PyProof.Rows L2 RZ ND
section
variable {K : PySem.W.Frag} {cl : CTab}
@[simp] abbrev xEnt (f : Env → M (MemS K cl) D) : Env → M (MemS K cl) D := fun ρ => M.bind (f ρ) entM
@[simp] abbrev xLst0 (f : Env → M (MemS K cl) D) : Env → M (MemS K cl) D := fun ρ => M.bind (f ρ) fun x => lift (listD [x])
@[simp] abbrev xSrtK (f : Env → M (MemS K cl) D) : Env → M (MemS K cl) D := fun ρ => M.bind (f ρ) fun x => M.bind (rdD x) fun p => lift (sortKI p.1)
@[simp] abbrev xDgM (f1 f2 : Env → M (MemS K cl) D) : Env → M (MemS K cl) D := fun ρ => M.bind (f1 ρ) fun x => M.bind (f2 ρ) fun y => dgM x y
@[simp] abbrev xSdM (fo fk fv : Env → M (MemS K cl) D) : Env → M (MemS K cl) D := fun ρ => M.bind (fo ρ) fun x => M.bind (rdK x) fun _ => M.bind (fk ρ) fun y => M.bind (fv ρ) fun d => sdM x y d
@[simp] abbrev xOpM (g : D → D → Option D) (f1 f2 : Env → M (MemS K cl) D) : Env → M (MemS K cl) D := fun ρ => M.bind (f1 ρ) fun x => M.bind (f2 ρ) fun y => opM g x y
@[simp] abbrev xBM (g : List D → Option D) (f : Env → M (MemS K cl) (List D)) : Env → M (MemS K cl) D := fun ρ => M.bind (f ρ) fun xs => callBM g xs
@[simp] abbrev xMakeM (c : Str) (f : List D → M (MemS K cl) D) (fa : Env → M (MemS K cl) (List D)) : Env → M (MemS K cl) D := fun ρ => M.bind (fa ρ) fun ds => makeM c f ds
@[simp] abbrev sPutM (p : D → Bool) (fo fi f : Env → M (MemS K cl) D) : SEnv → M (MemS K cl) Fl := fun ρ => M.bind (f (seeE p ρ)) fun d => M.bind (fo (seeE pHide ρ)) fun x => M.bind (fi (seeE pHide ρ)) fun y => M.bind (putM x y d) fun _ => M.pure (.nx ρ)
@[simp] abbrev sSetG (p : D → Bool) (c : Str) (i : Nat) (fo f : Env → M (MemS K cl) D) : SEnv → M (MemS K cl) Fl := fun ρ => M.bind (f (seeE p ρ)) fun d => M.bind (fo (seeE pHide ρ)) fun x => M.bind (setgM c i x d) fun _ => M.pure (.nx ρ)
@[simp] noncomputable abbrev sForM (a : D → Option Asg) (f : Env → M (MemS K cl) D) (F : SEnv → M (MemS K cl) Fl) : SEnv → M (MemS K cl) Fl := fun ρ => M.bind (f (seeE pHide ρ)) fun x => forM a F x ρ
@[simp] abbrev srD (f : Env → M (MemS K cl) (List D)) : Env → M (MemS K cl) (SrcD K cl) := fun ρ => M.bind (f ρ) fun ds => M.pure (ds, M.pure ())
@[simp] noncomputable abbrev srM (f : Env → M (MemS K cl) D) : Env → M (MemS K cl) (SrcD K cl) := fun ρ => M.bind (f ρ) srcM
@[simp] abbrev xLc2 (own own1 : List Nat) (b : D → Option Asg) (t : Env → M (MemS K cl) Bool) (b1 : D → Option Asg) (t1 : Env → M (MemS K cl) Bool) (fe : Env → M (MemS K cl) D) (src src1 : Env → M (MemS K cl) (SrcD K cl)) : Env → M (MemS K cl) D := fun ρ => M.bind (src ρ) fun sc => M.bind (compA sc.2 (outA b t src1 own1 b1 t1 fe (wipeE ρ own)) [] sc.1) fun r => M.pure (D.lst r)
end
end DN
namespace DN
open PySem PySem.Spec PyProof.Rows L2 RZ ND
section
variable {K : PySem.W.Frag} {cl : CTab} {k n : Nat} {s : Mem} {ds xs ks vs us : List D} {d e y : D}
theorem wp_ixr {R : D → Mem → Prop} {i : Int} (h : s.m k = some (.lst xs)) (hi : atI xs i = some d) : wp (ixM (K := K) (cl := cl) (.ref k) (.int i)) R s ↔ R d s := by simp [wp, ixM, rdM, M.bind, h, hi, lift, M.pure]
theorem wp_ent {R : D → Mem → Prop} (h : d.memb = true) : wp (entM (K := K) (cl := cl) d) R s ↔ R (.ref s.n) (s.push d) := by simp [wp, entM, h]
variable {a : D → Option Asg} {F : SEnv → M (MemS K cl) Fl} {R : Fl → Mem → Prop}
end
end DN
namespace DN
open PySem PySem.Spec PyProof.Rows L2 RZ ND
section
variable {K : PySem.W.Frag} {cl : CTab}
@[simp] abbrev tCmM (g : D → D → Option D) (f1 f2 : Env → M (MemS K cl) D) : Env → M (MemS K cl) Bool := fun ρ => M.bind (f1 ρ) fun x => M.bind (f2 ρ) fun y => M.bind (opM g x y) fun d => lift (D.asB d)
end
end DN
namespace DN
open PySem PySem.Spec PyProof.Rows L2 RZ ND
variable {B : Sto}
@[simp] def sExt (p q : D → Bool) (i : Nat) (f : Env → M B D) : SEnv → M B Fl := fun ρ => match ρ[i]? with
  | some (.own (.lst ds)) => M.bind (f (seeE p ρ)) fun d => match d with
    | .lst es => guardM (q d && es.all (fun e => !e.isMut) && decide (ds.length + es.length ≤ sizeLine)) (M.pure (.nx (ρ.set i (.own (.lst (ds ++ es))))))
    | _ => fun _ => .stuck
  | _ => fun _ => .stuck
end DN
namespace DN
open PySem PySem.Spec PyProof.Rows L2 RZ ND
section
variable {cl : CTab} {md : Bool} {W : WX} {X : Cx} {B : Sto}
@[simp] noncomputable abbrev xSrt (f : Env → M B D) : Env → M B D := fun ρ => M.bind (f ρ) fun x => lift (sortedDD [x])
end
end DN
namespace DN
open PySem PySem.Spec PyProof.Rows L2 RZ ND
variable {B : Sto}
end DN
namespace DN
open PySem PySem.Spec PyProof.Rows L2 RZ ND
variable {B : Sto}
def keysI : D → Option (List D)
  | .dct ks _ => some ks
  | _ => none
@[simp] def sForK (i : Nat) (a : D → Option Asg) (F : SEnv → M B Fl) : SEnv → M B Fl := fun ρ => M.bind (eVar i (seeE pHide ρ)) fun d => M.bind (lift (keysI d)) fun ks => noErr (forL a F ks ρ)
theorem PS.or {X : Cx} {st : Stmt} {t t' : TS} (h : PS X st t) (h' : PS X st t') : PS X st (fun E σ H => t E σ H ∨ t' E σ H) := ⟨fun pins s σ H D I q => q.elim (h.run pins s σ H D I) (h'.run pins s σ H D I)⟩
end DN
namespace DN
open PySem PySem.Spec PyProof.Rows L2 RZ ND
variable {B : Sto}
@[simp] abbrev xLcK (own : List Nat) (b : D → Option Asg) (t : Env → M B Bool) (fe : Env → M B D) (i : Nat) : Env → M B D := fun ρ => M.bind (eVar i ρ) fun d => M.bind (lift (keysI d)) fun ds => M.bind (compL (compF b t fe (wipeE ρ own)) ds) fun r => M.pure (.lst r)
@[simp] abbrev xDcK (own : List Nat) (b : D → Option Asg) (t : Env → M B Bool) (fk fe : Env → M B D) (i : Nat) : Env → M B D := fun ρ => M.bind (eVar i ρ) fun d => M.bind (lift (keysI d)) fun ds => M.bind (compL (compFD b t fk fe (wipeE ρ own)) ds) fun r => lift (putAll [] [] r)
end DN
namespace DN
open PySem PySem.Spec PyProof.Rows L2 RZ ND
variable {B : Sto}
end DN
namespace DN
open PySem PySem.Spec PyProof.Rows L2 RZ ND
def lstAt (ds : List D) (j : Nat) : Option (List D) := match ds[j]? with
  | some (.ins c [.lst es]) => if c = "" then some es else none
  | _ => none
def atK (ks ds : List D) (k : D) : Option (Nat × List D) := (k.key.bind fun k => ixK ks k).bind fun j => (lstAt ds j).map fun es => (j, es)
@[simp] def sAppK {B : Sto} (p q : D → Bool) (i : Nat) (fk f : Env → M B D) : SEnv → M B Fl := fun ρ => match ρ[i]? with
  | some (.own (.dct ks ds)) => M.bind (fk (seeE pHide ρ)) fun k => M.bind (lift (atK ks ds k)) fun je => M.bind (f (seeE p ρ)) fun d => guardM (q d && !d.isMut && decide (je.2.length < sizeLine)) (M.pure (.nx (ρ.set i (.own (.dct ks (ds.set je.1 (.ins "" [.lst (je.2 ++ [d])])))))))
  | _ => fun _ => .stuck
abbrev flatL (ds : List D) : Bool := ds.all fun d => !d.isMut
end DN
namespace DN
open PySem PySem.Spec PyProof.Rows L2 RZ ND
def mutO (q : D → Bool) (g : LstG) (xs us : List D) : Option (D × List D) := if (us.all q && flatL xs) = true then (g xs us).bind fun r => if (flatL r.2 && !r.1.isMut) = true then some r else none else none
@[simp] def sMutO {B : Sto} (p q : D → Bool) (i : Nat) (g : LstG) (fa : Env → M B (List D)) : SEnv → M B Fl := fun ρ => match ρ[i]? with
  | some (.own (.lst xs)) => M.bind (fa (seeE p ρ)) fun us => M.bind (lift (mutO q g xs us)) fun r => M.pure (.nx (ρ.set i (.own (.lst r.2))))
  | _ => fun _ => .stuck
@[simp] def sPopO {B : Sto} (p q : D → Bool) (j i : Nat) (g : LstG) (fa : Env → M B (List D)) : SEnv → M B Fl := fun ρ => match ρ[i]? with
  | some (.own (.lst xs)) => M.bind (fa (seeE p ρ)) fun us => M.bind (lift (mutO q g xs us)) fun r => M.pure (.nx ((ρ.set i (.own (.lst r.2))).set j (.val r.1)))
  | _ => fun _ => .stuck
end DN
namespace DN
open PySem PySem.Spec PyProof.Rows L2 RZ ND
def asDc : D → Option (List D × List D)
  | .dct ks ds => some (ks, ds)
  | _ => none
def getDD (p : List D × List D) (y z : D) : Option D := y.key.bind fun k => if okK p.1 k = true then some ((lookD p.1 p.2 k).getD z) else none
section
variable {B : Sto} {cl : CTab} {md : Bool} {W : WX} {X : Cx}
@[simp] abbrev xGet1 (fo fk : Env → M B D) : Env → M B D := fun ρ => M.bind (fo ρ) fun x => M.bind (lift (asDc x)) fun p => M.bind (fk ρ) fun y => lift (getDD p y .non)
@[simp] abbrev xGet2 (fo fk fx : Env → M B D) : Env → M B D := fun ρ => M.bind (fo ρ) fun x => M.bind (lift (asDc x)) fun p => M.bind (fk ρ) fun y => M.bind (fx ρ) fun z => lift (getDD p y z)
end
def tyD (T : String) : D → Bool
  | .lst _ => T == "list"
  | .str _ => T == "str"
  | _ => false
def MthV (K : PySem.W.Frag) (cl : CTab) (r : V → List V → Hp → VK → Prop) (g : D → List D → Option D) : Prop := ∀ (Z : Zp) (H : Hp) (x : V) (us : List V) (dx : D) (ds : List D) (d : D) (Q : VK), Sub Z.h H → Rep K cl Z x dx → RepL K cl Z us ds → g dx ds = some d →
  (∀ v Z' H', Al Z H Z' H' → Rep K cl Z' v d → Q v H') → r x us H Q
section
variable {B : Sto} {cl : CTab} {md : Bool} {W : WX} {X : Cx}
@[simp] abbrev xBm (T : String) (g : D → List D → Option D) (fo : Env → M B D) (fa : Env → M B (List D)) : Env → M B D := fun ρ => M.bind (fo ρ) fun x => guardM (tyD T x) (M.bind (fa ρ) fun us => lift (g x us))
@[simp] abbrev xBm0 (T : String) (g : D → List D → Option D) (fo : Env → M B D) : Env → M B D := fun ρ => M.bind (fo ρ) fun x => guardM (tyD T x) (lift (g x []))
theorem tyV_rep {K : PySem.W.Frag} {Z : Zp} {H : Hp} {T : String} {x : V} {d : D} (h : Sub Z.h H) (r : Rep K cl Z x d) (e : tyD T d = true) : tyV K T x H := by
  cases r with
  | slst a b c => exact .inl ⟨by simpa [tyD] using e, _, SqL.sub h a⟩
  | str a b => exact (show T = "str" by simpa [tyD] using e)
  | _ => cases e
theorem de_bmV {r : V → List V → Hp → VK → Prop} {g : D → List D → Option D} {T : String} {name : Str} {id : String} {o e : Expr} {es : List Expr} {fo : Env → M B D} {fa : Env → M B (List D)} {apos cpos : Pos} (pa : PlainAttrs T) (slot : Slot T name id) (hty : typeOf (.builtin id) = pure (.type "method_descriptor")) (hm : MtR X id r) (hr : MthV X.K cl r g)
    (ho : DE cl B md W X o fo) (ha : DA cl B md W X (e :: es) fa)
    (hbase : attributeBase o name X.env (eval o X.env) = eval o X.env := by rfl)
    (hfew : ((backTo cpos (starEach (e :: es) X.env)).all (fun x => !x.1) && (backToKw cpos (keywordEach [] X.env)).all (fun x => x.1.isSome)
      && decide ((e :: es).length + ([] : List Keyword).length + (if ([] : List Keyword).isEmpty then 0 else 1) < 30)) = true := by rfl)
    (hline : (apos.endLine == cpos.line) = true := by rfl) (hs : starEach (e :: es) X.env = (false, eval e X.env) :: starEach es X.env := by rfl) (hplain : (backTo cpos (starEach es X.env)).any (·.1) = false := by rfl) :
    DE cl B md W X (.Call (.Attribute o name apos) (e :: es) [] cpos) (xBm T g fo fa) := by
  refine PE.weak (pe_bm pa slot hty hm ho ha hbase hfew hline hs hplain) fun σ H Q ⟨Z, C, s, ρ, w, en, p⟩ => ?_
  refine ⟨Z, C, s, ρ, w, en, Post.seq w.ch p fun dx s1 x Z1 C1 H1 w1 n1 r1 p1 => ?_⟩
  unfold guardM at p1
  split at p1
  case isFalse => exact False.elim p1
  rename_i hT
  refine ⟨tyV_rep w1.zh r1 hT, Z1, C1, s1, ρ, w1, en.mono n1.zz, Post.seq w1.ch p1 fun ds s2 us Z2 C2 H2 w2 n2 r2 p2 => ?_⟩
  obtain ⟨d, hd, q⟩ := post_lift w2 p2
  exact hr Z2 H2 x us dx ds d Q w2.zh (r1.mono n2.zz) r2.1 hd q
end
end DN
namespace DN
open PySem PySem.Spec PyProof.Rows L2 RZ ND
section
variable {B : Sto}
@[simp] abbrev xDcO (own : List Nat) (b : D → Option Asg) (t : Env → M B Bool) (fk fe : Env → M B D) (src : Env → M B (List D)) : Env → M B D := fun ρ => M.bind (src ρ) fun ds => M.bind (compL (compFD b t fk fe (wipeE ρ own)) ds) fun r => M.bind (lift (putAll [] [] r)) fun d => M.pure (D.mt d)
end
def strsD : D → Option (List Str)
  | .lst ds => strsOf ds
  | .tup ds => strsOf ds
  | _ => none
def joinD (x : D) (us : List D) : Option D := match x, us with
  | .str a, [d] => (strsD d).bind fun ys => if (ys.map (·.length)).sum + ys.length * a.length ≤ 16777216 ∧ (Txt.join a ys).length ≤ sizeLine ∧ PyData.strOk (Txt.join a ys) = true then some (.str (Txt.join a ys)) else none
  | _, _ => none
section
variable {K : PySem.W.Frag} {cl : CTab} {X : Cx}
theorem repL_strs {Z : Zp} : ∀ {ys : List Str} {vs : List V}, RepL K cl Z vs (ys.map D.str) → vs = ys.map V.str
  | [], _, r => by cases r; rfl
  | y :: ys, _, r => by
    cases r with
    | cons a b => cases a; rw [repL_strs b]; rfl
theorem mv_join : MthV X.K cl (fun x xs H Q => ∃ a p, ∃ ys : List Str, x = .str a ∧ xs = [.ref p] ∧ (SqL X.K H p (ys.map V.str) ∨ SqT X.K H p (ys.map V.str)) ∧
    (ys.map (·.length)).sum + ys.length * a.length ≤ 16777216 ∧ Q (.str (Txt.join a ys)) H) joinD := by
  intro Z H x us dx ds d Q h rx ru e q
  unfold joinD at e
  split at e
  case h_2 => cases e
  rename_i a dd
  obtain ⟨ys, h1, h2⟩ := Option.bind_eq_some_iff.mp e
  split at h2
  case isFalse => cases h2
  rename_i hc
  cases h2
  cases rx
  cases ru with
  | cons r1 r2 =>
  cases r2
  have key : ∀ {vs : List V}, RepL X.K cl Z vs (ys.map D.str) → vs = ys.map V.str := repL_strs
  unfold strsD at h1
  split at h1
  · cases strsOf_eq h1
    cases r1 with
    | slst b c t =>
      cases key t
      exact ⟨_, _, ys, rfl, rfl, .inl (SqL.sub h b), hc.1, q _ Z H (.refl h) (.str hc.2.1 hc.2.2)⟩
  · cases strsOf_eq h1
    cases r1 with
    | tup b c t =>
      cases key t
      exact ⟨_, _, ys, rfl, rfl, .inr (sq_t (h _ _ b)), hc.1, q _ Z H (.refl h) (.str hc.2.1 hc.2.2)⟩
  · cases h1
end
end DN
namespace DN
open PySem PySem.Spec PyProof.Rows L2 RZ ND
variable {B : Sto}
def key1 (x y : D) : Option D := x.key.bind fun k => if (k.isT && k.low) = true then some (.dct [keyD k] [y]) else none
@[simp] abbrev xDct1 (fk fv : Env → M B D) : Env → M B D := fun ρ => M.bind (fk ρ) fun x => M.bind (fv ρ) fun y => lift (key1 x y)
@[simp] def sSetI (p : D → Bool) (i : Nat) (f : Env → M B D) : SEnv → M B Fl := fun ρ => M.bind (f (seeE p ρ)) fun d => if d.imm = true then M.pure (.nx (ρ.set i (.val d))) else fun _ => .stuck
end DN
namespace ND
open PySem PySem.Spec PyProof.Rows L2
theorem fm_congr {α β : Type} {f g : α → Option β} : ∀ {l : List α}, (∀ a ∈ l, f a = g a) → l.filterMap f = l.filterMap g
  | [], _ => rfl
  | a :: l, h => by
    rw [List.filterMap_cons, List.filterMap_cons, h a List.mem_cons_self, fm_congr fun b hb => h b (List.mem_cons_of_mem _ hb)]
theorem getD_rev (its : List Value) : ∀ m, m ≤ its.length → ((List.range m).filterMap fun k => its[its.length - 1 - k]?) = its.reverse.take m
  | 0, _ => by simp
  | m + 1, h => by
    have e5 : its[its.length - 1 - m]? = some (its.reverse[m]'(by rw [List.length_reverse]; omega)) := by
      rw [List.getElem_reverse]
      exact List.getElem?_eq_getElem (by omega)
    have hr : m < its.reverse.length := by rw [List.length_reverse]; omega
    rw [List.range_succ, List.filterMap_append, getD_rev its m (by omega), List.take_succ_eq_append_getElem hr]
    simp only [List.filterMap_cons, List.filterMap_nil, e5]
theorem rev_pick (its : List Value) : ((List.range its.length).filterMap fun k => its[its.length - 1 - k]?) = its.reverse := by
  rw [getD_rev its _ (Nat.le_refl _)]
  exact List.take_of_length_le (by simp)
theorem slicePick_rev (its : List Value) : slicePick its.toArray none none (some (-1)) = its.reverse.toArray := by
  unfold slicePick
  congr 1
  have hb : sliceBounds none none (some (-1)) its.toArray.size = ((its.length : Int) - 1, -1, -1) := by
    unfold sliceBounds
    simp
  rw [hb]
  unfold sliceRange
  have h0 : ¬ ((-1 : Int) > 0) := by decide
  have hc : (if (-1 : Int) > 0 then (if ((its.length : Int) - 1) < -1 then (-1 - ((its.length : Int) - 1) + -1 - 1) / -1 else 0) else (if ((its.length : Int) - 1) > -1 then (((its.length : Int) - 1) - -1 - -1 - 1) / (- -1) else 0)).toNat = its.length := by
    rw [if_neg h0]
    by_cases hn : ((its.length : Int) - 1) > -1
    · rw [if_pos hn]
      have e : (- -1 : Int) = 1 := by decide
      rw [e, Int.ediv_one]
      omega
    · rw [if_neg hn]; omega
  simp only [] at hc ⊢
  rw [hc, List.filterMap_map]
  refine Eq.trans ?_ (rev_pick its)
  refine ND.fm_congr fun k hk => ?_
  have hk := List.mem_range.mp hk
  have e : ((its.length : Int) - 1 + -1 * (k : Int)).toNat = its.length - 1 - k := by omega
  show its.toArray[((its.length : Int) - 1 + -1 * (k : Int)).toNat]? = _
  rw [e]
  simp
end ND
namespace HT
open PySem PySem.Spec PyProof.Rows L2
section
variable {prog : Program} {w : World} {A : Around} {E : Value → Shared → Prop} {s : Shared}
theorem sliceApplied_rev {sl : Addr} {t : Tok} {n : Nat} {Q : Int × Int × Nat → Shared → Prop} (hs : s.heap.IsSliceOf sl .none .none (.int (-1) t))
    (h : Q ((n : Int) - 1, -1, n) s) : wpAny (model prog w) A (Builtin.Slice.sliceApplied (.ref sl) (pure (n : Int))) Q E s := by
  obtain ⟨os, hos, hcs, hds⟩ := id hs
  unfold Builtin.Slice.sliceApplied Builtin.Slice.sliceFields
  refine wpAny_bind (wpAny_bind (wpAny_field hos hds (x := .none) rfl (wpAny_bind (wpAny_field hos hds (x := .none) rfl (wpAny_bind (wpAny_field hos hds (x := .int (-1) t) rfl (wpAny_pure ?_)))))))
  refine wpAny_bind (slicePart_int ?_)
  show wpAny _ _ (if ((-1 : Int) == 0) = true then _ else _) _ _ s
  rw [if_neg (by decide)]
  refine wpAny_bind (slicePart_none (wpAny_bind (slicePart_none (wpAny_bind (wpAny_pure ?_)))))
  have e1 : Builtin.Slice.sliceAdjust none none (-1) (n : Int) = ((n : Int) - 1, -1) := rfl
  have e2 : Builtin.Slice.slicePlaces ((n : Int) - 1) (-1) (-1) = n := by
    unfold Builtin.Slice.slicePlaces
    have h0 : ¬ ((-1 : Int) > 0) := by decide
    rw [if_neg h0]
    by_cases hn : ((n : Int) - 1) > -1
    · rw [if_pos hn]
      have e : (- -1 : Int) = 1 := by decide
      rw [e, Int.ediv_one]
      omega
    · rw [if_neg hn]; omega
  show wpAny _ _ (match Builtin.Slice.sliceAdjust none none (-1) (n : Int) with | (lo, hi) => pure (lo, (-1 : Int), Builtin.Slice.slicePlaces lo hi (-1))) _ _ s
  rw [e1]
  show wpAny _ _ (pure ((n : Int) - 1, (-1 : Int), Builtin.Slice.slicePlaces ((n : Int) - 1) (-1) (-1))) _ _ s
  rw [e2]
  exact wpAny_pure h
theorem getItem_tuple_rev {tp sl : Addr} {its : List Value} {t : Tok} {Q : Value → Shared → Prop} (ht : IsTup s.heap tp its.toArray) (hs : s.heap.IsSliceOf sl .none .none (.int (-1) t))
    (h : Q (.ref s.heap.objs.size) { s with heap := s.heap.push { cls := .type "tuple", data := .seq its.reverse.toArray } })
    (hsz : its.length ≤ sizeLine) : wpAny (model prog w) A (getItem (.ref tp) (.ref sl)) Q E s := by
  have htake : sizeOk (.seq its.reverse.toArray) := by
    show its.reverse.toArray.size ≤ sizeLine
    rw [List.size_toArray, List.length_reverse]
    exact hsz
  obtain ⟨os, hos, hcs, hds⟩ := id hs
  have hTs : s.TypeIs (.ref sl) "slice" := ⟨os, hos, hcs⟩
  unfold getItem
  try with_reducible refine wpAny_holding ?_
  first | refine wpAny_bind (wpAny_pure ?_) | skip
  refine wpAny_bind (wpAny_sequenceKey ht.typeIs (by decide) ?_)
  refine wpAny_bind (wpAny_callSpecial?_slot (name := Str.ofString "__getitem__") ht.typeIs PyProof.Rows.slot_tuple_getitem
    (wpAny_call_entry PyProof.Rows.slot_tuple_getitem ht.typeIs entry_tuple_getitem ?_ (args_tuple_getitem _ _)))
  show wpAny _ _ (Builtin.Tuple.tupleItemsOf (.ref tp) >>= _) _ _ s
  refine wpAny_bind (tupleItemsOf_ ht ?_)
  refine wpAny_bind (wpAny_typeOf hTs ?_)
  rw [if_pos (by decide)]
  refine wpAny_bind (sliceApplied_rev (n := its.toArray.size) hs ?_)
  have hno : ¬ (((((its.toArray.size : Nat) : Int) - 1) == 0 && (-1 : Int) == 1 && its.toArray.size == its.toArray.size) = true) := by
    intro q
    rw [Bool.and_eq_true, Bool.and_eq_true] at q
    exact absurd q.1.2 (by decide)
  show wpAny _ _ (if ((((its.toArray.size : Nat) : Int) - 1) == 0 && (-1 : Int) == 1 && its.toArray.size == its.toArray.size) = true then _ else _) _ _ s
  rw [if_neg hno]
  have ep : ((List.range its.toArray.size).filterMap fun (k : Nat) => its.toArray[(((its.toArray.size : Nat) : Int) - 1 + (k : Int) * -1).toNat]?) = its.reverse := by
    refine Eq.trans (ND.fm_congr fun k hk => ?_) ((congrArg (fun m => (List.range m).filterMap fun k => its[its.length - 1 - k]?) List.size_toArray).trans (ND.rev_pick its))
    have hk := List.mem_range.mp hk
    have e : (((its.toArray.size : Nat) : Int) - 1 + (k : Int) * -1).toNat = its.length - 1 - k := by rw [List.size_toArray] at hk ⊢; omega
    rw [e]
    simp
  rw [ep]
  first
    | exact wpAny_bind (m := Builtin.Tuple.tupleExact _) (wpAny_newObj_type (wpAny_pure ⟨_, rfl, wpAny_pure h⟩) htake)
    | exact wpAny_bind (m := Builtin.Tuple.tupleExact _) (wpAny_newObj_type (wpAny_bind (wpAny_pure (wpAny_pure ⟨_, rfl, wpAny_pure h⟩))) htake)
    | exact wpAny_bind (wpAny_bind (m := Builtin.Tuple.tupleExact _) (wpAny_newObj_type (wpAny_pure (wpAny_pure ⟨_, rfl, wpAny_pure h⟩)) htake))
    | exact wpAny_bind (wpAny_bind (m := Builtin.Tuple.tupleExact _) (wpAny_newObj_type (wpAny_pure ⟨_, rfl, wpAny_pure h⟩) htake))
end
end HT
namespace ND
open PySem PySem.Spec PyProof.Rows L2
section
variable {X : Cx} {e st : Expr} {te : TE} {pos p2 : Pos}
def tMinus1 : TE := fun _ H Q => Q (.int (-1)) H
def rRev (K : PySem.W.Frag) : V → Hp → VK → Prop := fun x H Q => ∃ a xs, x = .ref a ∧ ((SqT K H a xs ∧ ∀ p, H p = none → Q (.ref p) (upd H p (.tup xs.reverse))) ∨ (SqL K H a xs ∧ ∀ p, H p = none → Q (.ref p) (upd H p (.lst xs.reverse))))
def tRev (K : PySem.W.Frag) (te : TE) : TE := fun σ H Q => te σ H fun x H1 => rRev K x H1 Q
theorem pe_rev (he : PE X e te) (hst : PE X st tMinus1) : PE X (.Subscript e (.Slice none none (some st) p2) pos) (tRev X.K te) := by
  refine ⟨fun pins s σ H Q I h => ?_⟩
  refine Subscript_ (thn (he.run pins s σ H _ I h) fun v s1 ⟨x, H1, I1, r1, q1⟩ => ?_)
  refine wpAny_Slice ?_
  rw [evalPart_none]
  refine wpAny_pure ?_
  show wpAny (model X.prog X.w) X.A (evalPart none X.env) _ _ s1
  rw [evalPart_none]
  refine wpAny_pure ?_
  show wpAny (model X.prog X.w) X.A (evalPart (some st) X.env) _ _ s1
  rw [evalPart_some]
  refine thn (hst.run pins s1 σ H1 (fun y H' => y = .int (-1) ∧ H' = H1) I1 ⟨rfl, rfl⟩) fun vs s2 ⟨y, H2, I2, ry, ey, eh⟩ => ?_
  subst ey eh
  obtain ⟨t, rfl⟩ := ry
  have I4 : Inv X pins σ H2 { s2 with heap := s2.heap.push { cls := .type "slice", data := .fields #[.none, .none, .int (-1) t] } } := I2.kept (t' := s2.toks) fun b ob q => Heap.get?_push_of_some _ q
  obtain ⟨a, xs, rfl, q⟩ := q1
  cases r1
  have hsl : ({ s2 with heap := s2.heap.push { cls := .type "slice", data := .fields #[.none, .none, .int (-1) t] } } : Shared).heap.IsSliceOf s2.heap.objs.size .none .none (.int (-1) t) := Heap.IsSliceOf.new ..
  have key : ∃ T id, typeLookup (.type T) "__getitem__" = pure (some (.builtin id)) ∧ ({ s2 with heap := s2.heap.push { cls := .type "slice", data := .fields #[.none, .none, .int (-1) t] } } : Shared).TypeIs (.ref a) T ∧ wpAny (model X.prog X.w) X.A (getItem (.ref a) (.ref s2.heap.objs.size)) (EP X pins σ Q) X.xe { s2 with heap := s2.heap.push { cls := .type "slice", data := .fields #[.none, .none, .int (-1) t] } } := by
    generalize ({ s2 with heap := s2.heap.push { cls := .type "slice", data := .fields #[.none, .none, .int (-1) t] } } : Shared) = s at I4 hsl ⊢
    rcases q with ⟨hx, q⟩ | ⟨hx, q⟩
    · obtain ⟨its, r, ht, hz⟩ := I4.tuple hx
      have hlen := r.length
      refine ⟨"tuple", _, PyProof.Rows.slot_tuple_getitem.lookup, ht.typeIs, ?_⟩
      refine HT.getItem_tuple_rev ht hsl ?_ (by rw [← hlen]; exact hz)
      refine ⟨.ref s.heap.objs.size, _, I4.laid (t' := s.toks) (o := .tup xs.reverse) (fun b ob q => Heap.get?_push_of_some _ q) (Nat.le_refl _) ?_, rfl, q _ (I4.hok.fresh (Nat.le_refl _))⟩
      exact ⟨by rw [List.length_reverse]; exact hz, _, r.reverse, IsTup.new _ _⟩
    · obtain ⟨its, r, ht, hz⟩ := I4.list hx
      have hlen := r.length
      refine ⟨"list", _, slot_list_getitem.lookup, ht.isList.typeIs, ?_⟩
      refine wpAny_getItem_list_slice ht.isList hsl .none .none (.int _ _) (by simp) ?_ (by rw [List.size_toArray] <;> omega)
      rw [slicePick_rev]
      refine ⟨.ref s.heap.objs.size, _, I4.laid (t' := s.toks) (o := .lst xs.reverse) (fun b ob q => Heap.get?_push_of_some _ q) (Nat.le_refl _) ?_, rfl, q _ (I4.hok.fresh (Nat.le_refl _))⟩
      exact ⟨by rw [List.length_reverse]; exact hz, _, 0, r.reverse, Heap.get?_push_size _ rfl⟩
  obtain ⟨T, id, hT, ht, hg⟩ := key
  show wpAny (model X.prog X.w) X.A (subscriptTail e (.Slice none none (some st) p2) (.ref a) (.ref s2.heap.objs.size)) (EP X pins σ Q) X.xe _
  exact tail_any (ops := [.ref a, .ref s2.heap.objs.size]) ht hT hg (by with_unfolding_all rfl)
end
end ND
namespace DN
open PySem PySem.Spec PyProof.Rows L2 RZ ND
def revD : D → Option D
  | .tup xs => some (.tup xs.reverse)
  | .lst xs => some (.lst xs.reverse)
  | _ => none
theorem repL_rev {K : PySem.W.Frag} {cl : CTab} {Z : Zp} : ∀ {vs : List V} {ds : List D}, RepL K cl Z vs ds → RepL K cl Z vs.reverse ds.reverse
  | _, _, .nil => .nil
  | _, _, .cons a r => by
    rw [List.reverse_cons, List.reverse_cons]
    exact (repL_rev r).append (.cons a .nil)
@[simp] abbrev xRev {B : Sto} (f : Env → M B D) : Env → M B D := fun ρ => M.bind (f ρ) fun x => lift (revD x)
section
variable {B : Sto} {cl : CTab} {md : Bool} {W : WX} {X : Cx}
theorem pe_m1 {pos p2 : Pos} {j : Nat} : PE X (.UnaryOp .USub (.Constant (.int 1) j p2) pos) tMinus1 := by
  exact PE.weak (pe_un un_neg pe_int) fun σ H Q q => ⟨1, rfl, q⟩
theorem de_rev {e st : Expr} {f : Env → M B D} {p2 pos : Pos} (h : DE cl B md W X e f) (hst : PE X st tMinus1) : DE cl B md W X (.Subscript e (.Slice none none (some st) p2) pos) (xRev f) := by
  refine PE.weak (pe_rev h hst) fun σ H Q ⟨Z, C, s, ρ, w, e, p⟩ => ?_
  refine ⟨Z, C, s, ρ, w, e, Post.seq w.ch p fun dx s1 x Z1 C1 H1 w1 n1 r1 p1 => ?_⟩
  obtain ⟨d, hd, q⟩ := post_lift w1 p1
  cases dx <;> (unfold revD at hd; cases hd)
  · cases r1 with
    | tup a b c =>
      rename_i xs a0 vs
      refine ⟨_, _, rfl, .inl ⟨sq_t (w1.zh _ _ a), fun pp hp => ?_⟩⟩
      have al : Al Z1 H1 (upz Z1 pp (.tup vs.reverse)) (upd H1 pp (.tup vs.reverse)) := .new w1.zh hp (fun _ z => nomatch z)
      exact q _ _ _ al (.tup upd_same (by rw [List.length_reverse]; exact b) ((repL_rev c).mono al.zz))
  · cases r1 with
    | slst a b c =>
      rename_i xs a0 vs
      refine ⟨_, _, rfl, .inr ⟨SqL.sub w1.zh a, fun pp hp => ?_⟩⟩
      have al : Al Z1 H1 (upz Z1 pp (.lst vs.reverse)) (upd H1 pp (.lst vs.reverse)) := .new w1.zh hp (fun _ z => nomatch z)
      exact q _ _ _ al (.lst upd_same (by rw [List.length_reverse]; exact b) ((repL_rev c).mono al.zz))
end
end DN
namespace DN
open PySem PySem.Spec PyProof.Rows L2 RZ ND
variable {B : Sto}
def immLs : D → Bool
  | .lst xs => D.immL xs
  | _ => false
@[simp] def sSetX (p : D → Bool) (i : Nat) (f : Env → M B D) : SEnv → M B Fl := fun ρ => M.bind (f (seeE p ρ)) fun d => guardM (immLs d) (M.pure (.nx (ρ.set i (.val d))))
@[simp] def sForX (p : D → Bool) (a : D → Option Asg) (f : Env → M B D) (F : SEnv → M B Fl) : SEnv → M B Fl := fun ρ => M.bind (f (seeE p ρ)) fun d => guardM (immLs d) (match d with
  | .lst ds => forL a F ds ρ
  | _ => fun _ => .stuck)
section
variable {cl : CTab} {md : Bool} {W : WX} {X : Cx} {p : D → Bool} {i : Nat} {x : Str}
def minZ : List Int → Option Int
  | [] => none
  | x :: xs => match minZ xs with
    | none => some x
    | some m => some (if x ≤ m then x else m)
theorem minZ_none : ∀ {xs : List Int}, minZ xs = none → xs = []
  | [], _ => rfl
  | x :: xs, h => by rw [minZ] at h; split at h <;> cases h
theorem minZ_ok : ∀ {xs : List Int} {m : Int}, minZ xs = some m → m ∈ xs ∧ ∀ y ∈ xs, m ≤ y
  | [], _, h => nomatch h
  | x :: xs, m, h => by
    rw [minZ] at h
    split at h
    · rename_i e
      cases h
      rw [minZ_none e]
      exact ⟨by simp, fun y hy => by rw [List.mem_singleton] at hy; omega⟩
    · rename_i m' e
      cases h
      obtain ⟨h1, h2⟩ := minZ_ok e
      split
      · rename_i hx
        exact ⟨List.mem_cons_self, fun y hy => by rcases List.mem_cons.mp hy with rfl | hy; omega; have := h2 y hy; omega⟩
      · rename_i hx
        exact ⟨List.mem_cons_of_mem _ h1, fun y hy => by rcases List.mem_cons.mp hy with rfl | hy; omega; exact h2 y hy⟩
def minLD : List D → Option D
  | [.lst ds] => (intsOf ds).bind fun ns => (minZ ns).map .int
  | _ => none
theorem repL_ints {K : PySem.W.Frag} {cl : CTab} {Z : Zp} : ∀ {ns : List Int} {vs : List V}, RepL K cl Z vs (ns.map D.int) → vs = ns.map V.int
  | [], _, r => by cases r; rfl
  | n :: ns, _, r => by
    cases r with
    | cons a b => cases a; rw [repL_ints b]; rfl
theorem v_minL {K : PySem.W.Frag} : CallV K cl (rMin K) minLD := by
  intro Z H xs dxs d Q h r e q
  unfold minLD at e
  split at e
  · rename_i ds
    obtain ⟨ns, h1, h2⟩ := Option.bind_eq_some_iff.mp e
    obtain ⟨m, h3, rfl⟩ := Option.map_eq_some_iff.mp h2
    obtain ⟨x, rfl, r1⟩ := repL1 r
    have hd := intsOf_eq h1
    subst hd
    cases r1 with
    | slst a b c =>
      have hv := repL_ints c
      subst hv
      obtain ⟨g1, g2⟩ := minZ_ok h3
      refine ⟨_, ns, rfl, SqL.sub h a, List.length_pos_of_mem g1, fun m' hm hle => ?_⟩
      have : m' = m := Int.le_antisymm (hle m g1) (g2 m' hm)
      subst this
      exact q _ Z H (.refl h) (.int _)
  · cases e
end
end DN
open PySem PySem.Spec PyProof.Rows L2 RZ
namespace DN
theorem OwnTL.setAt {K : PySem.W.Frag} {cl : CTab} {Z : Zp} {H : Hp} {v : V} {d : D} (hd : d.isMut = false) (r : Rep K cl Z v d) : ∀ {vs : List V} {F : Addr → Prop} {ds : List D} {j : Nat}, OwnTL K cl Z H F vs ds → OwnTL K cl Z H F (vs.set j v) (ds.set j d)
  | [], F, ds, j, t => by cases t; exact .nil
  | w :: vs, F, ds, j, t => by
    cases t with
    | cons a b c o f =>
      rename_i F1 F2 d1 ds1
      cases j with
      | zero => exact .cons (F1 := fun _ => False) (F2 := F2) (fun _ q => q.elim) b (fun _ q _ => q) (.leaf hd r) f
      | succ j => exact .cons a b c o (OwnTL.setAt hd r f)
section
variable {B : Sto} {cl : CTab} {md : Bool} {W : WX} {X : Cx} {p q : D → Bool} {i : Nat} {x : Str}
@[simp] def sPutL (p q : D → Bool) (i : Nat) (fk f : Env → M B D) : SEnv → M B Fl := fun ρ => match ρ[i]? with
  | some (.own (.lst ds)) => M.bind (f (seeE p ρ)) fun d => M.bind (fk (seeE pHide ρ)) fun y => match y with
    | .int kk => M.bind (lift (ixN ds.length kk)) fun j => guardM (q d && !d.isMut) (M.pure (.nx (ρ.set i (.own (.lst (ds.set j d))))))
    | _ => fun _ => .stuck
  | _ => fun _ => .stuck
theorem ds_putL {e k : Expr} {f fk : Env → M B D} {px tpos pos : Pos} (sp : See p md) (kp : Kp p q) (hv : PE X (.Name x px) (tVar i)) (hk : DE cl B true W X k fk) (he : DE cl B md W X e f)
    (hs : swapsWithSole [.Subscript (.Name x px) k tpos] e pos.line X.env = pure false := by rfl) (hw : swappedStores [.Subscript (.Name x px) k tpos] e X.env = pure none := by rfl) (h1 : (assignEach [.Subscript (.Name x px) k tpos] X.env).map (·.2) = [assign (.Subscript (.Name x px) k tpos) X.env] := by rfl)
    (ha : ∀ v, assign (.Subscript (.Name x px) k tpos) X.env v = (do
      let ov ← holding [v] (eval (.Name x px) X.env)
      let iv ← holding [v, ov] (eval k X.env)
      standAt tpos
      holding [v, ov, iv] (setItem ov iv v)
      release [v, ov, iv] []) := by intro _; rfl) :
    DS cl B W X (.Assign [.Subscript (.Name x px) k tpos] e pos) (sPutL p q i fk f) := by
  refine PS.weak (ps_asg he (pg_sub hv hk set_list ha) hs hw h1) fun E σ H ⟨Z0, C0, H0, Z, C, s, ρ, α, c0, w, n, r, q0⟩ => ?_
  unfold sPutL at q0
  cases hρ : ρ[i]? with
  | none => simp only [hρ] at q0; exact False.elim q0
  | some sl =>
    cases sl with
    | no => simp only [hρ] at q0; exact False.elim q0
    | val d => simp only [hρ] at q0; exact False.elim q0
    | own d =>
      cases d <;> (try (simp only [hρ] at q0; exact False.elim q0))
      rename_i ds
      simp only [hρ] at q0
      obtain ⟨a, _, hσ, _⟩ := own_lst r hρ
      refine ⟨seeZ p ρ α Z H, C, s, seeE p ρ, see_wd w r sp.nd, see_env sp r, PostS.seq sp w c0 n r q0 fun d s1 v Z1 C1 H1 w1 n1 r1 q1 => ?_⟩
      have u := see_un sp w c0 n r w1 n1
      refine ⟨_, hσ, ?_⟩
      have uw := u.wd; have un := u.nx; have ur := u.rel
      have rvu : q d = true → Rep X.K cl (unZ p ρ α Z1) v d := fun hq => u.rep kp hq r1
      generalize unZ p ρ α Z1 = Zu at uw un ur rvu
      refine ⟨seeZ pHide ρ α Zu H1, C1, s1, seeE pHide ρ, see_wd uw ur seeHide.nd, see_env seeHide ur, PostS.seq seeHide uw c0 un ur q1 fun y s2 vy Z2 C2 H2 w2 n2 r2 q2 => ?_⟩
      have u2 := see_un seeHide uw c0 un ur w2 n2
      have uw2 := u2.wd; have un2 := u2.nx; have ur2 := u2.rel
      rw [seeZ_hide pHide_no] at n2
      rw [unZ_hide pHide_no] at uw2 un2 ur2
      cases y <;> (try (exact False.elim q2))
      rename_i kk
      cases hj : ixN ds.length kk with
      | none => simp only [hj, lift] at q2; exact False.elim q2
      | some j =>
        simp only [hj, lift, bind_pure] at q2
        unfold guardM at q2
        split at q2
        · rename_i hq
          rw [Bool.and_eq_true] at hq
          obtain ⟨a', vs', hσ', fa', h1', h2', h3'⟩ := own_lst ur2 hρ
          obtain rfl : a' = a := by rw [hσ] at hσ'; cases hσ'; rfl
          cases r2
          have rv := (rvu hq.1).mono n2.zz
          have hml : d.isMut = false := by simpa using hq.2
          refine ⟨a', vs', kk, j, rfl, rfl, h1', by rw [h3'.len]; exact hj, ?_⟩
          obtain ⟨w3, n3, r3⟩ := own_mut (i := i) (o := .lst (vs'.set j v)) (d' := .lst (ds.set j d)) uw2 un2 ur2 hρ hσ fa' rfl (fun _ h => h)
            (.lst fa' upd_same (by rw [List.length_set]; exact h2') ((h3'.move (.refl _) fun x ob hx ho => by rw [upd_ne hx.2]; exact ho).setAt hml rv))
          exact q2 σ _ _ _ _ w3 n3 r3
        · exact False.elim q2
end
end DN
namespace DN
open PySem PySem.Spec PyProof.Rows L2 RZ ND
variable {B : Sto}
def noI (i : Nat) (m : M B Fl) : M B Fl := M.bind m fun fl => match fl with
  | .nx ρ => M.pure (.nx (ρ.set i .no))
  | .bk ρ => M.pure (.bk (ρ.set i .no))
  | .ct ρ => M.pure (.ct (ρ.set i .no))
  | o => M.pure o
@[simp] def sTryAs (i : Nat) (F : SEnv → M B Fx) (t : Str → Option Bool) (G : Exn → SEnv → M B Fl) : SEnv → M B Fl := fun ρ => M.bind (noErr (F ρ)) fun r => match r with
  | .fl f => M.pure f
  | .ex x ρ' => if i < ρ'.length then (match t x.c with
    | some true => noI i (noErr (G x (ρ'.set i .no)))
    | some false => fun s => .err x s
    | none => fun _ => .stuck) else fun _ => .stuck
theorem ExR.next {K : PySem.W.Frag} {cl : CTab} {Z Z1 : Zp} {C H C1 H1 : Hp} {x : Exn} {c : Value} {dx : Option Addr} (h : ExR K cl Z C x c dx H) (n : Nx Z C H Z1 C1 H1) : ExR K cl Z1 C1 x c dx H1 := by
  obtain ⟨A, fs, h1, h2, h3⟩ := h
  refine ⟨A, fs, h1, h2, ?_⟩
  cases hf : x.f with
  | none => rw [hf] at h3; exact h3
  | some d =>
    rw [hf] at h3
    obtain ⟨f, v, a, q1, q2, q3, q0, q4, q5⟩ := h3
    refine ⟨f, v, a, q1, q2, n.hh _ _ q3 q0, ?_, q4, q5.mono n.zz d⟩
    cases e : C1 a with
    | none => rfl
    | some o =>
      rcases n.cf a (some_ne e) with z | z
      · exact absurd q0 z
      · rw [q3] at z; cases z
@[simp] def xEf (x : Exn) : Env → M B D := fun _ => match x.f with
  | some d => M.pure d
  | none => fun _ => .stuck
end DN
namespace DN
open PySem PySem.Spec PyProof.Rows L2 RZ ND
variable {B : Sto}
structure Landed (X : Cx) (pins : List (Addr × Obj)) (σ : L2.St) (H : Hp) (p : Addr) (cl : Value) (dx : Option Addr) (sc : Shared) (Bs : Heap) (sI : Shared) : Prop where
  inv : Inv X pins σ H sI
  nb : ∀ b o, sI.heap.get? b = some o → b ∉ frs X.stack → Bs.get? b = some o
  up : sI.heap.UpToSlots sc.heap
  fly : HandSPX.FlyingZ Bs (X.env :: X.outer) p (Zc cl dx) sc.heap
  na : H p = none
  os : sc.os = sI.os
  ag : AllBare sc.gens
section
variable {X : Cx} {pins : List (Addr × Obj)} {σ : L2.St} {H : Hp} {p : Addr} {cl : Value} {dx : Option Addr} {sc sI : Shared} {Bs : Heap}
theorem Landed.here (L : Landed X pins σ H p cl dx sc Bs sI) (hf : X.env.frame = some X.env.locals) : ∃ (o : Obj) (fs : Array Value), sc.heap.get? p = some o ∧ Zc cl dx o ∧ o.data = .fields fs ∧ Inv (X.suite p ((p, o) :: (X.pn ++ pins))) [] σ H sc := by
  obtain ⟨o, fs, g, z, e⟩ := L.fly.there
  have off : p ∉ frs (X.env :: X.outer) := fun m => by
    obtain ⟨_, o2, g2, q⟩ := L.fly.2.2.1.mem m
    cases g.symm.trans g2
    exact q _ e
  refine ⟨o, fs, g, z, e, (L.inv.landed L.nb L.fly.1 L.up L.os L.ag).suite g e L.na (fun q => off ?_) fun m => ?_⟩
  · exact List.mem_filterMap.mpr ⟨_, .head _, hf.trans (congrArg some q.symm)⟩
  · obtain ⟨v, m1, m2⟩ := List.mem_filterMap.mp m
    exact off (List.mem_filterMap.mpr ⟨v, .tail _ m1, m2⟩)
theorem Landed.again (L : Landed X pins σ H p cl dx sc Bs sI) {h : Heap} (f : HandSPX.FlyingZ Bs (X.env :: X.outer) p (Zc cl dx) h) (u : sc.heap.UpToSlots h) : Landed X pins σ H p cl dx { sc with heap := h } Bs sI :=
  ⟨L.inv, L.nb, L.up.trans u, f, L.na, L.os, L.ag⟩
end
structure Cl1 (B : Sto) where
  t : Str → Option Bool
  o : Option Nat
  G : Exn → SEnv → M B Fl
def hGoN : List (Cl1 B) → Exn → SEnv → M B Fl
  | [], x, _ => fun s => .err x s
  | ⟨t, none, G⟩ :: r, x, ρ => match t x.c with
    | some true => noErr (G x ρ)
    | some false => hGoN r x ρ
    | none => fun _ => .stuck
  | ⟨t, some i, G⟩ :: r, x, ρ => if i < ρ.length then (match t x.c with
    | some true => noI i (noErr (G x (ρ.set i .no)))
    | some false => hGoN r x ρ
    | none => fun _ => .stuck) else fun _ => .stuck
@[simp] def sTryN (F : SEnv → M B Fx) (hs : List (Cl1 B)) : SEnv → M B Fl := fun ρ => M.bind (noErr (F ρ)) fun r => match r with
  | .fl f => M.pure f
  | .ex x ρ' => hGoN hs x ρ'
end DN
namespace DN
open PySem PySem.Spec PyProof.Rows L2 RZ ND
variable {B : Sto}
@[simp] def xIsE (x : Exn) (t : Str → Option Bool) : DN.Env → M B D := fun _ => match t x.c with
  | some b => M.pure (.bl b)
  | none => fun _ => .stuck
end DN
namespace DN
open PySem PySem.Spec PyProof.Rows L2 RZ ND
variable {B : Sto}
mutual
def D.pq : D → PyData
  | .non => .none
  | .bl b => .bool b
  | .int i => .int i
  | .str x => .str x
  | .tup xs => .tuple (D.pqL xs)
  | .lst xs => .list (D.pqL xs)
  | .dct ks ds => .dict ((D.pqL ks).zip (D.pqL ds))
  | _ => .dict []
def D.pqL : List D → List PyData
  | [] => []
  | d :: ds => d.pq :: D.pqL ds
end
mutual
theorem pq_plain : ∀ d : D, d.plain = true → d.pq = d.py
  | .non, _ => by simp only [D.pq, D.py]
  | .bl b, _ => by simp only [D.pq, D.py]
  | .int i, _ => by simp only [D.pq, D.py]
  | .str x, _ => by simp only [D.pq, D.py]
  | .tup xs, h => by simp only [D.pq, D.py]; rw [pqL_plain xs (by simpa [D.plain] using h)]
  | .lst xs, h => by simp only [D.pq, D.py]; rw [pqL_plain xs (by simpa [D.plain] using h)]
  | .dct ks ds, h => by simp [D.plain] at h
  | .ins c ds, h => by simp [D.plain] at h
  | .ref a, h => by simp [D.plain] at h
theorem pqL_plain : ∀ ds : List D, D.plainL ds = true → D.pqL ds = D.pyL ds
  | [], _ => by simp only [D.pqL, D.pyL]
  | d :: ds, h => by
    have h2 : d.plain = true ∧ D.plainL ds = true := by simpa [D.plainL] using h
    simp only [D.pqL, D.pyL]
    rw [pq_plain d h2.1, pqL_plain ds h2.2]
end
def D.low : D → Bool
  | .int _ => true
  | .str _ => true
  | _ => false
mutual
def D.rp2 : D → Bool
  | .tup xs => D.rp2L xs
  | .dct ks ds => ks.all D.low && (decide (ks.length = ds.length) && D.rp2L ds)
  | .non => true
  | .bl _ => true
  | .int _ => true
  | .str _ => true
  | _ => false
def D.rp2L : List D → Bool
  | [] => true
  | d :: ds => d.rp2 && D.rp2L ds
end
mutual
def D.sh : D → Bool
  | .non => true
  | .bl _ => true
  | .int i => decide (i.natAbs < 10 ^ 12)
  | .str x => x.cps.toList.all fun c => decide (c < 128)
  | .tup xs => D.shL xs
  | .lst xs => D.shL xs
  | .dct ks ds => D.shL ks && D.shL ds
  | _ => false
def D.shL : List D → Bool
  | [] => true
  | d :: ds => d.sh && D.shL ds
end
def D.shows (d : D) : Bool := (d.plain || d.rp2) && (d.sh && (decide (d.pq.depth ≤ 60) && decide (d.pq.weight ≤ 2 ^ 20)))
theorem zipP_fst : ∀ {xs ys : List PyData}, xs.length = ys.length → (xs.zip ys).map (·.1) = xs
  | [], [], _ => rfl
  | x :: xs, y :: ys, h => by simp [zipP_fst (xs := xs) (ys := ys) (by simpa using h)]
theorem zipP_snd : ∀ {xs ys : List PyData}, xs.length = ys.length → (xs.zip ys).map (·.2) = ys
  | [], [], _ => rfl
  | x :: xs, y :: ys, h => by simp [zipP_snd (xs := xs) (ys := ys) (by simpa using h)]
def keyP : Key → PyData
  | .inl i => .int i
  | .inr x => .str x
mutual
inductive Dq (K : PySem.W.Frag) (H : Hp) : V → PyData → Prop
  | non : Dq K H .non .none
  | bl (b : Bool) : Dq K H (.bl b) (.bool b)
  | int (i : Int) : Dq K H (.int i) (.int i)
  | str (x : Str) : Dq K H (.str x) (.str x)
  | tup {a : Addr} {xs : List V} {ds : List PyData} : SqT K H a xs → DqAll K H xs ds → Dq K H (.ref a) (.tuple ds)
  | dct {a : Addr} {l : List (Key × V)} {ps qs : List PyData} : Rd H a (.dK l) → ps = l.map (fun p => keyP p.1) → DqAll K H (l.map (·.2)) qs → Dq K H (.ref a) (.dict (ps.zip qs))
inductive DqAll (K : PySem.W.Frag) (H : Hp) : List V → List PyData → Prop
  | nil : DqAll K H [] []
  | cons {v : V} {vs : List V} {d : PyData} {ds : List PyData} : Dq K H v d → DqAll K H vs ds → DqAll K H (v :: vs) (d :: ds)
end
section
variable {X : Cx} {pins : List (Addr × Obj)} {σ : L2.St} {H : Hp} {s : Shared}
theorem keys_read {h : Heap} : ∀ {es : List DictEntry} {kvs : List (Key × Value)}, Pairs (mixKind X.prog X.w) es kvs → ∃ as, ReadsAll h (es.map (·.key)) (kvs.map fun p => keyP p.1) as ∧ sysModules ∉ as
  | _, _, .nil => ⟨[], .nil, fun m => nomatch m⟩
  | _, _, .cons (e := e) (kv := kv) h1 h2 t => by
    obtain ⟨as, r, n⟩ := keys_read t
    have h1 : keyIs kv.1 e.key = true := h1
    rcases keyIs_shape h1 with ⟨i, tk, e1, e2⟩ | ⟨x, tk, e1, e2⟩
    · refine ⟨[] ++ as, ?_, by simpa using n⟩
      show ReadsAll _ (e.key :: _) (keyP kv.1 :: _) _
      rw [e1, e2]
      exact .cons (.int i tk) r
    · refine ⟨[] ++ as, ?_, by simpa using n⟩
      show ReadsAll _ (e.key :: _) (keyP kv.1 :: _) _
      rw [e1, e2]
      exact .cons (.str x tk) r
theorem rAll_len {h : Heap} : ∀ {us : List Value} {ds : List PyData} {as : List Addr}, ReadsAll h us ds as → us.length = ds.length
  | _, _, _, .nil => rfl
  | _, _, _, .cons _ t => by rw [List.length_cons, List.length_cons, rAll_len t]
theorem vals_of_pairs : ∀ {es : List DictEntry} {kvs : List (Key × Value)}, Pairs (mixKind X.prog X.w) es kvs → es.map (·.val) = kvs.map (·.2)
  | _, _, .nil => rfl
  | _, _, .cons h1 h2 t => by rw [List.map_cons, List.map_cons, h2, vals_of_pairs t]
theorem kv_keys : ∀ {l : List (Key × V)} {vs : List (Key × Value)}, KV l vs → l.map (fun p => keyP p.1) = vs.map fun p => keyP p.1
  | _, _, .nil => rfl
  | _, _, .cons h t => by rw [List.map_cons, List.map_cons, h.1, kv_keys t]
theorem kv_vals : ∀ {l : List (Key × V)} {vs : List (Key × Value)}, KV l vs → Vals (l.map (·.2)) (vs.map (·.2))
  | _, _, .nil => .nil
  | _, _, .cons h t => .cons h.2 (kv_vals t)
mutual
theorem Dq.reads (I : Inv X pins σ H s) : ∀ {v : V} {d : PyData}, Dq X.K H v d → ∀ (u : Value), RelV v u → ∃ as, Reads s.heap u d as ∧ sysModules ∉ as
  | _, _, .non, _, r => by cases r; exact ⟨_, .none, fun m => nomatch m⟩
  | _, _, .bl b, _, r => by cases r; exact ⟨_, .bool b, fun m => nomatch m⟩
  | _, _, .int i, _, r => by obtain ⟨t, rfl⟩ := r; exact ⟨_, .int i t, fun m => nomatch m⟩
  | _, _, .str x, _, r => by obtain ⟨t, rfl⟩ := r; exact ⟨_, .str x t, fun m => nomatch m⟩
  | _, _, .tup hs ha, _, r => by
    cases r
    obtain ⟨its, rv, ⟨o, ho, hc, n, hd⟩, _⟩ := I.tuple hs
    obtain ⟨as, hr, hn⟩ := Dq.readsAll I ha _ rv
    exact ⟨as, .tuple ho hc hd hr, hn⟩
  | _, _, .dct (a := a) (l := l) (ps := ps) (qs := qs) hd hp ha, _, r => by
    cases r
    have ob : ObjOk X.prog X.w H s.heap a (.dK l) := by
      rcases hd with h | ⟨o, h⟩
      · exact I.hok a _ h
      · exact (I.hok a _ h).2
    obtain ⟨_, ne, vs, kv, dict⟩ := ob
    obtain ⟨o, es, ep, ho, hx, hd, _, hpr, _⟩ := dict
    obtain ⟨as, r1, n1⟩ := keys_read (X := X) (h := s.heap) hpr
    obtain ⟨bs, r2, n2⟩ := Dq.readsAll I ha (vs.map (·.2)) (kv_vals kv)
    rw [← kv_keys kv] at r1
    rw [← vals_of_pairs hpr] at r2
    have ln : ps.length = qs.length := by
      have l1 := rAll_len r1
      have l2 := rAll_len r2
      rw [hp]
      simp at l1 l2 ⊢
      omega
    refine ⟨a :: as ++ bs, .dict ho hx.1 hd (by rw [zipP_fst ln, hp]; exact r1) (by rw [zipP_snd ln]; exact r2), fun m => ?_⟩
    simp only [List.cons_append, List.mem_cons, List.mem_append] at m
    rcases m with m | m | m
    · rw [← m] at ne
      simp at ne
    · exact n1 m
    · exact n2 m
theorem Dq.readsAll (I : Inv X pins σ H s) : ∀ {vs : List V} {ds : List PyData}, DqAll X.K H vs ds → ∀ (us : List Value), Vals vs us → ∃ as, ReadsAll s.heap us ds as ∧ sysModules ∉ as
  | _, _, .nil, _, r => by cases r; exact ⟨[], .nil, fun m => nomatch m⟩
  | _, _, .cons h1 h2, _, r => by
    cases r with
    | cons r1 r2 =>
      obtain ⟨a1, q1, n1⟩ := Dq.reads I h1 _ r1
      obtain ⟨a2, q2, n2⟩ := Dq.readsAll I h2 _ r2
      exact ⟨a1 ++ a2, .cons q1 q2, fun m => (List.mem_append.mp m).elim n1 n2⟩
end
end
end DN
namespace DN
open PySem PySem.Spec PyProof.Rows L2 RZ ND
variable {B : Sto}
@[simp] def sAsgI (p : D → Bool) (a : D → Option Asg) (f : Env → M B D) : SEnv → M B Fl := fun ρ => M.bind (f (seeE p ρ)) fun d => guardM d.imm (M.bind (lift (a d)) fun as => M.pure (.nx (setsS ρ as)))
end DN
namespace DN
open PySem PySem.Spec PyProof.Rows L2 RZ ND
variable {B : Sto}
end DN
namespace DN
open PySem PySem.Spec PyProof.Rows L2 RZ ND
def noLists (K : PySem.W.Frag) : Bool := K.all fun p => match p.2.cls with
  | .type n => !(n == "list")
  | _ => true
theorem lookup_mem {K : PySem.W.Frag} {a : Addr} {o : Obj} (h : K.lookup a = some o) : (a, o) ∈ K := by
  induction K with
  | nil => cases h
  | cons p K ih =>
    obtain ⟨b, u⟩ := p
    rw [List.lookup_cons] at h
    by_cases e : a = b
    · subst e
      simp at h
      rw [h]
      exact List.mem_cons_self
    · rw [show (a == b) = false by simpa using e] at h
      exact List.mem_cons_of_mem _ (ih h)
theorem sqR_of {K : PySem.W.Frag} {H : Hp} {a : Addr} {xs : List V} (hk : noLists K = true) (h : SqL K H a xs) : SqR K H a xs := by
  rcases h with h | ⟨o, its, n, h1, h2, _⟩
  · exact .inl h
  · have := List.all_eq_true.mp hk _ (lookup_mem h1)
    simp only [h2] at this
    cases this
def startV (m : Nat) (ns : List Int) : SEnv := .val (.lst (ns.map .int)) :: List.replicate (m - 1) .no
def mem0 : Mem := ⟨fun _ => none, 0⟩
theorem law_startV {K : PySem.W.Frag} {cl : CTab} {m : Nat} {a : Addr} {H : Hp} {ns : List Int} {W : WX} {F : SEnv → M (MemS K cl) Fl} {E : Ends} {σ : L2.St} (hσ : σ = some (.ref a) :: List.replicate (m - 1) none)
    (hS : SqR K H a (ns.map V.int)) (hl : ns.length ≤ 63) (hF : ∃ s', F (startV m ns) mem0 = .ok (.rt (.bl true)) s') (hE : ∀ H', E.rt (.bl true) H') :
    tS K cl (MemS K cl) W F E σ H := by
  subst hσ
  let Z : Zp := ⟨fun x => if x = a then H a else none, fun _ => none⟩
  have za : Z.h a = H a := if_pos rfl
  have zs : Sub Z.h H := fun x o e => by
    have e : (if x = a then H a else none) = some o := e
    split at e
    · rename_i h; rw [h]; exact e
    · cases e
  have sz : SqR K Z.h a (ns.map V.int) := by
    rcases hS with (h | ⟨o, h⟩) | h
    · exact .inl (.inl (za.trans h))
    · exact .inl (.inr ⟨o, za.trans h⟩)
    · exact .inr h
  have w : Wd (MemS K cl) true Z (fun _ => none) H mem0 :=
    { zh := zs, ch := (fun x o e => nomatch e), dj := (fun x e => absurd rfl e),
      sr := ⟨(fun k e => rfl), (fun k d e => nomatch e), (fun i j a e1 e2 => nomatch e1), (fun x e => absurd rfl e), (fun k e => rfl)⟩ }
  refine ⟨Z, fun _ => none, _, Z, fun _ => none, mem0, startV m ns, fun _ _ => False, (fun x o e => nomatch e), w, .refl .., ?_, ?_⟩
  · have noown : ∀ (i : Nat) (d : D), (startV m ns)[i]? ≠ some (.own d) := fun i d q => by
      unfold startV at q
      match i with
      | 0 => simp at q
      | i + 1 =>
        simp only [List.getElem?_cons_succ, List.getElem?_replicate] at q
        split at q <;> cases q
    refine ⟨by simp [startV], fun i d q => ?_, fun i d q => absurd q (noown i d), fun i d x q => absurd q (noown i d), fun i j d e x q => absurd q (noown i d)⟩
    unfold startV at q
    match i with
    | 0 =>
      simp at q
      subst q
      exact ⟨_, rfl, .slst sz (by rw [List.length_map]; exact Nat.le_trans hl (by decide)) (repL_num ns)⟩
    | i + 1 =>
      simp only [List.getElem?_cons_succ, List.getElem?_replicate] at q
      split at q <;> cases q
  · obtain ⟨s', e⟩ := hF
    rw [e]
    intro v Z1 C1 H1 _ _ r
    cases r
    exact hE H1
end DN
namespace DN
open PySem PySem.Spec PyProof.Rows L2 RZ ND
section
variable {cl : CTab} {md : Bool} {W : WX} {X : Cx}
@[simp] abbrev xGetM {K : PySem.W.Frag} {cl : CTab} (fo fk fx : Env → M (MemS K cl) D) : Env → M (MemS K cl) D := fun ρ => M.bind (fo ρ) fun x => M.bind (rdD x) fun _ => M.bind (fk ρ) fun y => M.bind (fx ρ) fun z => M.bind (rdD x) fun p => lift (getDD p y z)
end
def prsOf : List D → Option (List (D × D))
  | [] => some []
  | .tup [k, d] :: r => (prsOf r).map fun l => (k, d) :: l
  | _ => none
def dictPD : D → Option D
  | .lst ds => (prsOf ds).bind fun l => putAll0 [] [] l
  | _ => none
section
variable {cl : CTab} {md : Bool} {W : WX} {X : Cx}
@[simp] abbrev xDictP {B : Sto} (f : Env → M B D) : Env → M B D := fun ρ => M.bind (f ρ) fun x => lift (dictPD x)
def dictCD : D → Option D
  | .dct ks ds => if kindT ks = false then some (.dct ks ds) else none
  | _ => none
@[simp] abbrev xDictC {B : Sto} (f : Env → M B D) : Env → M B D := fun ρ => M.bind (f ρ) fun x => lift (dictCD x)
end
end DN
namespace DN
open PySem PySem.Spec PyProof.Rows L2 RZ ND
def addLD : D → D → Option D
  | .lst xs, .lst ys => if xs.length + ys.length ≤ sizeLine then some (.lst (xs ++ ys)) else none
  | _, _ => none
@[simp] abbrev xAddL {B : Sto} (f g : Env → M B D) : Env → M B D := fun ρ => M.bind (f ρ) fun x => M.bind (g ρ) fun y => lift (addLD x y)
@[simp] def sPutX {B : Sto} (p : D → Bool) (i : Nat) (fk f : Env → M B D) : SEnv → M B Fl := fun ρ => match ρ[i]? with
  | some (.own (.dct ks ds)) => M.bind (f (seeE p ρ)) fun d => guardM (immLs d) (M.bind (fk (seeE pHide ρ)) fun k => M.bind (lift k.key) fun k => guardM (yes d && !d.isMut && decide (ks.length < sizeLine) && okK ks k) (M.pure (.nx (ρ.set i (.own (.dct (putKs ks k) (putVs ks ds k d)))))))
  | _ => fun _ => .stuck
def listDA : List D → Option D
  | [.dct ks ds] => if ks.length ≤ sizeLine then some (.lst ks) else none
  | x => listD x
@[simp] abbrev xListA {B : Sto} (f : Env → M B D) : Env → M B D := fun ρ => M.bind (f ρ) fun x => lift (listDA [x])
end DN
namespace DN
open PySem PySem.Spec PyProof.Rows L2 RZ ND
@[simp] def sSetCI {B : Sto} (p : D → Bool) (i : Nat) (f : List D → M B D) (fa : Env → M B (List D)) : SEnv → M B Fl := fun ρ => M.bind (fa (seeE p ρ)) fun us => guardM (us.all D.imm) (M.bind (f us) fun d => M.pure (.nx (ρ.set i (.val d))))
end DN
namespace DN
open PySem PySem.Spec PyProof.Rows L2 RZ ND
def dropKs (ks : List D) (k : GK) : List D := ks.filter fun x => !decide (x.key = some k)
def dropVs : List D → List D → GK → List D
  | x :: ks, y :: ds, k => if x.key = some k then dropVs ks ds k else y :: dropVs ks ds k
  | _, _, _ => []
@[simp] def sPopK {B : Sto} (i : Nat) (fk : Env → M B D) : SEnv → M B Fl := fun ρ => match ρ[i]? with
  | some (.own (.dct ks ds)) => guardM (!kindT ks) (M.bind (fk (seeE pHide ρ)) fun y => M.bind (lift y.key) fun k => guardM (!k.isT && hasK ks k) (M.pure (.nx (ρ.set i (.own (.dct (dropKs ks k) (dropVs ks ds k)))))))
  | _ => fun _ => .stuck
end DN
namespace DN
open PySem PySem.Spec PyProof.Rows L2 RZ ND
@[simp] def sClrK {B : Sto} (i : Nat) : SEnv → M B Fl := fun ρ => match ρ[i]? with
  | some (.own (.dct ks ds)) => guardM (!kindT ks) (M.pure (.nx (ρ.set i (.own (.dct [] [])))))
  | _ => fun _ => .stuck
end DN
namespace DN
open PySem PySem.Spec PyProof.Rows L2 RZ ND
variable {B : Sto}
end DN
namespace DN
open PySem PySem.Spec PyProof.Rows L2 RZ ND
@[simp] def sPutK {B : Sto} (p q p2 : D → Bool) (i : Nat) (fk f : Env → M B D) : SEnv → M B Fl := fun ρ => match ρ[i]? with
  | some (.own (.dct ks ds)) => M.bind (f (seeE p ρ)) fun d => M.bind (fk (seeE p2 ρ)) fun k => guardM k.imm (M.bind (lift k.key) fun k => guardM (q d && !d.isMut && decide (ks.length < sizeLine) && okK ks k) (M.pure (.nx (ρ.set i (.own (.dct (putKs ks k) (putVs ks ds k d)))))))
  | _ => fun _ => .stuck
end DN
namespace DN
open PySem PySem.Spec PyProof.Rows L2 RZ ND
def rhsOk (pr : List (Str × Str)) (c : Str) : D → Bool
  | .ins c' _ => decide ((c, c') ∈ pr)
  | .ref _ => false
  | _ => true
def noErrM {B : Sto} (m : M B D) : M B D := fun s => match m s with
  | .err _ _ => .stuck
  | r => r
def cmpO {B : Sto} (neg : Bool) (dom : List Str) (pr : List (Str × Str)) (f : List D → M B D) (x y : D) : M B D := match x with
  | .ins c vs => if c ∈ dom ∧ rhsOk pr c y = true then M.bind (noErrM (f [.ins c vs, y])) fun r => lift (r.asB.map fun k => .bl (k != neg)) else fun _ => .stuck
  | x => lift ((if neg = true then neD else eqD) x y)
@[simp] abbrev xCmO {B : Sto} (neg : Bool) (dom : List Str) (pr : List (Str × Str)) (f : List D → M B D) (f1 f2 : Env → M B D) : Env → M B D := fun ρ => M.bind (f1 ρ) fun x => M.bind (f2 ρ) fun y => cmpO neg dom pr f x y
@[simp] abbrev tCmO {B : Sto} (neg : Bool) (dom : List Str) (pr : List (Str × Str)) (f : List D → M B D) (f1 f2 : Env → M B D) : Env → M B Bool := fun ρ => M.bind (f1 ρ) fun x => M.bind (f2 ρ) fun y => M.bind (cmpO neg dom pr f x y) fun r => lift r.asB
end DN
namespace DN
open PySem PySem.Spec PyProof.Rows L2 RZ ND
def freshOk : D → Bool
  | .lst xs => D.immL xs && xs.all fun d => !d.isMut
  | _ => false
@[simp] def sOwnX {B : Sto} (p : D → Bool) (i : Nat) (f : Env → M B D) : SEnv → M B Fl := fun ρ => M.bind (f (seeE p ρ)) fun d => guardM (freshOk d) (M.pure (.nx (ρ.set i (.own d))))
@[simp] def sForS {B : Sto} (p : D → Bool) (a : D → Option Asg) (f : Env → M B D) (F : SEnv → M B Fl) : SEnv → M B Fl := fun ρ => M.bind (f (seeE p ρ)) fun d => M.bind (lift (range1 d)) fun ds => forL a F ds ρ
def noMut (ds : List D) : Bool := ds.all fun d => !d.isMut
@[simp] def sOwnAdd {B : Sto} (i : Nat) (f : Env → M B D) : SEnv → M B Fl := fun ρ => match ρ[i]? with
  | some (.own (.lst ds)) => M.bind (f (seeE pHide ρ)) fun d => match d with
    | .lst es => guardM (decide (ds.length + es.length ≤ sizeLine) && noMut (ds ++ es)) (M.pure (.nx (ρ.set i (.own (.lst (ds ++ es))))))
    | _ => fun _ => .stuck
  | _ => fun _ => .stuck
section
variable {B : Sto} {cl : CTab} {md : Bool} {W : WX} {X : Cx} {p : D → Bool} {i : Nat} {x : Str}
def intOf : D → Option Int
  | .int j => some j
  | _ => none
@[simp] def sInsO {B : Sto} (i : Nat) (f1 f2 : Env → M B D) : SEnv → M B Fl := fun ρ => match ρ[i]? with
  | some (.own (.lst xs)) => M.bind (f1 (seeE pAll ρ)) fun a => M.bind (lift (intOf a)) fun j => M.bind (f2 (seeE pHide ρ)) fun d => M.bind (lift (mutO yes insG xs [.int j, d])) fun r => M.pure (.nx (ρ.set i (.own (.lst r.2))))
  | _ => fun _ => .stuck
end
end DN
namespace DN
open PySem PySem.Spec PyProof.Rows L2 RZ ND
@[simp] def sPutXO {B : Sto} (p : D → Bool) (i : Nat) (fk f : Env → M B D) : SEnv → M B Fl := fun ρ => match ρ[i]? with
  | some (.own (.dct ks ds)) => M.bind (f (seeE p ρ)) fun d => guardM (freshOk d) (M.bind (fk (seeE pHide ρ)) fun k => M.bind (lift k.key) fun k => guardM (decide (ks.length < sizeLine) && okK ks k) (M.pure (.nx (ρ.set i (.own (.dct (putKs ks k) (putVs ks ds k (.ins "" [d]))))))))
  | _ => fun _ => .stuck
end DN
namespace DN
open PySem PySem.Spec PyProof.Rows L2
def txOf (e : Int × Value) : Str := match e.2 with
  | .str x _ => x
  | _ => ""
structure TxOk (w : World) (es : Array (Int × Value)) (ks : List Str) : Prop where
  el : ∀ e ∈ es.toList, ∃ x tk, e.2 = Value.str x tk ∧ e.1 = hashStr w x
  nd : (es.toList.map txOf).Nodup
  mem : ∀ x, x ∈ es.toList.map txOf ↔ x ∈ ks
  len : es.size ≤ ks.length
theorem TxOk.nil {w : World} : TxOk w #[] [] := ⟨fun e h => (nomatch h), List.nodup_nil, fun x => Iff.rfl, Nat.le_refl _⟩
theorem TxOk.perm {w : World} {es es' : Array (Int × Value)} {ks : List Str} (h : TxOk w es ks) (p : es'.toList.Perm es.toList) : TxOk w es' ks where
  el e he := h.el e (p.mem_iff.mp he)
  nd := (p.map txOf).nodup_iff.mpr h.nd
  mem x := (p.map txOf).mem_iff.trans (h.mem x)
  len := by have := p.length_eq; have := h.len; simp at *; omega
theorem TxOk.same {w : World} {es : Array (Int × Value)} {ks : List Str} {x : Str} (h : TxOk w es ks) (hx : x ∈ ks) : TxOk w es (ks ++ [x]) where
  el := h.el
  nd := h.nd
  mem y := by
    rw [h.mem, List.mem_append, List.mem_singleton]
    exact ⟨.inl, fun z => z.elim id fun e => e ▸ hx⟩
  len := by have := h.len; simp; omega
theorem TxOk.more {w : World} {es es' : Array (Int × Value)} {ks : List Str} {x : Str} {tk : Tok} (h : TxOk w es ks) (hx : x ∉ ks) (p : es'.toList.Perm ((hashStr w x, Value.str x tk) :: es.toList)) : TxOk w es' (ks ++ [x]) where
  el e he := by
    rcases List.mem_cons.mp (p.mem_iff.mp he) with rfl | he
    · exact ⟨x, tk, rfl, rfl⟩
    · exact h.el e he
  nd := by
    rw [(p.map txOf).nodup_iff, List.map_cons, List.nodup_cons]
    exact ⟨fun z => hx ((h.mem x).mp z), h.nd⟩
  mem y := by
    rw [(p.map txOf).mem_iff, List.map_cons, List.mem_cons, h.mem, List.mem_append, List.mem_singleton]
    exact Or.comm
  len := by have := p.length_eq; have := h.len; simp at *; omega
theorem TxOk.elems {P : Program} {w : World} {es : Array (Int × Value)} {ks : List Str} (h : TxOk w es ks) : ElemsOf (strKind P w) es.toList := fun e he => by
  obtain ⟨x, tk, e1, e2⟩ := h.el e he
  refine ⟨⟨x, ?_, e2⟩, ?_⟩
  · rw [e1]; exact beq_self_eq_true x
  · rw [e1]; rfl
theorem TxOk.is {P : Program} {w : World} {es : Array (Int × Value)} {ks : List Str} (h : TxOk w es ks) {e : Int × Value} (he : e ∈ es.toList) (x : Str) : (strKind P w).is x e.2 = true ↔ txOf e = x := by
  obtain ⟨y, tk, e1, _⟩ := h.el e he
  unfold txOf
  rw [e1]
  show (y == x) = true ↔ y = x
  exact beq_iff_eq
structure TxTab (w : World) (n : Nat) (t : SetTable) : Prop where
  fit : t.fits n = true
  ris : Ris t.place.toList
  led : w.params.followText "set-order" = true ∨ t.led = true
def TxSet (w : World) (h : Heap) (a : Addr) (ks : List Str) : Prop := ∃ o es ep t, h.get? a = some o ∧ o.ExactSet ∧ o.data = .set es ep t ∧ TxOk w es ks ∧ es.size < scanBound ∧ TxTab w es.size t
theorem TxSet.at {w : World} {h h' : Heap} {a : Addr} {ks : List Str} (R : TxSet w h a ks) (k : ∀ o, h.get? a = some o → h'.get? a = some o) : TxSet w h' a ks := by
  obtain ⟨o, es, ep, t, ho, r⟩ := R
  exact ⟨o, es, ep, t, k o ho, r⟩
section
variable {P : Program} {w : World} {A : Around} {E : Value → Shared → Prop} {s : Shared} {a : Addr} {ks : List Str}
theorem tx_keep {g : Bool → Sem Unit} (hg : ∀ (b : Bool) (u : Shared) (q : Unit → Shared → Prop), q () u → wpAny (model P w) A (g b) q E u) {o : Obj} {es es1 : Array (Int × Value)} {ep : Nat} {t t1 : SetTable}
    (ho : s.heap.get? a = some o) (hx : o.ExactSet) (hd : o.data = .set es ep t) (h1 : TxOk w es1 ks) (hb : es1.size < scanBound) (h2 : TxTab w es1.size t1) {wd : Bool} {R : Option Bool → Shared → Prop}
    (hR : ∀ h', Heap.SameBut a s.heap h' → TxSet w h' a ks → R (some true) { s with heap := h' }) :
    wpAny (model P w) A (storeSet a es1 t1 >>= fun _ => if (!wd && t1.tooFull) = true then (g (relayAll t1 es1 (SetTable.grown es1.size)).2.2 >>= fun _ => storeSet a (relayAll t1 es1 (SetTable.grown es1.size)).1 (relayAll t1 es1 (SetTable.grown es1.size)).2.1 >>= fun _ => pure (some true)) else pure (some true)) R E s := by
  have o1 := store_at (es' := es1) (t' := t1) ho hd
  have b1 := Heap.SameBut.update s.heap a (Obj.putSet es1 t1)
  refine wpAny_bind (wpAny_storeSet_of ho hd ?_ (fits_of_scanBound hb))
  by_cases hf : (!wd && t1.tooFull) = true
  · rw [if_pos hf]
    have p1 := relayAll_perm t1 es1 (SetTable.grown es1.size)
    have p2 := relayAll_fits t1 es1 (SetTable.grown es1.size)
    have p3 := relayAll_ris t1 es1 (SetTable.grown es1.size)
    have p4 := relayAll_led t1 es1 (SetTable.grown es1.size)
    generalize relayAll t1 es1 (SetTable.grown es1.size) = z at p1 p2 p3 p4
    obtain ⟨es2, t2, gv⟩ := z
    have sz : es2.size = es1.size := by have := p1.length_eq; simpa using this
    refine wpAny_bind (hg _ _ _ (wpAny_bind (wpAny_storeSet_of o1 rfl (wpAny_pure (hR _ (b1.trans (Heap.SameBut.update _ a _)) ?_)) (fits_of_scanBound (by rw [sz]; exact hb)))))
    exact ⟨_, es2, _, t2, store_at o1 rfl, hx, rfl, h1.perm p1, by rw [sz]; exact hb, ⟨p2, p3, h2.led.imp id fun q => p4.trans q⟩⟩
  · rw [if_neg hf]
    exact wpAny_pure (hR _ b1 ⟨_, es1, _, t1, o1, hx, rfl, h1, hb, h2⟩)
theorem tx_add {x : Str} {tk : Tok} {Q : Bool → Shared → Prop} (R : TxSet w s.heap a ks) (room : ks.length + 1 < scanBound) (q : ∀ b h', Heap.SameBut a s.heap h' → TxSet w h' a (ks ++ [x]) → Q b { s with heap := h' }) :
    wpAny (model P w) A (setAddHashed a (.str x tk) (hashStr w x)) Q E s := by
  obtain ⟨o, es, ep, t, ho, hx, hd, T, hb, B⟩ := R
  have el : ElemsOf (strKind P w) es.toList := T.elems
  have hk : (strKind P w).is x (.str x tk) = true := beq_self_eq_true x
  have sc : (Value.str x tk).scannable = true := rfl
  have hh : (strKind P w).hash x = hashStr w x := rfl
  unfold setAddHashed setAddHashedIn
  refine wpAny_holding (wpAny_bind (wpAny_setState_of ho hd B.fit ?_))
  show wpAny _ _ (if byScan (.str x tk) es = true then _ else _) _ _ _
  rw [if_pos (byScan_of sc hb el)]
  unfold setAddByScan
  have sn : ∀ {R : ScanMet → Shared → Prop}, _ → wpAny (model P w) A (setScan a (.str x tk) (hashStr w x) true es) R E s := fun {R} => wpAny_setScan_of (adding := true) (Q := R) hk ho hd B.fit el
  refine wpAny_bind (wpAny_bind (wpAny_rule (wpAny_bind (sn ?_))))
  by_cases hin : x ∈ ks
  · obtain ⟨e, he, ee⟩ := List.mem_map.mp ((T.mem x).mpr hin)
    have : ∃ j, es.toList.findIdx? (fun e => (strKind P w).is x e.2) = some j := by
      cases hf : es.toList.findIdx? (fun e => (strKind P w).is x e.2) with
      | some j => exact ⟨j, rfl⟩
      | none =>
        have := List.findIdx?_eq_none_iff.mp hf e he
        rw [(T.is he x).mpr ee] at this
        cases this
    obtain ⟨j, hj⟩ := this
    rw [hj]
    exact wpAny_pure (wpAny_pure (q false s.heap (Heap.SameBut.refl a s.heap) ⟨o, es, ep, t, ho, hx, hd, T.same hin, hb, B⟩))
  · have hno : es.toList.findIdx? (fun e => (strKind P w).is x e.2) = none := by
      rw [List.findIdx?_eq_none_iff]
      intro e he
      cases hc : (strKind P w).is x e.2 with
      | false => rfl
      | true => exact absurd ((T.mem x).mp (List.mem_map.mpr ⟨e, he, (T.is he x).mp hc⟩)) hin
    rw [hno]
    have p1 := layNew_perm t es (hashStr w x) (.str x tk)
    have p2 := layNew_fits t es (hashStr w x) (.str x tk)
    have p3 := layNew_ris t es (hashStr w x) (.str x tk) B.ris
    have p4 := layNew_led t es (hashStr w x) (.str x tk)
    generalize layNew t es (hashStr w x) (.str x tk) = z at p1 p2 p3 p4 ⊢
    obtain ⟨es1, t1, wd, gv⟩ := z
    rw [Array.toList_push] at p1
    have p5 := p1.trans (List.perm_append_singleton _ _)
    have T1 := T.more hin p5
    have hb1 : es1.size < scanBound := by have := T1.len; simp at this; omega
    dsimp only
    have gw : ∀ (b : Bool) (u : Shared) (q : Unit → Shared → Prop), q () u → wpAny (model P w) A (match b with | true => rule "set.scan.the-table-gave-way" | false => pure ()) q E u := fun b u q h => by
      cases b
      · exact wpAny_pure h
      · exact wpAny_rule h
    have led1 : w.params.followText "set-order" = true ∨ t1.led = true := B.led.imp id fun z => p4.trans z
    refine wpAny_bind (gw gv _ _ ?_)
    by_cases hp : t1.plain = true
    · rw [if_pos hp]
      refine wpAny_bind (wpAny_pure ?_)
      exact tx_keep gw ho hx hd T1 hb1 (t1 := { t1 with plain := false }) ⟨SetTable.fits_plain_off p2, p3, led1⟩ fun h' sb r => wpAny_pure (q true h' sb r)
    · rw [if_neg hp]
      refine wpAny_bind (wpAny_pure ?_)
      exact tx_keep gw ho hx hd T1 hb1 (t1 := t1) ⟨p2, p3, led1⟩ fun h' sb r => wpAny_pure (q true h' sb r)
theorem tx_loop {it : Addr} {fp wr : List Addr} {G : Array GenState → Array GenState → Prop} {n : Nat} {pv : Nat → Value → Prop} {st : Nat → Shared → Prop} {R : Result → Shared → Prop} (W : WalksS P w A.in1 it fp wr G n pv st) (hf : a ∉ fp) (xs : List Str) (hn : n = xs.length) (hb : xs.length + 1 < scanBound)
    (hv : ∀ i v, pv i v → ∃ x t, xs[i]? = some x ∧ v = .str x t) :
    ∀ (m : Nat) (s : Shared), m ≤ n → st (n - m) s → TxSet w s.heap a (xs.take (n - m)) → (∀ s', Moved (a :: wr) G s s' → TxSet w s'.heap a xs → R (.ok (.ret .none)) s') → codeAny (model P w) A (.builtin "set.update.loop" ⟨[.ref a, .ref it], []⟩) R s := by
  have hw : a ∉ wr := fun h => hf (W.sub _ h)
  have up : ∀ b ∈ wr, b ∈ a :: wr := fun b h => List.mem_cons_of_mem _ h
  intro m
  induction m with
  | zero =>
    intro s _ h0 h1 q
    rw [Nat.sub_zero] at h0 h1
    refine (codeAny_builtin F.entry_set_update_loop ?_); rw [Around.under_plainId F.plain_set_update_loop _]
    refine wpAny_bind (W.done s _ _ h0 fun s' mv => wpAny_pure (q s' (mv.mono up) ?_))
    rw [hn, List.take_length] at h1
    exact h1.at fun o e => mv.heap a o hw e
  | succ m ih =>
    intro s hm h0 h1 q
    have lt : n - (m + 1) < n := by omega
    have nx : n - (m + 1) + 1 = n - m := by omega
    refine (codeAny_builtin F.entry_set_update_loop ?_); rw [Around.under_plainId F.plain_set_update_loop _]
    refine wpAny_bind (W.item _ s _ _ lt h0 fun v s1 hp h2 mv => ?_)
    obtain ⟨x, t, hx, rfl⟩ := hv _ v hp
    have h3 := h1.at (h' := s1.heap) fun o e => mv.heap a o hw e
    refine wpAny_bind (wpAny_holding (wpAny_holding (wpAny_bind ((PySem.strKind P w).pyHash (k := x) (beq_self_eq_true x) ?_))))
    have rm : (xs.take (n - (m + 1))).length + 1 < scanBound := by rw [List.length_take]; omega
    refine tx_add (s := { s1 with toks := s1.toks + 1 }) h3 rm fun b h' sb h4 => ?_
    have e4 : xs.take (n - (m + 1)) ++ [x] = xs.take (n - m) := by rw [← nx, List.take_add_one, hx]; rfl
    rw [e4] at h4
    rw [nx] at h2
    have fr : ∀ b o, b ≠ a → s1.heap.get? b = some o → h'.get? b = some o := fun b o hb e => by rw [sb.2 b hb]; exact e
    refine wpAny_pure ⟨plainId_quiet F.plain_set_update_loop _, ih _ (by omega) (W.frame _ s1 _ _ h2 (Nat.le_succ _) fun b hb o e => fr b o (fun z => hf (z ▸ hb)) e) h4 fun s2 mv2 h5 => q s2 (Moved.trans W.gtrans ((mv.mono up).then_heap (Nat.le_succ _) fun b o hb e => fr b o (fun z => hb (z ▸ List.mem_cons_self)) e) mv2) h5⟩
end
end DN
namespace DN
open PySem PySem.Spec PyProof.Rows L2
abbrev bareSet (w : World) : Obj := { cls := .type "set", dict := none, data := .set #[] 0 (.fresh 0 0 (!w.params.followText "set-order")) }
theorem bare_tx {w : World} {h : Heap} {a : Addr} (ho : h.get? a = some (bareSet w)) : TxSet w h a [] := by
  refine ⟨_, #[], 0, _, ho, ⟨rfl, rfl, rfl⟩, rfl, TxOk.nil, by decide, rfl, List.Pairwise.nil, ?_⟩
  show _ ∨ (!w.params.followText "set-order") = true
  cases w.params.followText "set-order" <;> simp
section
variable {P : Program} {w : World} {A : Around} {E : Value → Shared → Prop} {s : Shared} {a : Addr} {ks : List Str}
theorem tx_fill {l : Addr} {items : Array Value} {xs : List Str} {R : Value → Shared → Prop} (hh : A.handled = none) (hl : s.heap.IsList l items) (hi : StrsAre items.toList xs) (hb : xs.length + 1 < scanBound)
    (q : ∀ h' tk, TxSet w h' s.heap.objs.size xs → (∀ b o, s.heap.get? b = some o → h'.get? b = some o) → R .none { s with heap := h', toks := tk }) :
    codeAny (model P w) A (.call (.builtin "set.__init__") ⟨[.ref s.heap.objs.size, .ref l], []⟩) (wants R E) { s with heap := s.heap.push (bareSet w) } := by
  have at0 : (s.heap.push (bareSet w)).get? s.heap.objs.size = some (bareSet w) := Heap.get?_push_size _ rfl
  have ty0 : Shared.TypeIs { s with heap := s.heap.push (bareSet w) } (.ref s.heap.objs.size) "set" := ⟨_, at0, rfl⟩
  refine codeAny_call_builtin F.called_set.init.plain F.entry_set_init (check_set_init_1 ty0 ?_)
  have sz : items.size = xs.length := by have := hi.length; simpa using this
  have hl1 : (s.heap.push (bareSet w)).IsList l items := hl.push _
  obtain ⟨ol, hol, hcl, nl, hdl⟩ := hl
  obtain ⟨ocls, odict, odata, oslots⟩ := ol
  simp only at hcl hdl
  subst hcl; subst hdl
  have lt : l < s.heap.objs.size := Heap.lt_size hol
  have hol1 := Heap.get?_push_of_some (bareSet w) hol
  have n1 := F.sub_list_set
  have n2 := F.sub_list_frozenset
  have n3 : (Value.type "list" == Value.type "dict") = false := by decide
  unfold Builtin.«set.__init__» noKeywords Builtin.Frozenset.updateFrom
  generalize hit : pyIter = it
  wp_walk
  subst hit
  refine wpAny_pyIter_list hl1 (wpAny_bind (wpAny_runValue ?_))
  have z1 : (s.heap.push (bareSet w)).objs.size = s.heap.objs.size + 1 := Heap.size_push ..
  have d1 : l ≠ (s.heap.push (bareSet w)).objs.size := fun e => Nat.lt_irrefl l (by
    have lt1 : l < s.heap.objs.size + 1 := Nat.lt_succ_of_lt lt
    rw [← z1, ← e] at lt1
    exact lt1)
  have d2 : s.heap.objs.size ∉ [(s.heap.push (bareSet w)).objs.size, l] := fun h => by
    rcases List.mem_cons.mp h with e | h
    · exact Nat.succ_ne_self _ ((e.trans z1).symm)
    · exact Nat.ne_of_gt lt (List.mem_singleton.mp h)
  refine tx_loop (Walks.list (by simp [hh]) _ l d1 items).toS d2 xs sz hb (fun i v e => ?_) items.size _ (Nat.le_refl _) ?_ ?_ ?_
  · obtain ⟨y, t, e1, e2⟩ := hi.item i v (by rw [Array.getElem?_toList]; exact e)
    exact ⟨y, t, e2, e1⟩
  · rw [Nat.sub_self]
    exact ⟨⟨_, Heap.get?_push_size _ rfl, rfl, rfl⟩, hl1.push _⟩
  · rw [Nat.sub_self, List.take_zero]
    exact bare_tx (Heap.get?_push_of_some _ at0)
  · rintro ⟨h', g', d', tk', os'⟩ mv T
    obtain rfl : g' = s.gens := mv.gens
    obtain rfl : d' = s.drawn := mv.drawn
    obtain rfl : os' = s.os := mv.os
    refine wpAny_pure (wpAny_pure (q h' tk' T fun b o e => ?_))
    have hb1 : b < s.heap.objs.size := Heap.lt_size e
    have out : b ∉ [s.heap.objs.size, (s.heap.push (bareSet w)).objs.size] := fun h => by
      rcases List.mem_cons.mp h with e | h
      · exact Nat.ne_of_lt hb1 e
      · exact Nat.ne_of_lt (Nat.lt_succ_of_lt hb1) ((List.mem_singleton.mp h).trans z1)
    exact mv.heap b o out (Heap.get?_push_of_some _ (Heap.get?_push_of_some _ e))
theorem tx_set {l : Addr} {items : Array Value} {xs : List Str} {Q : Value → Shared → Prop} (hh : A.handled = none) (hl : s.heap.IsList l items) (hi : StrsAre items.toList xs) (hb : xs.length + 1 < scanBound)
    (q : ∀ h' tk, TxSet w h' s.heap.objs.size xs → (∀ b o, s.heap.get? b = some o → h'.get? b = some o) → Q (.ref s.heap.objs.size) { s with heap := h', toks := tk }) :
    wpAny (model P w) A (call (.type "set") [.ref l]) Q E s := by
  obtain ⟨c, tl, f1⟩ := F.called_set.mro
  have f2 := F.called_set.made
  have f3 := F.called_set.sub
  have f4 := F.called_set.notType
  have f5 := F.called_set.canCreate
  have f6 := F.typeCall_set_1 (.ref l)
  have f7 := F.called_set.init.lookup
  have f8 := F.called_set.init.bind (.ref s.heap.objs.size)
  have at0 : (s.heap.push (bareSet w)).get? s.heap.objs.size = some (bareSet w) := Heap.get?_push_size _ rfl
  have ty0 : Shared.TypeIs { s with heap := s.heap.push (bareSet w) } (.ref s.heap.objs.size) "set" := ⟨_, at0, rfl⟩
  refine wpAny_call (codeAny_of_tree (wpAny_pure ⟨Code.quiet_builtin _ (by decide +kernel), codeAny_builtin F.entry_type_call ?_⟩))
  rw [Around.under_plain (weight_type_call_type "set" [.ref l] []) rfl]
  repeat (any_goals (first | assumption | wp_step))
  refine codeAny_mono (code_set_led1 (.ref l) (E := E) (Q₁ := fun v u => v = .ref s.heap.objs.size ∧ u = { s with heap := s.heap.push (bareSet w) }) ⟨rfl, rfl⟩) fun r u hr => ?_
  match r, hr with
  | .error e, hr => exact hr
  | .ok (.ret v), hr =>
    obtain ⟨rfl, rfl⟩ := hr
    repeat (any_goals (first | assumption | wp_step))
    refine codeAny_mono (tx_fill (E := E) (R := fun v u => v = .none ∧ Q (.ref s.heap.objs.size) u) hh hl hi hb fun h' tk T k => ⟨rfl, q h' tk T k⟩) fun r2 u2 hr2 => ?_
    match r2, hr2 with
    | .error e, hr2 => exact hr2
    | .ok (.ret v2), hr2 =>
      obtain ⟨rfl, z⟩ := hr2
      repeat (any_goals (first | assumption | wp_step))
end
end DN
namespace DN
open PySem PySem.Spec PyProof.Rows L2
def Few {α : Type} (ks : List α) : Prop := ∀ ys : List α, ys.Nodup → (∀ x, x ∈ ys ↔ x ∈ ks) → ys.length < 64
def vTx : Value → Str
  | .str x _ => x
  | _ => ""
theorem strs_vTx : ∀ {vs : List Value}, (∀ v ∈ vs, ∃ x t, v = Value.str x t) → StrsAre vs (vs.map vTx)
  | [], _ => .nil
  | v :: vs, h => by
    obtain ⟨x, t, rfl⟩ := h v List.mem_cons_self
    exact .cons x t (strs_vTx fun u hu => h u (List.mem_cons_of_mem _ hu))
theorem txOf_v {e : Int × Value} : txOf e = vTx e.2 := by
  unfold txOf vTx
  cases e.2 <;> rfl
section
variable {P : Program} {w : World} {A : Around} {E : Value → Shared → Prop} {s : Shared} {a : Addr} {ks : List Str}
theorem tx_sorted (R : TxSet w s.heap a ks) (hh : A.handled = none) (h64 : Few ks) {Q : Value → Shared → Prop}
    (q : ∀ s' p (out : Array Value) (c : Nat) (ys : List Str), (∀ b o, s.heap.get? b = some o → s'.heap.get? b = some o) → s'.gens = s.gens → s'.os = s.os → s.heap.objs.size ≤ p → s'.heap.get? p = some (seqObj "list" out c) → StrsAre out.toList ys → sortedS ys = true → ys.Nodup → (∀ x, x ∈ ys ↔ x ∈ ks) → ys.length < 64 → Q (.ref p) s') :
    wpAny (model P w) A (call (.builtin "sorted") [.ref a]) Q E s := by
  obtain ⟨o, es, ep, t, ho, hx, hd, T, hb, B⟩ := R
  refine (Calls.call_function_entry kind_sorted plain_sorted entry_sorted (args_sorted1 _) ?_); unfold Builtin.«sorted»
  refine (wpAny_bind (m := checkCount "sorted" 1 1 _) (wpAny_pure (wpAny_bind (collect_set (A := A.in1) hh ⟨o, ho, hx.1, hd⟩ B.fit hb B.ris B.led fun s1 vs k1 z1 g1 o1 pm => ?_))))
  have hv : ∀ v ∈ vs, ∃ x t, v = Value.str x t := fun v hv => by
    obtain ⟨e, he, rfl⟩ := List.mem_map.mp (pm.mem_iff.mp hv)
    obtain ⟨x, tk, e1, _⟩ := T.el e he
    exact ⟨x, tk, e1⟩
  have pk : (vs.map vTx).Perm (es.toList.map txOf) := by
    have := pm.map vTx
    rw [List.map_map] at this
    rw [show txOf = vTx ∘ (fun e : Int × Value => e.2) from funext fun e => txOf_v]
    exact this
  have lv : vs.length < 64 := by
    have h1 := h64 (es.toList.map txOf) T.nd T.mem
    have h3 := pk.length_eq
    simp only [List.length_map, Array.length_toList] at h1 h3
    omega
  have hS := strs_vTx hv
  refine wpAny_bind (wpAny_newList ?_ (by rw [sizeLine_eq]; omega))
  have at1 : (s1.heap.push (seqObj "list" vs.toArray 0)).get? s1.heap.objs.size = some (seqObj "list" vs.toArray 0) := Heap.get?_push_size _ rfl
  refine wpAny_bind (wpAny_holding (wpAny_call_entry slot_list_sort ⟨_, at1, rfl⟩ entry_list_sort (list_sort_treeK strKind_oneLt at1 hS.keysOf (fun u v r e => keyKind_strs (by rw [← e]; exact hS)) lv fun st hp hs => ⟨_, rfl, ?_⟩) (args_list_sort _)))
  obtain ⟨ys, y1, y2, y3⟩ := sorted_out_str hS hp hs
  obtain ⟨c, hc⟩ := sortedHeap_at (vs := vs) (out := (arrOf st).map (·.2)) at1
  have py := y2.trans pk
  refine wpAny_pure ⟨_, rfl, q _ s1.heap.objs.size _ c ys (fun b u e => ?_) g1 o1 z1 hc y1 y3 (py.nodup_iff.mpr T.nd) (fun x => by rw [py.mem_iff, T.mem]) (by have := y2.length_eq; simp at this; omega)⟩
  have e1 := k1 b u e
  have lt := Heap.lt_size e1
  show (sortedHeap (s1.heap.push (seqObj "list" vs.toArray 0)) s1.heap.objs.size vs _).get? b = some u
  rw [sortedHeap_old (Nat.ne_of_lt lt) (by rw [size_push']; exact Nat.lt_succ_of_lt lt)]
  exact Heap.get?_push_of_some _ e1
end
def TxO (w : World) (a : Addr) (ks : List Str) : HO := .ext fun h => TxSet w h a ks
section
variable {X : Cx}
theorem txO_new {w : World} {P : Program} {H : Hp} {h : Heap} {a : Addr} {ks : List Str} (R : TxSet w h a ks) : ObjOk P w H h a (TxO w a ks) := by
  have ⟨o, _, _, _, ho, _⟩ := R
  exact ⟨R, ⟨o, ho⟩, fun h1 h2 p k => TxSet.at p k⟩
def rSetTx (K : PySem.W.Frag) (w : World) : List V → Hp → VK → Prop := fun xs H Q => ∃ (l : Addr) (zs : List Str), xs = [V.ref l] ∧ SqL K H l (zs.map V.str) ∧ zs.length + 1 < scanBound ∧ ∀ p, H p = none → Q (.ref p) (upd H p (TxO w p zs))
theorem cr_setTx (hc : X.calm = true) : CallR X (.type "set") (rSetTx X.K X.w) := by
  intro pins s σ H xs us Q I r h
  obtain ⟨l, zs, rfl, hl, hb, q⟩ := h
  rw [Vals.ref1 r]
  obtain ⟨its, rv, pl, hz⟩ := I.list hl
  have fr : H s.heap.objs.size = none := I.hok.fresh (Nat.le_refl _)
  refine tx_set (P := X.prog) (w := X.w) (xs := zs) (I.ok.hd hc) pl.isList (by simpa using rv.strs) hb fun h' tk R k => ?_
  exact ⟨.ref s.heap.objs.size, upd H s.heap.objs.size (TxO X.w s.heap.objs.size zs), I.laid (t' := tk) k (Nat.le_refl _) (txO_new R), rfl, q _ fr⟩
def rSortTx (w : World) : List V → Hp → VK → Prop := fun vs H Q => ∃ (a : Addr) (ks : List Str), vs = [V.ref a] ∧ H a = some (TxO w a ks) ∧ Few ks ∧
  ∀ (ys : List Str) (p : Addr), sortedS ys = true → ys.Nodup → (∀ x, x ∈ ys ↔ x ∈ ks) → ys.length < 64 → H p = none → Q (.ref p) (upd H p (.lst (ys.map V.str)))
theorem cr_sortTx (hc : X.calm = true) : CallR X (.builtin "sorted") (rSortTx X.w) := by
  intro pins s σ H vs us Q I r h
  obtain ⟨a, ks, rfl, ha, h64, q⟩ := h
  have R : TxSet X.w s.heap a ks := (I.hok a _ ha).1
  rw [Vals.ref1 r]
  refine tx_sorted R (I.ok.hd hc) h64 fun s' p out c ys k g o hp hg hi hs nd hm hl => ?_
  have fr : H p = none := I.hok.fresh hp
  have big : (ys.map V.str).length ≤ sizeLine := by rw [List.length_map, sizeLine_eq]; omega
  have J : Inv X pins σ (upd H p (.lst (ys.map V.str))) { s with heap := s'.heap, gens := s'.gens, drawn := s'.drawn, toks := s'.toks } :=
    I.call (ch := []) (Un.laid k hp fr) (I.hok.laid k hp ⟨big, out.toList, c, vals_of_strs hi, hg⟩) (by rw [g]; exact I.bare) (fun _ z => nomatch z)
  obtain ⟨h', g', d', t', o'⟩ := s'
  obtain rfl : o' = s.os := o
  exact ⟨.ref p, _, J, rfl, q ys p hs nd hm hl fr⟩
end
end DN
namespace DN
open PySem PySem.Spec PyProof.Rows L2
def onceS : List Str → List Str → List Str
  | acc, [] => acc
  | acc, x :: xs => onceS (if x ∈ acc then acc else acc ++ [x]) xs
theorem onceS_mem {x : Str} : ∀ {xs acc : List Str}, x ∈ onceS acc xs ↔ x ∈ acc ∨ x ∈ xs
  | [], acc => by simp [onceS]
  | y :: xs, acc => by
    rw [onceS, onceS_mem, List.mem_cons]
    by_cases h : y ∈ acc
    · rw [if_pos h]
      constructor
      · rintro (a | b)
        · exact .inl a
        · exact .inr (.inr b)
      · rintro (a | rfl | b)
        · exact .inl a
        · exact .inl h
        · exact .inr b
    · rw [if_neg h, List.mem_append, List.mem_singleton, or_assoc]
theorem onceS_nd : ∀ {xs acc : List Str}, acc.Nodup → (onceS acc xs).Nodup
  | [], acc, h => h
  | y :: xs, acc, h => by
    rw [onceS]
    refine onceS_nd ?_
    split
    · exact h
    · rename_i hn
      rw [List.nodup_append]
      exact ⟨h, by simp, fun a ha b hb e => hn (by rw [List.mem_singleton.mp hb] at e; exact e ▸ ha)⟩
theorem few_once {xs : List Str} (h : (onceS [] xs).length < 64) : Few xs := fun ys nd mm => by
  have pm : ys.Perm (onceS [] xs) := (List.perm_ext_iff_of_nodup nd (onceS_nd List.nodup_nil)).mpr fun y => by rw [mm, onceS_mem]; simp
  rw [pm.length_eq]; exact h
def sortSetD : D → Option D
  | .lst ds => (strsOf ds).bind fun xs => if xs.length < 4000 ∧ (onceS [] xs).length < 64 then some (.lst ((sortS (onceS [] xs)).map .str)) else none
  | _ => none
theorem repL_ok {K : PySem.W.Frag} {cl : CTab} {Z : Zp} : ∀ {ys : List Str} {vs : List V}, RepL K cl Z vs (ys.map D.str) → ∀ y ∈ ys, y.length ≤ sizeLine ∧ PyData.strOk y = true
  | [], _, _, y, h => nomatch h
  | z :: ys, _, .cons r t, y, h => by
    rcases List.mem_cons.mp h with rfl | h
    · cases r with
      | str a b => exact ⟨a, b⟩
    · exact repL_ok t y h
section
variable {cl : CTab} {md : Bool} {W : WX} {X : Cx} {B : Sto}
@[simp] abbrev xSrtSet (f : Env → M B D) : Env → M B D := fun ρ => M.bind (f ρ) fun x => lift (sortSetD x)
theorem dx_sortSet {e : Expr} {f : Env → M B D} {p p2 pos pos2 : Pos} (hc : X.calm = true) (hg : Gl X "sorted") (hm : X.mg "sorted" = none) (hg2 : Gl X "set") (hm2 : X.mg "set" = none) (ha : DE cl B md W X e f)
    (he2 : starEach [e] X.env = (false, eval e X.env) :: starEach [] X.env := by rfl) (he : starEach [.Call (.Name "set" p2) [e] [] pos2] X.env = (false, eval (.Call (.Name "set" p2) [e] [] pos2) X.env) :: starEach [] X.env := by rfl)
    (hpl : (backTo pos (starEach [] X.env)).any (·.1) = false := by rfl) (hpl2 : (backTo pos2 (starEach [] X.env)).any (·.1) = false := by rfl) :
    DX cl B md W X (.Call (.Name "sorted" p) [.Call (.Name "set" p2) [e] [] pos2] [] pos) (xSrtSet f) := by
  have inner := pe_callTy (pos := pos2) (p := p2) (cr_setTx hc) hg2 hm2 PyProof.Rows.boot_set (pa_cons ha pa_nil he2) (by decide) (by decide) he2 hpl2
  refine PE.weak (pe_callB (cr_sortTx hc) hg hm boot_sorted (pa_cons inner pa_nil he) (by decide) (by decide) he hpl) fun σ H Q ⟨Z, C, s, ρ, w, e, p⟩ => ?_
  refine ⟨Z, C, s, ρ, w, e, PostO.seq w.ch p fun dx s1 x Z1 C1 H1 w1 n1 r1 p1 => ?_⟩
  cases dx with
  | lst ds =>
    cases hx : strsOf ds with
    | none =>
      have e1 : sortSetD (.lst ds) = none := by
        show (strsOf ds).bind _ = _
        rw [hx]; rfl
      rw [e1] at p1
      exact False.elim p1
    | some xs =>
      have e1 : sortSetD (.lst ds) = if xs.length < 4000 ∧ (onceS [] xs).length < 64 then some (.lst ((sortS (onceS [] xs)).map .str)) else none := by
        show (strsOf ds).bind _ = _
        rw [hx]; rfl
      rw [e1] at p1
      split at p1
      · rename_i h64c
        obtain ⟨h4k, h64⟩ := h64c
        rw [strsOf_eq hx] at r1
        cases r1 with
        | slst a b c =>
          have hv := repL_strs c
          subst hv
          have hb : xs.length + 1 < scanBound := Nat.lt_of_lt_of_le (Nat.succ_lt_succ h4k) (by decide)
          refine ⟨_, xs, rfl, SqL.sub w1.zh a, hb, fun q hq => ⟨q, xs, rfl, upd_same, few_once h64, fun ys r so nd mm hl hr => ?_⟩⟩
          have pm : ys.Perm (onceS [] xs) := (List.perm_ext_iff_of_nodup nd (onceS_nd List.nodup_nil)).mpr fun y => by rw [mm, onceS_mem]; simp
          have hu := sortS_uniq pm so
          have ok : ∀ y ∈ ys, y.length ≤ sizeLine ∧ PyData.strOk y = true := fun y hy => repL_ok c y (by
            have := (mm y).mp hy
            exact this)
          have zq := none_of_sub w1.zh hq
          have cq := none_of_sub w1.ch hq
          have w2 := w1.mut (o := TxO X.w q xs) zq cq
          have hr1 : H1 r = none := by
            by_cases e : r = q
            · subst e; rw [upd_same] at hr; cases hr
            · rw [upd_ne e] at hr; exact hr
          have zr := none_of_sub w2.zh hr
          have cr := none_of_sub w2.ch hr
          rw [← hu] at p1
          refine p1 r Z1 C1 _ (w2.mut zr cr) (((Nx.refl ..).mut hq).mut hr1) ?_ zr cr ⟨_, upd_same, ?_, strs_rep ok⟩
          · exact hr1
          · rw [List.length_map, sizeLine_eq]; omega
      · exact False.elim p1
  | _ => exact False.elim p1
theorem sortSetD_lst {x d : D} (h : sortSetD x = some d) : ∃ ds, d = .lst ds := by
  unfold sortSetD at h
  split at h
  · obtain ⟨xs, _, h2⟩ := Option.bind_eq_some_iff.mp h
    split at h2 <;> cases h2
    exact ⟨_, rfl⟩
  · cases h
theorem de_sortSet {e : Expr} {f : Env → M B D} (h : DX cl B md W X e (xSrtSet f)) : DE cl B md W X e (xSrtSet f) := by
  refine de_of_list h fun ρ s d s' e => ?_
  have e : M.bind (f ρ) (fun x => lift (sortSetD x)) s = .ok d s' := e
  unfold M.bind at e
  cases ef : f ρ s with
  | ok r s1 =>
    simp only [ef] at e
    unfold lift at e
    cases hp : sortSetD r with
    | none => rw [hp] at e; cases e
    | some d' => rw [hp] at e; cases e; exact sortSetD_lst hp
  | err x s1 => simp only [ef] at e; cases e
  | stuck => simp only [ef] at e; cases e
end
end DN
namespace DN
open PySem PySem.Spec PyProof.Rows L2 ND
theorem TxSet.kind {P : Program} {w : World} {h : Heap} {a : Addr} {ks : List Str} (R : TxSet w h a ks) : ∃ n, h.SetOf (PySem.strKind P w) a (fun x => decide (x ∈ ks)) n := by
  obtain ⟨o, es, ep, t, ho, hx, hd, T, hb, B⟩ := R
  refine ⟨es.size, o, es, ep, t, ho, hx, hd, T.elems, fun x => ?_, hb, B.fit, rfl⟩
  rw [decide_eq_true_eq, ← T.mem]
  constructor
  · intro h
    obtain ⟨e, he, ee⟩ := List.mem_map.mp h
    exact ⟨e, he, (T.is he x).mpr ee⟩
  · rintro ⟨e, he, q⟩
    exact List.mem_map.mpr ⟨e, he, (T.is he x).mp q⟩
section
variable {P : Program} {w : World} {A : Around} {E : Value → Shared → Prop} {s : Shared} {a : Addr} {ks : List Str}
theorem tx_sadd {x : Str} {tk : Tok} {Q : Value → Shared → Prop} (R : TxSet w s.heap a ks) (room : ks.length + 1 < scanBound)
    (q : ∀ h', Heap.SameBut a s.heap h' → TxSet w h' a (ks ++ [x]) → Q .none { s with heap := h', toks := s.toks + 1 }) : wpAny (model P w) A (call (.builtin "set.add") [.ref a, .str x tk]) Q E s := by
  obtain ⟨n, hk⟩ := R.kind (P := P)
  refine wpAny_call_entry F.slot_set_add hk.typeIs F.entry_set_add ?_ (F.args_set_add_2 _ _)
  unfold Builtin.«set.add» Builtin.Frozenset.oneOther
  simp only [List.isEmpty_nil, bind_assoc]
  refine wpAny_bind (wpAny_pure (wpAny_bind ?_)); unfold setAdd
  refine wpAny_holding (wpAny_bind ((PySem.strKind P w).pyHash (k := x) (v := .str x tk) (beq_self_eq_true x) ?_))
  exact tx_add (s := { s with toks := s.toks + 1 }) R room fun b h' sb T => wpAny_pure ⟨_, rfl, q h' sb T⟩
end
section
variable {X : Cx}
theorem add_tx {pins : List (Addr × Obj)} {σ : L2.St} {H : Hp} {s : Shared} {E : Value → Shared → Prop} {D : Addr} {ks : List Str} {x : Str} {v : Value} {Q : Value → Shared → Prop} (I : Inv X pins σ H s) (hD : H D = some (TxO X.w D ks)) (room : ks.length + 1 < scanBound) (rv : RelV (.str x) v)
    (q : ∀ s', Inv X pins σ (upd H D (TxO X.w D (ks ++ [x]))) s' → Q .none s') : wpAny (model X.prog X.w) X.A (call (.builtin "set.add") [.ref D, v]) Q E s := by
  obtain ⟨tk, rfl⟩ := rv
  have R : TxSet X.w s.heap D ks := (I.hok D _ hD).1
  refine tx_sadd R room fun h' sb T => q _ ?_
  have there : ∃ u, h'.get? D = some u := by
    have ⟨o, _, _, _, ho, _⟩ := T
    exact ⟨o, ho⟩
  exact I.write (e := D) (t' := s.toks + 1) (by rw [hD]; trivial) (.inl rfl) (fun b u hb hu => (sb.2 b hb).trans hu) there (txO_new T)
def tSetT (w : World) (wi : TI) (g : TG) (tt : TT) (te : TE) (vs : List Nat) : TE := fun σ H Q => wi σ H fun J H1 => ∀ D, H1 D = none → ∃ G : Nat → Nat → Hp → Prop, (∃ m, G 0 m (upd H1 D (TxO w D []))) ∧ ∀ i m H, G i m H →
  (J.stop i H ∧ Q (.ref D) H) ∨ (J.go i H ∧ ∃ N : Hp → Prop, (∀ H', N H' → ∃ m', m' < m ∧ G (i + 1) m' H') ∧ ∀ x H', J.yld i H x H' → g x (L2.wipe σ vs) H' fun σ2 H2 => L2.wipe σ2 vs = L2.wipe σ vs ∧ tt σ2 H2 fun b H3 =>
    if b = true then te σ2 H3 fun y H4 => ∃ (z : Str) (ks : List Str), y = .str z ∧ H4 D = some (TxO w D ks) ∧ ks.length + 1 < scanBound ∧ N (upd H4 D (TxO w D (ks ++ [z]))) else N H3)
theorem sx_core {pins : List (Addr × Obj)} {s : Shared} {σ : L2.St} {H : Hp} {Q : VK} {use : Option (Value → Sem Unit)} {Qf : Value → Shared → Prop} {pos' : Pos} {ex tg iter : Expr} {ifs : List Expr} {scope : Scope} {own : List (Str × Nat)} {pos : Pos} {wi : TI} {g : TG} {tt : TT} {te : TE} (hc : X.calm = true) (hN : X.N.Nodup) (I : Inv X pins σ H s) (hi : PI X tg iter wi) (ok : BlkOk X.N X.env.scope scope own)
    (hg : ∀ (s : Shared) (H : Hp) (C : Addr) (cs : List (Str × Addr)) (fp : List Addr), PG (X.blk s H scope (compEnvC scope cs C X.env) fp) tg g)
    (ht : ∀ (s : Shared) (H : Hp) (C : Addr) (cs : List (Str × Addr)) (fp : List Addr), PTs (X.blk s H scope (compEnvC scope cs C X.env) fp) ifs tt)
    (he : ∀ (s : Shared) (H : Hp) (C : Addr) (cs : List (Str × Addr)) (fp : List Addr), PE (X.blk s H scope (compEnvC scope cs C X.env) fp) ex te) (hs : ∀ x, foldedSetIterable iter X.env x = pure x)
    (h : tSetT X.w wi g tt te (own.map (·.2)) σ H Q)
    (hRR : ∀ D C s' m H', Inv X pins σ H' s' → Q (.ref D) H' → s'.heap.Ns C m → FpOk X pins H' C → compPost (model X.prog X.w) X.A X.xe use Qf (.ref D) C (.ok .next) s') :
    wpAny (model X.prog X.w) X.A (comprehension (.SetComp ex [⟨tg, iter, ifs, 0⟩] scope pos) scope X.env pos' (newSet (.type "set")) false (eval iter X.env) use) Qf X.xe s := by
  have cells : ∀ y ∈ scope.names, y.2 = .free → ∃ c, X.env.cells.lookup y.1 = some c := fun y hy e => (ok.free y hy e).elim (fun k => I.ok.has _ (.inl k)) fun k => I.ok.has _ (.inr k)
  refine wpAny_comprehension_free (use := use) rfl hs (closure_ok cells) ok.kind (fun y hy e => by rw [ok.uniq y hy, e]) (thn (hi.run pins s σ H _ I h) fun _ _ hx => thn hx fun itv z hz => ?_)
  obtain ⟨it, fp, tn, J, Ha, rfl, Ia, T, sta, fa, q⟩ := hz
  refine PpSet.newSet_ok (newEnv_comp ?_)
  -- the new set's place, the heap with it
  obtain ⟨D, hD⟩ : ∃ D, D = z.heap.objs.size := ⟨_, rfl⟩
  rw [← hD]
  have Dn : Ha D = none := Ia.hok.fresh (Nat.le_of_eq hD.symm)
  obtain ⟨G, ⟨m0, g0⟩, turn⟩ := q D Dn
  obtain ⟨b, hb⟩ : ∃ b : Shared, b = { z with heap := z.heap.push (bareSet X.w) } := ⟨_, rfl⟩
  have hb' : ({ z with heap := z.heap.push { cls := .type "set", dict := none, data := .set #[] 0 (.fresh 0 0 (!X.w.params.followText "set-order")) } } : Shared) = b := hb.symm
  rw [hb']
  have bh : b.heap = z.heap.push (bareSet X.w) := by rw [hb]
  obtain ⟨Hb, hHb⟩ : ∃ Hb, Hb = upd Ha D (TxO X.w D []) := ⟨_, rfl⟩
  rw [← hHb] at g0
  have Ib : Inv X pins σ Hb b := by
    rw [hb, hHb]
    exact Ia.laid (t' := z.toks) (fun _ _ e => Heap.get?_push_of_some _ e) (Nat.le_of_eq hD.symm) (txO_new (bare_tx (by rw [hD]; exact Heap.get?_push_size _ rfl)))
  have small : ∀ c ∈ fp, c < z.heap.objs.size := fun c hc => by obtain ⟨_, e, _⟩ := T.obj _ _ sta c hc; exact Heap.lt_size e
  have fb : ∀ c ∈ fp, FpOk X pins Hb c ∧ c < b.heap.objs.size := fun c hc => by
    have lt := small c hc
    refine ⟨⟨?_, (fa c hc).2⟩, ?_⟩
    · rw [hHb, upd_ne (by rw [hD]; exact Nat.ne_of_lt lt)]; exact (fa c hc).1
    · rw [bh, Heap.size_push]; exact Nat.lt_succ_of_lt lt
  have stb : tn 0 b.heap := T.keep _ _ _ sta fun _ _ _ e => by rw [bh]; exact Heap.get?_push_of_some _ e
  -- the block's own frame
  have Ic := block_start Ib ok hN fb
  obtain ⟨ce, hce⟩ : ∃ ce, ce = compEnvC scope (cellsFrom (b.heap.objs.size + 1) scope.names (cloFrom X.env.cells scope.names [])) b.heap.objs.size X.env := ⟨_, rfl⟩
  have rg := hg b Hb b.heap.objs.size (cellsFrom (b.heap.objs.size + 1) scope.names (cloFrom X.env.cells scope.names [])) fp
  have rt := ht b Hb b.heap.objs.size (cellsFrom (b.heap.objs.size + 1) scope.names (cloFrom X.env.cells scope.names [])) fp
  have rv := he b Hb b.heap.objs.size (cellsFrom (b.heap.objs.size + 1) scope.names (cloFrom X.env.cells scope.names [])) fp
  rw [← hce] at Ic rg rt rv
  have loc : ce.locals = b.heap.objs.size := by rw [hce]; rfl
  obtain ⟨c, hc'⟩ : ∃ c : Shared, c = { b with heap := pushCells (b.heap.push { cls := .type "dict", data := .dict #[] }) scope.names } := ⟨_, rfl⟩
  rw [← hc'] at Ic
  have stc : tn 0 c.heap := T.keep _ _ _ stb fun _ _ _ e => by rw [hc']; exact pushCells_keeps _ _ _ _ (Heap.get?_push_of_some _ e)
  have frame : ∀ {τ : L2.St} {H' : Hp} {s' : Shared}, Inv (X.blk b Hb scope ce fp) [] τ H' s' → (∀ a ∈ fp, H' a = none) → ∀ a ∈ fp, FpOk (X.blk b Hb scope ce fp) [] H' a := fun {τ H' s'} I' no a ha =>
    ⟨no a ha, (I'.ok.exf a ha).1, I'.ok.exfs a ha, .inl ha, fun x cc e => (I'.ok.exf a ha).2 x cc e, fun p hp => (List.not_mem_nil (show p ∈ ([] : List (Addr × Obj)) from by simpa using hp)).elim⟩
  suffices hh : codeAny (model X.prog X.w) X.A (.compStart (.SetComp ex [⟨tg, iter, ifs, 0⟩] scope pos) 0 (.ref it) (.ref D) ce) (compPost (model X.prog X.w) X.A X.xe use Qf (.ref D) b.heap.objs.size) c by
    rw [hce, hc'] at hh
    exact hh
  have run : codeAny (model X.prog X.w) X.A (.compLoop (.SetComp ex [⟨tg, iter, ifs, 0⟩] scope pos) 0 (.ref it) (.ref D) ce) (compPost (model X.prog X.w) X.A X.xe use Qf (.ref D) b.heap.objs.size) c := by
    refine PpSet.compLoopS_any (fun n s' => ∃ i H', Inv (X.blk b Hb scope ce fp) [] (L2.wipe σ (own.map (·.2))) H' s' ∧ tn i s'.heap ∧ (∀ a ∈ fp, H' a = none) ∧ G i n H') ?_ m0 ⟨0, Hb, Ic, stc, fun a ha => (fb a ha).1.1, g0⟩
    rintro n t ⟨i, Ht, It, stt, nt, gt⟩
    rcases turn i n Ht gt with ⟨stop, fin⟩ | ⟨go, N, hNx, step⟩
    · refine thnF (T.done (X.blk b Hb scope ce fp) rfl rfl rfl hc i [] t _ Ht (fun _ _ => False) It (frame It nt) stt stop) fun r t2 ⟨hr, I2⟩ => ?_
      subst hr
      have back : Inv X pins σ Ht t2 := Ib.call' (ch := fp) I2.os I2.base I2.hok I2.bare fun a ha => ⟨(fb a ha).1.2.2.2.1, (fb a ha).1.2.1, (fb a ha).1.2.2.2.2.1, (fb a ha).1.2.2.2.2.2⟩
      have nloc : Ht b.heap.objs.size = none := loc ▸ (show Ht ce.locals = none from I2.free)
      obtain ⟨mm, hn, _⟩ := I2.loc
      have hn2 : t2.heap.Ns b.heap.objs.size mm := loc ▸ (show t2.heap.Ns ce.locals mm from hn)
      exact hRR D b.heap.objs.size t2 mm Ht back fin hn2 (Ib.fpOk (Nat.le_refl _) nloc)
    · refine thnF (T.item (X.blk b Hb scope ce fp) rfl rfl rfl hc i [] t _ Ht (fun _ _ => False) It (frame It nt) stt go) fun r t2 ⟨u, hr, h6⟩ => ?_
      subst hr
      refine thnF h6 fun _ t3 ⟨x, H3, I3, r3, y3, st3, n3⟩ => ?_
      refine thnF (rg.run _ t3 _ H3 x u _ (I3.pinned (frame I3 n3) (T.obj _ _ st3)) r3 (step x H3 y3)) fun _ t4 ⟨τ, H4, I4, hw, q4⟩ => ?_
      refine thnF (rt.run _ t4 τ H4 _ I4 q4) fun ans t5 ⟨H5, I5, q5⟩ => ?_
      have next : ∀ {s' : Shared} {H' : Hp}, Inv (X.blk b Hb scope ce fp) ([] ++ pinsAt fp t3.heap) τ H' s' → N H' → ∃ m, m < n ∧ ∃ i H', Inv (X.blk b Hb scope ce fp) [] (L2.wipe σ (own.map (·.2))) H' s' ∧ tn i s'.heap ∧ (∀ a ∈ fp, H' a = none) ∧ G i m H' := fun {s' H'} I' nx => by
        obtain ⟨m2, lt, g2⟩ := hNx H' nx
        have held : ∀ a ∈ fp, ∀ o, t3.heap.get? a = some o → s'.heap.get? a = some o ∧ H' a = none := fun a ha o e =>
          ⟨(I'.pin (a, o) (List.mem_append_right _ (List.mem_append_right _ (mem_pinsAt ha e)))).1, (I'.pin (a, o) (List.mem_append_right _ (List.mem_append_right _ (mem_pinsAt ha e)))).2.1⟩
        refine ⟨m2, lt, i + 1, H', (I'.unpinned (pins := [])).weak (by rw [← hw, wipe_length]) (fun j v e => (wipe_some (by rw [hw]; exact e)).1), T.keep _ _ _ st3 fun a ha o e => (held a ha o e).1, fun a ha => ?_, g2⟩
        obtain ⟨o, e, _⟩ := T.obj _ _ st3 a ha
        exact (held a ha o e).2
      cases ans with
      | false => exact next I5 q5
      | true =>
        refine thnF (rv.run _ t5 τ H5 _ I5 q5) fun v t6 ⟨y, H6, I6, r6, xs, ks, hy, hk, hz, nx⟩ => ?_
        subst hy
        exact add_tx (X := X.blk b Hb scope ce fp) I6 hk hz r6 fun _ I7 => next I7 nx
  exact PpSet.codeAny_compStart_set run (T.self X.A 0 _ _ _ stc run)
theorem pe_sx {ex tg iter : Expr} {ifs : List Expr} {scope : Scope} {own : List (Str × Nat)} {pos : Pos} {wi : TI} {g : TG} {tt : TT} {te : TE} (hc : X.calm = true) (hN : X.N.Nodup) (hi : PI X tg iter wi) (ok : BlkOk X.N X.env.scope scope own)
    (hg : ∀ (s : Shared) (H : Hp) (C : Addr) (cs : List (Str × Addr)) (fp : List Addr), PG (X.blk s H scope (compEnvC scope cs C X.env) fp) tg g)
    (ht : ∀ (s : Shared) (H : Hp) (C : Addr) (cs : List (Str × Addr)) (fp : List Addr), PTs (X.blk s H scope (compEnvC scope cs C X.env) fp) ifs tt)
    (he : ∀ (s : Shared) (H : Hp) (C : Addr) (cs : List (Str × Addr)) (fp : List Addr), PE (X.blk s H scope (compEnvC scope cs C X.env) fp) ex te) (hs : ∀ x, foldedSetIterable iter X.env x = pure x := by intro _; rfl) :
    PE X (.SetComp ex [⟨tg, iter, ifs, 0⟩] scope pos) (tSetT X.w wi g tt te (own.map (·.2))) := by
  refine ⟨fun pins s σ H Q I h => ?_⟩
  rw [PpSet.eval_SetComp]
  refine sx_core hc hN I hi ok hg ht he hs h fun D C s' m H' J q hn ⟨f0, f1, f2, f3, f4, f5⟩ => ⟨m, hn, fun h' sb => ?_⟩
  exact ⟨.ref D, H', J.turned (t' := s'.toks) (fun b o hb e => (sb.2 b hb).trans e) f0 f1 f3 f4 f5, rfl, q⟩
end
end DN
namespace DN
open PySem PySem.Spec PyProof.Rows L2 RZ ND
variable {B : Sto}
theorem strsOf_app : ∀ {a b : List D} {xs : List Str}, strsOf (a ++ b) = some xs → ∃ ys zs, strsOf a = some ys ∧ strsOf b = some zs ∧ xs = ys ++ zs
  | [], b, xs, h => ⟨[], xs, rfl, h, rfl⟩
  | d :: a, b, xs, h => by
    cases d with
    | str x =>
      have h : (strsOf (a ++ b)).map (fun r => x :: r) = some xs := h
      obtain ⟨r, h1, rfl⟩ := Option.map_eq_some_iff.mp h
      obtain ⟨ys, zs, e1, e2, rfl⟩ := strsOf_app h1
      exact ⟨x :: ys, zs, by show (strsOf a).map _ = _; rw [e1]; rfl, e2, rfl⟩
    | _ => cases h
theorem sortSetD_some {ds : List D} {d : D} (h : sortSetD (.lst ds) = some d) : ∃ xs, strsOf ds = some xs ∧ xs.length < 4000 ∧ (onceS [] xs).length < 64 ∧ d = .lst ((sortS (onceS [] xs)).map .str) := by
  have h : (strsOf ds).bind (fun xs => if xs.length < 4000 ∧ (onceS [] xs).length < 64 then some (D.lst ((sortS (onceS [] xs)).map .str)) else none) = some d := h
  obtain ⟨xs, h1, h2⟩ := Option.bind_eq_some_iff.mp h
  split at h2
  · rename_i hc
    cases h2; exact ⟨xs, h1, hc.1, hc.2, rfl⟩
  · cases h2
section
variable {cl : CTab} {md : Bool} {W : WX} {X : Cx}
theorem sx_room {b : D → Option Asg} {t : Env → M B Bool} {fe : Env → M B D} {ρ : Env} {ds acc : List D} {s : B.T} {K : PySem.W.Frag} {σ : L2.St} {Z : Zp} {C H : Hp} {Q : VK} (p : PostO K cl md W σ Z C H (M.bind (compL (compF b t fe ρ) ds) (fun r => lift (sortSetD (.lst (acc ++ r)))) s) Q) :
    ∃ xs, strsOf acc = some xs ∧ xs.length < 4000 := by
  unfold M.bind at p
  cases e : compL (compF b t fe ρ) ds s with
  | ok r s1 =>
    simp only [e] at p
    unfold lift at p
    cases h : sortSetD (.lst (acc ++ r)) with
    | none => rw [h] at p; exact False.elim p
    | some d =>
      obtain ⟨xs, h1, h2, _, _⟩ := sortSetD_some h
      obtain ⟨ys, zs, e1, _, rfl⟩ := strsOf_app h1
      exact ⟨ys, e1, by rw [List.length_append] at h2; omega⟩
  | err x s1 => exact absurd e (compL_noErr (f := compF b t fe ρ) (g := fun d => M.bind (lift ((b d).map (setsE ρ))) fun ρ' => M.bind (t ρ') fun k => if k = true then M.bind (fe ρ') fun x => M.pure (some x) else M.pure none) (fun d => rfl))
  | stuck => simp only [e] at p; exact False.elim p
theorem sx_it {w0 : World} {J : It} {n : Nat} {G : Hp → Prop} {Y : Nat → Hp → V → Hp → Prop} (w : Walk J n G Y) {g : TG} {tt : TT} {te : TE} {vs : List Nat} {σ : L2.St} {H1 : Hp} {D : Addr} {Qd : Hp → Prop} (Pv : Nat → Hp → Prop) (h0 : Pv 0 (upd H1 D (TxO w0 D []))) (hG : ∀ i H, i ≤ n → Pv i H → G H)
    (hs : ∀ i x H H', i < n → Pv i H → Y i H x H' → g x (L2.wipe σ vs) H' fun σ2 H2 => L2.wipe σ2 vs = L2.wipe σ vs ∧ tt σ2 H2 fun b H3 =>
      if b = true then te σ2 H3 fun y H4 => ∃ (z : Str) (ks : List Str), y = .str z ∧ H4 D = some (TxO w0 D ks) ∧ ks.length + 1 < scanBound ∧ Pv (i + 1) (upd H4 D (TxO w0 D (ks ++ [z]))) else Pv (i + 1) H3) (hd : ∀ H, Pv n H → Qd H) :
    ∃ G : Nat → Nat → Hp → Prop, (∃ m, G 0 m (upd H1 D (TxO w0 D []))) ∧ ∀ i m H, G i m H →
      (J.stop i H ∧ Qd H) ∨ (J.go i H ∧ ∃ N : Hp → Prop, (∀ H', N H' → ∃ m', m' < m ∧ G (i + 1) m' H') ∧ ∀ x H', J.yld i H x H' → g x (L2.wipe σ vs) H' fun σ2 H2 => L2.wipe σ2 vs = L2.wipe σ vs ∧ tt σ2 H2 fun b H3 =>
        if b = true then te σ2 H3 fun y H4 => ∃ (z : Str) (ks : List Str), y = .str z ∧ H4 D = some (TxO w0 D ks) ∧ ks.length + 1 < scanBound ∧ N (upd H4 D (TxO w0 D (ks ++ [z]))) else N H3) := by
  refine ⟨fun i m H => m = n - i ∧ i ≤ n ∧ Pv i H, ⟨n, by simp, Nat.zero_le _, h0⟩, ?_⟩
  rintro i m H ⟨rfl, hi, p⟩
  have q := hG i H hi p
  by_cases hlt : i < n
  · exact .inr ⟨w.goes i H hlt q, Pv (i + 1), fun H' p' => ⟨n - (i + 1), by omega, rfl, hlt, p'⟩, fun x H' y => hs i x H H' hlt p (w.yields i H x H' hlt q y)⟩
  · have e : i = n := by omega
    subst e
    exact .inl ⟨w.stops H q, hd H p⟩
theorem sx_rest {own : List (Str × Nat)} {b : D → Option Asg} {t : Env → M B Bool} {fe : Env → M B D} (hin : TgIn (own.map (·.2)) b) {σ : L2.St} {Q : VK} {Z1 : Zp} {C1 H1 : Hp} {s1 : B.T} {ρ : Env} {J : It} {ds : List D}
    (w1 : Wd B md Z1 C1 H1 s1) (e1 : EnvR X.K cl Z1 ρ σ) (r1 : ItR X.K cl Z1 J ds) (p1 : PostO X.K cl md W σ Z1 C1 H1 (M.bind (compL (compF b t fe (wipeE ρ (own.map (·.2)))) ds) (fun r => lift (sortSetD (.lst r))) s1) Q) :
    tSetT X.w (fun _ _ R => R J H1) (tDG X.K cl b) (tG X.K cl B md RpE W0 t) (tG X.K cl B md (RpD X.K cl) W0 fe) (own.map (·.2)) σ H1 (fun v H2 => rSortTx X.w [v] H2 Q) := by
  intro Dd hD
  have zD := none_of_sub w1.zh hD
  have cD := none_of_sub w1.ch hD
  refine sx_it r1.1 (fun i H => ∃ Zi Ci si ks, Wd B md Zi Ci H si ∧ Nx Z1 C1 H1 Zi Ci H ∧ H Dd = some (TxO X.w Dd ks) ∧ Zi Dd = none ∧ Ci Dd = none ∧ (∀ y ∈ ks, y.length ≤ sizeLine ∧ PyData.strOk y = true) ∧ PostO X.K cl md W σ Z1 C1 H1 (M.bind (compL (compF b t fe (wipeE ρ (own.map (·.2)))) (ds.drop i)) (fun r => lift (sortSetD (.lst (ks.map D.str ++ r)))) si) Q)
    ⟨Z1, C1, s1, [], w1.mut zD cD, (Nx.refl ..).mut hD, upd_same, zD, cD, (fun _ h => nomatch h), by simpa using p1⟩ (fun i H hi ⟨Zi, Ci, si, ks, wi, ni, _⟩ => ni.zz.to wi.zh) ?_ ?_
  · rintro i x H2 H2' hi ⟨Zi, Ci, si, ks, wi, ni, hDi, zi, ci, oki, pi⟩ ⟨d, hd, hy⟩
    obtain ⟨Zc, al, rx⟩ := hy Zi ni.zz wi.zh
    have hdr : ds.drop i = d :: ds.drop (i + 1) := by
      have hlt : i < ds.length := hi
      rw [List.drop_eq_getElem_cons hlt]
      have : ds[i] = d := by
        rw [List.getElem?_eq_getElem hlt] at hd
        exact Option.some.inj hd
      rw [this]
    rw [hdr, compL_step] at pi
    have wc := al.wd wi
    have nc := ni.trans w1.ch wi.ch al.nx
    have hDc : H2' Dd = some (TxO X.w Dd ks) := al.hh _ _ hDi
    have zc : Zc Dd = none := by
      cases q : Zc Dd with
      | none => rfl
      | some u =>
        rcases al.zf Dd (some_ne q) with z | z
        · exact absurd zi z
        · rw [hDi] at z; cases z
    have ew := (e1.mono (ni.zz.trans al.zz)).wipe (own.map (·.2))
    cases hb : b d with
    | none =>
      exfalso
      have hf : compF b t fe (wipeE ρ (own.map (·.2))) d si = .stuck := by simp only [compF, M.bind, noErr, lift, hb, Option.map_none]
      rw [hf] at pi
      exact pi
    | some as =>
      refine ⟨Zc, d, as, wc.zh, rx, hb, fun vs2 a2 => ?_⟩
      have e2 := ew.sets a2
      generalize hρ' : setsE (wipeE ρ (own.map (·.2))) as = ρ' at e2
      have wσ : L2.wipe (setsV (L2.wipe σ (own.map (·.2))) vs2) (own.map (·.2)) = L2.wipe σ (own.map (·.2)) := by
        rw [wipe_sets vs2 _ (asgR_mem a2 (hin d as hb))]
        exact wipe_sub _ (fun _ h => h)
      refine ⟨wσ, Zc, Ci, si, ρ', wc, e2, ?_⟩
      cases et : t ρ' si with
      | stuck =>
        exfalso
        have hf : compF b t fe (wipeE ρ (own.map (·.2))) d si = .stuck := by simp only [compF, M.bind, noErr, lift, M.pure, hb, Option.map_some, hρ', et]
        rw [hf] at pi
        exact pi
      | err xx s2 =>
        exfalso
        have hf : compF b t fe (wipeE ρ (own.map (·.2))) d si = .stuck := by simp only [compF, M.bind, noErr, lift, M.pure, hb, Option.map_some, hρ', et]
        rw [hf] at pi
        exact pi
      | ok k s2 =>
        rintro k' Z3 C3 H3 w3 n3 rfl
        have n3' := nc.trans w1.ch wc.ch n3
        obtain ⟨hD3, z3, c3⟩ := n3.own hDc zc ci
        cases k' with
        | false =>
          refine ⟨Z3, C3, s2, ks, w3, n3', hD3, z3, c3, oki, ?_⟩
          have hf : compF b t fe (wipeE ρ (own.map (·.2))) d si = .ok none s2 := by simp [compF, M.bind, noErr, lift, M.pure, hb, hρ', et]
          rw [hf] at pi
          exact pi
        | true =>
          refine ⟨Z3, C3, s2, ρ', w3, e2.mono n3.zz, ?_⟩
          cases ee : fe ρ' s2 with
          | stuck =>
            exfalso
            have hf : compF b t fe (wipeE ρ (own.map (·.2))) d si = .stuck := by simp [compF, M.bind, noErr, lift, M.pure, hb, hρ', et, ee]
            rw [hf] at pi
            exact pi
          | err xx s3 =>
            exfalso
            have hf : compF b t fe (wipeE ρ (own.map (·.2))) d si = .stuck := by simp [compF, M.bind, noErr, lift, M.pure, hb, hρ', et, ee]
            rw [hf] at pi
            exact pi
          | ok y s3 =>
            intro vy Z4 C4 H4 w4 n4 ry
            obtain ⟨hD4, z4, c4⟩ := n4.own hD3 z3 c3
            have n4' := n3'.trans w1.ch w3.ch n4
            have hf : compF b t fe (wipeE ρ (own.map (·.2))) d si = .ok (some y) s3 := by simp [compF, M.bind, noErr, lift, M.pure, hb, hρ', et, ee]
            rw [hf] at pi
            have pj : PostO X.K cl md W σ Z1 C1 H1 (M.bind (compL (compF b t fe (wipeE ρ (own.map (·.2)))) (ds.drop (i + 1))) (fun r => lift (sortSetD (.lst ((ks.map D.str ++ [y]) ++ r)))) s3) Q := by simpa [consO] using pi
            obtain ⟨xs, hx, h64⟩ := sx_room pj
            obtain ⟨ys, zs, e1, e2', rfl⟩ := strsOf_app hx
            rw [strsOf_map] at e1
            cases e1
            cases y with
            | str z =>
              cases e2'
              cases ry with
              | str a b' =>
                have hz : ks.length + 1 < scanBound := Nat.lt_of_lt_of_le (by simpa using h64) (by decide)
                refine ⟨z, ks, rfl, hD4, hz, Z4, C4, s3, ks ++ [z], w4.mut z4 c4, n4'.mut hD, upd_same, z4, c4, fun u hu => ?_, by rw [List.map_append]; exact pj⟩
                rcases List.mem_append.mp hu with hu | hu
                · exact oki u hu
                · rw [List.mem_singleton.mp hu]; exact ⟨a, b'⟩
            | _ => cases e2'
  · rintro H2 ⟨Zi, Ci, si, ks, wi, ni, hDi, zi, ci, oki, pi⟩
    rw [List.drop_length] at pi
    have pi : PostO X.K cl md W σ Z1 C1 H1 (lift (sortSetD (.lst (ks.map D.str ++ []))) si) Q := pi
    obtain ⟨h4k, h64⟩ : ks.length < 4000 ∧ (onceS [] ks).length < 64 := by
      cases h : sortSetD (.lst (ks.map D.str ++ [])) with
      | none => rw [h] at pi; exact False.elim pi
      | some d =>
        obtain ⟨xs, hx, a, b, _⟩ := sortSetD_some h
        rw [List.append_nil, strsOf_map] at hx
        cases hx
        exact ⟨a, b⟩
    refine ⟨Dd, ks, rfl, hDi, few_once h64, fun ys r so nd mm hl hr => ?_⟩
    have pm : ys.Perm (onceS [] ks) := (List.perm_ext_iff_of_nodup nd (onceS_nd List.nodup_nil)).mpr fun y => by rw [mm, onceS_mem]; simp
    have hu := sortS_uniq pm so
    have e5 : sortSetD (.lst (ks.map D.str ++ [])) = some (.lst (ys.map .str)) := by
      rw [List.append_nil, hu]
      show (strsOf (ks.map D.str)).bind _ = _
      rw [strsOf_map]
      show (if _ then _ else _) = _
      rw [if_pos ⟨h4k, h64⟩]
    have pi : PostO X.K cl md W σ Z1 C1 H1 (lift (sortSetD (.lst (ks.map D.str ++ []))) si) Q := pi
    rw [e5] at pi
    have zr := none_of_sub wi.zh hr
    have cr := none_of_sub wi.ch hr
    have pi : PostO X.K cl md W σ Z1 C1 H1 (.ok (.lst (ys.map .str)) si) Q := pi
    exact pi r Zi Ci _ (wi.mut zr cr) (ni.mut (ni.back wi.ch hr)) (ni.back wi.ch hr) zr cr ⟨_, upd_same, by rw [List.length_map, sizeLine_eq]; omega, strs_rep fun y hy => oki y ((mm y).mp hy)⟩
theorem dx_sortSc {elt tg iter : Expr} {ifs : List Expr} {scope : Scope} {own : List (Str × Nat)} {p pos pos2 : Pos} {src : Env → M B (List D)} {b : D → Option Asg} {t : Env → M B Bool} {fe : Env → M B D} (hc : X.calm = true) (hg0 : Gl X "sorted") (hm0 : X.mg "sorted" = none) (hN : X.N.Nodup)
    (hi : DI cl B md W X tg iter src) (ok : BlkOk X.N X.env.scope scope own)
    (hg : ∀ (s : Shared) (H : Hp) (C : Addr) (cs : List (Str × Addr)) (fp : List Addr), DG cl (X.blk s H scope (compEnvC scope cs C X.env) fp) tg b) (hin : TgIn (own.map (·.2)) b)
    (ht : ∀ (s : Shared) (H : Hp) (C : Addr) (cs : List (Str × Addr)) (fp : List Addr), DTs cl B md (X.blk s H scope (compEnvC scope cs C X.env) fp) ifs t)
    (he : ∀ (s : Shared) (H : Hp) (C : Addr) (cs : List (Str × Addr)) (fp : List Addr), DE cl B md W0 (X.blk s H scope (compEnvC scope cs C X.env) fp) elt fe) (hs : ∀ x, foldedSetIterable iter X.env x = pure x := by intro _; rfl)
    (hst : starEach [.SetComp elt [⟨tg, iter, ifs, 0⟩] scope pos2] X.env = (false, eval (.SetComp elt [⟨tg, iter, ifs, 0⟩] scope pos2) X.env) :: starEach [] X.env := by rfl) (hpl : (backTo pos (starEach [] X.env)).any (·.1) = false := by rfl) :
    DX cl B md W X (.Call (.Name "sorted" p) [.SetComp elt [⟨tg, iter, ifs, 0⟩] scope pos2] [] pos) (xSrtSet (xLc (own.map (·.2)) b t fe src)) := by
  have inner := pe_sx (pos := pos2) (g := tDG X.K cl b) (tt := tG X.K cl B md RpE W0 t) (te := tG X.K cl B md (RpD X.K cl) W0 fe) hc hN hi ok hg ht he hs
  refine PE.weak (pe_callB (cr_sortTx hc) hg0 hm0 boot_sorted (pa_cons inner pa_nil hst) (by decide) (by decide) hst hpl) fun σ H Q ⟨Z, C, s, ρ, w, e, p⟩ => ?_
  have as : ∀ ρ s, xSrtSet (xLc (own.map (·.2)) b t fe src) ρ s = M.bind (src ρ) (fun ds => M.bind (compL (compF b t fe (wipeE ρ (own.map (·.2)))) ds) fun r => lift (sortSetD (.lst r))) s := fun ρ s => by
    simp only [xSrtSet, xLc, M.bind]
    cases src ρ s with
    | ok a s1 =>
      simp only
      cases compL (compF b t fe (wipeE ρ (own.map (·.2)))) a s1 <;> rfl
    | _ => rfl
  rw [as] at p
  exact ⟨Z, C, s, ρ, w, e, PostO.seq w.ch p fun ds s1 J Z1 C1 H1 w1 n1 r1 p1 => sx_rest hin w1 (e.mono n1.zz) r1 p1⟩
end
end DN
namespace DN
open PySem PySem.Spec PyProof.Rows L2 RZ ND
section
variable {X : Cx}
def rGetP : V → V → Hp → VK → Prop := fun x y H Q => ∃ (p : Addr) (xs : List V) (k : Nat) (v : V), x = .ref p ∧ y = .int (k : Int) ∧ H p = some (.lst xs) ∧ xs[k]? = some v ∧ Q v H
theorem pget_list : PGet X rGetP := by
  intro pins s σ H o i ov iv Q I ro ri h
  obtain ⟨p, xs, k, v, rfl, rfl, hp, hv, q⟩ := h
  cases ro
  obtain ⟨t, rfl⟩ := ri
  obtain ⟨its, n, r, ho, hz⟩ := I.lst hp
  obtain ⟨w, ew, rw'⟩ := r.get hv
  have lt : k < xs.length := (List.getElem?_eq_some_iff.mp hv).1
  have l63 := line63
  have is : s.heap.IsList p its.toArray := ⟨_, ho, rfl, _, rfl⟩
  exact wpAny_getItem_list is (by omega) (by omega) (by simpa using ew) ⟨v, H, I, rw', q⟩
end
section
variable {B : Sto} {cl : CTab} {md : Bool} {W : WX} {X : Cx} {i : Nat} {x : Str}
@[simp] def sAugI (i : Nat) (fk f : Env → M B D) : SEnv → M B Fl := fun ρ => match ρ[i]? with
  | some (.own (.lst ds)) => M.bind (fk (seeE pHide ρ)) fun y => match y with
    | .int kk => if 0 ≤ kk then (match ds[kk.toNat]? with
      | some (.int a) => M.bind (f (seeE pHide ρ)) fun d => match d with
        | .int b => M.pure (.nx (ρ.set i (.own (.lst (ds.set kk.toNat (.int (a + b)))))))
        | _ => fun _ => .stuck
      | _ => fun _ => .stuck) else fun _ => .stuck
    | _ => fun _ => .stuck
  | _ => fun _ => .stuck
theorem ds_augI {e k : Expr} {f fk : Env → M B D} {px tpos pos : Pos} (hv : PE X (.Name x px) (tVar i)) (hk : DE cl B true W X k fk) (he : DE cl B true W X e f)
    (ha : ∀ ov iv new, augStore k ov iv new = (do holding [new, ov, iv] (setItem ov iv new); release [new, ov, iv] []; pure .next) := by intros; rfl) :
    DS cl B W X (.AugAssign (.Subscript (.Name x px) k tpos) .Add e pos) (sAugI i fk f) := by
  refine PS.weak (ps_augS hv hk pget_list he ip_add set_list ha) fun E σ H ⟨Z0, C0, H0, Z, C, s, ρ, α, c0, w, n, r, q0⟩ => ?_
  unfold sAugI at q0
  cases hρ : ρ[i]? with
  | none => simp only [hρ] at q0; exact False.elim q0
  | some sl =>
    cases sl with
    | no => simp only [hρ] at q0; exact False.elim q0
    | val d => simp only [hρ] at q0; exact False.elim q0
    | own d =>
      cases d <;> (try (simp only [hρ] at q0; exact False.elim q0))
      rename_i ds
      simp only [hρ] at q0
      obtain ⟨a, _, hσ, _⟩ := own_lst r hρ
      refine ⟨_, hσ, ?_⟩
      refine ⟨seeZ pHide ρ α Z H, C, s, seeE pHide ρ, see_wd w r seeHide.nd, see_env seeHide r, PostS.seq seeHide w c0 n r q0 fun y s1 vy Z1 C1 H1 w1 n1 r1 q1 => ?_⟩
      have u := see_un seeHide w c0 n r w1 n1
      have uw := u.wd; have un := u.nx; have ur := u.rel
      rw [unZ_hide pHide_no] at uw un ur
      cases y <;> (try (exact False.elim q1))
      rename_i kk
      by_cases h0 : 0 ≤ kk
      · simp only [if_pos h0] at q1
        cases hd : ds[kk.toNat]? with
        | none => simp only [hd] at q1; exact False.elim q1
        | some o =>
          cases o <;> (try (simp only [hd] at q1; exact False.elim q1))
          rename_i a0
          simp only [hd] at q1
          cases r1
          obtain ⟨a1, vs1, hσ1, fa1, h1, l1, t1⟩ := own_lst ur hρ
          obtain rfl : a1 = a := by rw [hσ] at hσ1; cases hσ1; rfl
          obtain ⟨v, F1, hv1, _, o1, _⟩ := t1.at hd
          cases o1 with
          | leaf _ rv =>
            cases rv
            have ek : kk = ((kk.toNat : Nat) : Int) := (Int.toNat_of_nonneg h0).symm
            refine ⟨a1, vs1, kk.toNat, _, rfl, by rw [← ek], h1, hv1, ?_⟩
            refine ⟨seeZ pHide ρ α Z1 H1, C1, s1, seeE pHide ρ, see_wd uw ur seeHide.nd, see_env seeHide ur, PostS.seq seeHide uw c0 un ur q1 fun d s2 vd Z2 C2 H2 w2 n2 r2 q2 => ?_⟩
            have u2 := see_un seeHide uw c0 un ur w2 n2
            have uw2 := u2.wd; have un2 := u2.nx; have ur2 := u2.rel
            rw [unZ_hide pHide_no] at uw2 un2 ur2
            cases d <;> (try (exact False.elim q2))
            rename_i b0
            cases r2
            refine ⟨a0, b0, rfl, rfl, ?_⟩
            obtain ⟨a2, vs2, hσ2, fa2, h2, l2, t2⟩ := own_lst ur2 hρ
            obtain rfl : a2 = a1 := by rw [hσ] at hσ2; cases hσ2; rfl
            have lt : kk.toNat < vs2.length := by rw [t2.len]; exact (List.getElem?_eq_some_iff.mp hd).1
            refine ⟨a2, vs2, kk, kk.toNat, rfl, rfl, h2, ?_, ?_⟩
            · unfold ixN
              rw [if_pos h0, if_pos (by omega)]
            · obtain ⟨w3, n3, r3⟩ := own_mut (i := i) (o := .lst (vs2.set kk.toNat (.int (a0 + b0)))) (d' := .lst (ds.set kk.toNat (.int (a0 + b0)))) uw2 un2 ur2 hρ hσ fa2 rfl (fun _ h => h)
                (.lst fa2 upd_same (by rw [List.length_set]; exact l2) ((t2.move (.refl _) fun x ob hx ho => by rw [upd_ne hx.2]; exact ho).setAt rfl (.int _)))
              exact q2 σ _ _ _ _ w3 n3 r3
      · simp only [if_neg h0] at q1
        exact False.elim q1
end
end DN
namespace DN
open PySem PySem.Spec PyProof.Rows L2 RZ ND
def onceI : List Int → List Int → List Int
  | acc, [] => acc
  | acc, x :: xs => onceI (if x ∈ acc then acc else acc ++ [x]) xs
theorem onceI_mem {x : Int} : ∀ {xs acc : List Int}, x ∈ onceI acc xs ↔ x ∈ acc ∨ x ∈ xs
  | [], acc => by simp [onceI]
  | y :: xs, acc => by
    rw [onceI, onceI_mem, List.mem_cons]
    by_cases h : y ∈ acc
    · rw [if_pos h]
      constructor
      · rintro (a | b)
        · exact .inl a
        · exact .inr (.inr b)
      · rintro (a | rfl | b)
        · exact .inl a
        · exact .inl h
        · exact .inr b
    · rw [if_neg h, List.mem_append, List.mem_singleton, or_assoc]
theorem onceI_nd : ∀ {xs acc : List Int}, acc.Nodup → (onceI acc xs).Nodup
  | [], acc, h => h
  | y :: xs, acc, h => by
    rw [onceI]
    refine onceI_nd ?_
    split
    · exact h
    · rename_i hn
      rw [List.nodup_append]
      exact ⟨h, by simp, fun a ha b hb e => hn (by rw [List.mem_singleton.mp hb] at e; exact e ▸ ha)⟩
theorem onceI_snoc {y : Int} : ∀ {xs acc : List Int}, onceI acc (xs ++ [y]) = if y ∈ onceI acc xs then onceI acc xs else onceI acc xs ++ [y]
  | [], acc => rfl
  | x :: xs, acc => by rw [List.cons_append, onceI, onceI_snoc]; rfl
theorem onceI_len : ∀ {xs acc : List Int}, (onceI acc xs).length ≤ acc.length + xs.length
  | [], acc => by simp [onceI]
  | x :: xs, acc => by
    rw [onceI]
    have := onceI_len (xs := xs) (acc := if x ∈ acc then acc else acc ++ [x])
    have h2 : (if x ∈ acc then acc else acc ++ [x]).length ≤ acc.length + 1 := by split <;> simp
    rw [List.length_cons]
    omega
theorem few_onceI {xs : List Int} (h : (onceI [] xs).length < 64) : Few xs := fun ys nd mm => by
  have pm : ys.Perm (onceI [] xs) := (List.perm_ext_iff_of_nodup nd (onceI_nd List.nodup_nil)).mpr fun y => by rw [mm, onceI_mem]; simp
  rw [pm.length_eq]; exact h
def IxSet (w : World) (h : Heap) (a : Addr) (ks : List Int) : Prop := ∃ o es ep t, h.get? a = some o ∧ o.ExactSet ∧ o.data = .set es ep t ∧ (∀ e ∈ es.toList, GoodE e) ∧ (es.toList.map keyOf).Nodup ∧ (∀ k, decide (k ∈ ks) = true ↔ k ∈ es.toList.map keyOf) ∧
    es.size < scanBound ∧ t.fits es.size = true ∧ es.size = (onceI [] ks).length ∧ Ris t.place.toList ∧ (w.params.followText "set-order" = true ∨ t.led = true)
theorem IxSet.r {w : World} {h : Heap} {a : Addr} {ks : List Int} (R : IxSet w h a ks) : SetR w h a (fun k => decide (k ∈ ks)) (onceI [] ks).length := R
theorem IxSet.of {w : World} {h : Heap} {a : Addr} {ks : List Int} (R : SetR w h a (fun k => decide (k ∈ ks)) (onceI [] ks).length) : IxSet w h a ks := R
theorem bare_ix {w : World} {h : Heap} {a : Addr} (ho : h.get? a = some (bareSet w)) : IxSet w h a [] := by
  refine ⟨_, #[], 0, _, ho, ⟨rfl, rfl, rfl⟩, rfl, (fun e he => by simp at he), (by simp), (fun k => by simp), (by decide), (by rfl), rfl, List.Pairwise.nil, ?_⟩
  show _ ∨ (!w.params.followText "set-order") = true
  cases w.params.followText "set-order" <;> simp
def IxO (w : World) (a : Addr) (ks : List Int) : HO := .ext fun h => IxSet w h a ks
theorem ixO_new {w : World} {P : Program} {H : Hp} {h : Heap} {a : Addr} {ks : List Int} (R : IxSet w h a ks) : ObjOk P w H h a (IxO w a ks) := by
  have ⟨o, _, _, _, ho, _⟩ := R
  exact ⟨R, ⟨o, ho⟩, fun h1 h2 p k => IxSet.of (SetR.at p k)⟩
section
variable {P : Program} {w : World} {A : Around} {E : Value → Shared → Prop} {s : Shared} {a : Addr} {ks : List Int}
theorem ix_sadd {x : Int} {tk : Tok} {Q : Value → Shared → Prop} (R : IxSet w s.heap a ks) (room : ks.length + 1 < scanBound)
    (q : ∀ h', Heap.SameBut a s.heap h' → IxSet w h' a (ks ++ [x]) → Q .none { s with heap := h', toks := s.toks + 1 }) : wpAny (model P w) A (call (.builtin "set.add") [.ref a, .int x tk]) Q E s := by
  have l := onceI_len (xs := ks) (acc := [])
  refine setR_add R.r (by simp at l; omega) fun h' sb T => q h' sb (IxSet.of ?_)
  have e1 : ∀ k, decide (k ∈ ks ++ [x]) = (decide (k ∈ ks) || decide (k = x)) := fun k => by simp
  have e2 : (onceI [] (ks ++ [x])).length = if (decide (x ∈ ks)) = true then (onceI [] ks).length else (onceI [] ks).length + 1 := by
    rw [onceI_snoc]
    have : x ∈ onceI [] ks ↔ x ∈ ks := by rw [onceI_mem]; simp
    by_cases h : x ∈ ks
    · rw [if_pos (this.mpr h), if_pos (decide_eq_true h)]
    · rw [if_neg fun z => h (this.mp z), decide_eq_false h]; simp
  rw [e2]
  exact T.congr e1
end
section
variable {X : Cx}
def rSortIx (w : World) : List V → Hp → VK → Prop := fun vs H Q => ∃ (a : Addr) (ks : List Int), vs = [V.ref a] ∧ H a = some (IxO w a ks) ∧ Few ks ∧
  ∀ (ys : List Int) (p : Addr), ys.Pairwise (· ≤ ·) → ys.Nodup → (∀ x, x ∈ ys ↔ x ∈ ks) → ys.length < 64 → H p = none → Q (.ref p) (upd H p (.lst (ys.map V.int)))
theorem cr_sortIx (hc : X.calm = true) : CallR X (.builtin "sorted") (rSortIx X.w) := by
  intro pins s σ H vs us Q I r h
  obtain ⟨a, ks, rfl, ha, h64, q⟩ := h
  have R : IxSet X.w s.heap a ks := (I.hok a _ ha).1
  rw [Vals.ref1 r]
  have hf := h64 (onceI [] ks) (onceI_nd List.nodup_nil) (fun x => by rw [onceI_mem]; simp)
  refine sorted_set R.r (I.ok.hd hc) hf fun s' p out c ys k g o hp hg hi hs mm hl => ?_
  have fr : H p = none := I.hok.fresh hp
  have nd : ys.Nodup := hs.imp fun {a b} h e => by omega
  have big : (ys.map V.int).length ≤ sizeLine := by rw [List.length_map, sizeLine_eq]; omega
  have J : Inv X pins σ (upd H p (.lst (ys.map V.int))) { s with heap := s'.heap, gens := s'.gens, drawn := s'.drawn, toks := s'.toks } :=
    I.call (ch := []) (Un.laid k hp fr) (I.hok.laid k hp ⟨big, out.toList, c, vals_of_ints hi, hg⟩) (by rw [g]; exact I.bare) (fun _ z => nomatch z)
  obtain ⟨h', g', d', t', o'⟩ := s'
  obtain rfl : o' = s.os := o
  exact ⟨.ref p, _, J, rfl, q ys p (hs.imp fun {a b} h => by omega) nd (fun x => by rw [mm]; simp) (by omega) fr⟩
theorem add_ix {pins : List (Addr × Obj)} {σ : L2.St} {H : Hp} {s : Shared} {E : Value → Shared → Prop} {D : Addr} {ks : List Int} {x : Int} {v : Value} {Q : Value → Shared → Prop} (I : Inv X pins σ H s) (hD : H D = some (IxO X.w D ks)) (room : ks.length + 1 < scanBound) (rv : RelV (.int x) v)
    (q : ∀ s', Inv X pins σ (upd H D (IxO X.w D (ks ++ [x]))) s' → Q .none s') : wpAny (model X.prog X.w) X.A (call (.builtin "set.add") [.ref D, v]) Q E s := by
  obtain ⟨tk, rfl⟩ := rv
  have R : IxSet X.w s.heap D ks := (I.hok D _ hD).1
  refine ix_sadd R room fun h' sb T => q _ ?_
  have there : ∃ u, h'.get? D = some u := by
    have ⟨o, _, _, _, ho, _⟩ := T
    exact ⟨o, ho⟩
  exact I.write (e := D) (t' := s.toks + 1) (by rw [hD]; trivial) (.inl rfl) (fun b u hb hu => (sb.2 b hb).trans hu) there (ixO_new T)
def tSetI (w : World) (wi : TI) (g : TG) (tt : TT) (te : TE) (vs : List Nat) : TE := fun σ H Q => wi σ H fun J H1 => ∀ D, H1 D = none → ∃ G : Nat → Nat → Hp → Prop, (∃ m, G 0 m (upd H1 D (IxO w D []))) ∧ ∀ i m H, G i m H →
  (J.stop i H ∧ Q (.ref D) H) ∨ (J.go i H ∧ ∃ N : Hp → Prop, (∀ H', N H' → ∃ m', m' < m ∧ G (i + 1) m' H') ∧ ∀ x H', J.yld i H x H' → g x (L2.wipe σ vs) H' fun σ2 H2 => L2.wipe σ2 vs = L2.wipe σ vs ∧ tt σ2 H2 fun b H3 =>
    if b = true then te σ2 H3 fun y H4 => ∃ (z : Int) (ks : List Int), y = .int z ∧ H4 D = some (IxO w D ks) ∧ ks.length + 1 < scanBound ∧ N (upd H4 D (IxO w D (ks ++ [z]))) else N H3)
theorem six_core {pins : List (Addr × Obj)} {s : Shared} {σ : L2.St} {H : Hp} {Q : VK} {use : Option (Value → Sem Unit)} {Qf : Value → Shared → Prop} {pos' : Pos} {ex tg iter : Expr} {ifs : List Expr} {scope : Scope} {own : List (Str × Nat)} {pos : Pos} {wi : TI} {g : TG} {tt : TT} {te : TE} (hc : X.calm = true) (hN : X.N.Nodup) (I : Inv X pins σ H s) (hi : PI X tg iter wi) (ok : BlkOk X.N X.env.scope scope own)
    (hg : ∀ (s : Shared) (H : Hp) (C : Addr) (cs : List (Str × Addr)) (fp : List Addr), PG (X.blk s H scope (compEnvC scope cs C X.env) fp) tg g)
    (ht : ∀ (s : Shared) (H : Hp) (C : Addr) (cs : List (Str × Addr)) (fp : List Addr), PTs (X.blk s H scope (compEnvC scope cs C X.env) fp) ifs tt)
    (he : ∀ (s : Shared) (H : Hp) (C : Addr) (cs : List (Str × Addr)) (fp : List Addr), PE (X.blk s H scope (compEnvC scope cs C X.env) fp) ex te) (hs : ∀ x, foldedSetIterable iter X.env x = pure x)
    (h : tSetI X.w wi g tt te (own.map (·.2)) σ H Q)
    (hRR : ∀ D C s' m H', Inv X pins σ H' s' → Q (.ref D) H' → s'.heap.Ns C m → FpOk X pins H' C → compPost (model X.prog X.w) X.A X.xe use Qf (.ref D) C (.ok .next) s') :
    wpAny (model X.prog X.w) X.A (comprehension (.SetComp ex [⟨tg, iter, ifs, 0⟩] scope pos) scope X.env pos' (newSet (.type "set")) false (eval iter X.env) use) Qf X.xe s := by
  have cells : ∀ y ∈ scope.names, y.2 = .free → ∃ c, X.env.cells.lookup y.1 = some c := fun y hy e => (ok.free y hy e).elim (fun k => I.ok.has _ (.inl k)) fun k => I.ok.has _ (.inr k)
  refine wpAny_comprehension_free (use := use) rfl hs (closure_ok cells) ok.kind (fun y hy e => by rw [ok.uniq y hy, e]) (thn (hi.run pins s σ H _ I h) fun _ _ hx => thn hx fun itv z hz => ?_)
  obtain ⟨it, fp, tn, J, Ha, rfl, Ia, T, sta, fa, q⟩ := hz
  refine PpSet.newSet_ok (newEnv_comp ?_)
  -- the new set's place, the heap with it
  obtain ⟨D, hD⟩ : ∃ D, D = z.heap.objs.size := ⟨_, rfl⟩
  rw [← hD]
  have Dn : Ha D = none := Ia.hok.fresh (Nat.le_of_eq hD.symm)
  obtain ⟨G, ⟨m0, g0⟩, turn⟩ := q D Dn
  obtain ⟨b, hb⟩ : ∃ b : Shared, b = { z with heap := z.heap.push (bareSet X.w) } := ⟨_, rfl⟩
  have hb' : ({ z with heap := z.heap.push { cls := .type "set", dict := none, data := .set #[] 0 (.fresh 0 0 (!X.w.params.followText "set-order")) } } : Shared) = b := hb.symm
  rw [hb']
  have bh : b.heap = z.heap.push (bareSet X.w) := by rw [hb]
  obtain ⟨Hb, hHb⟩ : ∃ Hb, Hb = upd Ha D (IxO X.w D []) := ⟨_, rfl⟩
  rw [← hHb] at g0
  have Ib : Inv X pins σ Hb b := by
    rw [hb, hHb]
    exact Ia.laid (t' := z.toks) (fun _ _ e => Heap.get?_push_of_some _ e) (Nat.le_of_eq hD.symm) (ixO_new (bare_ix (by rw [hD]; exact Heap.get?_push_size _ rfl)))
  have small : ∀ c ∈ fp, c < z.heap.objs.size := fun c hc => by obtain ⟨_, e, _⟩ := T.obj _ _ sta c hc; exact Heap.lt_size e
  have fb : ∀ c ∈ fp, FpOk X pins Hb c ∧ c < b.heap.objs.size := fun c hc => by
    have lt := small c hc
    refine ⟨⟨?_, (fa c hc).2⟩, ?_⟩
    · rw [hHb, upd_ne (by rw [hD]; exact Nat.ne_of_lt lt)]; exact (fa c hc).1
    · rw [bh, Heap.size_push]; exact Nat.lt_succ_of_lt lt
  have stb : tn 0 b.heap := T.keep _ _ _ sta fun _ _ _ e => by rw [bh]; exact Heap.get?_push_of_some _ e
  -- the block's own frame
  have Ic := block_start Ib ok hN fb
  obtain ⟨ce, hce⟩ : ∃ ce, ce = compEnvC scope (cellsFrom (b.heap.objs.size + 1) scope.names (cloFrom X.env.cells scope.names [])) b.heap.objs.size X.env := ⟨_, rfl⟩
  have rg := hg b Hb b.heap.objs.size (cellsFrom (b.heap.objs.size + 1) scope.names (cloFrom X.env.cells scope.names [])) fp
  have rt := ht b Hb b.heap.objs.size (cellsFrom (b.heap.objs.size + 1) scope.names (cloFrom X.env.cells scope.names [])) fp
  have rv := he b Hb b.heap.objs.size (cellsFrom (b.heap.objs.size + 1) scope.names (cloFrom X.env.cells scope.names [])) fp
  rw [← hce] at Ic rg rt rv
  have loc : ce.locals = b.heap.objs.size := by rw [hce]; rfl
  obtain ⟨c, hc'⟩ : ∃ c : Shared, c = { b with heap := pushCells (b.heap.push { cls := .type "dict", data := .dict #[] }) scope.names } := ⟨_, rfl⟩
  rw [← hc'] at Ic
  have stc : tn 0 c.heap := T.keep _ _ _ stb fun _ _ _ e => by rw [hc']; exact pushCells_keeps _ _ _ _ (Heap.get?_push_of_some _ e)
  have frame : ∀ {τ : L2.St} {H' : Hp} {s' : Shared}, Inv (X.blk b Hb scope ce fp) [] τ H' s' → (∀ a ∈ fp, H' a = none) → ∀ a ∈ fp, FpOk (X.blk b Hb scope ce fp) [] H' a := fun {τ H' s'} I' no a ha =>
    ⟨no a ha, (I'.ok.exf a ha).1, I'.ok.exfs a ha, .inl ha, fun x cc e => (I'.ok.exf a ha).2 x cc e, fun p hp => (List.not_mem_nil (show p ∈ ([] : List (Addr × Obj)) from by simpa using hp)).elim⟩
  suffices hh : codeAny (model X.prog X.w) X.A (.compStart (.SetComp ex [⟨tg, iter, ifs, 0⟩] scope pos) 0 (.ref it) (.ref D) ce) (compPost (model X.prog X.w) X.A X.xe use Qf (.ref D) b.heap.objs.size) c by
    rw [hce, hc'] at hh
    exact hh
  have run : codeAny (model X.prog X.w) X.A (.compLoop (.SetComp ex [⟨tg, iter, ifs, 0⟩] scope pos) 0 (.ref it) (.ref D) ce) (compPost (model X.prog X.w) X.A X.xe use Qf (.ref D) b.heap.objs.size) c := by
    refine PpSet.compLoopS_any (fun n s' => ∃ i H', Inv (X.blk b Hb scope ce fp) [] (L2.wipe σ (own.map (·.2))) H' s' ∧ tn i s'.heap ∧ (∀ a ∈ fp, H' a = none) ∧ G i n H') ?_ m0 ⟨0, Hb, Ic, stc, fun a ha => (fb a ha).1.1, g0⟩
    rintro n t ⟨i, Ht, It, stt, nt, gt⟩
    rcases turn i n Ht gt with ⟨stop, fin⟩ | ⟨go, N, hNx, step⟩
    · refine thnF (T.done (X.blk b Hb scope ce fp) rfl rfl rfl hc i [] t _ Ht (fun _ _ => False) It (frame It nt) stt stop) fun r t2 ⟨hr, I2⟩ => ?_
      subst hr
      have back : Inv X pins σ Ht t2 := Ib.call' (ch := fp) I2.os I2.base I2.hok I2.bare fun a ha => ⟨(fb a ha).1.2.2.2.1, (fb a ha).1.2.1, (fb a ha).1.2.2.2.2.1, (fb a ha).1.2.2.2.2.2⟩
      have nloc : Ht b.heap.objs.size = none := loc ▸ (show Ht ce.locals = none from I2.free)
      obtain ⟨mm, hn, _⟩ := I2.loc
      have hn2 : t2.heap.Ns b.heap.objs.size mm := loc ▸ (show t2.heap.Ns ce.locals mm from hn)
      exact hRR D b.heap.objs.size t2 mm Ht back fin hn2 (Ib.fpOk (Nat.le_refl _) nloc)
    · refine thnF (T.item (X.blk b Hb scope ce fp) rfl rfl rfl hc i [] t _ Ht (fun _ _ => False) It (frame It nt) stt go) fun r t2 ⟨u, hr, h6⟩ => ?_
      subst hr
      refine thnF h6 fun _ t3 ⟨x, H3, I3, r3, y3, st3, n3⟩ => ?_
      refine thnF (rg.run _ t3 _ H3 x u _ (I3.pinned (frame I3 n3) (T.obj _ _ st3)) r3 (step x H3 y3)) fun _ t4 ⟨τ, H4, I4, hw, q4⟩ => ?_
      refine thnF (rt.run _ t4 τ H4 _ I4 q4) fun ans t5 ⟨H5, I5, q5⟩ => ?_
      have next : ∀ {s' : Shared} {H' : Hp}, Inv (X.blk b Hb scope ce fp) ([] ++ pinsAt fp t3.heap) τ H' s' → N H' → ∃ m, m < n ∧ ∃ i H', Inv (X.blk b Hb scope ce fp) [] (L2.wipe σ (own.map (·.2))) H' s' ∧ tn i s'.heap ∧ (∀ a ∈ fp, H' a = none) ∧ G i m H' := fun {s' H'} I' nx => by
        obtain ⟨m2, lt, g2⟩ := hNx H' nx
        have held : ∀ a ∈ fp, ∀ o, t3.heap.get? a = some o → s'.heap.get? a = some o ∧ H' a = none := fun a ha o e =>
          ⟨(I'.pin (a, o) (List.mem_append_right _ (List.mem_append_right _ (mem_pinsAt ha e)))).1, (I'.pin (a, o) (List.mem_append_right _ (List.mem_append_right _ (mem_pinsAt ha e)))).2.1⟩
        refine ⟨m2, lt, i + 1, H', (I'.unpinned (pins := [])).weak (by rw [← hw, wipe_length]) (fun j v e => (wipe_some (by rw [hw]; exact e)).1), T.keep _ _ _ st3 fun a ha o e => (held a ha o e).1, fun a ha => ?_, g2⟩
        obtain ⟨o, e, _⟩ := T.obj _ _ st3 a ha
        exact (held a ha o e).2
      cases ans with
      | false => exact next I5 q5
      | true =>
        refine thnF (rv.run _ t5 τ H5 _ I5 q5) fun v t6 ⟨y, H6, I6, r6, xs, ks, hy, hk, hz, nx⟩ => ?_
        subst hy
        exact add_ix (X := X.blk b Hb scope ce fp) I6 hk hz r6 fun _ I7 => next I7 nx
  exact PpSet.codeAny_compStart_set run (T.self X.A 0 _ _ _ stc run)
theorem pe_six {ex tg iter : Expr} {ifs : List Expr} {scope : Scope} {own : List (Str × Nat)} {pos : Pos} {wi : TI} {g : TG} {tt : TT} {te : TE} (hc : X.calm = true) (hN : X.N.Nodup) (hi : PI X tg iter wi) (ok : BlkOk X.N X.env.scope scope own)
    (hg : ∀ (s : Shared) (H : Hp) (C : Addr) (cs : List (Str × Addr)) (fp : List Addr), PG (X.blk s H scope (compEnvC scope cs C X.env) fp) tg g)
    (ht : ∀ (s : Shared) (H : Hp) (C : Addr) (cs : List (Str × Addr)) (fp : List Addr), PTs (X.blk s H scope (compEnvC scope cs C X.env) fp) ifs tt)
    (he : ∀ (s : Shared) (H : Hp) (C : Addr) (cs : List (Str × Addr)) (fp : List Addr), PE (X.blk s H scope (compEnvC scope cs C X.env) fp) ex te) (hs : ∀ x, foldedSetIterable iter X.env x = pure x := by intro _; rfl) :
    PE X (.SetComp ex [⟨tg, iter, ifs, 0⟩] scope pos) (tSetI X.w wi g tt te (own.map (·.2))) := by
  refine ⟨fun pins s σ H Q I h => ?_⟩
  rw [PpSet.eval_SetComp]
  refine six_core hc hN I hi ok hg ht he hs h fun D C s' m H' J q hn ⟨f0, f1, f2, f3, f4, f5⟩ => ⟨m, hn, fun h' sb => ?_⟩
  exact ⟨.ref D, H', J.turned (t' := s'.toks) (fun b o hb e => (sb.2 b hb).trans e) f0 f1 f3 f4 f5, rfl, q⟩
end
def sortSetI : D → Option D
  | .lst ds => (intsOf ds).bind fun xs => if xs.length < 4000 ∧ (onceI [] xs).length < 64 then some (.lst ((sortI (onceI [] xs)).map .int)) else none
  | _ => none
theorem sortSetI_lst {x d : D} (h : sortSetI x = some d) : ∃ ds, d = .lst ds := by
  unfold sortSetI at h
  split at h
  · obtain ⟨xs, _, h2⟩ := Option.bind_eq_some_iff.mp h
    split at h2 <;> cases h2
    exact ⟨_, rfl⟩
  · cases h
section
variable {B : Sto}
@[simp] abbrev xSrtSetI (f : Env → M B D) : Env → M B D := fun ρ => M.bind (f ρ) fun x => lift (sortSetI x)
end
section
variable {B : Sto}
theorem intsOf_map : ∀ ks : List Int, intsOf (ks.map D.int) = some ks
  | [] => rfl
  | k :: ks => by simp [intsOf, intsOf_map ks]
theorem intsOf_app : ∀ {a b : List D} {xs : List Int}, intsOf (a ++ b) = some xs → ∃ ys zs, intsOf a = some ys ∧ intsOf b = some zs ∧ xs = ys ++ zs
  | [], b, xs, h => ⟨[], xs, rfl, h, rfl⟩
  | d :: a, b, xs, h => by
    cases d with
    | int x =>
      have h : (intsOf (a ++ b)).map (fun r => x :: r) = some xs := h
      obtain ⟨r, h1, rfl⟩ := Option.map_eq_some_iff.mp h
      obtain ⟨ys, zs, e1, e2, rfl⟩ := intsOf_app h1
      exact ⟨x :: ys, zs, by show (intsOf a).map _ = _; rw [e1]; rfl, e2, rfl⟩
    | _ => cases h
theorem sortSetI_some {ds : List D} {d : D} (h : sortSetI (.lst ds) = some d) : ∃ xs, intsOf ds = some xs ∧ xs.length < 4000 ∧ (onceI [] xs).length < 64 ∧ d = .lst ((sortI (onceI [] xs)).map .int) := by
  have h : (intsOf ds).bind (fun xs => if xs.length < 4000 ∧ (onceI [] xs).length < 64 then some (D.lst ((sortI (onceI [] xs)).map .int)) else none) = some d := h
  obtain ⟨xs, h1, h2⟩ := Option.bind_eq_some_iff.mp h
  split at h2
  · rename_i hc
    cases h2; exact ⟨xs, h1, hc.1, hc.2, rfl⟩
  · cases h2
variable {cl : CTab} {md : Bool} {W : WX} {X : Cx}
theorem six_room {b : D → Option Asg} {t : Env → M B Bool} {fe : Env → M B D} {ρ : Env} {ds acc : List D} {s : B.T} {K : PySem.W.Frag} {σ : L2.St} {Z : Zp} {C H : Hp} {Q : VK} (p : PostO K cl md W σ Z C H (M.bind (compL (compF b t fe ρ) ds) (fun r => lift (sortSetI (.lst (acc ++ r)))) s) Q) :
    ∃ xs, intsOf acc = some xs ∧ xs.length < 4000 := by
  unfold M.bind at p
  cases e : compL (compF b t fe ρ) ds s with
  | ok r s1 =>
    simp only [e] at p
    unfold lift at p
    cases h : sortSetI (.lst (acc ++ r)) with
    | none => rw [h] at p; exact False.elim p
    | some d =>
      obtain ⟨xs, h1, h2, _, _⟩ := sortSetI_some h
      obtain ⟨ys, zs, e1, _, rfl⟩ := intsOf_app h1
      exact ⟨ys, e1, by rw [List.length_append] at h2; omega⟩
  | err x s1 => exact absurd e (compL_noErr (f := compF b t fe ρ) (g := fun d => M.bind (lift ((b d).map (setsE ρ))) fun ρ' => M.bind (t ρ') fun k => if k = true then M.bind (fe ρ') fun x => M.pure (some x) else M.pure none) (fun d => rfl))
  | stuck => simp only [e] at p; exact False.elim p
theorem six_it {w0 : World} {J : It} {n : Nat} {G : Hp → Prop} {Y : Nat → Hp → V → Hp → Prop} (w : Walk J n G Y) {g : TG} {tt : TT} {te : TE} {vs : List Nat} {σ : L2.St} {H1 : Hp} {D : Addr} {Qd : Hp → Prop} (Pv : Nat → Hp → Prop) (h0 : Pv 0 (upd H1 D (IxO w0 D []))) (hG : ∀ i H, i ≤ n → Pv i H → G H)
    (hs : ∀ i x H H', i < n → Pv i H → Y i H x H' → g x (L2.wipe σ vs) H' fun σ2 H2 => L2.wipe σ2 vs = L2.wipe σ vs ∧ tt σ2 H2 fun b H3 =>
      if b = true then te σ2 H3 fun y H4 => ∃ (z : Int) (ks : List Int), y = .int z ∧ H4 D = some (IxO w0 D ks) ∧ ks.length + 1 < scanBound ∧ Pv (i + 1) (upd H4 D (IxO w0 D (ks ++ [z]))) else Pv (i + 1) H3) (hd : ∀ H, Pv n H → Qd H) :
    ∃ G : Nat → Nat → Hp → Prop, (∃ m, G 0 m (upd H1 D (IxO w0 D []))) ∧ ∀ i m H, G i m H →
      (J.stop i H ∧ Qd H) ∨ (J.go i H ∧ ∃ N : Hp → Prop, (∀ H', N H' → ∃ m', m' < m ∧ G (i + 1) m' H') ∧ ∀ x H', J.yld i H x H' → g x (L2.wipe σ vs) H' fun σ2 H2 => L2.wipe σ2 vs = L2.wipe σ vs ∧ tt σ2 H2 fun b H3 =>
        if b = true then te σ2 H3 fun y H4 => ∃ (z : Int) (ks : List Int), y = .int z ∧ H4 D = some (IxO w0 D ks) ∧ ks.length + 1 < scanBound ∧ N (upd H4 D (IxO w0 D (ks ++ [z]))) else N H3) := by
  refine ⟨fun i m H => m = n - i ∧ i ≤ n ∧ Pv i H, ⟨n, by simp, Nat.zero_le _, h0⟩, ?_⟩
  rintro i m H ⟨rfl, hi, p⟩
  have q := hG i H hi p
  by_cases hlt : i < n
  · exact .inr ⟨w.goes i H hlt q, Pv (i + 1), fun H' p' => ⟨n - (i + 1), by omega, rfl, hlt, p'⟩, fun x H' y => hs i x H H' hlt p (w.yields i H x H' hlt q y)⟩
  · have e : i = n := by omega
    subst e
    exact .inl ⟨w.stops H q, hd H p⟩
theorem six_rest {own : List (Str × Nat)} {b : D → Option Asg} {t : Env → M B Bool} {fe : Env → M B D} (hin : TgIn (own.map (·.2)) b) {σ : L2.St} {Q : VK} {Z1 : Zp} {C1 H1 : Hp} {s1 : B.T} {ρ : Env} {J : It} {ds : List D}
    (w1 : Wd B md Z1 C1 H1 s1) (e1 : EnvR X.K cl Z1 ρ σ) (r1 : ItR X.K cl Z1 J ds) (p1 : PostO X.K cl md W σ Z1 C1 H1 (M.bind (compL (compF b t fe (wipeE ρ (own.map (·.2)))) ds) (fun r => lift (sortSetI (.lst r))) s1) Q) :
    tSetI X.w (fun _ _ R => R J H1) (tDG X.K cl b) (tG X.K cl B md RpE W0 t) (tG X.K cl B md (RpD X.K cl) W0 fe) (own.map (·.2)) σ H1 (fun v H2 => rSortIx X.w [v] H2 Q) := by
  intro Dd hD
  have zD := none_of_sub w1.zh hD
  have cD := none_of_sub w1.ch hD
  refine six_it r1.1 (fun i H => ∃ Zi Ci si ks, Wd B md Zi Ci H si ∧ Nx Z1 C1 H1 Zi Ci H ∧ H Dd = some (IxO X.w Dd ks) ∧ Zi Dd = none ∧ Ci Dd = none ∧ (∀ y ∈ ks, y = y) ∧ PostO X.K cl md W σ Z1 C1 H1 (M.bind (compL (compF b t fe (wipeE ρ (own.map (·.2)))) (ds.drop i)) (fun r => lift (sortSetI (.lst (ks.map D.int ++ r)))) si) Q)
    ⟨Z1, C1, s1, [], w1.mut zD cD, (Nx.refl ..).mut hD, upd_same, zD, cD, (fun _ h => nomatch h), by simpa using p1⟩ (fun i H hi ⟨Zi, Ci, si, ks, wi, ni, _⟩ => ni.zz.to wi.zh) ?_ ?_
  · rintro i x H2 H2' hi ⟨Zi, Ci, si, ks, wi, ni, hDi, zi, ci, oki, pi⟩ ⟨d, hd, hy⟩
    obtain ⟨Zc, al, rx⟩ := hy Zi ni.zz wi.zh
    have hdr : ds.drop i = d :: ds.drop (i + 1) := by
      have hlt : i < ds.length := hi
      rw [List.drop_eq_getElem_cons hlt]
      have : ds[i] = d := by
        rw [List.getElem?_eq_getElem hlt] at hd
        exact Option.some.inj hd
      rw [this]
    rw [hdr, compL_step] at pi
    have wc := al.wd wi
    have nc := ni.trans w1.ch wi.ch al.nx
    have hDc : H2' Dd = some (IxO X.w Dd ks) := al.hh _ _ hDi
    have zc : Zc Dd = none := by
      cases q : Zc Dd with
      | none => rfl
      | some u =>
        rcases al.zf Dd (some_ne q) with z | z
        · exact absurd zi z
        · rw [hDi] at z; cases z
    have ew := (e1.mono (ni.zz.trans al.zz)).wipe (own.map (·.2))
    cases hb : b d with
    | none =>
      exfalso
      have hf : compF b t fe (wipeE ρ (own.map (·.2))) d si = .stuck := by simp only [compF, M.bind, noErr, lift, hb, Option.map_none]
      rw [hf] at pi
      exact pi
    | some as =>
      refine ⟨Zc, d, as, wc.zh, rx, hb, fun vs2 a2 => ?_⟩
      have e2 := ew.sets a2
      generalize hρ' : setsE (wipeE ρ (own.map (·.2))) as = ρ' at e2
      have wσ : L2.wipe (setsV (L2.wipe σ (own.map (·.2))) vs2) (own.map (·.2)) = L2.wipe σ (own.map (·.2)) := by
        rw [wipe_sets vs2 _ (asgR_mem a2 (hin d as hb))]
        exact wipe_sub _ (fun _ h => h)
      refine ⟨wσ, Zc, Ci, si, ρ', wc, e2, ?_⟩
      cases et : t ρ' si with
      | stuck =>
        exfalso
        have hf : compF b t fe (wipeE ρ (own.map (·.2))) d si = .stuck := by simp only [compF, M.bind, noErr, lift, M.pure, hb, Option.map_some, hρ', et]
        rw [hf] at pi
        exact pi
      | err xx s2 =>
        exfalso
        have hf : compF b t fe (wipeE ρ (own.map (·.2))) d si = .stuck := by simp only [compF, M.bind, noErr, lift, M.pure, hb, Option.map_some, hρ', et]
        rw [hf] at pi
        exact pi
      | ok k s2 =>
        rintro k' Z3 C3 H3 w3 n3 rfl
        have n3' := nc.trans w1.ch wc.ch n3
        obtain ⟨hD3, z3, c3⟩ := n3.own hDc zc ci
        cases k' with
        | false =>
          refine ⟨Z3, C3, s2, ks, w3, n3', hD3, z3, c3, oki, ?_⟩
          have hf : compF b t fe (wipeE ρ (own.map (·.2))) d si = .ok none s2 := by simp [compF, M.bind, noErr, lift, M.pure, hb, hρ', et]
          rw [hf] at pi
          exact pi
        | true =>
          refine ⟨Z3, C3, s2, ρ', w3, e2.mono n3.zz, ?_⟩
          cases ee : fe ρ' s2 with
          | stuck =>
            exfalso
            have hf : compF b t fe (wipeE ρ (own.map (·.2))) d si = .stuck := by simp [compF, M.bind, noErr, lift, M.pure, hb, hρ', et, ee]
            rw [hf] at pi
            exact pi
          | err xx s3 =>
            exfalso
            have hf : compF b t fe (wipeE ρ (own.map (·.2))) d si = .stuck := by simp [compF, M.bind, noErr, lift, M.pure, hb, hρ', et, ee]
            rw [hf] at pi
            exact pi
          | ok y s3 =>
            intro vy Z4 C4 H4 w4 n4 ry
            obtain ⟨hD4, z4, c4⟩ := n4.own hD3 z3 c3
            have n4' := n3'.trans w1.ch w3.ch n4
            have hf : compF b t fe (wipeE ρ (own.map (·.2))) d si = .ok (some y) s3 := by simp [compF, M.bind, noErr, lift, M.pure, hb, hρ', et, ee]
            rw [hf] at pi
            have pj : PostO X.K cl md W σ Z1 C1 H1 (M.bind (compL (compF b t fe (wipeE ρ (own.map (·.2)))) (ds.drop (i + 1))) (fun r => lift (sortSetI (.lst ((ks.map D.int ++ [y]) ++ r)))) s3) Q := by simpa [consO] using pi
            obtain ⟨xs, hx, h64⟩ := six_room pj
            obtain ⟨ys, zs, e1, e2', rfl⟩ := intsOf_app hx
            rw [intsOf_map] at e1
            cases e1
            cases y with
            | int z =>
              cases e2'
              cases ry with
              | int =>
                have hz : ks.length + 1 < scanBound := Nat.lt_of_lt_of_le (by simpa using h64) (by decide)
                refine ⟨z, ks, rfl, hD4, hz, Z4, C4, s3, ks ++ [z], w4.mut z4 c4, n4'.mut hD, upd_same, z4, c4, fun u hu => ?_, by rw [List.map_append]; exact pj⟩
                rfl
            | _ => cases e2'
  · rintro H2 ⟨Zi, Ci, si, ks, wi, ni, hDi, zi, ci, oki, pi⟩
    rw [List.drop_length] at pi
    have pi : PostO X.K cl md W σ Z1 C1 H1 (lift (sortSetI (.lst (ks.map D.int ++ []))) si) Q := pi
    obtain ⟨h4k, h64⟩ : ks.length < 4000 ∧ (onceI [] ks).length < 64 := by
      cases h : sortSetI (.lst (ks.map D.int ++ [])) with
      | none => rw [h] at pi; exact False.elim pi
      | some d =>
        obtain ⟨xs, hx, a, b, _⟩ := sortSetI_some h
        rw [List.append_nil, intsOf_map] at hx
        cases hx
        exact ⟨a, b⟩
    refine ⟨Dd, ks, rfl, hDi, few_onceI h64, fun ys r so nd mm hl hr => ?_⟩
    have pm : ys.Perm (onceI [] ks) := (List.perm_ext_iff_of_nodup nd (onceI_nd List.nodup_nil)).mpr fun y => by rw [mm, onceI_mem]; simp
    have hu := sortI_uniq pm so
    have e5 : sortSetI (.lst (ks.map D.int ++ [])) = some (.lst (ys.map .int)) := by
      rw [List.append_nil, hu]
      show (intsOf (ks.map D.int)).bind _ = _
      rw [intsOf_map]
      show (if _ then _ else _) = _
      rw [if_pos ⟨h4k, h64⟩]
    have pi : PostO X.K cl md W σ Z1 C1 H1 (lift (sortSetI (.lst (ks.map D.int ++ []))) si) Q := pi
    rw [e5] at pi
    have zr := none_of_sub wi.zh hr
    have cr := none_of_sub wi.ch hr
    have pi : PostO X.K cl md W σ Z1 C1 H1 (.ok (.lst (ys.map .int)) si) Q := pi
    exact pi r Zi Ci _ (wi.mut zr cr) (ni.mut (ni.back wi.ch hr)) (ni.back wi.ch hr) zr cr ⟨_, upd_same, by rw [List.length_map, sizeLine_eq]; omega, ints_repL ys⟩
theorem dx_sortSci {elt tg iter : Expr} {ifs : List Expr} {scope : Scope} {own : List (Str × Nat)} {p pos pos2 : Pos} {src : Env → M B (List D)} {b : D → Option Asg} {t : Env → M B Bool} {fe : Env → M B D} (hc : X.calm = true) (hg0 : Gl X "sorted") (hm0 : X.mg "sorted" = none) (hN : X.N.Nodup)
    (hi : DI cl B md W X tg iter src) (ok : BlkOk X.N X.env.scope scope own)
    (hg : ∀ (s : Shared) (H : Hp) (C : Addr) (cs : List (Str × Addr)) (fp : List Addr), DG cl (X.blk s H scope (compEnvC scope cs C X.env) fp) tg b) (hin : TgIn (own.map (·.2)) b)
    (ht : ∀ (s : Shared) (H : Hp) (C : Addr) (cs : List (Str × Addr)) (fp : List Addr), DTs cl B md (X.blk s H scope (compEnvC scope cs C X.env) fp) ifs t)
    (he : ∀ (s : Shared) (H : Hp) (C : Addr) (cs : List (Str × Addr)) (fp : List Addr), DE cl B md W0 (X.blk s H scope (compEnvC scope cs C X.env) fp) elt fe) (hs : ∀ x, foldedSetIterable iter X.env x = pure x := by intro _; rfl)
    (hst : starEach [.SetComp elt [⟨tg, iter, ifs, 0⟩] scope pos2] X.env = (false, eval (.SetComp elt [⟨tg, iter, ifs, 0⟩] scope pos2) X.env) :: starEach [] X.env := by rfl) (hpl : (backTo pos (starEach [] X.env)).any (·.1) = false := by rfl) :
    DX cl B md W X (.Call (.Name "sorted" p) [.SetComp elt [⟨tg, iter, ifs, 0⟩] scope pos2] [] pos) (xSrtSetI (xLc (own.map (·.2)) b t fe src)) := by
  have inner := pe_six (pos := pos2) (g := tDG X.K cl b) (tt := tG X.K cl B md RpE W0 t) (te := tG X.K cl B md (RpD X.K cl) W0 fe) hc hN hi ok hg ht he hs
  refine PE.weak (pe_callB (cr_sortIx hc) hg0 hm0 boot_sorted (pa_cons inner pa_nil hst) (by decide) (by decide) hst hpl) fun σ H Q ⟨Z, C, s, ρ, w, e, p⟩ => ?_
  have as : ∀ ρ s, xSrtSetI (xLc (own.map (·.2)) b t fe src) ρ s = M.bind (src ρ) (fun ds => M.bind (compL (compF b t fe (wipeE ρ (own.map (·.2)))) ds) fun r => lift (sortSetI (.lst r))) s := fun ρ s => by
    simp only [xSrtSetI, xLc, M.bind]
    cases src ρ s with
    | ok a s1 =>
      simp only
      cases compL (compF b t fe (wipeE ρ (own.map (·.2)))) a s1 <;> rfl
    | _ => rfl
  rw [as] at p
  exact ⟨Z, C, s, ρ, w, e, PostO.seq w.ch p fun ds s1 J Z1 C1 H1 w1 n1 r1 p1 => six_rest hin w1 (e.mono n1.zz) r1 p1⟩
end
section
variable {cl : CTab} {md : Bool} {W : WX} {X : Cx} {B : Sto}
theorem de_sortSetI {e : Expr} {f : Env → M B D} (h : DX cl B md W X e (xSrtSetI f)) : DE cl B md W X e (xSrtSetI f) := by
  refine de_of_list h fun ρ s d s' e => ?_
  have e : M.bind (f ρ) (fun x => lift (sortSetI x)) s = .ok d s' := e
  unfold M.bind at e
  cases ef : f ρ s with
  | ok r s1 =>
    simp only [ef] at e
    unfold lift at e
    cases hp : sortSetI r with
    | none => rw [hp] at e; cases e
    | some d' => rw [hp] at e; cases e; exact sortSetI_lst hp
  | err x s1 => simp only [ef] at e; cases e
  | stuck => simp only [ef] at e; cases e
end
end DN
namespace LW
open PySem PySem.Spec PyProof.Rows L2 RZ DN
section
variable {K : PySem.W.Frag} {cl : CTab}
noncomputable def b_is_letters : SEnv → M (MemS K cl) Fl := seqF (sIf pHide (tOo (tNt (tTr (xUn (isD "str") (eVar 0)))) (tNt (tCh leI leI (eC (.int 1)) (xB lenD (aC (eVar 0) (aN))) (eVar 1)))) (sRet pHide (eC (.bl false))) (sPass)) (sRet pHide (xB allD (aC (xLc [2] (aName 2) (tY) (xOp inK (eVar 2) (eC (.str "abcdefghijklmnopqrstuvwxyz"))) (iOf anyI (eVar 0))) (aN))))
noncomputable def m_is_letters : List D → M (MemS K cl) D := runF 3 b_is_letters
noncomputable def b_is_name : SEnv → M (MemS K cl) Fl := sRet pHide (xCall m_is_letters (aC (eVar 0) (aC (eC (.int 8)) (aN))))
noncomputable def m_is_name : List D → M (MemS K cl) D := runF 1 b_is_name
noncomputable def b_is_integer : SEnv → M (MemS K cl) Fl := sRet pHide (xAn (xUn (isD "int") (eVar 0)) (xNt (xUn (isD "bool") (eVar 0))))
noncomputable def m_is_integer : List D → M (MemS K cl) D := runF 1 b_is_integer
noncomputable def b_is_within : SEnv → M (MemS K cl) Fl := sRet pHide (xAn (xCall m_is_integer (aC (eVar 0) (aN))) (xCh leI leI (eVar 1) (eVar 0) (eVar 2)))
noncomputable def m_is_within : List D → M (MemS K cl) D := runF 3 b_is_within
noncomputable def b__law_holds (self_m : List D → M (MemS K cl) D) : SEnv → M (MemS K cl) Fl := seqF (sIf pHide (tNt (tTr (xUn (isD "tuple") (eVar 0)))) (sRet pHide (xOp inK (eVar 0) (eVar 1))) (sPass)) (seqF (sSet 2 (xLc [3] (aName 3) (tY) (xCall self_m (aC (eVar 3) (aC (eVar 1) (aN)))) (iOf anyI (xIx (eVar 0) (xUn negD (eC (.int 1))))))) (seqF (sIf pHide (tCm eqD (xIx (eVar 0) (eC (.int 0))) (eC (.str "all"))) (sRet pHide (xB allD (aC (eVar 2) (aN)))) (sPass)) (seqF (sIf pHide (tCm eqD (xIx (eVar 0) (eC (.int 0))) (eC (.str "some"))) (sRet pHide (xB anyD (aC (eVar 2) (aN)))) (sPass)) (sRet pHide (xOp geI (xCount (eVar 2) (eC (.bl true))) (xIx (eVar 0) (eC (.int 1))))))))
noncomputable def m__law_holds : Nat → List D → M (MemS K cl) D
  | 0 => fun _ _ => .stuck
  | n + 1 => runF 4 (b__law_holds (m__law_holds n))
end
end LW
namespace LW
open PySem PySem.Spec PyProof.Rows L2 RZ DN
inductive Kd where
  | all | some | least (n : Nat)
inductive Aim where
  | at (b : Nat) | node (k : Kd) (as : List Aim)
def Kd.d (k : Kd) (ds : List D) : D := match k with
  | .all => .tup [.str "all", .tup ds]
  | .some => .tup [.str "some", .tup ds]
  | .least n => .tup [.str "least", .int n, .tup ds]
mutual
def Aim.d : Aim → D
  | .at b => .int b
  | .node k as => k.d (Aim.dL as)
def Aim.dL : List Aim → List D
  | [] => []
  | a :: as => a.d :: Aim.dL as
end
def Kd.holds (k : Kd) (bs : List Bool) : Bool := match k with
  | .all => bs.all id
  | .some => bs.any id
  | .least n => decide (n ≤ bs.countP id)
mutual
def Aim.holds (p : Nat → Bool) : Aim → Bool
  | .at b => p b
  | .node k as => k.holds (Aim.holdsL p as)
def Aim.holdsL (p : Nat → Bool) : List Aim → List Bool
  | [] => []
  | a :: as => a.holds p :: Aim.holdsL p as
end
theorem holdsL_map (p : Nat → Bool) : ∀ as : List Aim, Aim.holdsL p as = as.map (Aim.holds p)
  | [] => rfl
  | a :: as => by rw [Aim.holdsL, holdsL_map p as]; rfl
theorem holds_node {p : Nat → Bool} {k : Kd} {as : List Aim} : (Aim.node k as).holds p = k.holds (as.map (Aim.holds p)) := by rw [Aim.holds, holdsL_map]
mutual
def Aim.parts : Aim → Nat
  | .at _ => 1
  | .node _ as => 1 + Aim.partsL as
def Aim.partsL : List Aim → Nat
  | [] => 0
  | a :: as => a.parts + Aim.partsL as
end
def Gd (many w : Nat) : Nat → Aim → Prop
  | 0, _ => False
  | _ + 1, .at b => b < many
  | k + 1, .node kd as => (match kd with | .least n => n ≤ 25 | _ => True) ∧ as.length ≤ w ∧ ∀ a ∈ as, Gd many w k a
theorem Gd.up {many w : Nat} : ∀ {k : Nat} {a : Aim}, Gd many w k a → Gd many w (k + 1) a
  | 0, _, h => False.elim h
  | k + 1, .at b, h => h
  | k + 1, .node kd as, h => ⟨h.1, h.2.1, fun a ha => (h.2.2 a ha).up⟩
theorem Gd.le {many w k k' : Nat} {a : Aim} (h : Gd many w k a) (l : k ≤ k') : Gd many w k' a := by
  induction l with
  | refl => exact h
  | step _ ih => exact ih.up
def most (w : Nat) : Nat → Nat
  | 0 => 1
  | k + 1 => 1 + w * most w k
theorem most_pos (w k : Nat) : 1 ≤ most w k := by
  cases k <;> simp [most]
theorem Gd.parts {many w : Nat} : ∀ {k : Nat} {a : Aim}, Gd many w k a → a.parts ≤ most w (k - 1)
  | 0, _, h => False.elim h
  | k + 1, .at b, h => by rw [Aim.parts]; exact most_pos _ _
  | k + 1, .node kd as, h => by
    obtain ⟨_, h2, h3⟩ := h
    cases k with
    | zero =>
      cases as with
      | nil => simp [Aim.parts, Aim.partsL, most]
      | cons a as => exact False.elim (h3 a List.mem_cons_self)
    | succ k =>
      have key : ∀ as : List Aim, (∀ a ∈ as, Gd many w (k + 1) a) → Aim.partsL as ≤ as.length * most w k := by
        intro as
        induction as with
        | nil => intro _; simp [Aim.partsL]
        | cons a as ih =>
          intro h
          have h1 := (h a List.mem_cons_self).parts
          have h2 := ih fun b hb => h b (List.mem_cons_of_mem _ hb)
          rw [Aim.partsL, List.length_cons, Nat.succ_mul]
          simp only [Nat.add_sub_cancel] at h1
          omega
      have h4 := key as h3
      have h5 : as.length * most w k ≤ w * most w k := Nat.mul_le_mul_right _ h2
      rw [Aim.parts]
      show _ ≤ 1 + w * most w k
      omega
end LW
namespace LW
open PySem PySem.Spec PyProof.Rows L2 RZ DN
section
variable {K : PySem.W.Frag} {cl : CTab} {many w : Nat}
def Ht : Nat → Aim → Prop
  | 0, _ => False
  | _ + 1, .at _ => True
  | k + 1, .node _ as => ∀ a ∈ as, Ht k a
theorem Ht.up : ∀ {k : Nat} {a : Aim}, Ht k a → Ht (k + 1) a
  | 0, _, h => False.elim h
  | k + 1, .at b, h => trivial
  | k + 1, .node kd as, h => fun a ha => Ht.up (h a ha)
theorem Ht.le {k k' : Nat} {a : Aim} (h : Ht k a) (l : k ≤ k') : Ht k' a := by
  induction l with
  | refl => exact h
  | step _ ih => exact ih.up
theorem Gd.ht {many w : Nat} : ∀ {k : Nat} {a : Aim}, Gd many w k a → Ht k a
  | 0, _, h => False.elim h
  | k + 1, .at b, h => trivial
  | k + 1, .node kd as, h => fun a ha => (h.2.2 a ha).ht
def Kd.ok (k : Kd) : Bool := match k with
  | .least n => decide (n ≤ 25)
  | _ => true
mutual
def Aim.pts (m : Nat) : Nat → Aim → Option Nat
  | _, .at b => if b ≤ m then some 1 else none
  | d, .node k as => if k.ok = true ∧ as.length ≤ 24 ∧ ¬ (d = 1 ∧ 0 < as.length) then Aim.ptsL m (d - 1) 1 as else none
def Aim.ptsL (m : Nat) (d : Nat) : Nat → List Aim → Option Nat
  | acc, [] => some acc
  | acc, a :: as => match Aim.pts m d a with
    | none => none
    | some p => if 200 < acc + p then none else Aim.ptsL m d (acc + p) as
end
end
end LW
namespace LW
open PySem PySem.Spec PyProof.Rows L2 RZ DN
mutual
def Aim.mv (s : Nat) : Aim → Aim
  | .at b => .at (b + s)
  | .node k as => .node k (Aim.mvL s as)
def Aim.mvL (s : Nat) : List Aim → List Aim
  | [] => []
  | a :: as => a.mv s :: Aim.mvL s as
end
theorem mvL_map (s : Nat) : ∀ as : List Aim, Aim.mvL s as = as.map (Aim.mv s)
  | [] => rfl
  | a :: as => by rw [Aim.mvL, mvL_map s as]; rfl
theorem mv_node {s : Nat} {k : Kd} {as : List Aim} : (Aim.node k as).mv s = .node k (as.map (Aim.mv s)) := by rw [Aim.mv, mvL_map]
theorem Ht.mv {s : Nat} : ∀ {k : Nat} {a : Aim}, Ht k a → Ht k (a.mv s)
  | 0, _, h => False.elim h
  | k + 1, .at b, h => by rw [Aim.mv]; trivial
  | k + 1, .node kd as, h => by
    rw [mv_node]
    intro a ha
    obtain ⟨b, hb, rfl⟩ := List.mem_map.mp ha
    exact Ht.mv (h b hb)
theorem Gd.mv {many w s : Nat} : ∀ {k : Nat} {a : Aim}, Gd many w k a → Gd (many + s) w k (a.mv s)
  | 0, _, h => False.elim h
  | k + 1, .at b, h => by
    rw [Aim.mv]
    exact Nat.add_lt_add_right h s
  | k + 1, .node kd as, h => by
    rw [mv_node]
    refine ⟨h.1, by rw [List.length_map]; exact h.2.1, fun a ha => ?_⟩
    obtain ⟨b, hb, rfl⟩ := List.mem_map.mp ha
    exact (h.2.2 b hb).mv
theorem Gd.many {m m' w : Nat} (l : m ≤ m') : ∀ {k : Nat} {a : Aim}, Gd m w k a → Gd m' w k a
  | 0, _, h => False.elim h
  | k + 1, .at b, h => Nat.lt_of_lt_of_le h l
  | k + 1, .node kd as, h => ⟨h.1, h.2.1, fun a ha => (h.2.2 a ha).many l⟩
theorem Gd.pts {many w m : Nat} (hw : w ≤ 24) (hm : many ≤ m + 1) : ∀ {k : Nat} {a : Aim} {d : Nat}, Gd many w k a → k ≤ d → most w (k - 1) ≤ 200 → a.pts m d = some a.parts
  | 0, _, _, h, _, _ => False.elim h
  | k + 1, .at b, d, h, hd, h200 => by
    have : b < many := h
    rw [Aim.pts, if_pos (by omega), Aim.parts]
  | k + 1, .node kd as, d, h, hd, h200 => by
    have hp := Gd.parts (k := k + 1) (a := .node kd as) h
    obtain ⟨h1, h2, h3⟩ := h
    rw [Aim.pts, if_pos]
    · have key : ∀ (as : List Aim) (acc : Nat), (∀ a ∈ as, Gd many w k a) → as.length ≤ w → acc + Aim.partsL as ≤ 200 → Aim.ptsL m (d - 1) acc as = some (acc + Aim.partsL as) := by
        intro as
        induction as with
        | nil => intro acc _ _ _; simp [Aim.ptsL, Aim.partsL]
        | cons a as ih =>
          intro acc hh hl h2
          rw [Aim.partsL] at h2 ⊢
          rw [Aim.ptsL]
          have ga := hh a List.mem_cons_self
          have hk : most w (k - 1) ≤ 200 := by
            cases k with
            | zero => exact False.elim ga
            | succ k =>
              have e : most w (k + 1) = 1 + w * most w k := rfl
              simp only [Nat.add_sub_cancel] at h200 ⊢
              rw [List.length_cons] at hl
              have := Nat.le_mul_of_pos_left (most w k) (show 0 < w by omega)
              omega
          rw [Gd.pts hw hm ga (by omega) hk]
          simp only
          rw [if_neg (by omega), ih _ (fun b hb => hh b (List.mem_cons_of_mem _ hb)) (by rw [List.length_cons] at hl; omega) (by omega)]
          congr 1
          omega
      have e : (Aim.node kd as).parts = 1 + Aim.partsL as := by rw [Aim.parts]
      rw [e]
      exact key as 1 h3 h2 (by omega)
    · refine ⟨?_, by omega, ?_⟩
      · cases kd with
        | least n => simpa [Kd.ok] using h1
        | _ => rfl
      · rintro ⟨hd1, hl⟩
        cases as with
        | nil => exact absurd hl (by simp)
        | cons a as =>
          have := h3 a List.mem_cons_self
          cases k with
          | zero => exact False.elim this
          | succ k => omega
end LW
namespace LW
open PySem PySem.Spec PyProof.Rows L2 RZ DN
section
variable {K : PySem.W.Frag} {cl : CTab} {many w : Nat} {t : TF}
@[simp] theorem s_is2T {ds : List D} : isD2 "tuple" "list" (.tup ds) = some (.bl true) := by show (kitB "tuple" "tuple").bind (fun a => (kitB "tuple" "list").map fun b => D.bl (a || b)) = _; rw [k_tuple_tuple, k_tuple_list]; rfl
@[simp] theorem s_is2I {i : Int} : isD2 "tuple" "list" (.int i) = some (.bl false) := by show (kitB "int" "tuple").bind (fun a => (kitB "int" "list").map fun b => D.bl (a || b)) = _; rw [k_int_tuple, k_int_list]; rfl
@[simp] theorem s_is2S {i : Str} : isD2 "tuple" "list" (.str i) = some (.bl false) := by show (kitB "str" "tuple").bind (fun a => (kitB "str" "list").map fun b => D.bl (a || b)) = _; rw [k_str_tuple, k_str_list]; rfl
@[simp] theorem s_is2B {i : Bool} : isD2 "tuple" "list" (.bl i) = some (.bl false) := by show (kitB "bool" "tuple").bind (fun a => (kitB "bool" "list").map fun b => D.bl (a || b)) = _; rw [k_bool_tuple, k_bool_list]; rfl
@[simp] theorem s_is2L {ds : List D} : isD2 "tuple" "list" (.lst ds) = some (.bl true) := by show (kitB "list" "tuple").bind (fun a => (kitB "list" "list").map fun b => D.bl (a || b)) = _; rw [k_list_tuple, k_list_list]; rfl
@[simp] theorem s_max0 {i : Int} : max2D [.int 0, .int i] = some (.int (if 0 < i then i else 0)) := by
  simp [max2D]
def errM {α : Type} {B : Sto} (x : Exn) : M B α := fun s => .err x s
@[simp] theorem raise_eq {B : Sto} {x : Str} {ρ : SEnv} : (sRaise x ρ : M B Fl) = errM ⟨x, none⟩ := rfl
@[simp] theorem bind_err {α β : Type} {B : Sto} {x : Exn} {f : α → M B β} : M.bind (errM x : M B α) f = errM x := rfl
end
end LW
namespace LW
open PySem PySem.Spec PyProof.Rows L2 RZ DN
section
variable {K : PySem.W.Frag} {cl : CTab}
def HallOf (h : D) (bs : List D) : Prop := ∃ c ns, c ∈ (["Hall", "RawHall"] : List Str) ∧ h = .ins c [.tup bs, ns]
end
end LW
namespace LW
open PySem PySem.Spec PyProof.Rows L2 RZ DN
def Da : Nat → D → Prop
  | 0, _ => False
  | _ + 1, .non => True
  | _ + 1, .int _ => True
  | _ + 1, .str _ => True
  | k + 1, .tup ds => ∀ d ∈ ds, Da k d
  | k + 1, .lst ds => ∀ d ∈ ds, Da k d
  | _, _ => False
section
variable {k j : Nat} {d e : D} {ds es : List D}
@[simp] theorem da_non : Da (k + 1) .non := trivial
@[simp] theorem da_int {i : Int} : Da (k + 1) (.int i) := trivial
@[simp] theorem da_str {x : Str} : Da (k + 1) (.str x) := trivial
@[simp] theorem da_tup : Da (k + 1) (.tup ds) ↔ ∀ d ∈ ds, Da k d := by rw [Da]
@[simp] theorem da_lst : Da (k + 1) (.lst ds) ↔ ∀ d ∈ ds, Da k d := by rw [Da]
theorem da_cases (h : Da (k + 1) d) : d = .non ∨ (∃ i, d = .int i) ∨ (∃ x, d = .str x) ∨ (∃ ds, d = .tup ds ∧ ∀ x ∈ ds, Da k x) ∨ ∃ ds, d = .lst ds ∧ ∀ x ∈ ds, Da k x := by
  cases d with
  | non => exact .inl rfl
  | int i => exact .inr (.inl ⟨i, rfl⟩)
  | str x => exact .inr (.inr (.inl ⟨x, rfl⟩))
  | tup ds => exact .inr (.inr (.inr (.inl ⟨ds, rfl, da_tup.mp h⟩)))
  | lst ds => exact .inr (.inr (.inr (.inr ⟨ds, rfl, da_lst.mp h⟩)))
  | _ => simp [Da] at h
theorem Da.plain : ∀ {k : Nat} {d : D}, Da k d → d.plain = true ∧ d.py.depth ≤ k
  | 0, _, h => by simp [Da] at h
  | k + 1, d, h => by
    rcases da_cases h with rfl | ⟨i, rfl⟩ | ⟨x, rfl⟩ | ⟨ds, rfl, h⟩ | ⟨ds, rfl, h⟩
    · exact ⟨rfl, by simp [D.py, PyData.depth]⟩
    · exact ⟨rfl, by simp [D.py, PyData.depth]⟩
    · exact ⟨rfl, by simp [D.py, PyData.depth]⟩
    · exact ⟨plainL_all fun x hx => (h x hx).plain.1, by rw [D.py, PyData.depth]; exact Nat.succ_le_succ (depthAll_le fun x hx => (h x hx).plain.2)⟩
    · exact ⟨plainL_all fun x hx => (h x hx).plain.1, by rw [D.py, PyData.depth]; exact Nat.succ_le_succ (depthAll_le fun x hx => (h x hx).plain.2)⟩
theorem Da.okc (h : Da k d) (hk : k ≤ 60) : d.okc = true := by
  obtain ⟨a, b⟩ := h.plain
  unfold D.okc
  rw [a, decide_eq_true (by omega)]
  rfl
theorem eqvAll_iff : ∀ {ds es : List D}, (∀ d ∈ ds, ∀ e ∈ es, (PyData.eqv d.py e.py = true ↔ d = e)) → (PyData.eqvAll (D.pyL ds) (D.pyL es) = true ↔ ds = es)
  | [], [], _ => by simp [D.pyL, PyData.eqvAll]
  | [], e :: es, _ => by simp [D.pyL, PyData.eqvAll]
  | d :: ds, [], _ => by simp [D.pyL, PyData.eqvAll]
  | d :: ds, e :: es, h => by
    rw [D.pyL, D.pyL, PyData.eqvAll, Bool.and_eq_true, h d List.mem_cons_self e List.mem_cons_self, eqvAll_iff fun a ha b hb => h a (List.mem_cons_of_mem _ ha) b (List.mem_cons_of_mem _ hb), List.cons.injEq]
theorem Da.eqv : ∀ {k j : Nat} {d e : D}, Da k d → Da j e → (PyData.eqv d.py e.py = true ↔ d = e)
  | 0, _, _, _, h, _ => by simp [Da] at h
  | _ + 1, 0, _, _, _, h => by simp [Da] at h
  | k + 1, j + 1, d, e, h, g => by
    rcases da_cases h with rfl | ⟨i, rfl⟩ | ⟨x, rfl⟩ | ⟨ds, rfl, h⟩ | ⟨ds, rfl, h⟩ <;> rcases da_cases g with rfl | ⟨i', rfl⟩ | ⟨x', rfl⟩ | ⟨es, rfl, g⟩ | ⟨es, rfl, g⟩
    all_goals first
      | (simp [D.py, PyData.eqv]; done)
      | (rw [D.py, D.py, PyData.eqv, eqvAll_iff fun a ha b hb => (h a ha).eqv (g b hb)]; simp)
theorem Da.up : ∀ {k : Nat} {d : D}, Da k d → Da (k + 1) d
  | 0, _, h => by simp [Da] at h
  | k + 1, d, h => by
    rcases da_cases h with rfl | ⟨i, rfl⟩ | ⟨x, rfl⟩ | ⟨ds, rfl, h⟩ | ⟨ds, rfl, h⟩
    · trivial
    · trivial
    · trivial
    · exact da_tup.mpr fun x hx => (h x hx).up
    · exact da_lst.mpr fun x hx => (h x hx).up
theorem Da.le (h : Da k d) (l : k ≤ j) : Da j d := by
  induction l with
  | refl => exact h
  | step _ ih => exact ih.up
theorem Da.pt : ∀ {k : Nat} {d : D}, Da k d → Pt k d ∨ d = .non ∨ True := fun _ => .inr (.inr trivial)
end
theorem map_range2 {i n : Nat} : ((List.range ((n : Int) - (i : Int)).toNat).map fun k : Nat => D.int ((i : Int) + (k : Int))) = (List.range' i (n - i)).map fun k : Nat => .int k := by
  have : ((n : Int) - (i : Int)).toNat = n - i := by omega
  rw [this, List.range'_eq_map_range, List.map_map]
  apply List.map_congr_left
  intro k _
  simp
theorem rng2 {i n : Nat} (hi : i ≤ 100000) (hn : n ≤ 100000) : range2 (.int (i : Int)) (.int (n : Int)) = some ((List.range' i (n - i)).map fun k : Nat => .int k) := by
  show (if _ then _ else _) = _
  rw [if_pos (by omega), map_range2]
theorem cut_to {α : Type} {g : α → D} {r : List α} {n : Nat} : slD (.tup (r.map g)) none (some (n : Int)) = some (.tup ((r.take n).map g)) := by
  show some (D.tup (cutL _ _ _)) = _
  unfold cutL
  have e : HT.sIx (r.map g).length (r.map g).length (some (n : Int)) = min n (r.map g).length := HT.sIx_nat _ _ n
  rw [e, HT.sIx_none]
  simp only [List.drop_zero, Nat.sub_zero, List.map_take]
  congr 2
  rw [List.take_eq_take_iff]
  omega
end LW
namespace LW
open PySem PySem.Spec PyProof.Rows L2 RZ DN
def wordB (m : Nat) (z : Str) : Bool := decide (1 ≤ z.length) && decide (z.length ≤ m) && z.cps.toList.all fun c => !(Builtin.Str.occurrences "abcdefghijklmnopqrstuvwxyz" ⟨#[c]⟩ 0 (26 : Nat) 1).isEmpty
structure Bd where
  n : Str
  s : Nat
  r : List Str
def Bd.d (b : Bd) : D := .tup [.str b.n, .int b.s, .tup (b.r.map .str)]
section
variable {K : PySem.W.Frag} {cl : CTab} {t : TF}
theorem ixL {ds : List D} {k : Nat} (h : k < ds.length) : ixD (.lst ds) (.int k) = some ds[k] := by
  simp [ixD, atI, ixN, h]
end
end LW
namespace LW
open PySem PySem.Spec PyProof.Rows L2 RZ DN
def ltD (d e : D) : Bool := PySem.W.dataLt d.py e.py
theorem ltD_irr (d : D) : ltD d d = false := PyProof.Rows.lex_irrefl (O := itemOrd) _
theorem ltD_trans {a b c : D} (h : ltD a b = true) (g : ltD b c = true) : ltD a c = true := PyProof.Rows.lex_trans (O := itemOrd) _ _ _ h g
theorem ltD_asymm {a b : D} (h : ltD a b = true) : ltD b a = false := by
  cases q : ltD b a with
  | false => rfl
  | true => have := ltD_trans h q; rw [ltD_irr] at this; cases this
theorem ltD_neg {a b c : D} (h : ltD a c = true) : ltD a b = true ∨ ltD b c = true := PyProof.Rows.lex_negTrans (O := itemOrd) _ _ _ h
theorem le_ltD {a b : D} : leData a b = !ltD b a := rfl
theorem toks_pre : ∀ xs : List PyData, ∃ p, PySem.W.keyToksAll xs = p ++ [.inl 0] ∧ ∀ y r, ∃ q, PySem.W.keyToksAll (xs ++ y :: r) = p ++ .inl 1 :: q
  | [] => ⟨[], by simp [PySem.W.keyToksAll], fun y r => ⟨PySem.W.keyToks y ++ PySem.W.keyToksAll r, by simp [PySem.W.keyToksAll]⟩⟩
  | x :: xs => by
    obtain ⟨p, h1, h2⟩ := toks_pre xs
    refine ⟨.inl 1 :: (PySem.W.keyToks x ++ p), by simp [PySem.W.keyToksAll, h1], fun y r => ?_⟩
    obtain ⟨q, hq⟩ := h2 y r
    exact ⟨q, by simp [PySem.W.keyToksAll, hq]⟩
theorem lt_longer {ds : List D} {e : D} {es : List D} : ltD (.tup ds) (.tup (ds ++ e :: es)) = true := by
  unfold ltD
  rw [D.py, D.py, PySem.W.dataLt_tuple, pyL_map, pyL_map, List.map_append, List.map_cons]
  obtain ⟨p, h1, h2⟩ := toks_pre (ds.map D.py)
  obtain ⟨q, hq⟩ := h2 e.py (es.map D.py)
  rw [h1, hq, PySem.W.lex_pre, PyProof.Rows.lex_diff (O := itemOrd) (by simp)]
  rfl
def one (s l : List Str) : Bool := decide (l.length = s.length + 1) && decide (l.dropLast = s)
def aheadB (l s : Bd) : Bool := one s.r l.r && decide (s.r.length % 2 ≠ l.s)
def pairB (a b : Bd) : Bool := decide (a.n = b.n) && decide (a.s ≠ b.s) && (decide (a.r = b.r) || aheadB a b || aheadB b a)
def onB (P : Bd → Bd → Bool) (bs : List Bd) (i j : Nat) : Bool := match bs[i]?, bs[j]? with
  | some a, some b => P a b
  | _, _ => false
end LW
namespace LW
abbrev Pr := Nat × Nat
def Vs (c : List Pr) : List Nat := c.flatMap fun p => [p.1, p.2]
@[simp] theorem Vs_nil : Vs [] = [] := rfl
@[simp] theorem Vs_cons {p : Pr} {c : List Pr} : Vs (p :: c) = p.1 :: p.2 :: Vs c := rfl
@[simp] theorem Vs_app {c d : List Pr} : Vs (c ++ d) = Vs c ++ Vs d := by simp [Vs]
theorem mem_Vs {x : Nat} {c : List Pr} : x ∈ Vs c ↔ ∃ p ∈ c, x = p.1 ∨ x = p.2 := by
  simp [Vs]
def ded : List Nat → List Nat → List Nat
  | acc, [] => acc
  | acc, x :: xs => ded (if x ∈ acc then acc else acc ++ [x]) xs
theorem ded_mem {y : Nat} : ∀ {xs acc : List Nat}, y ∈ ded acc xs ↔ y ∈ acc ∨ y ∈ xs
  | [], acc => by simp [ded]
  | x :: xs, acc => by
    rw [ded, ded_mem]
    split
    · rename_i h
      constructor
      · rintro (h1 | h1)
        · exact .inl h1
        · exact .inr (List.mem_cons_of_mem _ h1)
      · rintro (h1 | h1)
        · exact .inl h1
        · rcases List.mem_cons.mp h1 with rfl | h1
          · exact .inl h
          · exact .inr h1
    · simp [or_assoc]
structure Mt (nb : Nat → List Nat) (c : List Pr) : Prop where
  ed : ∀ p ∈ c, p.2 ∈ nb p.1 ∧ p.1 < p.2
  nd : (Vs c).Nodup
  asc : (c.map (·.1)).Pairwise (· < ·)
section
variable {nb : Nat → List Nat}
theorem Mt.uniq {c : List Pr} (h : (Vs c).Nodup) : ∀ {p q : Pr}, p ∈ c → q ∈ c → ∀ {x : Nat}, (x = p.1 ∨ x = p.2) → (x = q.1 ∨ x = q.2) → p = q := by
  induction c with
  | nil => intro p q hp; exact nomatch hp
  | cons a c ih =>
    intro p q hp hq x hx hy
    simp only [Vs_cons, List.nodup_cons, List.mem_cons, not_or] at h
    obtain ⟨⟨h1, h2⟩, h3, h4⟩ := h
    rcases List.mem_cons.mp hp with ep | hp'
    · rcases List.mem_cons.mp hq with eq | hq'
      · rw [ep, eq]
      · have := mem_Vs.mpr ⟨q, hq', hy⟩
        rw [ep] at hx
        rcases hx with e | e
        · rw [e] at this; exact absurd this h2
        · rw [e] at this; exact absurd this h3
    · rcases List.mem_cons.mp hq with eq | hq'
      · have := mem_Vs.mpr ⟨p, hp', hx⟩
        rw [eq] at hy
        rcases hy with e | e
        · rw [e] at this; exact absurd this h2
        · rw [e] at this; exact absurd this h3
      · exact ih h4 hp' hq' hx hy
def Full (nb : Nat → List Nat) (c : List Pr) : Prop := ∀ x y, y ∈ nb x → x ∈ Vs c ∨ y ∈ Vs c
end
end LW
namespace LW
section
variable {nb : Nat → List Nat}
theorem Vs_perm {c d : List Pr} (h : c.Perm d) : (Vs c).Perm (Vs d) := h.flatMap_right _
theorem Full.perm {c d : List Pr} (h : Full nb c) (p : d.Perm c) : Full nb d := fun x y hxy => by
  have e := Vs_perm p
  rcases h x y hxy with h | h
  · exact .inl (e.mem_iff.mpr h)
  · exact .inr (e.mem_iff.mpr h)
end
end LW
namespace LW
open PySem PySem.Spec PyProof.Rows L2 RZ DN
abbrev iD (x : Nat) : D := .int (x : Int)
abbrev iL (l : List Nat) : List D := l.map iD
abbrev prD (p : Pr) : D := .tup [iD p.1, iD p.2]
theorem nc {x y : Nat} : ((x : Int) = (y : Int)) ↔ x = y := by omega
abbrev flV (l : List Nat) : List D := l.map fun _ => D.bl true
def St (s : Mem) (a f : D) : Mem := ⟨fun j => if j = s.n then some a else if j = s.n + 1 then some f else s.m j, s.n + 2⟩
def WF (s : Mem) : Prop := ∀ j, s.n ≤ j → s.m j = none
theorem WF.lt {s : Mem} (h : WF s) {j : Nat} {d : D} (e : s.m j = some d) : j < s.n := by
  refine Nat.lt_of_not_le fun hl => ?_
  rw [h j hl] at e; cases e
structure ExF (f : Nat) (s s' : Mem) : Prop where
  wf : WF s'
  old : ∀ j d, j ≠ f → s.m j = some d → s'.m j = some d
theorem ExF.trans {f : Nat} {s s' s'' : Mem} (a : ExF f s s') (b : ExF f s' s'') : ExF f s s'' := ⟨b.wf, fun j d h e => b.old j d h (a.old j d h e)⟩
structure Sr (s : Mem) (k kn kb kf : Nat) (most : Int) (nb : Nat → List Nat) (V : List Nat) : Prop where
  ob : s.m k = some (.ins "Search" [.ref kn, .ref kb, .int most, .ref kf])
  bs : s.m kb = some (.lst (iL V))
  nr : ∃ ks vs, s.m kn = some (.dct ks vs) ∧ ∀ b ∈ V, ∃ j, j ≠ kf ∧ lookD ks vs (.inl (.inl (b : Int))) = some (.ref j) ∧ s.m j = some (.lst (iL (nb b)))
  ne : k ≠ kf ∧ kn ≠ kf ∧ kb ≠ kf
theorem Sr.ex {s s' : Mem} {k kn kb kf : Nat} {most : Int} {nb : Nat → List Nat} {V : List Nat} (h : Sr s k kn kb kf most nb V) (e : ∀ j d, j ≠ kf → s.m j = some d → s'.m j = some d) : Sr s' k kn kb kf most nb V := by
  obtain ⟨ks, vs, h1, h2⟩ := h.nr
  refine ⟨e _ _ h.ne.1 h.ob, e _ _ h.ne.2.2 h.bs, ⟨ks, vs, e _ _ h.ne.2.1 h1, fun b hb => ?_⟩, h.ne⟩
  obtain ⟨j, q1, q2, q3⟩ := h2 b hb
  exact ⟨j, q1, q2, e _ _ q1 q3⟩
end LW
namespace LW
open PySem PySem.Spec PyProof.Rows L2 RZ DN
abbrev cD (c : List Pr) : D := .tup (c.map prD)
end LW
namespace LW
open PySem PySem.Spec PyProof.Rows L2 RZ DN
def sortN (xs : List Nat) : List Nat := xs.mergeSort fun a b => decide (a ≤ b)
theorem sortN_perm (xs : List Nat) : (sortN xs).Perm xs := List.mergeSort_perm _ _
structure Ps (P : List Pr) : Prop where
  lt : ∀ p ∈ P, p.1 < p.2
  nd : P.Nodup
def vsP (P : List Pr) : List Nat := sortN (ded [] (Vs P))
theorem mem_vsP {P : List Pr} {x : Nat} : x ∈ vsP P ↔ x ∈ Vs P := by
  unfold vsP
  rw [(sortN_perm _).mem_iff, ded_mem]
  simp
end LW
namespace LW
open PySem PySem.Spec PyProof.Rows L2 RZ DN
theorem updM_m {s : Mem} {p q : Nat} {o : Option D} : (updM s p o).m q = if q = p then o else s.m q := rfl
theorem push_m {s : Mem} {q : Nat} {d : D} : (s.push d).m q = if q = s.n then some d else s.m q := rfl
structure Ex0 (s s' : Mem) : Prop where
  wf : WF s'
  old : ∀ j d, s.m j = some d → s'.m j = some d
theorem Ex0.trans {s s' s'' : Mem} (a : Ex0 s s') (b : Ex0 s' s'') : Ex0 s s'' := ⟨b.wf, fun j d e => b.old j d (a.old j d e)⟩
theorem Ps.pre {P Q : List Pr} (h : Ps (P ++ Q)) : Ps P := ⟨fun p hp => h.lt p (List.mem_append_left _ hp), (List.nodup_append.mp h.nd).1⟩
end LW
namespace LW
section
variable {α : Type} [DecidableEq α]
def PN (P : List Pr) (nm : Nat → α) (a : α) : List Pr := P.filter fun p => decide (nm p.1 = a)
structure Pa (P : List Pr) (nm : Nat → α) (n : Nat) : Prop where
  ps : Ps P
  sm : ∀ p ∈ P, nm p.2 = nm p.1
  sz : ∀ p ∈ P, p.2 < n
variable {P : List Pr} {nm : Nat → α} {n : Nat}
theorem Ps.filter {P : List Pr} {f : Pr → Bool} (h : Ps P) : Ps (P.filter f) := ⟨fun p hp => h.lt p (List.mem_filter.mp hp).1, h.nd.filter _⟩
theorem mem_PN {a : α} {p : Pr} : p ∈ PN P nm a ↔ p ∈ P ∧ nm p.1 = a := by simp [PN, List.mem_filter]
theorem Pa.vs (h : Pa P nm n) {a : α} {x : Nat} (hx : x ∈ vsP (PN P nm a)) : x < n ∧ nm x = a := by
  rw [mem_vsP, mem_Vs] at hx
  obtain ⟨p, hp, e⟩ := hx
  rw [mem_PN] at hp
  have h1 := h.sz p hp.1
  have h2 := h.ps.lt p hp.1
  have h3 := h.sm p hp.1
  rcases e with rfl | rfl
  · exact ⟨by omega, hp.2⟩
  · exact ⟨h1, by rw [h3]; exact hp.2⟩
end
end LW
namespace LW
open PySem PySem.Spec PyProof.Rows L2 RZ DN
def dedS : List Str → List Str → List Str
  | acc, [] => acc
  | acc, x :: xs => dedS (if x ∈ acc then acc else acc ++ [x]) xs
def nsB (bs : List Bd) : List Str := sortS (dedS [] (bs.map Bd.n))
def HallB (h : D) (bs : List Bd) : Prop := ∃ c, c ∈ (["Hall", "RawHall"] : List Str) ∧ h = .ins c [.tup (bs.map Bd.d), .tup ((nsB bs).map .str)]
theorem HallB.of {h : D} {bs : List Bd} (g : HallB h bs) : HallOf h (bs.map Bd.d) := by
  obtain ⟨c, hc, e⟩ := g
  exact ⟨c, _, hc, e⟩
end LW
namespace LW
open PySem PySem.Spec PyProof.Rows L2 RZ DN
noncomputable def sortP (c : List Pr) : List Pr := c.mergeSort fun p q => leData (prD p) (prD q)
end LW
namespace LW
open PySem PySem.Spec PyProof.Rows L2 RZ DN
def Sel : List Pr → List Nat → Prop
  | [], l => l = []
  | p :: P, l => ∃ l', Sel P l' ∧ (l = p.1 :: l' ∨ l = p.2 :: l')
def orL (m : Nat) (l : List Nat) : Nat := l.foldl (fun m b => m ||| 2 ^ b) m
theorem Sel.hit : ∀ {P : List Pr} {l : List Nat}, Sel P l → ∀ p ∈ P, p.1 ∈ l ∨ p.2 ∈ l
  | [], _, _, _, h => nomatch h
  | p :: P, l, ⟨l', hl, e⟩, q, hq => by
    rcases List.mem_cons.mp hq with rfl | hq
    · rcases e with rfl | rfl <;> simp
    · have := hl.hit q hq
      rcases e with rfl | rfl
      · exact this.imp (List.mem_cons_of_mem _) (List.mem_cons_of_mem _)
      · exact this.imp (List.mem_cons_of_mem _) (List.mem_cons_of_mem _)
theorem Sel.col (c : Nat → Bool) : ∀ {P : List Pr}, (∀ p ∈ P, c p.1 ≠ c p.2) → ∃ l, Sel P l ∧ ∀ x ∈ l, c x = true
  | [], _ => ⟨[], rfl, fun _ h => nomatch h⟩
  | p :: P, h => by
    obtain ⟨l, h1, h2⟩ := Sel.col c (P := P) fun q hq => h q (List.mem_cons_of_mem _ hq)
    have hp := h p List.mem_cons_self
    cases e : c p.1 with
    | true => exact ⟨p.1 :: l, ⟨l, h1, .inl rfl⟩, fun x hx => by rcases List.mem_cons.mp hx with rfl | hx; exact e; exact h2 x hx⟩
    | false =>
      have e2 : c p.2 = true := by
        cases e2 : c p.2 with
        | true => rfl
        | false => rw [e, e2] at hp; exact absurd rfl hp
      exact ⟨p.2 :: l, ⟨l, h1, .inr rfl⟩, fun x hx => by rcases List.mem_cons.mp hx with rfl | hx; exact e2; exact h2 x hx⟩
end LW
namespace LW
open PySem PySem.Spec PyProof.Rows L2 RZ DN
def Good (a : Aim) (P : List Pr) : Prop := ∀ l, Sel P l → (a.holds fun b => decide (b ∈ l)) = true
theorem orL_bit {l : List Nat} : (orL 0 l).testBit = fun b => decide (b ∈ l) := funext fun i => mask_bit l i
end LW
namespace LW
open PySem PySem.Spec PyProof.Rows L2 RZ DN
theorem mono_on {many w : Nat} {p q : Nat → Bool} (h : ∀ b, b < many → p b = true → q b = true) : ∀ {k : Nat} {a : Aim}, Gd many w k a → a.holds p = true → a.holds q = true
  | 0, _, g, _ => False.elim g
  | k + 1, .at b, g, e => by
    rw [Aim.holds] at e ⊢
    exact h b g e
  | k + 1, .node kd as, g, e => by
    rw [holds_node] at e ⊢
    have ih : ∀ a ∈ as, a.holds p = true → a.holds q = true := fun a ha => mono_on h (g.2.2 a ha)
    cases kd with
    | all =>
      simp only [Kd.holds, List.all_map, List.all_eq_true, Function.comp, id] at e ⊢
      exact fun a ha => ih a ha (e a ha)
    | some =>
      simp only [Kd.holds, List.any_map, List.any_eq_true, Function.comp, id] at e ⊢
      obtain ⟨a, ha, e⟩ := e
      exact ⟨a, ha, ih a ha e⟩
    | least n =>
      simp only [Kd.holds, decide_eq_true_eq, List.countP_map] at e ⊢
      refine Nat.le_trans e ?_
      exact List.countP_mono_left fun a ha => ih a ha
theorem Tape.wf {t : TF} {s : Mem} (h : Tape t s) : WF s := by
  obtain ⟨ns, p, c, z, cn, ⟨h1, h2, h3, h4⟩, hp, rfl⟩ := h
  intro j hj
  have hj : t.f.n ≤ j := hj
  show (if j = t.t then _ else if j = t.sc then _ else t.f.m j) = none
  rw [if_neg (by omega), if_neg (by omega)]
  exact h4 j hj
theorem Tape.of {t : TF} {s s' : Mem} (h : Tape t s) (w : WF s') (e1 : s'.m t.t = s.m t.t) (e2 : s'.m t.sc = s.m t.sc) : Tape ⟨t.t, s', t.sc⟩ s' := by
  obtain ⟨ns, p, c, z, cn, ⟨h1, h2, h3, h4⟩, hp, rfl⟩ := h
  rw [tapeM_t] at e1
  rw [tapeM_sc h1] at e2
  refine ⟨ns, p, c, z, cn, ⟨h1, w.lt e2, w.lt e1, w⟩, hp, ?_⟩
  unfold tapeM
  cases s' with
  | mk m n =>
    congr 1
    funext j
    show m j = if j = t.t then _ else if j = t.sc then _ else m j
    by_cases hj : j = t.t
    · rw [if_pos hj, hj]; exact e1
    · rw [if_neg hj]
      by_cases hk : j = t.sc
      · rw [if_pos hk, hk]; exact e2
      · rw [if_neg hk]
theorem Tape.has {t : TF} {s : Mem} (h : Tape t s) : (∃ d, s.m t.t = some d) ∧ ∃ d, s.m t.sc = some d := by
  obtain ⟨ns, p, c, z, cn, ⟨h1, h2, h3, h4⟩, hp, rfl⟩ := h
  exact ⟨⟨_, tapeM_t⟩, ⟨_, tapeM_sc h1⟩⟩
theorem Tape.ext {t : TF} {s s' : Mem} (h : Tape t s) (x : Ex0 s s') : Tape ⟨t.t, s', t.sc⟩ s' := by
  obtain ⟨⟨d1, e1⟩, ⟨d2, e2⟩⟩ := Tape.has h
  exact Tape.of h x.wf ((x.old _ _ e1).trans e1.symm) ((x.old _ _ e2).trans e2.symm)
end LW
namespace LW
open PySem PySem.Spec PyProof.Rows L2 RZ DN
theorem Sel.len : ∀ {P : List Pr} {l : List Nat}, Sel P l → l.length = P.length
  | [], _, h => by rw [show _ = [] from h]; rfl
  | p :: P, l, ⟨l', hl, e⟩ => by
    have := hl.len
    rcases e with rfl | rfl <;> simp [this]
end LW
namespace LW
open PySem PySem.Spec PyProof.Rows L2 RZ DN
def ExT (t c : Nat) (s s' : Mem) : Prop := ∀ j d, j ≠ t → j ≠ c → s.m j = some d → s'.m j = some d
theorem ExT.refl {t c : Nat} {s : Mem} : ExT t c s s := fun _ _ _ _ h => h
theorem ExT.trans {t c : Nat} {s s' s'' : Mem} (a : ExT t c s s') (b : ExT t c s' s'') : ExT t c s s'' := fun j d h g e => b j d h g (a j d h g e)
theorem Ex0.t {t c : Nat} {s s' : Mem} (a : Ex0 s s') : ExT t c s s' := fun j d _ _ e => a.old j d e
theorem Tape.ex {T : TF} {s s' : Mem} (h : Tape T s) (g : Tape T s') : ExT T.t T.sc s s' := by
  obtain ⟨ns, p, c, z, cn, _, _, rfl⟩ := h
  obtain ⟨ns', p', c', z', cn', _, _, rfl⟩ := g
  intro j d h1 h2 e
  have e : (if j = T.t then _ else if j = T.sc then _ else T.f.m j) = some d := e
  show (if j = T.t then _ else if j = T.sc then _ else T.f.m j) = some d
  rw [if_neg h1, if_neg h2] at e ⊢
  exact e
theorem Tape.same {T : TF} {s s' : Mem} (h : Tape T s) (g : Tape T s') : s'.n = s.n ∧ ∀ j, j ≠ T.t → j ≠ T.sc → s'.m j = s.m j := by
  obtain ⟨ns, p, c, z, cn, _, _, rfl⟩ := h
  obtain ⟨ns', p', c', z', cn', _, _, rfl⟩ := g
  refine ⟨rfl, fun j h1 h2 => ?_⟩
  show (if j = T.t then _ else if j = T.sc then _ else T.f.m j) = (if j = T.t then _ else if j = T.sc then _ else T.f.m j)
  rw [if_neg h1, if_neg h1, if_neg h2, if_neg h2]
theorem Tape.low {T : TF} {s : Mem} (h : Tape T s) : T.t < s.n ∧ T.sc < s.n := by
  obtain ⟨⟨d1, e1⟩, ⟨d2, e2⟩⟩ := Tape.has h
  exact ⟨(Tape.wf h).lt e1, (Tape.wf h).lt e2⟩
theorem Tape.upd {T : TF} {s : Mem} {k : Nat} {d : D} (h : Tape T s) (k1 : k ≠ T.t) (k2 : k ≠ T.sc) (k3 : k < s.n) : Tape ⟨T.t, updM s k (some d), T.sc⟩ (updM s k (some d)) := by
  refine Tape.of h (fun j hj => ?_) ?_ ?_
  · have hj : s.n ≤ j := hj
    rw [updM_m, if_neg (by omega)]
    exact Tape.wf h j hj
  · rw [updM_m, if_neg (fun z => k1 z.symm)]
  · rw [updM_m, if_neg (fun z => k2 z.symm)]
theorem Tape.new {T : TF} {s : Mem} {d : D} (h : Tape T s) : Tape ⟨T.t, s.push d, T.sc⟩ (s.push d) := by
  have l := Tape.low h
  refine Tape.of h (fun j hj => ?_) ?_ ?_
  · have hj : s.n + 1 ≤ j := hj
    rw [push_m, if_neg (by omega)]
    exact Tape.wf h j (by omega)
  · rw [push_m, if_neg (by omega)]
  · rw [push_m, if_neg (by omega)]
end LW
namespace LW
open PySem PySem.Spec PyProof.Rows L2 RZ DN
theorem Good.mono {many w k : Nat} {a : Aim} {P Q : List Pr} (ga : Gd many w k a) (h : Good a P) (hPQ : ∀ l, Sel Q l → ∃ l', Sel P l' ∧ ∀ x ∈ l', x ∈ l) : Good a Q := fun l hl => by
  obtain ⟨l', h1, h2⟩ := hPQ l hl
  exact mono_on (fun b _ hb => by simpa using h2 b (by simpa using hb)) ga (h l' h1)
theorem Sel.sub : ∀ {P : List Pr} {l : List Nat}, (∀ p ∈ P, p.1 ∈ l ∨ p.2 ∈ l) → ∃ l', Sel P l' ∧ ∀ x ∈ l', x ∈ l
  | [], _, _ => ⟨[], rfl, fun _ h => nomatch h⟩
  | p :: P, l, h => by
    obtain ⟨l', h1, h2⟩ := Sel.sub (P := P) (l := l) fun q hq => h q (List.mem_cons_of_mem _ hq)
    rcases h p List.mem_cons_self with hp | hp
    · exact ⟨p.1 :: l', ⟨l', h1, .inl rfl⟩, fun x hx => by rcases List.mem_cons.mp hx with rfl | hx; exact hp; exact h2 x hx⟩
    · exact ⟨p.2 :: l', ⟨l', h1, .inr rfl⟩, fun x hx => by rcases List.mem_cons.mp hx with rfl | hx; exact hp; exact h2 x hx⟩
theorem Good.more {many w k : Nat} {a : Aim} {P Q : List Pr} (ga : Gd many w k a) (h : Good a P) (hs : ∀ p ∈ P, p ∈ Q) : Good a Q :=
  Good.mono ga h fun l hl => Sel.sub fun p hp => hl.hit p (hs p hp)
end LW
namespace LW
open PySem PySem.Spec PyProof.Rows L2 RZ DN
structure KeyE {α : Type} (f : α → D) (k : α → GK) : Prop where
  key : ∀ x, (f x).key = some (k x)
  inj : ∀ x y, k x = k y → x = y
  low : ∀ x, (k x).low = true
  kd : ∃ b, ∀ x, (k x).isT = b ∧ ∀ r, kindT (f x :: r) = b
section
variable {α : Type} [DecidableEq α] {f : α → D} {k : α → GK}
theorem KeyE.hasK (e : KeyE f k) {L : List α} {x : α} : hasK (L.map f) (k x) = decide (x ∈ L) := by
  unfold DN.hasK
  rw [List.any_map, Bool.eq_iff_iff, List.any_eq_true]
  simp only [Function.comp_apply, decide_eq_true_eq, e.key, Option.some.injEq]
  exact ⟨fun ⟨y, h, q⟩ => by rw [← e.inj _ _ q]; exact h, fun h => ⟨x, h, rfl⟩⟩
theorem KeyE.put (e : KeyE f k) {L : List α} {x : α} {vs : List D} {d : D} (h : x ∉ L) : putKs (L.map f) (k x) = (L ++ [x]).map f ∧ putVs (L.map f) vs (k x) d = vs ++ [d] := by
  unfold putKs putVs
  rw [e.hasK, decide_eq_false h]
  have := key_eq (e.key x)
  simp [← this]
theorem KeyE.ok (e : KeyE f k) {L : List α} {x : α} : okK (L.map f) (k x) = true := by
  obtain ⟨b, hb⟩ := e.kd
  unfold okK
  rw [e.low, Bool.and_true]
  cases L with
  | nil => rfl
  | cons y L =>
    rw [List.map_cons, (hb y).2, (hb x).1]
    simp
end
end LW
namespace LW
open PySem PySem.Spec PyProof.Rows L2 RZ DN
section
variable {K : PySem.W.Frag} {cl : CTab}
noncomputable def b__law_same : SEnv → M (MemS K cl) Fl := seqF (sFor (aName 3) (iOf range1 (xOp shlD (eC (.int 1)) (eVar 2))) (seqF (sSet 4 (xLc [5] (aName 5) (tCm eqD (xOp andD (xOp shrD (eVar 3) (eVar 5)) (eC (.int 1))) (eC (.int 1))) (eVar 5) (iOf range1 (eVar 2)))) (sIf pHide (tCm neD (xCall (m__law_holds 10) (aC (eVar 0) (aC (eVar 4) (aN)))) (xCall (m__law_holds 10) (aC (eVar 1) (aC (eVar 4) (aN))))) (sRet pHide (eC (.bl false))) (sPass)))) (sRet pHide (eC (.bl true)))
end
end LW
namespace LW
open PySem PySem.Spec PyProof.Rows L2 RZ DN
def hM (a : Aim) (m : Nat) : Bool := a.holds m.testBit
section
variable {K : PySem.W.Frag} {cl : CTab}
theorem ixL_map {α : Type} {g : α → D} {l : List α} {i : Nat} (h : i < l.length) : ixD (.lst (l.map g)) (.int (i : Int)) = some (g l[i]) := by
  rw [ixL (by rw [List.length_map]; exact h)]; simp
theorem alike_ints : ∀ (r s : List Nat), PySem.W.alikeAll (D.pyL (iL r)) (D.pyL (iL s)) = true
  | [], _ => by simp [D.pyL, PySem.W.alikeAll]
  | _ :: _, [] => by simp [D.pyL, PySem.W.alikeAll]
  | x :: r, y :: s => by
    have := alike_ints r s
    simp only [iL, List.map_cons, D.pyL, PySem.W.alikeAll] at this ⊢
    rw [this]
    simp [D.py, PySem.W.alike]
end
end LW
namespace LW
open PySem PySem.Spec PyProof.Rows L2 RZ DN
inductive F2 {α β : Type} (P : α → β → Prop) : List α → List β → Prop
  | nil : F2 P [] []
  | cons {a : α} {b : β} {as : List α} {bs : List β} : P a b → F2 P as bs → F2 P (a :: as) (b :: bs)
theorem F2.len {α β : Type} {P : α → β → Prop} : ∀ {as : List α} {bs : List β}, F2 P as bs → bs.length = as.length
  | _, _, .nil => rfl
  | _, _, .cons _ h => by simp [h.len]
theorem F2.map {α β γ : Type} {P : α → β → Prop} {f : α → γ} {g : β → γ} (h : ∀ a b, P a b → g b = f a) : ∀ {as : List α} {bs : List β}, F2 P as bs → bs.map g = as.map f
  | _, _, .nil => rfl
  | _, _, .cons p t => by rw [List.map_cons, List.map_cons, h _ _ p, t.map h]
theorem F2.all {α β : Type} {P : α → β → Prop} {Q : β → Prop} (h : ∀ a b, P a b → Q b) : ∀ {as : List α} {bs : List β}, F2 P as bs → ∀ b ∈ bs, Q b
  | _, _, .nil, _, hb => nomatch hb
  | _, _, .cons p t, b, hb => by
    rcases List.mem_cons.mp hb with rfl | hb
    · exact h _ _ p
    · exact t.all h b hb
end LW
namespace LW
open PySem PySem.Spec PyProof.Rows L2 RZ DN
def shP (m : Nat) (p : Pr) : Pr := (p.1 + m, p.2 + m)
def shL (m : Nat) (P : List Pr) : List Pr := P.map (shP m)
theorem Sel.some : ∀ (P : List Pr), ∃ l, Sel P l
  | [] => ⟨[], rfl⟩
  | p :: P => let ⟨l, h⟩ := Sel.some P; ⟨p.1 :: l, l, h, .inl rfl⟩
theorem Sel.in : ∀ {P : List Pr} {l : List Nat}, Sel P l → ∀ x ∈ l, x ∈ Vs P
  | [], l, h, x, hx => by
    have : l = [] := h
    subst this; exact nomatch hx
  | p :: P, l, ⟨l', h, e⟩, x, hx => by
    rw [Vs_cons, List.mem_cons, List.mem_cons]
    rcases e with rfl | rfl
    · rcases List.mem_cons.mp hx with rfl | hx
      · exact .inl rfl
      · exact .inr (.inr (h.in x hx))
    · rcases List.mem_cons.mp hx with rfl | hx
      · exact .inr (.inl rfl)
      · exact .inr (.inr (h.in x hx))
end LW
namespace LW
open PySem PySem.Spec PyProof.Rows L2 RZ DN
theorem Sel.vs : ∀ {P : List Pr} {l : List Nat}, Sel P l → ∀ x ∈ l, x ∈ Vs P
  | [], _, h, x, hx => by cases h; exact nomatch hx
  | p :: P, l, ⟨l', hl, e⟩, x, hx => by
    rw [Vs_cons]
    rcases e with rfl | rfl <;> rcases List.mem_cons.mp hx with rfl | hx <;> simp
    · exact .inr (.inr (hl.vs x hx))
    · exact .inr (.inr (hl.vs x hx))
theorem Sel.nd : ∀ {P : List Pr} {l : List Nat}, Sel P l → (Vs P).Nodup → l.Nodup
  | [], _, h, _ => by cases h; exact List.nodup_nil
  | p :: P, l, ⟨l', hl, e⟩, nd => by
    simp only [Vs_cons, List.nodup_cons, List.mem_cons, not_or] at nd
    rcases e with rfl | rfl
    · exact List.nodup_cons.mpr ⟨fun z => nd.1.2 (hl.vs _ z), hl.nd nd.2.2⟩
    · exact List.nodup_cons.mpr ⟨fun z => nd.2.1 (hl.vs _ z), hl.nd nd.2.2⟩
theorem Sel.one : ∀ {P : List Pr} {l : List Nat}, Sel P l → (Vs P).Nodup → ∀ p ∈ P, ¬ (p.1 ∈ l ∧ p.2 ∈ l)
  | [], _, _, _, _, h => nomatch h
  | q :: P, l, ⟨l', hl, e⟩, nd, p, hp => by
    simp only [Vs_cons, List.nodup_cons, List.mem_cons, not_or] at nd
    rintro ⟨h1, h2⟩
    rcases List.mem_cons.mp hp with rfl | hp
    · rcases e with rfl | rfl
      · rcases List.mem_cons.mp h2 with z | z
        · exact nd.1.1 z.symm
        · exact nd.2.1 (hl.vs _ z)
      · rcases List.mem_cons.mp h1 with z | z
        · exact nd.1.1 z
        · exact nd.1.2 (hl.vs _ z)
    · have v1 : p.1 ∈ Vs P := List.mem_flatMap.mpr ⟨p, hp, by simp⟩
      have v2 : p.2 ∈ Vs P := List.mem_flatMap.mpr ⟨p, hp, by simp⟩
      refine hl.one nd.2.2 p hp ⟨?_, ?_⟩
      · rcases e with rfl | rfl <;> rcases List.mem_cons.mp h1 with z | z
        · exact absurd (z ▸ v1) nd.1.2
        · exact z
        · exact absurd (z ▸ v1) nd.2.1
        · exact z
      · rcases e with rfl | rfl <;> rcases List.mem_cons.mp h2 with z | z
        · exact absurd (z ▸ v2) nd.1.2
        · exact z
        · exact absurd (z ▸ v2) nd.2.1
        · exact z
end LW
namespace LW
open PySem PySem.Spec PyProof.Rows L2 RZ DN
def lk (l : List Nat) : GK := .inr (l.map fun x : Nat => NestedKey.num (x : Int))
end LW
namespace LW
open PySem PySem.Spec PyProof.Rows L2 RZ DN
section
variable {K : PySem.W.Frag} {cl : CTab}
def pB : Bd := ⟨"p", 1, []⟩
end
end LW
namespace LW
open PySem PySem.Spec PyProof.Rows L2 RZ DN
theorem Gd.more {many many' w : Nat} (l : many ≤ many') : ∀ {k : Nat} {a : Aim}, Gd many w k a → Gd many' w k a
  | 0, _, h => False.elim h
  | k + 1, .at b, h => Nat.lt_of_lt_of_le h l
  | k + 1, .node kd as, h => ⟨h.1, h.2.1, fun a ha => (h.2.2 a ha).more l⟩
theorem Good.at {a : Aim} {P : List Pr} {l : List Nat} (g : Good a P) (h : Sel P l) : hM a (orL 0 l) = true := by
  unfold hM
  rw [orL_bit]
  exact g l h
end LW
namespace LW
open PySem PySem.Spec PyProof.Rows L2 RZ DN
section
variable {K : PySem.W.Frag} {cl : CTab}
noncomputable def b_is_listed : SEnv → M (MemS K cl) Fl := sRet pHide (xUn (isD2 "list" "tuple") (eVar 0))
noncomputable def m_is_listed : List D → M (MemS K cl) D := runF 1 b_is_listed
end
end LW
namespace LW
open PySem PySem.Spec PyProof.Rows L2 RZ DN
section
variable {K : PySem.W.Frag} {cl : CTab}
noncomputable def b__law_source : SEnv → M (MemS K cl) Fl := seqF (sSet 2 (eC (.int 0))) (seqF (sIf pHide (tCm ltI (eVar 1) (xB lenD (aC (eVar 0) (aN)))) (sSet 2 (xIx (eVar 0) (eVar 1))) (sPass)) (seqF (sSet 3 (xOp addD (eVar 1) (eC (.int 1)))) (seqF (sFor (aName 4) (iOf range1 (xB min2D (aC (xB lenD (aC (eVar 0) (aN))) (aC (eC (.int 6)) (aN))))) (sSet 3 (xOp modD (xB intD (aC (xOp addD (xOp addD (xOp mulD (eVar 3) (eC (.int 69621))) (xIx (eVar 0) (eVar 4))) (eC (.int 1))) (aN))) (eC (.int 2147483647))))) (seqF (sSet 3 (xOp modD (xB intD (aC (xOp addD (xOp mulD (eVar 3) (eC (.int 40693))) (eVar 2)) (aN))) (eC (.int 2147483629)))) (sRet pHide (xEnt (xLst (aC (eVar 2) (aC (xB intD (aC (xOp geI (eVar 2) (xOp powD (eC (.int 10)) (eC (.int 18)))) (aN))) (aC (eVar 3) (aC (eC (.int 0)) (aN))))))))))))
noncomputable def m__law_source : List D → M (MemS K cl) D := runF 5 b__law_source
noncomputable def b__law_take : SEnv → M (MemS K cl) Fl := seqF (sSetM pHide (eVar 0) (eC (.int 3)) (xOp addD (xIxM (eVar 0) (eC (.int 3))) (eC (.int 1)))) (seqF (sIf pHide (tAn (tCm eqD (xIxM (eVar 0) (eC (.int 1))) (eC (.int 1))) (tCm gtI (xIxM (eVar 0) (eC (.int 0))) (eC (.int 0)))) (seqF (sSet 3 (xOp modD (xB intD (aC (xIxM (eVar 0) (eC (.int 0))) (aN))) (eVar 1))) (seqF (sSetM pHide (eVar 0) (eC (.int 0)) (xOp fdivD (xIxM (eVar 0) (eC (.int 0))) (eVar 1))) (sRet pHide (eVar 3)))) (sPass)) (seqF (sSet 2 (xOp modD (xOp mulD (xB intD (aC (xOp addD (xIxM (eVar 0) (eC (.int 2))) (xOp mulD (eC (.int 7919)) (xIxM (eVar 0) (eC (.int 3))))) (aN))) (eC (.int 48271))) (eC (.int 2147483647)))) (seqF (sSet 2 (xOp modD (xOp mulD (eVar 2) (xOp addD (xOp fdivD (eVar 2) (eC (.int 1009))) (eC (.int 69621)))) (eC (.int 2147483647)))) (seqF (sSet 2 (xOp modD (xOp mulD (eVar 2) (xOp addD (xOp fdivD (eVar 2) (eC (.int 2003))) (eC (.int 40692)))) (eC (.int 2147483399)))) (sRet pHide (xOp modD (xOp fdivD (eVar 2) (eC (.int 16))) (eVar 1)))))))
noncomputable def m__law_take : List D → M (MemS K cl) D := runF 4 b__law_take
noncomputable def b__law_names : SEnv → M (MemS K cl) Fl := seqF (sSet 2 (eC (.str "abcdefghijklmnopqrstuvwxyz"))) (seqF (sNewL 3) (seqF (sFor (aName 4) (iOf range1 (eVar 1)) (seqF (sSet 5 (xOp addD (eC (.int 1)) (xCall m__law_take (aC (eVar 0) (aC (eC (.int 8)) (aN)))))) (seqF (sSet 6 (xBm "str" joinD (eC (.str "")) (aC (xLc [7] (aName 7) (tY) (xIx (eVar 2) (xCall m__law_take (aC (eVar 0) (aC (eC (.int 26)) (aN))))) (iOf range1 (eVar 5))) (aN)))) (sIf pAll (tCm notInK (eVar 6) (eVar 3)) (sApp pHide yes 3 (eVar 6)) (sPass))))) (sFrz 3 (sRet pHide (eVar 3)))))
noncomputable def m__law_names : List D → M (MemS K cl) D := runF 8 b__law_names
noncomputable def b__law_is_int : SEnv → M (MemS K cl) Fl := sRet pHide (xAn (xUn (isD "int") (eVar 0)) (xNt (xUn (isD "bool") (eVar 0))))
noncomputable def m__law_is_int : List D → M (MemS K cl) D := runF 1 b__law_is_int
noncomputable def b__law_same_v2 (self_m : List D → M (MemS K cl) D) : SEnv → M (MemS K cl) Fl := seqF (sIf pHide (tCm isN (eVar 1) (eC .non)) (sRet pHide (xOp isN (eVar 0) (eC .non))) (sPass)) (seqF (sIf pHide (tTr (xUn (isD "bool") (eVar 1))) (sRet pHide (xAn (xUn (isD "bool") (eVar 0)) (xOp eqD (eVar 0) (eVar 1)))) (sPass)) (seqF (sIf pHide (tTr (xUn (isD "int") (eVar 1))) (sRet pHide (xAn (xCall m__law_is_int (aC (eVar 0) (aN))) (xOp eqD (eVar 0) (eVar 1)))) (sPass)) (seqF (sIf pHide (tTr (xUn (isD "str") (eVar 1))) (sRet pHide (xAn (xUn (isD "str") (eVar 0)) (xOp eqD (eVar 0) (eVar 1)))) (sPass)) (seqF (sIf pHide (tOo (tCm neD (xUn (isD "tuple") (eVar 1)) (xUn (isD "tuple") (eVar 0))) (tCm neD (xUn (isD "list") (eVar 1)) (xUn (isD "list") (eVar 0)))) (sRet pHide (eC (.bl false))) (sPass)) (seqF (sIf pHide (tCm neD (xB lenD (aC (eVar 0) (aN))) (xB lenD (aC (eVar 1) (aN)))) (sRet pHide (eC (.bl false))) (sPass)) (seqF (sFor (aName 2) (iOf range1 (xB lenD (aC (eVar 1) (aN)))) (sIf pHide (tNt (tTr (xCall self_m (aC (xIx (eVar 0) (eVar 2)) (aC (xIx (eVar 1) (eVar 2)) (aN)))))) (sRet pHide (eC (.bl false))) (sPass))) (sRet pHide (eC (.bl true)))))))))
noncomputable def m__law_same_v2 : Nat → List D → M (MemS K cl) D
  | 0 => fun _ _ => .stuck
  | n + 1 => runF 3 (b__law_same_v2 (m__law_same_v2 n))
end
end LW
namespace LW
open PySem PySem.Spec PyProof.Rows L2 RZ DN
abbrev Rw := List Str
def rD (r : Rw) : D := .tup (r.map .str)
def ltR (a b : Rw) : Prop := ltD (rD a) (rD b) = true
theorem ltR_irr {a : Rw} : ¬ ltR a a := fun h => by unfold ltR at h; rw [ltD_irr] at h; cases h
theorem ltR_trans {a b c : Rw} (h : ltR a b) (g : ltR b c) : ltR a c := ltD_trans h g
theorem ltR_asymm {a b : Rw} (h : ltR a b) (g : ltR b a) : False := ltR_irr (ltR_trans h g)
theorem ltR_long {a b : Rw} (h : b ≠ []) : ltR a (a ++ b) := by
  cases b with
  | nil => exact absurd rfl h
  | cons x b =>
    unfold ltR rD
    rw [List.map_append, List.map_cons]
    exact lt_longer
theorem ltR_nil {a : Rw} (h : a ≠ []) : ltR [] a := ltR_long (a := []) h
theorem asc_nd {l : List Rw} (h : l.Pairwise ltR) : l.Nodup := h.imp fun {a b} h (e : a = b) => ltR_irr (a := a) (by rw [← e] at h; exact h)
def RowOk (r : Rw) : Prop := r.length ≤ 60 ∧ ∀ w ∈ r, WordOk 20 w
structure Gm (g : List Rw) : Prop where
  asc : g.Pairwise ltR
  nil : [] ∈ g
  pre : ∀ r ∈ g, r.dropLast ∈ g
  len : g.length ≤ 600
  row : ∀ r ∈ g, RowOk r
theorem Gm.nd {g : List Rw} (h : Gm g) : g.Nodup := asc_nd h.asc
theorem Gm.cons {g : List Rw} (h : Gm g) : ∃ g', g = [] :: g' := by
  cases g with
  | nil => exact nomatch h.nil
  | cons r g =>
    rcases List.mem_cons.mp h.nil with e | e
    · exact ⟨g, by rw [e]⟩
    · exfalso
      have h1 := (List.pairwise_cons.mp h.asc).1 _ e
      by_cases hr : r = []
      · exact ltR_irr (by rw [hr] at h1; exact h1)
      · exact ltR_asymm h1 (ltR_nil hr)
theorem pre_take {g : List Rw} (h : ∀ r ∈ g, r.dropLast ∈ g) : ∀ (k : Nat) (r : Rw), r ∈ g → r.length - k ≤ r.length → r.take (r.length - k) ∈ g
  | 0, r, hr, _ => by simpa using hr
  | k + 1, r, hr, _ => by
    have := h _ (pre_take h k r hr (by omega))
    rw [List.dropLast_eq_take, List.length_take, List.take_take] at this
    have e : min (min (r.length - k) r.length - 1) (r.length - k) = r.length - (k + 1) := by omega
    rw [e] at this
    exact this
theorem Gm.take {g : List Rw} (h : Gm g) {r : Rw} (hr : r ∈ g) (k : Nat) : r.take k ∈ g := by
  by_cases hk : k ≤ r.length
  · have := pre_take h.pre (r.length - k) r hr (by omega)
    rw [show r.length - (r.length - k) = k by omega] at this
    exact this
  · rw [List.take_of_length_le (by omega)]; exact hr
end LW
namespace LW
open PySem PySem.Spec PyProof.Rows L2 RZ DN
section
variable {α : Type} [DecidableEq α] {f : α → D} {k : α → GK}
theorem KeyE.putAll (e : KeyE f k) (v : α → D) : ∀ {l L : List α} {vs : List D}, (L ++ l).Nodup → DN.putAll (L.map f) vs (l.map fun x => (f x, v x)) = some (.dct ((L ++ l).map f) (vs ++ l.map v))
  | [], L, vs, _ => by simp [DN.putAll]
  | x :: l, L, vs, nd => by
    have hx : x ∉ L := fun h => by
      rw [List.nodup_append] at nd
      exact nd.2.2 x h x List.mem_cons_self rfl
    obtain ⟨p1, p2⟩ := e.put (vs := vs) (d := v x) hx
    rw [List.map_cons, DN.putAll, e.key, Option.bind_some, if_pos e.ok, p1, p2, KeyE.putAll e v (by rw [List.append_assoc]; exact nd)]
    simp
theorem KeyE.inK (e : KeyE f k) {L : List α} {x : α} {vs : List D} : DN.inK (f x) (.dct (L.map f) vs) = some (.bl (decide (x ∈ L))) := by
  show ((f x).key.bind fun k => if okK (L.map f) k = true then some (D.bl (DN.hasK (L.map f) k)) else none) = _
  rw [e.key, Option.bind_some, if_pos e.ok, e.hasK]
end
end LW
namespace LW
open PySem PySem.Spec PyProof.Rows L2 RZ DN
theorem RowOk.pre {r s : Rw} (h : RowOk s) (p : r <+: s) : RowOk r := ⟨Nat.le_trans p.length_le h.1, fun w hw => h.2 w (p.subset hw)⟩
end LW
namespace LW
open PySem PySem.Spec PyProof.Rows L2 RZ DN
structure GI (L : List Rw) (n : Nat) : Prop where
  nd : L.Nodup
  nil : [] ∈ L
  pre : ∀ r ∈ L, r.dropLast ∈ L
  len : L.length ≤ n
  row : ∀ r ∈ L, r.length < n ∧ ∀ w ∈ r, WordOk 20 w
theorem GI.mono {L : List Rw} {n m : Nat} (h : GI L n) (k : n ≤ m) : GI L m :=
  ⟨h.nd, h.nil, h.pre, Nat.le_trans h.len k, fun r hr => ⟨Nat.lt_of_lt_of_le (h.row r hr).1 k, (h.row r hr).2⟩⟩
theorem GI.app {L : List Rw} {n : Nat} {r : Rw} {w : Str} (h : GI L n) (hr : r ∈ L) (hw : WordOk 20 w) (hn : r ++ [w] ∉ L) : GI (L ++ [r ++ [w]]) (n + 1) where
  nd := by
    rw [List.nodup_append]
    exact ⟨h.nd, by simp, fun a ha b hb e => hn (by rw [List.mem_singleton] at hb; rw [← hb, ← e]; exact ha)⟩
  nil := List.mem_append_left _ h.nil
  pre x hx := by
    rcases List.mem_append.mp hx with hx | hx
    · exact List.mem_append_left _ (h.pre x hx)
    · rw [List.mem_singleton] at hx
      subst hx
      rw [List.dropLast_concat]
      exact List.mem_append_left _ hr
  len := by have := h.len; simp; omega
  row x hx := by
    rcases List.mem_append.mp hx with hx | hx
    · have := h.row x hx; exact ⟨by omega, this.2⟩
    · rw [List.mem_singleton] at hx
      subst hx
      have := h.row r hr
      refine ⟨by simp; omega, fun z hz => ?_⟩
      rcases List.mem_append.mp hz with hz | hz
      · exact this.2 z hz
      · rw [List.mem_singleton] at hz; rw [hz]; exact hw
end LW
namespace LW
open PySem PySem.Spec PyProof.Rows L2 RZ DN
inductive Pl : D → Prop
  | non : Pl .non
  | bl (b : Bool) : Pl (.bl b)
  | int (i : Int) : Pl (.int i)
  | str (z : Str) : Pl (.str z)
  | lst (ds : List D) : Pl (.lst ds)
  | dct (ks ds : List D) : Pl (.dct ks ds)
  | tup (ds : List D) (h : ∀ d ∈ ds, Pl d) : Pl (.tup ds)
def isWordD (m : Nat) : D → Bool
  | .str z => wordB m z
  | _ => false
section
variable {K : PySem.W.Frag} {cl : CTab}
theorem in_letter {c : Nat} : inD (.str ⟨#[c]⟩) (.str "abcdefghijklmnopqrstuvwxyz") = some (.bl (!(Builtin.Str.occurrences "abcdefghijklmnopqrstuvwxyz" ⟨#[c]⟩ 0 (26 : Nat) 1).isEmpty)) := rfl
theorem all_bools {α : Type} {f : α → Bool} {l : List α} : allD [.lst (l.map fun o => .bl (f o))] = some (.bl (l.all f)) := by
  have h : ∀ l : List α, bools (l.map fun o => D.bl (f o)) = some (l.map f) := fun l => by
    induction l with
    | nil => rfl
    | cons x l ih => rw [List.map_cons, bools, ih]; rfl
  show (bools _).map _ = _
  rw [h]
  show some (D.bl _) = _
  rw [List.all_map]
  rfl
theorem e_lettersD {m : Nat} {d : D} (h : Pl d) : (m_is_letters [d, .int (m : Int)] : M (MemS K cl) D) = M.pure (.bl (isWordD m d)) := by
  cases h with
  | non => simp [m_is_letters, b_is_letters, startE, isWordD]
  | bl b => simp [m_is_letters, b_is_letters, startE, isWordD]
  | int i => simp [m_is_letters, b_is_letters, startE, isWordD]
  | lst ds => simp [m_is_letters, b_is_letters, startE, isWordD]
  | dct ks ds => simp [m_is_letters, b_is_letters, startE, isWordD]
  | tup ds _ => simp [m_is_letters, b_is_letters, startE, isWordD]
  | str z =>
    simp only [m_is_letters, b_is_letters, s_runF, startE]
    simp
    by_cases h1 : 1 ≤ z.length
    · by_cases h2 : z.length ≤ m
      · rw [if_neg (by omega)]
        simp
        rw [compL_map (g := fun c : Nat => D.str ⟨#[c]⟩) (k := fun c => .bl (!(Builtin.Str.occurrences "abcdefghijklmnopqrstuvwxyz" ⟨#[c]⟩ 0 (26 : Nat) 1).isEmpty)) (fun c hc => by
          have := in_letter (c := c)
          simp [wipeE, this])]
        have ea := all_bools (f := fun c : Nat => !(Builtin.Str.occurrences "abcdefghijklmnopqrstuvwxyz" ⟨#[c]⟩ 0 (26 : Nat) 1).isEmpty) (l := z.cps.toList)
        simp only [DN.bind_pure, ea, lift_some']
        simp [isWordD, wordB, h1, h2]
      · rw [if_pos (by omega)]
        simp [isWordD, wordB, h2]
    · rw [if_pos (by omega)]
      simp [isWordD, wordB, h1]
end
end LW
namespace LW
open PySem PySem.Spec PyProof.Rows L2 RZ DN
def isIntD (lo hi : Int) : D → Bool
  | .int i => decide (lo ≤ i) && decide (i ≤ hi)
  | _ => false
end LW
namespace LW
open PySem PySem.Spec PyProof.Rows L2 RZ DN
section
variable {K : PySem.W.Frag} {cl : CTab}
noncomputable def b_names_of : SEnv → M (MemS K cl) Fl := sRet pHide (xSrtSet (xLc [1, 2, 3, 4] (aTup (aCons (aName 1) (aCons (aName 2) (aCons (aName 3) (aCons (aName 4) (aNil)))))) (tY) (eVar 1) (iOf anyI (eVar 0))))
noncomputable def m_names_of : List D → M (MemS K cl) D := runF 5 b_names_of
noncomputable def b_met_of_f1 : SEnv → M (MemS K cl) Fl := sIf pHide (tCm eqD (eVar 4) (eVar 2)) (sAugI 3 (eVar 5) (xOp mulD (eVar 6) (eVar 7))) (sPass)
noncomputable def b_met_of_f2 : SEnv → M (MemS K cl) Fl := seqF (sOwn 3 (xFl (xLst (aC (eC (.int 0)) (aC (eC (.int 0)) (aN)))))) (seqF (sFor (aTup (aCons (aName 4) (aCons (aName 5) (aCons (aName 6) (aCons (aName 7) (aNil)))))) (iOf anyI (eVar 0)) (b_met_of_f1)) (sFrz 3 (sAug pHide yes 1 iaddD (xB minLD (aC (eVar 3) (aN))))))
noncomputable def b_met_of : SEnv → M (MemS K cl) Fl := seqF (sSet 1 (eC (.int 0))) (seqF (sFor (aName 2) (iOf anyI (xCall m_names_of (aC (eVar 0) (aN)))) (b_met_of_f2)) (sRet pHide (eVar 1)))
noncomputable def m_met_of : List D → M (MemS K cl) D := runF 8 b_met_of
end
end LW
namespace LW
open PySem PySem.Spec PyProof.Rows L2 RZ DN
def Src (k : Nat) (s : Mem) : Prop := WF s ∧ ∃ c f z n : Int, s.m k = some (.lst [.int c, .int f, .int z, .int n])
theorem Src.ext {k : Nat} {s s' : Mem} (h : Src k s) (x : Ex0 s s') : Src k s' := by
  obtain ⟨_, c, f, z, n, e⟩ := h
  exact ⟨x.wf, c, f, z, n, x.old _ _ e⟩
theorem Src.wf {k : Nat} {s : Mem} (h : Src k s) : WF s := h.1
theorem Src.set {k : Nat} {s : Mem} (h : Src k s) (c f z n : Int) : Src k (updM s k (some (.lst [.int c, .int f, .int z, .int n]))) := by
  obtain ⟨w, c', f', z', n', e⟩ := h
  refine ⟨fun j hj => ?_, c, f, z, n, ?_⟩
  · have hk := w.lt e
    have hj : s.n ≤ j := hj
    show (if j = k then _ else s.m j) = none
    rw [if_neg (by omega), w j hj]
  · show (if k = k then _ else s.m k) = _
    rw [if_pos rfl]
section
variable {K : PySem.W.Frag} {cl : CTab}
theorem wp_take {k : Nat} {n : Int} {R : D → Mem → Prop} {s : Mem} (hs : Src k s) (h1 : 1 ≤ n) (h2 : n ≤ 1073741823) (q : ∀ j s', 0 ≤ j → j < n → Src k s' → R (.int j) s') : wp (m__law_take (K := K) (cl := cl) [.ref k, .int n]) R s := by
  obtain ⟨w, c, f, z, m, e⟩ := hs
  have mod0 : ∀ x : Int, 0 ≤ x % n ∧ x % n < n := fun x => ⟨Int.emod_nonneg _ (by omega), Int.emod_lt_of_pos _ (by omega)⟩
  have hn0 : 0 < n := by omega
  have hn1 : n < 1073741824 := by omega
  have r0 : ∀ {s : Mem} {c f z m : Int} {R : D → Mem → Prop}, s.m k = some (.lst [.int c, .int f, .int z, .int m]) → (wp (ixM (K := K) (cl := cl) (.ref k) (.int 0)) R s ↔ R (.int c) s) := fun h => wp_ixr h rfl
  have r1 : ∀ {s : Mem} {c f z m : Int} {R : D → Mem → Prop}, s.m k = some (.lst [.int c, .int f, .int z, .int m]) → (wp (ixM (K := K) (cl := cl) (.ref k) (.int 1)) R s ↔ R (.int f) s) := fun h => wp_ixr h rfl
  have r2 : ∀ {s : Mem} {c f z m : Int} {R : D → Mem → Prop}, s.m k = some (.lst [.int c, .int f, .int z, .int m]) → (wp (ixM (K := K) (cl := cl) (.ref k) (.int 2)) R s ↔ R (.int z) s) := fun h => wp_ixr h rfl
  have r3 : ∀ {s : Mem} {c f z m : Int} {R : D → Mem → Prop}, s.m k = some (.lst [.int c, .int f, .int z, .int m]) → (wp (ixM (K := K) (cl := cl) (.ref k) (.int 3)) R s ↔ R (.int m) s) := fun h => wp_ixr h rfl
  have w3 : ∀ {s : Mem} {c f z m x : Int} {R : Unit → Mem → Prop}, s.m k = some (.lst [.int c, .int f, .int z, .int m]) → (wp (setM (K := K) (cl := cl) (.ref k) (.int 3) (.int x)) R s ↔ R () (updM s k (some (.lst [.int c, .int f, .int z, .int x])))) := fun h => by
    simp [wp, setM, h, ixN, D.imm]
  have w0 : ∀ {s : Mem} {c f z m x : Int} {R : Unit → Mem → Prop}, s.m k = some (.lst [.int c, .int f, .int z, .int m]) → (wp (setM (K := K) (cl := cl) (.ref k) (.int 0) (.int x)) R s ↔ R () (updM s k (some (.lst [.int x, .int f, .int z, .int m])))) := fun h => by
    simp [wp, setM, h, ixN, D.imm]
  have eu : ∀ {s : Mem} {d : D}, (updM s k (some d)).m k = some d := fun {s d} => if_pos rfl
  have hs0 : Src k s := ⟨w, c, f, z, m, e⟩
  have hs1 : Src k (updM s k (some (.lst [.int c, .int f, .int z, .int (m + 1)]))) := hs0.set ..
  have e1 := eu (s := s) (d := .lst [.int c, .int f, .int z, .int (m + 1)])
  simp only [m__law_take, b__law_take, s_runF, startE]
  refine wp_bind (wp_cut (fun ρ s' => Src k s' ∧ s'.m k = some (.lst [.int c, .int f, .int z, .int (m + 1)]) ∧ ρ = [.val (.ref k), .val (.int n), .no, .no]) ?_ ?_)
  · simp [r3 e, w3 e]
    exact hs1
  clear hs1 e1 hs0 e
  rintro ρ s ⟨hs, e, rfl⟩
  refine wp_cut (fun ρ s' => Src k s' ∧ s'.m k = some (.lst [.int c, .int f, .int z, .int (m + 1)]) ∧ ρ = [.val (.ref k), .val (.int n), .no, .no]) ?_ ?_
  · by_cases hf : f = 1
    · subst hf
      by_cases hc : 0 < c
      · simp [r1 e, r0 e, hc, hn0, hn1, w0 e]
        exact q _ _ (mod0 _).1 (mod0 _).2 (hs.set ..)
      · simp [r1 e, r0 e, hc]
        exact ⟨hs, e⟩
    · simp [r1 e, hf]
      exact ⟨hs, e⟩
  rintro ρ s ⟨hs, e, rfl⟩
  simp [r2 e, r3 e, hn0, hn1]
  have hx : ∀ x : Int, 0 ≤ x % 2147483647 ∧ x % 2147483647 < 2147483647 := fun x => ⟨Int.emod_nonneg _ (by omega), Int.emod_lt_of_pos _ (by omega)⟩
  have hx1 := hx ((z + 7919 * (m + 1)) * 48271)
  generalize (z + 7919 * (m + 1)) * 48271 % 2147483647 = x at hx1
  rw [if_pos (.inl (by omega)), wp_lift_iff]
  simp
  have hx2 := hx (x * (x / 1009 + 69621))
  generalize x * (x / 1009 + 69621) % 2147483647 = y at hx2
  rw [if_pos (.inl (by omega)), wp_lift_iff]
  simp [hn0, hn1]
  exact q _ _ (mod0 _).1 (mod0 _).2 hs
theorem push_src {s : Mem} (w : WF s) (c f z n : Int) : Src s.n (s.push (.lst [.int c, .int f, .int z, .int n])) ∧ Ex0 s (s.push (.lst [.int c, .int f, .int z, .int n])) := by
  have w' : WF (s.push (.lst [.int c, .int f, .int z, .int n])) := fun j hj => by
    have hj : s.n + 1 ≤ j := hj
    show (if j = s.n then _ else s.m j) = none
    rw [if_neg (by omega), w j (by omega)]
  refine ⟨⟨w', c, f, z, n, if_pos rfl⟩, w', fun j d e => ?_⟩
  show (if j = s.n then _ else s.m j) = _
  rw [if_neg (by have := w.lt e; omega), e]
theorem wp_source {ns : List Int} {a : Nat} {R : D → Mem → Prop} {s : Mem} (w : WF s) (hl : ns.length ≤ 63) (q : ∀ s', Src s.n s' → Ex0 s s' → R (.ref s.n) s') : wp (m__law_source (K := K) (cl := cl) [.lst (ns.map .int), .int a]) R s := by
  have hlen : lenD [.lst (ns.map .int)] = some (.int (ns.length : Int)) := by simp [lenD]
  have hix : ∀ i : Nat, i < ns.length → ∃ x : Int, ixD (.lst (ns.map D.int)) (.int (i : Int)) = some (.int x) := fun i hi => ⟨ns[i], ixL_map hi⟩
  have hx : ∀ x y : Int, 0 < y → 0 ≤ x % y ∧ x % y < y := fun x y h => ⟨Int.emod_nonneg _ (by omega), Int.emod_lt_of_pos _ h⟩
  simp only [m__law_source, b__law_source, s_runF, startE]
  refine wp_bind (wp_cut (fun ρ s' => s' = s ∧ ρ = [.val (.lst (ns.map .int)), .val (.int a), .val (.int 0), .no, .no]) ?_ ?_)
  · simp
  rintro ρ s' ⟨e0, rfl⟩
  subst e0
  refine wp_cut (fun ρ s1 => s1 = s' ∧ ∃ c : Int, ρ = [.val (.lst (ns.map .int)), .val (.int a), .val (.int c), .no, .no]) ?_ ?_
  · by_cases h : a < ns.length
    · obtain ⟨x, e⟩ := hix a h
      have h' : (a : Int) < (ns.length : Int) := by omega
      simp [hlen, h', e]
    · have h' : ¬ (a : Int) < (ns.length : Int) := by omega
      simp [hlen, h']
  rintro ρ s ⟨rfl, c, rfl⟩
  refine wp_cut (fun ρ s1 => s1 = s ∧ ∃ z : Int, ρ = [.val (.lst (ns.map .int)), .val (.int a), .val (.int c), .val (.int z), .no]) ?_ ?_
  · simp
  rintro ρ s' ⟨e0, z, rfl⟩
  subst e0
  refine wp_cut (fun ρ s1 => s1 = s' ∧ ∃ (z : Int) (x4 : Sl), ρ = [.val (.lst (ns.map .int)), .val (.int a), .val (.int c), .val (.int z), x4]) ?_ ?_
  · have er : min2D [.int (ns.length : Int), .int 6] = some (.int ((min ns.length 6 : Nat) : Int)) := by
      show some (D.int (if (6 : Int) < (ns.length : Int) then 6 else (ns.length : Int))) = _
      congr 2
      split <;> omega
    simp [hlen, er]
    rw [rng (min ns.length 6) (by omega), wp_lift_iff]
    refine wp_forI (fun (r : List D) ρ s1 => (∀ d ∈ r, ∃ i : Nat, i < ns.length ∧ d = .int (i : Int)) ∧ s1 = s' ∧ ∃ (z : Int) (x4 : Sl), ρ = [.val (.lst (ns.map .int)), .val (.int a), .val (.int c), .val (.int z), x4]) ⟨fun d hd => by
      obtain ⟨i, hi, rfl⟩ := List.mem_map.mp hd
      exact ⟨i, by have := List.mem_range.mp hi; omega, rfl⟩, rfl, _, _, rfl⟩ ?_ ?_
    · rintro d r ρ s1 ⟨hr, rfl, z, x4, rfl⟩
      obtain ⟨i, hi, rfl⟩ := hr d List.mem_cons_self
      obtain ⟨x, e⟩ := hix i hi
      refine ⟨_, s_aName, ?_⟩
      simp [setsS, e]
      exact fun d hd => hr d (List.mem_cons_of_mem _ hd)
    · rintro ρ s1 ⟨_, h, h2⟩
      exact ⟨h, h2⟩
  rintro ρ s ⟨rfl, z, x4, rfl⟩
  have ei : ∀ b : Bool, DN.intD [.bl b] = some (.int (if b then 1 else 0)) := fun b => rfl
  simp [ei]
  generalize ((z * 40693 + c) % 2147483629) = z'
  rw [wp_ent (by simp [D.memb, D.immL, D.imm])]
  obtain ⟨h1, h2⟩ := push_src w c (if (1000000000000000000 ≤ c) then 1 else 0) z' 0
  exact q _ h1 h2
end
end LW
namespace LW
open PySem PySem.Spec PyProof.Rows L2 RZ DN
theorem lets_in0 : ∀ i < 26, (Builtin.Str.occurrences "abcdefghijklmnopqrstuvwxyz" ⟨#[97 + i]⟩ 0 (26 : Nat) 1).isEmpty = false := by decide +kernel
theorem lets_in (i : Nat) (h : i < 26) : inD (.str ⟨#[97 + i]⟩) lettersD = some (.bl true) := by
  have e : inD (.str ⟨#[97 + i]⟩) lettersD = some (.bl (!(Builtin.Str.occurrences "abcdefghijklmnopqrstuvwxyz" ⟨#[97 + i]⟩ 0 (26 : Nat) 1).isEmpty)) := rfl
  rw [e, lets_in0 i h]; rfl
def letS (i : Nat) : Str := ⟨#[97 + i]⟩
def wordS (l : List Nat) : Str := ⟨(l.map (97 + ·)).toArray⟩
theorem glue_letters : ∀ (l : List Nat) (acc : Array Nat), (l.map letS).foldl (fun acc p => acc ++ (Str.ofString "").cps ++ p.cps) acc = acc ++ (l.map (97 + ·)).toArray
  | [], acc => by simp
  | i :: l, acc => by
    have h0 : (Str.ofString "").cps = #[] := by decide +kernel
    rw [List.map_cons, List.foldl_cons, glue_letters l, h0]
    apply Array.ext'
    simp [letS]
theorem join_letters {l : List Nat} (h1 : 1 ≤ l.length) (h2 : l.length ≤ 100) (hl : ∀ i ∈ l, i < 26) : joinD (.str "") [.lst (l.map fun i => .str (letS i))] = some (.str (wordS l)) := by
  have e1 : strsD (.lst (l.map fun i => .str (letS i))) = some (l.map letS) := by
    show strsOf _ = _
    clear h1 h2 hl
    induction l with
    | nil => rfl
    | cons i l ih => rw [List.map_cons, List.map_cons]; show (strsOf _).map _ = _; rw [ih]; rfl
  have e2 : Txt.join "" (l.map letS) = wordS l := by
    cases l with
    | nil => exact absurd h1 (by simp)
    | cons i l =>
      show (⟨((l.map letS)).foldl (fun acc p => acc ++ (Str.ofString "").cps ++ p.cps) (letS i).cps⟩ : Str) = _
      rw [glue_letters]
      unfold wordS letS
      congr 1
      apply Array.ext'
      simp
  show (strsD _).bind _ = _
  rw [e1, Option.bind_some, e2]
  refine if_pos ⟨?_, ?_, ?_⟩
  · have hs : ((l.map letS).map (·.length)).sum = l.length := by
      clear h1 h2 hl e1 e2
      induction l with
      | nil => rfl
      | cons i l ih =>
        simp only [List.map_cons, List.sum_cons, List.length_cons, ih]
        show 1 + l.length = _
        omega
    have h0 : (Str.ofString "").length = 0 := by decide +kernel
    rw [hs, List.length_map]
    show l.length + l.length * (Str.ofString "").length ≤ _
    rw [h0]; omega
  · show (l.map (97 + ·)).toArray.size ≤ _
    rw [List.size_toArray, List.length_map, sizeLine_eq]; omega
  · show ((l.map (97 + ·)).toArray.all fun x => decide (x < 1114112)) = true
    rw [Array.all_eq_true']
    intro x hx
    have hx : x ∈ l.map (97 + ·) := by simpa using hx
    obtain ⟨i, hi, rfl⟩ := List.mem_map.mp hx
    have := hl i hi
    exact decide_eq_true (by omega)
theorem word_letters {m : Nat} {l : List Nat} (h1 : 1 ≤ l.length) (h2 : l.length ≤ m) (hl : ∀ i ∈ l, i < 26) : WordOk m (wordS l) := by
  refine ⟨?_, ?_, fun c hc => ?_⟩
  · show 1 ≤ (l.map (97 + ·)).toArray.size
    rw [List.size_toArray, List.length_map]; exact h1
  · show (l.map (97 + ·)).toArray.size ≤ m
    rw [List.size_toArray, List.length_map]; exact h2
  · have hc : c ∈ l.map (97 + ·) := by simpa [wordS] using hc
    obtain ⟨i, hi, rfl⟩ := List.mem_map.mp hc
    exact lets_in i (hl i hi)
section
variable {K : PySem.W.Frag} {cl : CTab}
theorem wp_guard {B : Sto} {α : Type} {b : Bool} {m : M B α} {R : α → B.T → Prop} {s : B.T} (h : b = true) : wp (guardM b m) R s ↔ wp m R s := by unfold guardM; rw [if_pos h]
theorem okc_strs {ns : List Str} : (D.lst (ns.map D.str)).okc = true := by
  refine Pt.okc (k := 2) ?_ (by omega)
  refine .inr (.inr (.inr (.inr ⟨_, rfl, fun x hx => ?_⟩)))
  obtain ⟨n, _, rfl⟩ := List.mem_map.mp hx
  exact .inr (.inl ⟨n, rfl⟩)
theorem notIn_strs {w : Str} {ns : List Str} : ∃ b, notInK (.str w) (.lst (ns.map .str)) = some (.bl b) ∧ (ns = [] → b = true) := by
  rw [notInK_L]
  show ∃ b, (inSeq (.str w) (ns.map D.str)).map (fun b => D.bl (!b)) = some (D.bl b) ∧ (ns = [] → b = true)
  unfold inSeq
  rw [okc_strs, show (D.str w).okc = true from rfl]
  refine ⟨_, rfl, fun e => ?_⟩
  subst e
  rfl
theorem see_strs {ns : List Str} : see1 pAll (.own (.lst (ns.map .str))) = some (.lst (ns.map .str)) := by
  have h : pAll (.lst (ns.map .str)) = true := rfl
  unfold see1
  simp only [h, if_true]
  rw [strip_lst, stripL_leaf fun d hd => by obtain ⟨n, _, rfl⟩ := List.mem_map.mp hd; rfl]
theorem ix_letter : ∀ i : Nat, i < 26 → ixD (.str "abcdefghijklmnopqrstuvwxyz") (.int (i : Int)) = some (.str (letS i)) := by
  intro i hi
  have : i = 0 ∨ i = 1 ∨ i = 2 ∨ i = 3 ∨ i = 4 ∨ i = 5 ∨ i = 6 ∨ i = 7 ∨ i = 8 ∨ i = 9 ∨ i = 10 ∨ i = 11 ∨ i = 12 ∨ i = 13 ∨ i = 14 ∨ i = 15 ∨ i = 16 ∨ i = 17 ∨ i = 18 ∨ i = 19 ∨ i = 20 ∨ i = 21 ∨ i = 22 ∨ i = 23 ∨ i = 24 ∨ i = 25 := by omega
  rcases this with rfl | rfl | rfl | rfl | rfl | rfl | rfl | rfl | rfl | rfl | rfl | rfl | rfl | rfl | rfl | rfl | rfl | rfl | rfl | rfl | rfl | rfl | rfl | rfl | rfl | rfl <;> rfl
theorem wp_names {k m : Nat} {R : D → Mem → Prop} {s : Mem} (hs : Src k s) (h1 : 1 ≤ m) (hm : m ≤ 100) (q : ∀ (ns : List Str) s', 1 ≤ ns.length → ns.length ≤ m → (∀ n ∈ ns, WordOk 8 n) → Src k s' → R (.lst (ns.map .str)) s') : wp (m__law_names (K := K) (cl := cl) [.ref k, .int (m : Int)]) R s := by
  simp only [m__law_names, b__law_names, s_runF, startE]
  refine wp_bind (wp_cut (fun ρ s' => s' = s ∧ ρ = [.val (.ref k), .val (.int (m : Int)), .val (.str "abcdefghijklmnopqrstuvwxyz"), .no, .no, .no, .no, .no]) (by simp) ?_)
  rintro ρ s ⟨rfl, rfl⟩
  refine wp_cut (fun ρ s' => s' = s ∧ ρ = [.val (.ref k), .val (.int (m : Int)), .val (.str "abcdefghijklmnopqrstuvwxyz"), .own (.lst (([] : List Str).map .str)), .no, .no, .no, .no]) (by simp) ?_
  rintro ρ s ⟨rfl, rfl⟩
  refine wp_cut (fun ρ s' => Src k s' ∧ ∃ (ns : List Str) (x4 x5 x6 x7 : Sl), 1 ≤ ns.length ∧ ns.length ≤ m ∧ (∀ n ∈ ns, WordOk 8 n) ∧ ρ = [.val (.ref k), .val (.int (m : Int)), .val (.str "abcdefghijklmnopqrstuvwxyz"), .own (.lst (ns.map .str)), x4, x5, x6, x7]) ?_ ?_
  · simp
    rw [rng m (by omega), wp_lift_iff]
    refine wp_forI (fun (r : List D) ρ s' => Src k s' ∧ ∃ (ns : List Str) (x4 x5 x6 x7 : Sl), r.length ≤ m ∧ (r.length < m → 1 ≤ ns.length) ∧ ns.length + r.length ≤ m ∧ (∀ n ∈ ns, WordOk 8 n) ∧ ρ = [.val (.ref k), .val (.int (m : Int)), .val (.str "abcdefghijklmnopqrstuvwxyz"), .own (.lst (ns.map .str)), x4, x5, x6, x7])
      ⟨hs, [], _, _, _, _, by simp, by simp, by simp, fun n hn => (nomatch hn), rfl⟩ ?_ ?_
    · rintro d r ρ s1 ⟨hs, ns, x4, x5, x6, x7, hr, hn1, hl, hw, rfl⟩
      refine ⟨_, s_aName, ?_⟩
      rw [show setsS [.val (.ref k), .val (.int (m : Int)), .val (.str "abcdefghijklmnopqrstuvwxyz"), .own (.lst (ns.map .str)), x4, x5, x6, x7] [(4, d)] = [.val (.ref k), .val (.int (m : Int)), .val (.str "abcdefghijklmnopqrstuvwxyz"), .own (.lst (ns.map .str)), .val d, x5, x6, x7] from rfl]
      simp at hr hl
      refine wp_cut (fun ρ s' => Src k s' ∧ ∃ z : Nat, 1 ≤ z ∧ z ≤ 8 ∧ ρ = [.val (.ref k), .val (.int (m : Int)), .val (.str "abcdefghijklmnopqrstuvwxyz"), .own (.lst (ns.map .str)), .val d, .val (.int (z : Int)), x6, x7]) ?_ ?_
      · simp
        refine wp_take hs (by omega) (by omega) fun j s2 j0 j1 hs2 => ?_
        exact ⟨hs2, (1 + j).toNat, by omega, by omega, by rw [Int.toNat_of_nonneg (by omega)]⟩
      rintro ρ s2 ⟨hs2, z, z1, z2, rfl⟩
      refine wp_cut (fun ρ s' => Src k s' ∧ ∃ (w : Str) (x7 : Sl), WordOk 8 w ∧ ρ = [.val (.ref k), .val (.int (m : Int)), .val (.str "abcdefghijklmnopqrstuvwxyz"), .own (.lst (ns.map .str)), .val d, .val (.int (z : Int)), .val (.str w), x7]) ?_ ?_
      · simp
        rw [wp_guard (by rfl), rng z (by omega)]
        simp
        refine wp_compLx (Src k) (fun i : Nat => i < 26) (fun i => D.str (letS i)) hs2 ?_ ?_
        · intro d hd s3 hs3
          refine wp_noErr ?_
          simp [wipeE]
          refine wp_take hs3 (by omega) (by omega) fun j s4 j0 j1 hs4 => ?_
          obtain ⟨j, rfl⟩ : ∃ i : Nat, j = i := ⟨j.toNat, by omega⟩
          rw [ix_letter j (by omega), wp_lift_iff]
          simp
          exact ⟨hs4, j, by omega, rfl⟩
        · intro l s3 hs3 hl hb
          have hl : l.length = z := by simpa using hl
          rw [join_letters (by omega) (by omega) hb, wp_lift_iff]
          exact ⟨hs3, _, word_letters (by omega) (by omega) hb, rfl⟩
      rintro ρ s3 ⟨hs3, w, x7, hw', rfl⟩
      simp
      obtain ⟨b, eb, hb⟩ := notIn_strs (w := w) (ns := ns)
      rw [see_strs, wp_lift_iff, eb]
      cases b with
      | true =>
        simp
        rw [wp_guard (by simp [D.isMut, sizeLine_eq]; omega)]
        refine wp_pure ?_
        refine ⟨hs3, by omega, ns ++ [w], by simp, by simp; omega, fun n hn => ?_, .val d, .val (.int (z : Int)), .val (.str w), x7, by simp⟩
        rcases List.mem_append.mp hn with h | h
        · exact hw n h
        · rw [List.mem_singleton.mp h]; exact hw'
      | false =>
        simp
        have h0 : ns ≠ [] := fun e => by have := hb e; cases this
        have h1 : 1 ≤ ns.length := List.length_pos_iff.mpr h0
        exact ⟨hs3, by omega, ns, fun _ => h1, by omega, hw, rfl⟩
    · rintro ρ s1 ⟨hs, ns, x4, x5, x6, x7, hr, hn1, hl, hw, rfl⟩
      simp at hn1 hl
      exact ⟨hs, ns, hn1 (by omega), hl, hw, x4, x5, x6, x7, rfl⟩
  rintro ρ s1 ⟨hs, ns, x4, x5, x6, x7, hn1, hl, hw, rfl⟩
  have e : (ns.map (D.strip ∘ D.str)) = ns.map D.str := List.map_congr_left fun n _ => strip_leaf rfl
  simp [frzS, strip_lst, e]
  exact q ns s1 hn1 hl hw hs
end
end LW
namespace LW
open PySem PySem.Spec PyProof.Rows L2 RZ DN
def pr2 (i j : Nat) : Pr := if i < j then (i, j) else (j, i)
structure Iso (bs cs : List Bd) (σ τ : Nat → Nat) : Prop where
  len : cs.length = bs.length
  to : ∀ i, i < bs.length → σ i < bs.length ∧ τ (σ i) = i
  back : ∀ i, i < bs.length → τ i < bs.length ∧ σ (τ i) = i
  pr : ∀ i j, i < bs.length → j < bs.length → onB pairB bs (σ i) (σ j) = onB pairB cs i j
theorem Iso.symm {bs cs : List Bd} {σ τ : Nat → Nat} (h : Iso bs cs σ τ) : Iso cs bs τ σ := ⟨h.len.symm, fun i hi => by rw [h.len] at *; exact h.back i hi, fun i hi => by rw [h.len] at *; exact h.to i hi, fun i j hi hj => by
  rw [h.len] at hi hj
  rw [← h.pr _ _ (h.back i hi).1 (h.back j hj).1, (h.back i hi).2, (h.back j hj).2]⟩
def mvP (σ : Nat → Nat) (P : List Pr) : List Pr := P.map fun p => pr2 (σ p.1) (σ p.2)
noncomputable def num (σ : Nat → Nat) (P : List Pr) : List Pr := sortP (mvP σ P)
end LW
namespace LW
open PySem PySem.Spec PyProof.Rows L2 RZ DN
mutual
def Aim.mp (f : Nat → Nat) : Aim → Aim
  | .at b => .at (f b)
  | .node k as => .node k (Aim.mpL f as)
def Aim.mpL (f : Nat → Nat) : List Aim → List Aim
  | [] => []
  | a :: as => a.mp f :: Aim.mpL f as
end
theorem mpL_map (f : Nat → Nat) : ∀ as : List Aim, Aim.mpL f as = as.map (Aim.mp f)
  | [] => rfl
  | a :: as => by rw [Aim.mpL, mpL_map f as]; rfl
theorem mp_node {f : Nat → Nat} {k : Kd} {as : List Aim} : (Aim.node k as).mp f = .node k (as.map (Aim.mp f)) := by rw [Aim.mp, mpL_map]
theorem Gd.mp {many m' w : Nat} {f : Nat → Nat} (hf : ∀ b, b < many → f b < m') : ∀ {k : Nat} {a : Aim}, Gd many w k a → Gd m' w k (a.mp f)
  | 0, _, h => False.elim h
  | k + 1, .at b, h => by
    rw [Aim.mp]
    exact hf b h
  | k + 1, .node kd as, h => by
    rw [mp_node]
    refine ⟨h.1, by rw [List.length_map]; exact h.2.1, fun a ha => ?_⟩
    obtain ⟨b, hb, rfl⟩ := List.mem_map.mp ha
    exact Gd.mp hf (h.2.2 b hb)
end LW
namespace LW
open PySem PySem.Spec PyProof.Rows L2 RZ DN
mutual
def Aim.sb (f : Nat → Aim) : Aim → Aim
  | .at b => f b
  | .node k as => .node k (Aim.sbL f as)
def Aim.sbL (f : Nat → Aim) : List Aim → List Aim
  | [] => []
  | a :: as => a.sb f :: Aim.sbL f as
end
theorem sbL_map (f : Nat → Aim) : ∀ as : List Aim, Aim.sbL f as = as.map (Aim.sb f)
  | [] => rfl
  | a :: as => by rw [Aim.sbL, sbL_map f as]; rfl
theorem sb_node {f : Nat → Aim} {k : Kd} {as : List Aim} : (Aim.node k as).sb f = .node k (as.map (Aim.sb f)) := by rw [Aim.sb, sbL_map]
theorem sb_at {f : Nat → Aim} {b : Nat} : (Aim.at b).sb f = f b := by rw [Aim.sb]
theorem Gd.sb {f : Nat → Aim} {many many' w : Nat} (hf : ∀ b, b < many → Gd many' w 1 (f b)) : ∀ {k : Nat} {a : Aim}, Gd many w k a → Gd many' w k (a.sb f)
  | 0, _, h => False.elim h
  | k + 1, .at b, h => by rw [sb_at]; exact (hf b h).le (by omega)
  | k + 1, .node kd as, h => by
    rw [sb_node]
    refine ⟨h.1, by rw [List.length_map]; exact h.2.1, fun a ha => ?_⟩
    obtain ⟨c, hc, rfl⟩ := List.mem_map.mp ha
    exact Gd.sb hf (h.2.2 c hc)
end LW
namespace LW
open PySem PySem.Spec PyProof.Rows L2 RZ DN
theorem Sel.ins {p : Pr} {w : Nat} (hw : w = p.1 ∨ w = p.2) {B : List Pr} : ∀ {A : List Pr} {l0 : List Nat}, Sel (A ++ B) l0 → ∃ l, Sel (A ++ p :: B) l ∧ ∀ x, x ∈ l ↔ x = w ∨ x ∈ l0
  | [], l0, h => ⟨w :: l0, ⟨l0, h, by rcases hw with rfl | rfl <;> simp⟩, fun x => List.mem_cons⟩
  | a :: A, l0, ⟨l', hl, e⟩ => by
    obtain ⟨l, h1, h2⟩ := Sel.ins hw hl
    rcases e with rfl | rfl
    · exact ⟨a.1 :: l, ⟨l, h1, .inl rfl⟩, fun x => by rw [List.mem_cons, List.mem_cons, h2]; exact ⟨fun h => by rcases h with h | h | h <;> simp [h], fun h => by rcases h with h | h | h <;> simp [h]⟩⟩
    · exact ⟨a.2 :: l, ⟨l, h1, .inr rfl⟩, fun x => by rw [List.mem_cons, List.mem_cons, h2]; exact ⟨fun h => by rcases h with h | h | h <;> simp [h], fun h => by rcases h with h | h | h <;> simp [h]⟩⟩
end LW
namespace LW
open PySem PySem.Spec PyProof.Rows L2 RZ DN
structure Mtc (n m l : Nat) (M : Bool → Nat → Option Nat) : Prop where
  sym : ∀ b x y, M b x = some y → M b y = some x
  irr : ∀ b x, M b x ≠ some x
  lt : ∀ b x y, M b x = some y → x < n + m + l
  fst : ∀ x y, M false x = some y → n ≤ x
  snd : ∀ x y, M true x = some y → x < n + m
def Out (n m x : Nat) : Prop := x < n ∨ n + m ≤ x
instance {n m x : Nat} : Decidable (Out n m x) := by unfold Out; exact inferInstance
inductive Cn (M : Bool → Nat → Option Nat) (x : Nat) : Nat → Prop
  | refl : Cn M x x
  | step {y z : Nat} {b : Bool} : Cn M x y → M b y = some z → Cn M x z
theorem Cn.trans {M : Bool → Nat → Option Nat} {x y z : Nat} (h : Cn M x y) (g : Cn M y z) : Cn M x z := by
  induction g with
  | refl => exact h
  | step _ e ih => exact .step ih e
theorem Cn.symm {n m l : Nat} {M : Bool → Nat → Option Nat} (hM : Mtc n m l M) {x y : Nat} (h : Cn M x y) : Cn M y x := by
  induction h with
  | refl => exact .refl
  | step _ e ih => exact (Cn.step .refl (hM.sym _ _ _ e)).trans ih
def Far (M : Bool → Nat → Option Nat) (n m x : Nat) : Option Nat → Prop
  | none => ∀ y, Out n m y → Cn M x y → y = x
  | some y => Out n m y ∧ y ≠ x ∧ Cn M x y ∧ ∀ z, Out n m z → Cn M x z → z = x ∨ z = y
theorem Far.one {M : Bool → Nat → Option Nat} {n m x : Nat} : ∀ {r r' : Option Nat}, Far M n m x r → Far M n m x r' → r = r'
  | none, none, _, _ => rfl
  | none, some y, h, g => absurd (h y g.1 g.2.2.1) g.2.1
  | some y, none, h, g => absurd (g y h.1 h.2.2.1) h.2.1
  | some y, some z, h, g => by
    rcases h.2.2.2 z g.1 g.2.2.1 with e | e
    · exact absurd e g.2.1
    · rw [e]
end LW
namespace LW
open PySem PySem.Spec PyProof.Rows L2 RZ DN
def un (n m e : Nat) : Nat := if e < n then e else e + m
def en (n m x : Nat) : Nat := if x < n then x else x - m
section
variable {K : PySem.W.Frag} {cl : CTab}
theorem keyN : KeyE (fun x : Nat => D.int (x : Int)) (fun x : Nat => (.inl (.inl (x : Int)) : GK)) where
  key := fun x => rfl
  inj := fun x y h => by
    have : (x : Int) = (y : Int) := by simpa using h
    omega
  low := fun x => rfl
  kd := ⟨false, fun x => ⟨rfl, fun r => rfl⟩⟩
end
end LW
namespace LW
open PySem PySem.Spec PyProof.Rows L2 RZ DN
theorem Sel.split : ∀ {A B : List Pr} {l : List Nat}, Sel (A ++ B) l → ∃ l1 l2, Sel A l1 ∧ Sel B l2 ∧ l = l1 ++ l2
  | [], B, l, h => ⟨[], l, rfl, h, rfl⟩
  | a :: A, B, l, ⟨l', h, e⟩ => by
    obtain ⟨l1, l2, h1, h2, rfl⟩ := Sel.split h
    rcases e with rfl | rfl
    · exact ⟨a.1 :: l1, l2, ⟨l1, h1, .inl rfl⟩, h2, rfl⟩
    · exact ⟨a.2 :: l1, l2, ⟨l1, h1, .inr rfl⟩, h2, rfl⟩
def base (B x : Nat) : Nat := if x < B then x else x - B
end LW
namespace LW
open PySem PySem.Spec PyProof.Rows L2 RZ DN
inductive Rc (E : Nat → Nat → Prop) (x : Nat) : Nat → Prop
  | refl : Rc E x x
  | step {y z : Nat} : Rc E x y → E y z → Rc E x z
theorem Rc.one {E : Nat → Nat → Prop} {x y : Nat} (h : E x y) : Rc E x y := .step .refl h
theorem Rc.trans {E : Nat → Nat → Prop} {x y z : Nat} (h : Rc E x y) (g : Rc E y z) : Rc E x z := by
  induction g with
  | refl => exact h
  | step _ e ih => exact .step ih e
theorem Rc.bind {E F : Nat → Nat → Prop} (h : ∀ x y, E x y → Rc F x y) {x y : Nat} (g : Rc E x y) : Rc F x y := by
  induction g with
  | refl => exact .refl
  | step _ e ih => exact ih.trans (h _ _ e)
theorem Rc.mono {E F : Nat → Nat → Prop} (h : ∀ x y, E x y → F x y) {x y : Nat} (g : Rc E x y) : Rc F x y := g.bind fun x y e => .one (h x y e)
def pos (α β n u : Nat) : Nat := if u < n then α + u else β + (u - n)
def Lk (α β n : Nat) (P : List Pr) (x y : Nat) : Prop := ∃ u v, ((u, v) ∈ P ∨ (v, u) ∈ P) ∧ x = pos α β n u ∧ y = pos α β n v
theorem Lk.symm {α β n : Nat} {P : List Pr} {x y : Nat} : Lk α β n P x y → Lk α β n P y x := fun ⟨u, v, h, e1, e2⟩ => ⟨v, u, h.symm, e2, e1⟩
section
variable {α β γ n m l : Nat} {P Q : List Pr}
def At (α β n l x : Nat) : Prop := ∃ u, u < n + l ∧ x = pos α β n u
end
theorem At.lt {α β n l x : Nat} (h : At α β n l x) : (α ≤ x ∧ x < α + n) ∨ (β ≤ x ∧ x < β + l) := by
  obtain ⟨u, hu, rfl⟩ := h
  unfold pos
  split <;> omega
theorem At.of {α β n l x : Nat} (h : (α ≤ x ∧ x < α + n) ∨ (β ≤ x ∧ x < β + l)) : At α β n l x := by
  rcases h with ⟨a, b⟩ | ⟨a, b⟩
  · exact ⟨x - α, by omega, by unfold pos; rw [if_pos (by omega)]; omega⟩
  · exact ⟨x - β + n, by omega, by unfold pos; rw [if_neg (by omega)]; omega⟩
theorem Lk.at {α β n l : Nat} {P : List Pr} (lP : ∀ x ∈ Vs P, x < n + l) {x y : Nat} (h : Lk α β n P x y) : At α β n l x ∧ At α β n l y := by
  obtain ⟨u, v, h, rfl, rfl⟩ := h
  rcases h with h | h
  · exact ⟨⟨u, lP _ (mem_Vs.mpr ⟨_, h, .inl rfl⟩), rfl⟩, ⟨v, lP _ (mem_Vs.mpr ⟨_, h, .inr rfl⟩), rfl⟩⟩
  · exact ⟨⟨u, lP _ (mem_Vs.mpr ⟨_, h, .inr rfl⟩), rfl⟩, ⟨v, lP _ (mem_Vs.mpr ⟨_, h, .inl rfl⟩), rfl⟩⟩
end LW
namespace LW
open PySem PySem.Spec PyProof.Rows L2 RZ DN
section
variable {K : PySem.W.Frag} {cl : CTab}
theorem e_withinP {lo hi : Int} {d : D} (h : Pl d) : (m_is_within [d, .int lo, .int hi] : M (MemS K cl) D) = M.pure (.bl (isIntD lo hi d)) := by
  cases h with
  | int i => by_cases h : lo ≤ i <;> simp [m_is_within, b_is_within, m_is_integer, b_is_integer, startE, isIntD, h]
  | _ => simp [m_is_within, b_is_within, m_is_integer, b_is_integer, startE, isIntD]
end
end LW
namespace LW
open PySem PySem.Spec PyProof.Rows L2 RZ DN
def er {α : Type} {B : Sto} (m : M B α) (x : Exn) (P : B.T → Prop) (s : B.T) : Prop := ∃ s', m s = .err x s' ∧ P s'
end LW
namespace LW
open PySem PySem.Spec PyProof.Rows L2 RZ DN
section
variable {K : PySem.W.Frag} {cl : CTab} {s : Mem}
theorem ints_iL {l : List Nat} : intsOf (iL l) = some (l.map fun n : Nat => (n : Int)) := by
  induction l with
  | nil => rfl
  | cons n l ih =>
    have : iL (n :: l) = .int (n : Int) :: iL l := rfl
    rw [this]
    simp only [intsOf, ih]
    rfl
theorem sum_iL {l : List Nat} : sumD [.lst (iL l)] = some (.int ((l.sum : Nat) : Int)) := by
  show (intsOf (iL l)).map (fun bs => D.int bs.sum) = _
  rw [ints_iL]
  simp only [Option.map_some]
  congr 2
  induction l with
  | nil => rfl
  | cons n l ih => simp only [List.map_cons, List.sum_cons, ih]; omega
end
end LW
namespace LW
open PySem PySem.Spec PyProof.Rows L2 RZ DN
def pt (pts : List Nat) (i : Nat) : Nat := pts.getD i 0
def mp (pts : List Nat) (p : Pr) : Nat := min (pt pts p.1) (pt pts p.2)
theorem sum_sub {α : Type} [DecidableEq α] {f : α → Nat} : ∀ {c Q : List α}, c.Nodup → (∀ x ∈ c, x ∈ Q) → (c.map f).sum ≤ (Q.map f).sum
  | [], _, _, _ => Nat.zero_le _
  | x :: c, Q, nd, h => by
    have hx : x ∈ Q := h x List.mem_cons_self
    have hp := List.perm_cons_erase hx
    have e := (hp.map f).sum_nat
    rw [e, List.map_cons, List.map_cons, List.sum_cons, List.sum_cons]
    have := sum_sub (f := f) (List.nodup_cons.mp nd).2 (Q := Q.erase x) fun y hy => by
      have hne : y ≠ x := fun z => (List.nodup_cons.mp nd).1 (z ▸ hy)
      exact (List.mem_erase_of_ne hne).mpr (h y (List.mem_cons_of_mem _ hy))
    omega
theorem min_2 {a b : Nat} : min2D [.int (a : Int), .int (b : Int)] = some (.int ((min a b : Nat) : Int)) := by
  show some (D.int (if (b : Int) < (a : Int) then (b : Int) else (a : Int))) = _
  congr 2
  split <;> omega
end LW
namespace LW
open PySem PySem.Spec PyProof.Rows L2 RZ DN
structure Stk where
  n : Str
  s : Nat
  p : Nat
  c : Nat
def Stk.d (t : Stk) : D := .tup [.str t.n, .int (t.s : Int), .int (t.p : Int), .int (t.c : Int)]
def sideS (n : Str) (i : Nat) (st : List Stk) : Nat := ((st.filter fun t => decide (t.n = n ∧ t.s = i)).map fun t => t.p * t.c).sum
def nmS (st : List Stk) : List Str := sortS (onceS [] (st.map Stk.n))
def metS (st : List Stk) : Nat := ((nmS st).map fun n => min (sideS n 0 st) (sideS n 1 st)).sum
theorem sideS_snoc {n : Str} {i : Nat} {st : List Stk} {t : Stk} : sideS n i (st ++ [t]) = sideS n i st + if t.n = n ∧ t.s = i then t.p * t.c else 0 := by
  unfold sideS
  rw [List.filter_append, List.map_append, List.sum_append]
  by_cases h : t.n = n ∧ t.s = i
  · rw [if_pos h]; simp [h]
  · rw [if_neg h]; simp [h]
theorem sortS_mem {l : List Str} {x : Str} : x ∈ sortS l ↔ x ∈ l := by
  unfold sortS
  exact (List.mergeSort_perm l leS).mem_iff
theorem sortS_nd {l : List Str} (h : l.Nodup) : (sortS l).Nodup := (List.mergeSort_perm l leS).nodup_iff.mpr h
theorem nmS_nd {st : List Stk} : (nmS st).Nodup := sortS_nd (onceS_nd List.nodup_nil)
theorem mem_nmS {st : List Stk} {n : Str} : n ∈ nmS st ↔ ∃ t ∈ st, t.n = n := by
  unfold nmS
  rw [sortS_mem, onceS_mem, List.mem_map]
  simp
theorem sum_le {β : Type} {L : List β} {f g : β → Nat} (h : ∀ n ∈ L, f n ≤ g n) : (L.map f).sum ≤ (L.map g).sum := by
  induction L with
  | nil => exact Nat.le_refl _
  | cons a L ih =>
    have := h a List.mem_cons_self
    have := ih fun n hn => h n (List.mem_cons_of_mem _ hn)
    rw [List.map_cons, List.sum_cons, List.map_cons, List.sum_cons]; omega
theorem sum_more {β : Type} [DecidableEq β] {L M : List β} {S : β → Nat} (ndL : L.Nodup) (ndM : M.Nodup) (h : ∀ n ∈ L, n ∈ M) (z : ∀ n ∈ M, n ∉ L → S n = 0) : (M.map S).sum = (L.map S).sum := by
  refine Nat.le_antisymm ?_ (sum_sub ndL h)
  have e : (M.map S).sum = ((M.filter fun n => decide (n ∈ L)).map S).sum := by
    clear ndM h
    induction M with
    | nil => rfl
    | cons a M ih =>
      have ih := ih fun n hn => z n (List.mem_cons_of_mem _ hn)
      by_cases ha : a ∈ L
      · simp [List.filter_cons, ha, ih]
      · simp [List.filter_cons, ha, ih, z a List.mem_cons_self ha]
  rw [e]
  exact sum_sub (ndM.filter _) fun x hx => by simpa using (List.mem_filter.mp hx).2
end LW
namespace LW
open PySem PySem.Spec PyProof.Rows L2 RZ DN
def Sc (d : D) : Prop := d = .non ∨ (∃ i, d = .int i) ∨ (∃ x, d = .str x) ∨ ∃ b, d = .bl b
theorem Sc.facts {d : D} (h : Sc d) : d.plain = true ∧ d.py.depth ≤ 1 := by
  rcases h with rfl | ⟨i, rfl⟩ | ⟨x, rfl⟩ | ⟨b, rfl⟩ <;> exact ⟨rfl, by simp [D.py, PyData.depth]⟩
theorem Sc.pl {d : D} (h : Sc d) : Pl d := by
  rcases h with rfl | ⟨i, rfl⟩ | ⟨x, rfl⟩ | ⟨b, rfl⟩
  · exact .non
  · exact .int _
  · exact .str _
  · exact .bl _
end LW
namespace LW
open PySem PySem.Spec PyProof.Rows L2 RZ DN
inductive Sm : Nat → D → Prop
  | non (k : Nat) : Sm k .non
  | bl (k : Nat) (b : Bool) : Sm k (.bl b)
  | int (k : Nat) (i : Int) (h : i.natAbs < 10 ^ 12) : Sm k (.int i)
  | str (k : Nat) (x : Str) (h : (x.cps.toList.all fun c => decide (c < 128)) = true) (hl : x.cps.size ≤ 100) : Sm k (.str x)
  | tup (k : Nat) (xs : List D) (hl : xs.length ≤ 20) (h : ∀ d ∈ xs, Sm k d) : Sm (k + 1) (.tup xs)
  | lst (k : Nat) (xs : List D) (hl : xs.length ≤ 20) (h : ∀ d ∈ xs, Sm k d) : Sm (k + 1) (.lst xs)
def Wt : Nat → Nat
  | 0 => 100
  | k + 1 => 20 * (Wt k + 1)
theorem plainL_of : ∀ {xs : List D}, (∀ d ∈ xs, d.plain = true) → D.plainL xs = true
  | [], _ => rfl
  | d :: ds, h => by rw [D.plainL, h d List.mem_cons_self, plainL_of fun e he => h e (List.mem_cons_of_mem _ he)]; rfl
theorem shL_of : ∀ {xs : List D}, (∀ d ∈ xs, d.sh = true) → D.shL xs = true
  | [], _ => by rw [D.shL]
  | d :: ds, h => by rw [D.shL, h d List.mem_cons_self, shL_of fun e he => h e (List.mem_cons_of_mem _ he)]; rfl
theorem depthL_of {k : Nat} : ∀ {xs : List D}, (∀ d ∈ xs, d.py.depth ≤ k) → PyData.depthAll (D.pyL xs) ≤ k
  | [], _ => by simp [D.pyL, PyData.depthAll]
  | d :: ds, h => by
    have a := h d List.mem_cons_self
    have b := depthL_of (xs := ds) fun e he => h e (List.mem_cons_of_mem _ he)
    simp only [D.pyL, PyData.depthAll]
    omega
theorem weightL_of {w : Nat} : ∀ {xs : List D}, (∀ d ∈ xs, d.py.weight ≤ w) → PyData.weightAll (D.pyL xs) ≤ xs.length * (w + 1)
  | [], _ => by simp [D.pyL, PyData.weightAll]
  | d :: ds, h => by
    have a := h d List.mem_cons_self
    have b := weightL_of (xs := ds) fun e he => h e (List.mem_cons_of_mem _ he)
    simp only [D.pyL, PyData.weightAll, List.length_cons, Nat.add_mul]
    omega
theorem Wt_pos : ∀ k : Nat, 100 ≤ Wt k
  | 0 => Nat.le_refl _
  | k + 1 => by have := Wt_pos k; rw [Wt]; omega
theorem Sm.fit {k : Nat} {d : D} (h : Sm k d) : d.plain = true ∧ d.sh = true ∧ d.py.depth ≤ k ∧ d.py.weight ≤ Wt k := by
  induction h with
  | non k => simp [D.plain, D.sh, D.py, PyData.depth, PyData.weight]
  | bl k b => simp [D.plain, D.sh, D.py, PyData.depth, PyData.weight]
  | int k i h =>
    have w := Wt_pos k
    refine ⟨by simp [D.plain], by simpa [D.sh] using h, by simp [D.py, PyData.depth], ?_⟩
    simp only [D.py, PyData.weight]
    split
    · omega
    · rename_i z
      have z : i.natAbs ≠ 0 := by simpa using z
      have : i.natAbs.log2 < 40 := (Nat.log2_lt z).mpr (Nat.lt_trans h (by decide))
      omega
  | str k x h hl =>
    have w := Wt_pos k
    refine ⟨by simp [D.plain], by simpa [D.sh] using h, by simp [D.py, PyData.depth], ?_⟩
    simp only [D.py, PyData.weight]
    omega
  | tup k xs hl h ih =>
    have w := weightL_of (fun d hd => (ih d hd).2.2.2)
    have e := depthL_of (fun d hd => (ih d hd).2.2.1)
    refine ⟨by simpa [D.plain] using plainL_of fun d hd => (ih d hd).1, by simpa [D.sh] using shL_of fun d hd => (ih d hd).2.1, by simp only [D.py, PyData.depth]; omega, ?_⟩
    simp only [D.py, PyData.weight]
    rw [Wt]
    exact Nat.le_trans w (Nat.mul_le_mul_right _ hl)
  | lst k xs hl h ih =>
    have w := weightL_of (fun d hd => (ih d hd).2.2.2)
    have e := depthL_of (fun d hd => (ih d hd).2.2.1)
    refine ⟨by simpa [D.plain] using plainL_of fun d hd => (ih d hd).1, by simpa [D.sh] using shL_of fun d hd => (ih d hd).2.1, by simp only [D.py, PyData.depth]; omega, ?_⟩
    simp only [D.py, PyData.weight]
    rw [Wt]
    exact Nat.le_trans w (Nat.mul_le_mul_right _ hl)
theorem Sm.shows {d : D} (h : Sm 3 d) : d.shows = true := by
  obtain ⟨h1, h2, h3, h4⟩ := h.fit
  simp [D.shows, h1, h2, pq_plain d h1]
  exact ⟨by omega, Nat.le_trans h4 (by decide)⟩
theorem Sm.pl {k : Nat} {d : D} (h : Sm k d) : Pl d := by
  induction h with
  | tup k xs hl h ih => exact .tup xs ih
  | lst k xs hl h ih => exact .lst xs
  | non => exact .non
  | bl => exact .bl _
  | int => exact .int _
  | str => exact .str _
theorem Sm.up {k : Nat} {d : D} (h : Sm k d) : Sm (k + 1) d := by
  induction h with
  | tup k xs hl h ih => exact .tup _ xs hl ih
  | lst k xs hl h ih => exact .lst _ xs hl ih
  | non => exact .non _
  | bl => exact .bl _ _
  | int _ _ h => exact .int _ _ h
  | str _ _ h hl => exact .str _ _ h hl
def Ok24 (d : D) : Prop := Pl d ∧ (∀ xs, d = .tup xs → xs.length ≤ 1000) ∧ d.shows = true
theorem Sm.ok {d : D} (h : Sm 3 d) : Ok24 d := ⟨h.pl, fun xs e => by
  subst e
  cases h with
  | tup k xs hl h => omega, h.shows⟩
theorem slT_take24 {xs : List D} {k : Nat} : slD (.tup xs) none (some (k : Int)) = some (.tup (xs.take k)) := by
  have := cut_to (g := fun d : D => d) (r := xs) (n := k)
  simpa using this
end LW
namespace LW
open PySem PySem.Spec PyProof.Rows L2 RZ DN
theorem mul_st {p c : Nat} (h : (p : Int) < 18446744073709551616) : mulD (.int (p : Int)) (.int (c : Int)) = some (.int ((p * c : Nat) : Int)) := by
  have h0 : (0 : Int) ≤ (p : Int) := Int.natCast_nonneg p
  rw [s_mulI, if_pos (.inl ⟨by simp; omega, by simp; omega⟩), Int.natCast_mul]
theorem min_two {a b : Nat} : minLD [.lst [.int (a : Int), .int (b : Int)]] = some (.int ((min a b : Nat) : Int)) := by
  show some (D.int (if (a : Int) ≤ (b : Int) then (a : Int) else (b : Int))) = _
  congr 2
  split <;> omega
structure StF (st : List Stk) : Prop where
  l : st.length < 4000
  n : (nmS st).length < 64
  s : ∀ t ∈ st, t.s ≤ 1
  p : ∀ t ∈ st, t.p ≤ 1000000000
section
variable {K : PySem.W.Frag} {cl : CTab}
theorem sIf_tP {B : Sto} {p : D → Bool} {t : DN.Env → M B Bool} {F G : SEnv → M B Fl} {ρ : SEnv} {b : Bool} (h : t (seeE p ρ) = M.pure b) : sIf p t F G ρ = if b = true then F ρ else G ρ := by
  show M.bind (t (seeE p ρ)) _ = _
  rw [h, DN.bind_pure]
theorem wp_augI {i : Nat} {fk f : DN.Env → M (MemS K cl) D} {ρ : SEnv} {ds : List D} {kk : Nat} {a b : Int} {s : Mem} {R : Fl → Mem → Prop} (h1 : ρ[i]? = some (.own (.lst ds))) (h2 : fk (seeE pHide ρ) = M.pure (.int (kk : Int))) (h3 : ds[kk]? = some (.int a)) (h4 : f (seeE pHide ρ) = M.pure (.int b))
    (q : R (.nx (ρ.set i (.own (.lst (ds.set kk (.int (a + b))))))) s) : wp (sAugI i fk f ρ) R s := by
  have h0 : (0 : Int) ≤ (kk : Int) := Int.natCast_nonneg kk
  have e : sAugI i fk f ρ = M.pure (.nx (ρ.set i (.own (.lst (ds.set kk (.int (a + b))))))) := by
    unfold sAugI
    simp only [h1, h2, DN.bind_pure, if_pos h0, Int.toNat_natCast, h3, h4]
  rw [e]
  exact wp_pure q
theorem met_f1 {t : Stk} {n : Str} {a b : Nat} {x0 x1 : Sl} {s : Mem} {R : Fl → Mem → Prop} (hs : t.s ≤ 1) (hp : t.p ≤ 1000000000)
    (q : R (.nx [x0, x1, .val (.str n), .own (.lst [.int ((a + if t.n = n ∧ t.s = 0 then t.p * t.c else 0 : Nat) : Int), .int ((b + if t.n = n ∧ t.s = 1 then t.p * t.c else 0 : Nat) : Int)]), .val (.str t.n), .val (.int (t.s : Int)), .val (.int (t.p : Int)), .val (.int (t.c : Int))]) s) :
    wp (b_met_of_f1 [x0, x1, .val (.str n), .own (.lst [.int (a : Int), .int (b : Int)]), .val (.str t.n), .val (.int (t.s : Int)), .val (.int (t.p : Int)), .val (.int (t.c : Int))] : M (MemS K cl) Fl) R s := by
  have mu : mulD (.int (t.p : Int)) (.int (t.c : Int)) = some (.int (((t.p * t.c : Nat)) : Int)) := mul_st (by omega)
  generalize t.p * t.c = m at mu q
  obtain ⟨k, hk, hk1⟩ : ∃ k, k = t.s ∧ k ≤ 1 := ⟨_, rfl, hs⟩
  rw [← hk] at q ⊢
  obtain ⟨ρ, hρ⟩ : ∃ ρ : SEnv, ρ = [x0, x1, .val (.str n), .own (.lst [.int (a : Int), .int (b : Int)]), .val (.str t.n), .val (.int (k : Int)), .val (.int (t.p : Int)), .val (.int (t.c : Int))] := ⟨_, rfl⟩
  rw [← hρ]
  have ht : (tCm eqD (eVar 4) (eVar 2)) (seeE pHide ρ) = (M.pure (decide (t.n = n)) : M (MemS K cl) Bool) := by rw [hρ]; simp
  have h2 : (eVar 5 : DN.Env → M (MemS K cl) D) (seeE pHide ρ) = M.pure (.int (k : Int)) := by rw [hρ]; simp
  have h4 : (xOp mulD (eVar 6) (eVar 7) : DN.Env → M (MemS K cl) D) (seeE pHide ρ) = M.pure (.int (m : Int)) := by
    have a6 : (eVar 6 : DN.Env → M (MemS K cl) D) (seeE pHide ρ) = M.pure (.int (t.p : Int)) := by rw [hρ]; simp
    have a7 : (eVar 7 : DN.Env → M (MemS K cl) D) (seeE pHide ρ) = M.pure (.int (t.c : Int)) := by rw [hρ]; simp
    show M.bind (eVar 6 (seeE pHide ρ)) (fun x => M.bind (eVar 7 (seeE pHide ρ)) fun y => lift (mulD x y)) = _
    rw [a6, DN.bind_pure, a7, DN.bind_pure, mu]
    rfl
  have h1 : ρ[3]? = some (.own (.lst [.int (a : Int), .int (b : Int)])) := by rw [hρ]; rfl
  unfold b_met_of_f1
  rw [sIf_tP ht]
  by_cases hn : t.n = n
  · subst hn
    rw [decide_eq_true rfl, if_pos rfl]
    have h01 : k = 0 ∨ k = 1 := by omega
    rcases h01 with rfl | rfl
    · have e1 : ((a + if t.n = t.n ∧ (0 : Nat) = 0 then m else 0 : Nat) : Int) = (a : Int) + (m : Int) := by simp
      have e2 : ((b + if t.n = t.n ∧ (0 : Nat) = 1 then m else 0 : Nat) : Int) = (b : Int) := by simp
      rw [e1, e2] at q
      refine wp_augI (kk := 0) h1 h2 rfl h4 ?_
      rw [hρ]
      exact q
    · have e1 : ((a + if t.n = t.n ∧ (1 : Nat) = 0 then m else 0 : Nat) : Int) = (a : Int) := by simp
      have e2 : ((b + if t.n = t.n ∧ (1 : Nat) = 1 then m else 0 : Nat) : Int) = (b : Int) + (m : Int) := by simp
      rw [e1, e2] at q
      refine wp_augI (kk := 1) h1 h2 rfl h4 ?_
      rw [hρ]
      exact q
  · have e1 : ((a + if t.n = n ∧ k = 0 then m else 0 : Nat) : Int) = (a : Int) := by simp [hn]
    have e2 : ((b + if t.n = n ∧ k = 1 then m else 0 : Nat) : Int) = (b : Int) := by simp [hn]
    rw [e1, e2] at q
    rw [decide_eq_false hn, if_neg (fun z => nomatch z), hρ]
    exact wp_pure q
theorem met_f2 {st : List Stk} {n : Str} {acc : Nat} {sd : D} {x3 x4 x5 x6 x7 : Sl} {s : Mem} {R : Fl → Mem → Prop} (h : StF st) (hany : anyI sd = some (st.map Stk.d))
    (q : ∀ y3 y4 y5 y6 y7, R (.nx [.val sd, .val (.int ((acc + min (sideS n 0 st) (sideS n 1 st) : Nat) : Int)), .val (.str n), y3, y4, y5, y6, y7]) s) :
    wp (b_met_of_f2 [.val sd, .val (.int (acc : Int)), .val (.str n), x3, x4, x5, x6, x7] : M (MemS K cl) Fl) R s := by
  unfold b_met_of_f2
  refine wp_cut (fun ρ s' => s' = s ∧ ρ = [.val sd, .val (.int ((acc : Nat) : Int)), .val (.str n), .own (.lst [.int ((0 : Nat) : Int), .int ((0 : Nat) : Int)]), x4, x5, x6, x7]) (by simp [DN.flatB, D.isMut, ownS]) ?_
  rintro ρ s3 ⟨rfl, rfl⟩
  refine wp_cut (fun ρ s' => s' = s3 ∧ ∃ x4 x5 x6 x7, ρ = [.val sd, .val (.int ((acc : Nat) : Int)), .val (.str n), .own (.lst [.int ((sideS n 0 st : Nat) : Int), .int ((sideS n 1 st : Nat) : Int)]), x4, x5, x6, x7]) ?_ ?_
  · unfold sFor
    rw [show iOf anyI (eVar 0) (seeE pHide [.val sd, .val (.int ((acc : Nat) : Int)), .val (.str n), .own (.lst [.int ((0 : Nat) : Int), .int ((0 : Nat) : Int)]), x4, x5, x6, x7]) = (M.pure (st.map Stk.d) : M (MemS K cl) _) by simp [hany], DN.bind_pure]
    refine wp_forI (fun u ρ s' => s' = s3 ∧ ∃ done todo x4 x5 x6 x7, st = done ++ todo ∧ u = todo.map Stk.d ∧ ρ = [.val sd, .val (.int ((acc : Nat) : Int)), .val (.str n), .own (.lst [.int ((sideS n 0 done : Nat) : Int), .int ((sideS n 1 done : Nat) : Int)]), x4, x5, x6, x7]) ⟨rfl, [], st, _, _, _, _, rfl, rfl, rfl⟩ ?_ ?_
    · rintro x u ρ s4 ⟨rfl, done, todo, y4, y5, y6, y7, h1, h2, rfl⟩
      cases todo with
      | nil => exact nomatch h2
      | cons t todo =>
        cases h2
        refine ⟨[(4, .str t.n), (5, .int (t.s : Int)), (6, .int (t.p : Int)), (7, .int (t.c : Int))], by simp [Stk.d], ?_⟩
        rw [show setsS [.val sd, .val (.int ((acc : Nat) : Int)), .val (.str n), .own (.lst [.int ((sideS n 0 done : Nat) : Int), .int ((sideS n 1 done : Nat) : Int)]), y4, y5, y6, y7] [(4, .str t.n), (5, .int (t.s : Int)), (6, .int (t.p : Int)), (7, .int (t.c : Int))] = [.val sd, .val (.int ((acc : Nat) : Int)), .val (.str n), .own (.lst [.int ((sideS n 0 done : Nat) : Int), .int ((sideS n 1 done : Nat) : Int)]), .val (.str t.n), .val (.int (t.s : Int)), .val (.int (t.p : Int)), .val (.int (t.c : Int))] from rfl]
        have mt : t ∈ st := by rw [h1]; simp
        refine met_f1 (h.s t mt) (h.p t mt) ?_
        rw [← sideS_snoc, ← sideS_snoc]
        exact ⟨rfl, done ++ [t], todo, _, _, _, _, by rw [h1]; simp, rfl, rfl⟩
    · rintro ρ s4 ⟨rfl, done, todo, y4, y5, y6, y7, h1, h2, rfl⟩
      have : todo = [] := by cases todo with
        | nil => rfl
        | cons => exact nomatch h2
      subst this
      rw [List.append_nil] at h1
      subst h1
      exact ⟨rfl, _, _, _, _, rfl⟩
  rintro ρ s4 ⟨rfl, y4, y5, y6, y7, rfl⟩
  have hst : D.stripL [.int ((sideS n 0 st : Nat) : Int), .int ((sideS n 1 st : Nat) : Int)] = [.int ((sideS n 0 st : Nat) : Int), .int ((sideS n 1 st : Nat) : Int)] := stripL_leaf fun d hd => by
    simp only [List.mem_cons, List.not_mem_nil, or_false] at hd
    rcases hd with rfl | rfl <;> rfl
  have mn := min_two (a := sideS n 0 st) (b := sideS n 1 st)
  have q := q (.val (.lst [.int ((sideS n 0 st : Nat) : Int), .int ((sideS n 1 st : Nat) : Int)])) y4 y5 y6 y7
  generalize sideS n 0 st = A at *
  generalize sideS n 1 st = B at *
  have e : (((acc + min A B : Nat)) : Int) = (acc : Int) + ((min A B : Nat) : Int) := by omega
  rw [e] at q
  simp only [sFrz, frzS]
  simp [strip_lst, hst, mn]
  simpa using q
end
end LW
namespace LW
open PySem PySem.Spec PyProof.Rows L2 RZ DN
def cntS (i t : Nat) (st : List Stk) : Nat := ((st.filter fun x => decide (x.s = i ∧ t ≤ x.p)).map Stk.c).sum
def sumF (f : Nat → Nat) (a n : Nat) : Nat := ((List.range n).map fun t => f (a + t + 1)).sum
theorem sumF_add {f : Nat → Nat} {a n m : Nat} : sumF f a (n + m) = sumF f a n + sumF f (a + n) m := by
  unfold sumF
  rw [List.range_add, List.map_append, List.sum_append, List.map_map]
  congr 2
  refine List.map_congr_left fun t _ => ?_
  show f (a + (n + t) + 1) = f (a + n + t + 1)
  congr 1
  omega
theorem sumF_const {f : Nat → Nat} {a n c : Nat} (h : ∀ t, a < t → t ≤ a + n → f t = c) : sumF f a n = n * c := by
  unfold sumF
  rw [show ((List.range n).map fun t => f (a + t + 1)) = (List.range n).map fun _ => c from List.map_congr_left fun t ht => h _ (by omega) (by have := List.mem_range.mp ht; omega)]
  clear h
  have : ∀ l : List Nat, (l.map fun _ => c).sum = l.length * c := fun l => by
    induction l with
    | nil => simp
    | cons x l ih => rw [List.map_cons, List.sum_cons, ih, List.length_cons, Nat.succ_mul]; omega
  rw [this, List.length_range]
theorem sumF_congr {f g : Nat → Nat} {a n : Nat} (h : ∀ t, a < t → t ≤ a + n → f t = g t) : sumF f a n = sumF g a n := by
  unfold sumF
  rw [show ((List.range n).map fun t => f (a + t + 1)) = (List.range n).map fun t => g (a + t + 1) from List.map_congr_left fun t ht => h _ (by omega) (by have := List.mem_range.mp ht; omega)]
theorem sumF_le {f g : Nat → Nat} {a n : Nat} (h : ∀ t, f t ≤ g t) : sumF f a n ≤ sumF g a n := sum_le fun t _ => h _
theorem sumF_mul {f : Nat → Nat} {a n c : Nat} : sumF (fun t => c * f t) a n = c * sumF f a n := by
  unfold sumF
  induction List.range n with
  | nil => simp
  | cons x l ih => rw [List.map_cons, List.sum_cons, ih, List.map_cons, List.sum_cons, Nat.mul_add]
theorem sumF_plus {f g : Nat → Nat} {a n : Nat} : sumF (fun t => f t + g t) a n = sumF f a n + sumF g a n := by
  unfold sumF
  induction List.range n with
  | nil => simp
  | cons x l ih => rw [List.map_cons, List.sum_cons, ih, List.map_cons, List.sum_cons, List.map_cons, List.sum_cons]; dsimp only; omega
theorem sumF_ext {f : Nat → Nat} {T U : Nat} (h : T ≤ U) (z : ∀ t, T < t → f t = 0) : sumF f 0 U = sumF f 0 T := by
  obtain ⟨d, rfl⟩ : ∃ d, U = T + d := ⟨U - T, by omega⟩
  rw [sumF_add, sumF_const (c := 0) (a := 0 + T) fun t h1 _ => z t (by omega)]
  omega
def lvlS (f : Nat → Nat) : Nat → List Nat → Nat
  | _, [] => 0
  | b, l :: ls => (l - b) * f l + lvlS f l ls
theorem lvl_eq {f : Nat → Nat} {T : Nat} : ∀ {ls : List Nat} {b : Nat}, b ≤ T → ls.Pairwise (· < ·) → (∀ l ∈ ls, b ≤ l ∧ l ≤ T) → (∀ t, b < t → t ≤ T → (∃ l ∈ ls, t ≤ l ∧ (∀ k ∈ ls, t ≤ k → l ≤ k) ∧ f t = f l) ∨ (∀ l ∈ ls, l < t) ∧ f t = 0) →
    lvlS f b ls = sumF f b (T - b)
  | [], b, hb, _, _, h => by
    rw [lvlS, sumF_const (c := 0) fun t h1 h2 => ?_]
    · simp
    · rcases h t h1 (by omega) with ⟨l, hl, _⟩ | ⟨_, e⟩
      · exact nomatch hl
      · exact e
  | l :: ls, b, hb, hp, hl, h => by
    obtain ⟨hp1, hp2⟩ := List.pairwise_cons.mp hp
    obtain ⟨l1, l2⟩ := hl l List.mem_cons_self
    have ih := lvl_eq (f := f) (T := T) (ls := ls) (b := l) l2 hp2 (fun k hk => ⟨Nat.le_of_lt (hp1 k hk), (hl k (List.mem_cons_of_mem _ hk)).2⟩) fun t h1 h2 => by
      rcases h t (by omega) h2 with ⟨k, hk, ht, hm, e⟩ | ⟨hn, e⟩
      · rcases List.mem_cons.mp hk with rfl | hk
        · omega
        · exact .inl ⟨k, hk, ht, fun j hj => hm j (List.mem_cons_of_mem _ hj), e⟩
      · exact .inr ⟨fun j hj => hn j (List.mem_cons_of_mem _ hj), e⟩
    rw [lvlS, ih]
    have e1 : T - b = (l - b) + (T - l) := by omega
    rw [e1, sumF_add, show b + (l - b) = l by omega]
    congr 1
    rw [sumF_const (c := f l) fun t h1 h2 => ?_]
    rcases h t h1 (by omega) with ⟨k, hk, ht, hm, e⟩ | ⟨hn, _⟩
    · have := hm l List.mem_cons_self (by omega)
      rcases List.mem_cons.mp hk with rfl | hk
      · exact e
      · have := hp1 k hk; omega
    · have := hn l List.mem_cons_self; omega
theorem least_ge {ls : List Nat} {t : Nat} : (∃ l ∈ ls, t ≤ l ∧ ∀ k ∈ ls, t ≤ k → l ≤ k) ∨ ∀ l ∈ ls, l < t := by
  induction ls with
  | nil => exact .inr fun _ h => nomatch h
  | cons a ls ih =>
    by_cases ha : t ≤ a
    · rcases ih with ⟨l, hl, h1, h2⟩ | h
      · by_cases hla : a ≤ l
        · exact .inl ⟨a, List.mem_cons_self, ha, fun k hk hk2 => by
            rcases List.mem_cons.mp hk with rfl | hk
            · exact Nat.le_refl _
            · exact Nat.le_trans hla (h2 k hk hk2)⟩
        · exact .inl ⟨l, List.mem_cons_of_mem _ hl, h1, fun k hk hk2 => by
            rcases List.mem_cons.mp hk with rfl | hk
            · omega
            · exact h2 k hk hk2⟩
      · exact .inl ⟨a, List.mem_cons_self, ha, fun k hk hk2 => by
          rcases List.mem_cons.mp hk with rfl | hk
          · exact Nat.le_refl _
          · have := h k hk; omega⟩
    · rcases ih with ⟨l, hl, h1, h2⟩ | h
      · exact .inl ⟨l, List.mem_cons_of_mem _ hl, h1, fun k hk hk2 => by
          rcases List.mem_cons.mp hk with rfl | hk
          · omega
          · exact h2 k hk hk2⟩
      · exact .inr fun l hl => by
          rcases List.mem_cons.mp hl with rfl | hl
          · omega
          · exact h l hl
theorem cntS_same {st : List Stk} {t l i : Nat} (h1 : t ≤ l) (h2 : ∀ x ∈ st, t ≤ x.p → l ≤ x.p) : cntS i t st = cntS i l st := by
  unfold cntS
  congr 2
  refine List.filter_congr fun x hx => ?_
  rw [decide_eq_decide]
  constructor
  · exact fun ⟨a, b⟩ => ⟨a, h2 x hx b⟩
  · exact fun ⟨a, b⟩ => ⟨a, by omega⟩
theorem cntS_zero {st : List Stk} {t i : Nat} (h : ∀ x ∈ st, x.p < t) : cntS i t st = 0 := by
  unfold cntS
  rw [List.filter_eq_nil_iff.mpr fun x hx => ?_]
  · rfl
  · have := h x hx
    simp; omega
def minC (st : List Stk) (t : Nat) : Nat := min (cntS 0 t st) (cntS 1 t st)
def valS (T : Nat) (st : List Stk) : Nat := sumF (minC st) 0 T
theorem lvl_val {T : Nat} {st : List Stk} {ls : List Nat} (hp : ls.Pairwise (· < ·)) (hm : ∀ l, l ∈ ls ↔ ∃ x ∈ st, x.p = l) (hT : ∀ x ∈ st, x.p ≤ T) : lvlS (minC st) 0 ls = valS T st := by
  rw [lvl_eq (T := T) (Nat.zero_le _) hp (fun l hl => ?_) fun t h1 h2 => ?_]
  · rfl
  · obtain ⟨x, hx, rfl⟩ := (hm l).mp hl
    exact ⟨Nat.zero_le _, hT x hx⟩
  · rcases least_ge (ls := ls) (t := t) with ⟨l, hl, a, b⟩ | h
    · refine .inl ⟨l, hl, a, b, ?_⟩
      have c : ∀ x ∈ st, t ≤ x.p → l ≤ x.p := fun x hx h => b x.p ((hm _).mpr ⟨x, hx, rfl⟩) h
      unfold minC
      rw [cntS_same a c, cntS_same a c]
    · refine .inr ⟨h, ?_⟩
      have c : ∀ x ∈ st, x.p < t := fun x hx => h x.p ((hm _).mpr ⟨x, hx, rfl⟩)
      unfold minC
      rw [cntS_zero c, cntS_zero c]; rfl
def lvN (st : List Stk) : List Nat := (sortI (onceI [] (st.map fun x => (x.p : Int)))).map Int.toNat
theorem sortI_mem {l : List Int} {x : Int} : x ∈ sortI l ↔ x ∈ l := (List.mergeSort_perm l _).mem_iff
theorem sortI_nd {l : List Int} (h : l.Nodup) : (sortI l).Nodup := (List.mergeSort_perm l _).nodup_iff.mpr h
theorem lvN_cast {st : List Stk} : (sortI (onceI [] (st.map fun x => (x.p : Int)))) = (lvN st).map fun n : Nat => (n : Int) := by
  unfold lvN
  rw [List.map_map]
  have : ∀ x ∈ sortI (onceI [] (st.map fun x => (x.p : Int))), ((fun n : Nat => (n : Int)) ∘ Int.toNat) x = x := fun x hx => by
    have := onceI_mem.mp (sortI_mem.mp hx)
    simp at this
    obtain ⟨y, _, rfl⟩ := this
    simp
  rw [List.map_congr_left this]
  simp
theorem lvN_mem {st : List Stk} {l : Nat} : l ∈ lvN st ↔ ∃ x ∈ st, x.p = l := by
  have h : (l : Int) ∈ (lvN st).map (fun n : Nat => (n : Int)) ↔ l ∈ lvN st := by
    rw [List.mem_map]
    constructor
    · rintro ⟨n, hn, e⟩
      have : n = l := by omega
      exact this ▸ hn
    · exact fun h => ⟨l, h, rfl⟩
  rw [← h, ← lvN_cast, sortI_mem, onceI_mem, List.mem_map]
  constructor
  · rintro (h | ⟨x, hx, e⟩)
    · exact nomatch h
    · exact ⟨x, hx, by omega⟩
  · rintro ⟨x, hx, e⟩
    exact .inr ⟨x, hx, by omega⟩
theorem lvN_asc {st : List Stk} : (lvN st).Pairwise (· < ·) := by
  have h1 := sortI_pair (onceI [] (st.map fun x => (x.p : Int)))
  have h2 := sortI_nd (onceI_nd (xs := st.map fun x => (x.p : Int)) (acc := []) List.nodup_nil)
  have h3 : (sortI (onceI [] (st.map fun x => (x.p : Int)))).Pairwise (· < ·) := by
    have := h1.and h2
    exact this.imp fun {a b} h => by have := h.1; have := h.2; omega
  rw [lvN_cast, List.pairwise_map] at h3
  exact h3.imp fun {a b} h => by omega
theorem lvN_val {T : Nat} {st : List Stk} (hT : ∀ x ∈ st, x.p ≤ T) : lvlS (minC st) 0 (lvN st) = valS T st := lvl_val lvN_asc (fun _ => lvN_mem) hT
def ofN (n : Str) (st : List Stk) : List Stk := st.filter fun x => decide (x.n = n)
def stkV (T : Nat) (st : List Stk) : Nat := ((nmS st).map fun n => valS T (ofN n st)).sum
theorem valS_nil {T : Nat} {n : Str} {st : List Stk} (h : n ∉ nmS st) : valS T (ofN n st) = 0 := by
  have e : ofN n st = [] := by
    unfold ofN
    rw [List.filter_eq_nil_iff]
    intro x hx
    have : x.n ≠ n := fun e => h (mem_nmS.mpr ⟨x, hx, e⟩)
    simpa using this
  rw [e]
  unfold valS
  have := sumF_const (f := minC []) (a := 0) (n := T) (c := 0) fun t _ _ => rfl
  omega
theorem stkV_on {T : Nat} {st : List Stk} {L : List Str} (nd : L.Nodup) (h : ∀ n ∈ nmS st, n ∈ L) : (L.map fun n => valS T (ofN n st)).sum = stkV T st :=
  sum_more nmS_nd nd h fun n _ hn => valS_nil hn
theorem metS_on {st : List Stk} {L : List Str} (nd : L.Nodup) (h : ∀ n ∈ nmS st, n ∈ L) : (L.map fun n => min (sideS n 0 st) (sideS n 1 st)).sum = metS st := by
  refine sum_more nmS_nd nd h fun n _ hn => ?_
  have e : ∀ i, sideS n i st = 0 := fun i => by
    unfold sideS
    rw [List.filter_eq_nil_iff.mpr fun x hx => ?_]
    · rfl
    · have : x.n ≠ n := fun e => hn (mem_nmS.mpr ⟨x, hx, e⟩)
      simp [this]
  rw [e, e]; rfl
theorem cntS_app {i t : Nat} {a b : List Stk} : cntS i t (a ++ b) = cntS i t a + cntS i t b := by
  unfold cntS
  rw [List.filter_append, List.map_append, List.sum_append]
theorem ofN_app {n : Str} {a b : List Stk} : ofN n (a ++ b) = ofN n a ++ ofN n b := List.filter_append ..
end LW
namespace LW
open PySem PySem.Spec PyProof.Rows L2 RZ DN
section
variable {K : PySem.W.Frag} {cl : CTab}
noncomputable def b_is_stock : SEnv → M (MemS K cl) Fl := seqF (sIf pHide (tOo (tNt (tTr (xUn (isD "tuple") (eVar 0)))) (tCm neD (xB lenD (aC (eVar 0) (aN))) (eC (.int 4)))) (sRet pHide (eC (.bl false))) (sPass)) (seqF (sAsg (aTup (aCons (aName 1) (aCons (aName 2) (aCons (aName 3) (aCons (aName 4) (aNil)))))) (eVar 0)) (seqF (sIf pHide (tOo (tNt (tTr (xCall m_is_name (aC (eVar 1) (aN))))) (tNt (tTr (xCall m_is_within (aC (eVar 2) (aC (eC (.int 0)) (aC (eC (.int 1)) (aN)))))))) (sRet pHide (eC (.bl false))) (sPass)) (sRet pHide (xAn (xCall m_is_within (aC (eVar 3) (aC (eC (.int 0)) (aC (eC (.int 1000000000)) (aN))))) (xCall m_is_within (aC (eVar 4) (aC (eC (.int 0)) (aC (eC (.int 1000000000000000000000000000000)) (aN)))))))))
noncomputable def m_is_stock : List D → M (MemS K cl) D := runF 5 b_is_stock
noncomputable def b_check_stocks : SEnv → M (MemS K cl) Fl := sIf pHide (tOo (tNt (tTr (xCall m_is_listed (aC (eVar 0) (aN))))) (tOo (tCm gtI (xB lenD (aC (eVar 0) (aN))) (eC (.int 200))) (tNt (tTr (xB allD (aC (xLc [1] (aName 1) (tY) (xCall m_is_stock (aC (eVar 1) (aN))) (iOf anyI (eVar 0))) (aN))))))) (sRaise "NoStocks") (sPass)
noncomputable def m_check_stocks : List D → M (MemS K cl) D := runF 2 b_check_stocks
noncomputable def b_stock_met : SEnv → M (MemS K cl) Fl := seqF (sEx pHide (xCall m_check_stocks (aC (eVar 0) (aN)))) (sRet pHide (xCall m_met_of (aC (eVar 0) (aN))))
noncomputable def m_stock_met : List D → M (MemS K cl) D := runF 1 b_stock_met
noncomputable def b_points_by_levels_f1 : SEnv → M (MemS K cl) Fl := sIf pHide (tCm geI (eVar 6) (eVar 3)) (sAugI 4 (eVar 5) (eVar 7)) (sPass)
noncomputable def b_points_by_levels_f2 : SEnv → M (MemS K cl) Fl := seqF (sOwn 4 (xFl (xLst (aC (eC (.int 0)) (aC (eC (.int 0)) (aN)))))) (seqF (sFor (aTup (aCons (aName 5) (aCons (aName 6) (aCons (aName 7) (aNil))))) (iOf anyI (eVar 0)) (b_points_by_levels_f1)) (sFrz 4 (seqF (sAug pHide yes 1 iaddD (xOp mulD (xOp subD (eVar 3) (eVar 2)) (xB minLD (aC (eVar 4) (aN))))) (sSet 2 (eVar 3)))))
noncomputable def b_points_by_levels : SEnv → M (MemS K cl) Fl := seqF (sSet 1 (eC (.int 0))) (seqF (sSet 2 (eC (.int 0))) (seqF (sFor (aName 3) (iOf anyI (xSrtSetI (xLc [5, 6, 7] (aTup (aCons (aName 5) (aCons (aName 6) (aCons (aName 7) (aNil))))) (tY) (eVar 6) (iOf anyI (eVar 0))))) (b_points_by_levels_f2)) (sRet pHide (eVar 1))))
noncomputable def m_points_by_levels : List D → M (MemS K cl) D := runF 8 b_points_by_levels
noncomputable def b_stock_points_f1 : SEnv → M (MemS K cl) Fl := sAug pHide yes 1 iaddD (xCall m_points_by_levels (aC (xLc [3] (aName 3) (tCm eqD (xIx (eVar 3) (eC (.int 0))) (eVar 2)) (xSl (eVar 3) (oS (eC (.int 1))) (oN)) (iOf anyI (eVar 0))) (aN)))
noncomputable def b_stock_points : SEnv → M (MemS K cl) Fl := seqF (sEx pHide (xCall m_check_stocks (aC (eVar 0) (aN)))) (seqF (sSet 1 (eC (.int 0))) (seqF (sFor (aName 2) (iOf anyI (xCall m_names_of (aC (eVar 0) (aN)))) (b_stock_points_f1)) (sRet pHide (eVar 1))))
noncomputable def m_stock_points : List D → M (MemS K cl) D := runF 4 b_stock_points
end
end LW
namespace LW
open PySem PySem.Spec PyProof.Rows L2 RZ DN
def stkB : D → Bool
  | .tup [a, b, c, e] => isWordD 8 a && isIntD 0 1 b && isIntD 0 1000000000 c && isIntD 0 1000000000000000000000000000000 e
  | _ => false
def stksB : D → Bool
  | .lst ds => decide (ds.length ≤ 200) && ds.all stkB
  | .tup ds => decide (ds.length ≤ 200) && ds.all stkB
  | _ => false
structure PlS (d : D) : Prop where
  p : Pl d
  l : ∀ ds, d = .lst ds → ∀ x ∈ ds, Pl x
def Stk.d3 (t : Stk) : D := .tup [.int (t.s : Int), .int (t.p : Int), .int (t.c : Int)]
section
variable {K : PySem.W.Frag} {cl : CTab}
theorem e_is_stock {d : D} (h : Pl d) : (m_is_stock [d] : M (MemS K cl) D) = M.pure (.bl (stkB d)) := by
  cases h with
  | tup ds hd =>
    have l1 : lenD [.tup ds] = some (.int (ds.length : Int)) := by simp [lenD]
    by_cases hl : ds.length = 4
    · obtain ⟨a, b, c, e, rfl⟩ : ∃ a b c e, ds = [a, b, c, e] := by
        match ds, hl with
        | [a, b, c, e], _ => exact ⟨a, b, c, e, rfl⟩
      have ha := e_lettersD (K := K) (cl := cl) (m := 8) (hd a (by simp))
      have hb := e_withinP (K := K) (cl := cl) (lo := 0) (hi := 1) (hd b (by simp))
      have hc := e_withinP (K := K) (cl := cl) (lo := 0) (hi := 1000000000) (hd c (by simp))
      have he := e_withinP (K := K) (cl := cl) (lo := 0) (hi := 1000000000000000000000000000000) (hd e (by simp))
      have hn : (m_is_name [a] : M (MemS K cl) D) = M.pure (.bl (isWordD 8 a)) := by
        have e8 : ((8 : Nat) : Int) = 8 := rfl
        rw [e8] at ha
        simp [m_is_name, b_is_name, startE, ha]
      have es : stkB (.tup [a, b, c, e]) = (isWordD 8 a && isIntD 0 1 b && isIntD 0 1000000000 c && isIntD 0 1000000000000000000000000000000 e) := rfl
      rw [es]
      clear es
      generalize isWordD 8 a = u at *
      generalize isIntD 0 1 b = v at *
      generalize isIntD 0 1000000000 c = x at *
      generalize isIntD 0 1000000000000000000000000000000 e = y at *
      refine pure_of_wp fun s => ?_
      cases u <;> cases v <;> cases x <;> simp [m_is_stock, b_is_stock, startE, l1, hn, hb, hc, he]
    · have hf : stkB (.tup ds) = false := by
        unfold stkB
        split
        · rename_i e; cases e; exact absurd rfl hl
        · rfl
      rw [hf]
      have hl' : ¬ ((ds.length : Int) = 4) := by omega
      simp [m_is_stock, b_is_stock, startE, l1, hl, hl']
  | _ => simp [m_is_stock, b_is_stock, startE, stkB]
theorem cs_core {d : D} {ds : List D} (hl : (m_is_listed [d] : M (MemS K cl) D) = M.pure (.bl true)) (hn : lenD [d] = some (.int (ds.length : Int))) (ha : anyI d = some ds) (hp : ∀ x ∈ ds, Pl x) (hs : stksB d = (decide (ds.length ≤ 200) && ds.all stkB)) :
    (m_check_stocks [d] : M (MemS K cl) D) = if stksB d = true then M.pure .non else errM ⟨"NoStocks", none⟩ := by
  rw [hs]
  by_cases h : ds.length ≤ 200
  · have h' : ¬ ((200 : Int) < (ds.length : Int)) := by omega
    have c := compL_all (B := MemS K cl) (f := compF (aName 1) tY (xCall m_is_stock (aC (eVar 1) (aN))) (wipeE [some d, none] [1])) (k := fun x => .bl (stkB x)) (ds := ds) (fun x hx => by
      have := e_is_stock (K := K) (cl := cl) (hp x hx)
      simp only [compF]
      simp [wipeE, setsE, this])
    have al : allD [.lst (ds.map fun x => .bl (stkB x))] = some (.bl (ds.all stkB)) := all_bools
    rw [decide_eq_true h, Bool.true_and]
    clear hs
    generalize ds.all stkB = b at al ⊢
    simp [m_check_stocks, b_check_stocks, startE, hl, hn, h', ha]
    rw [c]
    generalize (ds.map fun x => D.bl (stkB x)) = L at al ⊢
    cases b <;> simp [al]
  · have h' : (200 : Int) < (ds.length : Int) := by omega
    rw [decide_eq_false h]
    simp [m_check_stocks, b_check_stocks, startE, hl, hn, h']
theorem cs_no {d : D} (e2 : isD2 "list" "tuple" d = some (.bl false)) (hs : stksB d = false) : (m_check_stocks [d] : M (MemS K cl) D) = if stksB d = true then M.pure .non else errM ⟨"NoStocks", none⟩ := by
  rw [hs]
  simp [m_check_stocks, b_check_stocks, startE, m_is_listed, b_is_listed, e2]
theorem e_check_stocks {d : D} (h : PlS d) : (m_check_stocks [d] : M (MemS K cl) D) = if stksB d = true then M.pure .non else errM ⟨"NoStocks", none⟩ := by
  obtain ⟨hp, hl⟩ := h
  cases d with
  | lst ds =>
    have e2 : isD2 "list" "tuple" (.lst ds) = some (.bl true) := rfl
    exact cs_core (by simp [m_is_listed, b_is_listed, startE, e2]) (by simp [lenD]) rfl (hl ds rfl) rfl
  | tup ds =>
    cases hp with
    | tup _ hd =>
      have e2 : isD2 "list" "tuple" (.tup ds) = some (.bl true) := rfl
      exact cs_core (by simp [m_is_listed, b_is_listed, startE, e2]) (by simp [lenD]) rfl hd rfl
  | ins c vs => cases hp
  | ref a => cases hp
  | _ => exact cs_no rfl rfl
end
end LW
namespace LW
open PySem PySem.Spec PyProof.Rows L2 RZ DN
theorem sub_nat {a b : Nat} (h : b ≤ a) : subD (.int (a : Int)) (.int (b : Int)) = some (.int ((a - b : Nat) : Int)) := by
  show some (D.int ((a : Int) - (b : Int))) = _
  congr 2
  omega
section
variable {K : PySem.W.Frag} {cl : CTab}
theorem e_names_ofX {st : List Stk} {sd : D} (h : StF st) (hany : anyI sd = some (st.map Stk.d)) : (m_names_of [sd] : M (MemS K cl) D) = M.pure (.lst ((nmS st).map .str)) := by
  have hss : sortSetD (.lst (st.map fun t => D.str t.n)) = some (.lst ((nmS st).map .str)) := by
    have e : (st.map fun t => D.str t.n) = (st.map Stk.n).map D.str := by rw [List.map_map]; rfl
    rw [e]
    show (strsOf _).bind _ = _
    rw [strsOf_map]
    have hn := h.n
    unfold nmS sortS at hn
    rw [List.length_mergeSort] at hn
    show (if _ then _ else _) = _
    rw [if_pos ⟨by rw [List.length_map]; exact h.l, hn⟩]
    rfl
  simp only [m_names_of, b_names_of, s_runF, startE]
  simp [hany]
  rw [compL_map (g := Stk.d) (k := fun t => D.str t.n) (fun t ht => by simp [wipeE, setsE, Stk.d])]
  generalize (st.map fun t => D.str t.n) = L at hss
  simp [hss]
theorem e_met_ofX {st : List Stk} {sd : D} (h : StF st) (hany : anyI sd = some (st.map Stk.d)) : (m_met_of [sd] : M (MemS K cl) D) = M.pure (.int (metS st : Nat)) := by
  refine pure_of_wp fun s => ?_
  have en := e_names_ofX (K := K) (cl := cl) h hany
  simp only [m_met_of, b_met_of, s_runF, startE]
  refine wp_bind (wp_cut (fun ρ s' => s' = s ∧ ρ = [.val sd, .val (.int 0), .no, .no, .no, .no, .no, .no]) (by simp) ?_)
  rintro ρ s1 ⟨rfl, rfl⟩
  refine wp_cut (fun ρ s' => s' = s1 ∧ ∃ x2 x3 x4 x5 x6 x7, ρ = [.val sd, .val (.int (metS st : Nat)), x2, x3, x4, x5, x6, x7]) ?_ ?_
  · have hn : anyI (.lst ((nmS st).map .str)) = some ((nmS st).map .str) := rfl
    unfold sFor
    rw [show iOf anyI (xCall m_names_of (aC (eVar 0) (aN))) (seeE pHide [.val sd, .val (.int 0), .no, .no, .no, .no, .no, .no]) = (M.pure ((nmS st).map .str) : M (MemS K cl) _) by simp [en, hn], DN.bind_pure]
    refine wp_forI (fun t ρ s' => s' = s1 ∧ ∃ rest acc x2 x3 x4 x5 x6 x7, t = rest.map D.str ∧ metS st = acc + (rest.map fun n => min (sideS n 0 st) (sideS n 1 st)).sum ∧ ρ = [.val sd, .val (.int ((acc : Nat) : Int)), x2, x3, x4, x5, x6, x7]) ⟨rfl, nmS st, 0, _, _, _, _, _, _, rfl, by unfold metS; omega, rfl⟩ ?_ ?_
    · rintro x t ρ s2 ⟨rfl, rest, acc, x2, x3, x4, x5, x6, x7, ht, hm, rfl⟩
      cases rest with
      | nil => exact nomatch ht
      | cons n rest =>
        cases ht
        refine ⟨[(2, .str n)], by simp, ?_⟩
        rw [show setsS [.val sd, .val (.int ((acc : Nat) : Int)), x2, x3, x4, x5, x6, x7] [(2, .str n)] = [.val sd, .val (.int ((acc : Nat) : Int)), .val (.str n), x3, x4, x5, x6, x7] from rfl]
        refine met_f2 h hany fun y3 y4 y5 y6 y7 => ?_
        rw [List.map_cons, List.sum_cons] at hm
        exact ⟨rfl, rest, _, _, _, _, _, _, _, rfl, by omega, rfl⟩
    · rintro ρ s2 ⟨rfl, rest, acc, x2, x3, x4, x5, x6, x7, ht, hm, rfl⟩
      have : rest = [] := by cases rest with
        | nil => rfl
        | cons => exact nomatch ht
      subst this
      simp at hm
      rw [hm]
      exact ⟨rfl, _, _, _, _, _, _, rfl⟩
  rintro ρ s2 ⟨rfl, x2, x3, x4, x5, x6, x7, rfl⟩
  simp
theorem cntS_snoc {i t : Nat} {st : List Stk} {x : Stk} : cntS i t (st ++ [x]) = cntS i t st + if t ≤ x.p ∧ x.s = i then x.c else 0 := by
  rw [cntS_app]
  congr 1
  unfold cntS
  by_cases h1 : x.s = i <;> by_cases h2 : t ≤ x.p <;> simp [List.filter_cons, h1, h2]
theorem lev_f1 {t : Stk} {l a b : Nat} {x0 x1 x2 : Sl} {s : Mem} {R : Fl → Mem → Prop} (hs : t.s ≤ 1)
    (q : R (.nx [x0, x1, x2, .val (.int (l : Int)), .own (.lst [.int ((a + if l ≤ t.p ∧ t.s = 0 then t.c else 0 : Nat) : Int), .int ((b + if l ≤ t.p ∧ t.s = 1 then t.c else 0 : Nat) : Int)]), .val (.int (t.s : Int)), .val (.int (t.p : Int)), .val (.int (t.c : Int))]) s) :
    wp (b_points_by_levels_f1 [x0, x1, x2, .val (.int (l : Int)), .own (.lst [.int (a : Int), .int (b : Int)]), .val (.int (t.s : Int)), .val (.int (t.p : Int)), .val (.int (t.c : Int))] : M (MemS K cl) Fl) R s := by
  obtain ⟨k, hk, hk1⟩ : ∃ k, k = t.s ∧ k ≤ 1 := ⟨_, rfl, hs⟩
  rw [← hk] at q ⊢
  obtain ⟨ρ, hρ⟩ : ∃ ρ : SEnv, ρ = [x0, x1, x2, .val (.int (l : Int)), .own (.lst [.int (a : Int), .int (b : Int)]), .val (.int (k : Int)), .val (.int (t.p : Int)), .val (.int (t.c : Int))] := ⟨_, rfl⟩
  rw [← hρ]
  have ht : (tCm geI (eVar 6) (eVar 3)) (seeE pHide ρ) = (M.pure (decide ((l : Int) ≤ (t.p : Int))) : M (MemS K cl) Bool) := by rw [hρ]; simp
  have h2 : (eVar 5 : DN.Env → M (MemS K cl) D) (seeE pHide ρ) = M.pure (.int (k : Int)) := by rw [hρ]; simp
  have h4 : (eVar 7 : DN.Env → M (MemS K cl) D) (seeE pHide ρ) = M.pure (.int (t.c : Int)) := by rw [hρ]; simp
  have h1 : ρ[4]? = some (.own (.lst [.int (a : Int), .int (b : Int)])) := by rw [hρ]; rfl
  unfold b_points_by_levels_f1
  rw [sIf_tP ht]
  by_cases hn : l ≤ t.p
  · have hn' : (l : Int) ≤ (t.p : Int) := by omega
    rw [decide_eq_true hn', if_pos rfl]
    have h01 : k = 0 ∨ k = 1 := by omega
    rcases h01 with rfl | rfl
    · have e1 : ((a + if l ≤ t.p ∧ (0 : Nat) = 0 then t.c else 0 : Nat) : Int) = (a : Int) + (t.c : Int) := by simp [hn]
      have e2 : ((b + if l ≤ t.p ∧ (0 : Nat) = 1 then t.c else 0 : Nat) : Int) = (b : Int) := by simp
      rw [e1, e2] at q
      refine wp_augI (kk := 0) h1 h2 rfl h4 ?_
      rw [hρ]
      exact q
    · have e1 : ((a + if l ≤ t.p ∧ (1 : Nat) = 0 then t.c else 0 : Nat) : Int) = (a : Int) := by simp
      have e2 : ((b + if l ≤ t.p ∧ (1 : Nat) = 1 then t.c else 0 : Nat) : Int) = (b : Int) + (t.c : Int) := by simp [hn]
      rw [e1, e2] at q
      refine wp_augI (kk := 1) h1 h2 rfl h4 ?_
      rw [hρ]
      exact q
  · have hn' : ¬ ((l : Int) ≤ (t.p : Int)) := by omega
    have e1 : ((a + if l ≤ t.p ∧ k = 0 then t.c else 0 : Nat) : Int) = (a : Int) := by simp [hn]
    have e2 : ((b + if l ≤ t.p ∧ k = 1 then t.c else 0 : Nat) : Int) = (b : Int) := by simp [hn]
    rw [e1, e2] at q
    rw [decide_eq_false hn', if_neg (fun z => nomatch z), hρ]
    exact wp_pure q
theorem lev_f2 {st : List Stk} {l acc below : Nat} {sd : D} {x4 x5 x6 x7 : Sl} {s : Mem} {R : Fl → Mem → Prop} (hst : ∀ t ∈ st, t.s ≤ 1) (hl : l ≤ 1000000000) (hb : below ≤ l) (hany : anyI sd = some (st.map Stk.d3))
    (q : ∀ y4 y5 y6 y7, R (.nx [.val sd, .val (.int ((acc + (l - below) * minC st l : Nat) : Int)), .val (.int (l : Int)), .val (.int (l : Int)), y4, y5, y6, y7]) s) :
    wp (b_points_by_levels_f2 [.val sd, .val (.int (acc : Int)), .val (.int (below : Int)), .val (.int (l : Int)), x4, x5, x6, x7] : M (MemS K cl) Fl) R s := by
  unfold b_points_by_levels_f2
  refine wp_cut (fun ρ s' => s' = s ∧ ρ = [.val sd, .val (.int (acc : Int)), .val (.int (below : Int)), .val (.int (l : Int)), .own (.lst [.int ((0 : Nat) : Int), .int ((0 : Nat) : Int)]), x5, x6, x7]) (by simp [DN.flatB, D.isMut, ownS]) ?_
  rintro ρ s3 ⟨rfl, rfl⟩
  refine wp_cut (fun ρ s' => s' = s3 ∧ ∃ x5 x6 x7, ρ = [.val sd, .val (.int (acc : Int)), .val (.int (below : Int)), .val (.int (l : Int)), .own (.lst [.int ((cntS 0 l st : Nat) : Int), .int ((cntS 1 l st : Nat) : Int)]), x5, x6, x7]) ?_ ?_
  · unfold sFor
    rw [show iOf anyI (eVar 0) (seeE pHide [.val sd, .val (.int (acc : Int)), .val (.int (below : Int)), .val (.int (l : Int)), .own (.lst [.int ((0 : Nat) : Int), .int ((0 : Nat) : Int)]), x5, x6, x7]) = (M.pure (st.map Stk.d3) : M (MemS K cl) _) by simp [hany], DN.bind_pure]
    refine wp_forI (fun u ρ s' => s' = s3 ∧ ∃ done todo x5 x6 x7, st = done ++ todo ∧ u = todo.map Stk.d3 ∧ ρ = [.val sd, .val (.int (acc : Int)), .val (.int (below : Int)), .val (.int (l : Int)), .own (.lst [.int ((cntS 0 l done : Nat) : Int), .int ((cntS 1 l done : Nat) : Int)]), x5, x6, x7]) ⟨rfl, [], st, _, _, _, rfl, rfl, rfl⟩ ?_ ?_
    · rintro x u ρ s4 ⟨rfl, done, todo, y5, y6, y7, h1, h2, rfl⟩
      cases todo with
      | nil => exact nomatch h2
      | cons t todo =>
        cases h2
        refine ⟨[(5, .int (t.s : Int)), (6, .int (t.p : Int)), (7, .int (t.c : Int))], by simp [Stk.d3], ?_⟩
        rw [show setsS [.val sd, .val (.int (acc : Int)), .val (.int (below : Int)), .val (.int (l : Int)), .own (.lst [.int ((cntS 0 l done : Nat) : Int), .int ((cntS 1 l done : Nat) : Int)]), y5, y6, y7] [(5, .int (t.s : Int)), (6, .int (t.p : Int)), (7, .int (t.c : Int))] = [.val sd, .val (.int (acc : Int)), .val (.int (below : Int)), .val (.int (l : Int)), .own (.lst [.int ((cntS 0 l done : Nat) : Int), .int ((cntS 1 l done : Nat) : Int)]), .val (.int (t.s : Int)), .val (.int (t.p : Int)), .val (.int (t.c : Int))] from rfl]
        have mt : t ∈ st := by rw [h1]; simp
        refine lev_f1 (hst t mt) ?_
        rw [← cntS_snoc, ← cntS_snoc]
        exact ⟨rfl, done ++ [t], todo, _, _, _, by rw [h1]; simp, rfl, rfl⟩
    · rintro ρ s4 ⟨rfl, done, todo, y5, y6, y7, h1, h2, rfl⟩
      have : todo = [] := by cases todo with
        | nil => rfl
        | cons => exact nomatch h2
      subst this
      rw [List.append_nil] at h1
      subst h1
      exact ⟨rfl, _, _, _, rfl⟩
  rintro ρ s4 ⟨rfl, y5, y6, y7, rfl⟩
  have hst2 : D.stripL [.int ((cntS 0 l st : Nat) : Int), .int ((cntS 1 l st : Nat) : Int)] = [.int ((cntS 0 l st : Nat) : Int), .int ((cntS 1 l st : Nat) : Int)] := stripL_leaf fun d hd => by
    simp only [List.mem_cons, List.not_mem_nil, or_false] at hd
    rcases hd with rfl | rfl <;> rfl
  have mn := min_two (a := cntS 0 l st) (b := cntS 1 l st)
  have mn : minLD [.lst [.int ((cntS 0 l st : Nat) : Int), .int ((cntS 1 l st : Nat) : Int)]] = some (.int ((minC st l : Nat) : Int)) := mn
  have q := q (.val (.lst [.int ((cntS 0 l st : Nat) : Int), .int ((cntS 1 l st : Nat) : Int)])) y5 y6 y7
  have sb := sub_nat hb
  have mu := mul_st (p := l - below) (c := minC st l) (by omega)
  generalize minC st l = C at *
  obtain ⟨L, hL⟩ : ∃ L, L = [D.int ((cntS 0 l st : Nat) : Int), .int ((cntS 1 l st : Nat) : Int)] := ⟨_, rfl⟩
  rw [← hL] at hst2 mn q ⊢
  simp only [sFrz, frzS]
  simp only [List.getElem?_cons_succ, List.getElem?_cons_zero, strip_lst, hst2]
  refine wp_cut (fun ρ s' => s' = s4 ∧ ρ = [.val sd, .val (.int ((acc + (l - below) * C : Nat) : Int)), .val (.int (below : Int)), .val (.int (l : Int)), .val (.lst L), y5, y6, y7]) ?_ ?_
  · obtain ⟨ρ, hρ⟩ : ∃ ρ : SEnv, ρ = [.val sd, .val (.int (acc : Int)), .val (.int (below : Int)), .val (.int (l : Int)), .val (.lst L), y5, y6, y7] := ⟨_, rfl⟩
    have h4 : (xOp mulD (xOp subD (eVar 3) (eVar 2)) (xB minLD (aC (eVar 4) (aN))) : DN.Env → M (MemS K cl) D) (seeE pHide ρ) = M.pure (.int (((l - below) * C : Nat) : Int)) := by
      have a6 : (xOp subD (eVar 3) (eVar 2) : DN.Env → M (MemS K cl) D) (seeE pHide ρ) = M.pure (.int ((l - below : Nat) : Int)) := by
        have b3 : (eVar 3 : DN.Env → M (MemS K cl) D) (seeE pHide ρ) = M.pure (.int (l : Int)) := by rw [hρ]; simp
        have b2 : (eVar 2 : DN.Env → M (MemS K cl) D) (seeE pHide ρ) = M.pure (.int (below : Int)) := by rw [hρ]; simp
        show M.bind (eVar 3 (seeE pHide ρ)) (fun x => M.bind (eVar 2 (seeE pHide ρ)) fun y => lift (subD x y)) = _
        rw [b3, DN.bind_pure, b2, DN.bind_pure, sb]
        rfl
      have a7 : (xB minLD (aC (eVar 4) (aN)) : DN.Env → M (MemS K cl) D) (seeE pHide ρ) = M.pure (.int (C : Int)) := by rw [hρ]; simp [mn]
      show M.bind (xOp subD (eVar 3) (eVar 2) (seeE pHide ρ)) (fun x => M.bind (xB minLD (aC (eVar 4) (aN)) (seeE pHide ρ)) fun y => lift (mulD x y)) = _
      rw [a6, DN.bind_pure, a7, DN.bind_pure, mu]
      rfl
    have e0 : ([.val sd, .val (.int (acc : Int)), .val (.int (below : Int)), .val (.int (l : Int)), .own (.lst L), y5, y6, y7] : SEnv).set 4 (.val (.lst L)) = ρ := by rw [hρ]; rfl
    rw [e0]
    generalize (l - below) * C = P at *
    simp only [sAug, h4]
    rw [hρ]
    simp
  rintro ρ s5 ⟨rfl, rfl⟩
  simp
  exact q
theorem e_levels {st : List Stk} (hst : ∀ t ∈ st, t.s ≤ 1) (hp : ∀ t ∈ st, t.p ≤ 1000000000) (hl : st.length < 4000) (hn : (lvN st).length < 64) :
    (m_points_by_levels [.lst (st.map Stk.d3)] : M (MemS K cl) D) = M.pure (.int (valS 1000000000 st : Nat)) := by
  refine pure_of_wp fun s => ?_
  have hany : anyI (.lst (st.map Stk.d3)) = some (st.map Stk.d3) := rfl
  have hss : sortSetI (.lst (st.map fun t => D.int (t.p : Int))) = some (.lst ((lvN st).map fun n : Nat => .int (n : Int))) := by
    have e : (st.map fun t => D.int (t.p : Int)) = (st.map fun x => (x.p : Int)).map D.int := by rw [List.map_map]; rfl
    rw [e]
    show (intsOf _).bind _ = _
    rw [intsOf_map]
    have hn' : (onceI [] (st.map fun x => (x.p : Int))).length < 64 := by
      have e := congrArg List.length (lvN_cast (st := st))
      unfold sortI at e
      rw [List.length_mergeSort, List.length_map] at e
      omega
    show (if _ then _ else _) = _
    rw [if_pos ⟨by rw [List.length_map]; exact hl, hn'⟩, lvN_cast, List.map_map]
    rfl
  have hval := lvN_val (T := 1000000000) hp
  have hasc := lvN_asc (st := st)
  have hlv : ∀ l ∈ lvN st, l ≤ 1000000000 := fun l h => by
    obtain ⟨x, hx, rfl⟩ := lvN_mem.mp h
    exact hp x hx
  obtain ⟨sd, hsd⟩ : ∃ sd, sd = D.lst (st.map Stk.d3) := ⟨_, rfl⟩
  rw [← hsd] at hany ⊢
  simp only [m_points_by_levels, b_points_by_levels, s_runF, startE]
  refine wp_bind (wp_cut (fun ρ s' => s' = s ∧ ρ = [.val sd, .val (.int 0), .no, .no, .no, .no, .no, .no]) (by simp) ?_)
  rintro ρ s1 ⟨rfl, rfl⟩
  refine wp_cut (fun ρ s' => s' = s1 ∧ ρ = [.val sd, .val (.int 0), .val (.int 0), .no, .no, .no, .no, .no]) (by simp) ?_
  rintro ρ s1 ⟨rfl, rfl⟩
  refine wp_cut (fun ρ s' => s' = s1 ∧ ∃ x2 x3 x4 x5 x6 x7, ρ = [.val sd, .val (.int (valS 1000000000 st : Nat)), x2, x3, x4, x5, x6, x7]) ?_ ?_
  · have hn : ∀ L : List D, anyI (.lst L) = some L := fun _ => rfl
    have he : (iOf anyI (xSrtSetI (xLc [5, 6, 7] (aTup (aCons (aName 5) (aCons (aName 6) (aCons (aName 7) (aNil))))) (tY) (eVar 6) (iOf anyI (eVar 0)))) (seeE pHide [.val sd, .val (.int 0), .val (.int 0), .no, .no, .no, .no, .no]) : M (MemS K cl) _) = M.pure ((lvN st).map fun n : Nat => D.int (n : Int)) := by
      simp [hany]
      rw [compL_map (g := Stk.d3) (k := fun t => D.int (t.p : Int)) (fun t ht => by simp [wipeE, setsE, Stk.d3])]
      generalize (st.map fun t => D.int (t.p : Int)) = L at hss
      generalize ((lvN st).map fun n : Nat => D.int (n : Int)) = L2 at hss ⊢
      simp [hss, hn]
    unfold sFor
    rw [he, DN.bind_pure]
    refine wp_forI (fun t ρ s' => s' = s1 ∧ ∃ (rest : List Nat) (acc below : Nat), ∃ x3 x4 x5 x6 x7, t = rest.map (fun n : Nat => D.int (n : Int)) ∧ (∀ l ∈ rest, below ≤ l ∧ l ≤ 1000000000) ∧ rest.Pairwise (· < ·) ∧ valS 1000000000 st = acc + lvlS (minC st) below rest ∧ ρ = [.val sd, .val (.int ((acc : Nat) : Int)), .val (.int ((below : Nat) : Int)), x3, x4, x5, x6, x7])
      ⟨rfl, lvN st, 0, 0, _, _, _, _, _, rfl, fun l h => ⟨Nat.zero_le _, hlv l h⟩, hasc, by rw [hval]; omega, rfl⟩ ?_ ?_
    · rintro x t ρ s2 ⟨rfl, rest, acc, below, x3, x4, x5, x6, x7, ht, hb, hp2, hm, rfl⟩
      cases rest with
      | nil => exact nomatch ht
      | cons l rest =>
        cases ht
        refine ⟨[(3, .int (l : Int))], by simp, ?_⟩
        rw [show setsS [.val sd, .val (.int ((acc : Nat) : Int)), .val (.int ((below : Nat) : Int)), x3, x4, x5, x6, x7] [(3, .int (l : Int))] = [.val sd, .val (.int ((acc : Nat) : Int)), .val (.int ((below : Nat) : Int)), .val (.int (l : Int)), x4, x5, x6, x7] from rfl]
        obtain ⟨hb1, hb2⟩ := hb l List.mem_cons_self
        obtain ⟨hp3, hp4⟩ := List.pairwise_cons.mp hp2
        refine lev_f2 hst hb2 hb1 hany fun y4 y5 y6 y7 => ?_
        rw [lvlS] at hm
        exact ⟨rfl, rest, _, l, _, _, _, _, _, rfl, fun k hk => ⟨Nat.le_of_lt (hp3 k hk), (hb k (List.mem_cons_of_mem _ hk)).2⟩, hp4, by omega, rfl⟩
    · rintro ρ s2 ⟨rfl, rest, acc, below, x3, x4, x5, x6, x7, ht, hb, hp2, hm, rfl⟩
      have : rest = [] := by cases rest with
        | nil => rfl
        | cons => exact nomatch ht
      subst this
      have hm : valS 1000000000 st = acc := hm
      rw [hm]
      exact ⟨rfl, _, _, _, _, _, _, rfl⟩
  rintro ρ s2 ⟨rfl, x2, x3, x4, x5, x6, x7, rfl⟩
  generalize valS 1000000000 st = V
  simp
end
end LW
namespace LW
open PySem PySem.Spec PyProof.Rows L2 RZ DN
theorem sub_lenP {α : Type} [DecidableEq α] : ∀ {xs ys : List α}, xs.Nodup → (∀ x ∈ xs, x ∈ ys) → xs.length ≤ ys.length
  | [], _, _, _ => Nat.zero_le _
  | x :: xs, ys, hn, hs => by
    have hn2 := List.nodup_cons.mp hn
    have hx := hs x List.mem_cons_self
    have := sub_lenP hn2.2 (ys := ys.erase x) fun y hy => (List.mem_erase_of_ne fun (e : y = x) => hn2.1 (e ▸ hy)).mpr (hs y (List.mem_cons_of_mem _ hy))
    rw [List.length_erase_of_mem hx] at this
    have := List.length_pos_of_mem hx
    rw [List.length_cons]; omega
section
variable {K : PySem.W.Frag} {cl : CTab}
theorem same_iP {n : Nat} {i : Int} : (m__law_same_v2 (n + 1) [.int i, .int i] : M (MemS K cl) D) = M.pure (.bl true) := by
  simp [m__law_same_v2, b__law_same_v2, startE, m__law_is_int, b__law_is_int]
theorem same_tP {n : Nat} {ds : List D} (hl : ds.length ≤ 10000) (h : ∀ d ∈ ds, (m__law_same_v2 n [d, d] : M (MemS K cl) D) = M.pure (.bl true)) : (m__law_same_v2 (n + 1) [.tup ds, .tup ds] : M (MemS K cl) D) = M.pure (.bl true) := by
  refine pure_of_wp fun s => ?_
  have hlen : lenD [.tup ds] = some (.int (ds.length : Int)) := rfl
  have er : range1 (.int (ds.length : Int)) = some ((List.range ds.length).map fun i : Nat => .int (i : Int)) := rng ds.length (by omega)
  simp only [m__law_same_v2, b__law_same_v2, s_runF, startE]
  simp [hlen, er]
  refine wp_forI (fun r ρ s' => s' = s ∧ (∀ d ∈ r, ∃ i : Nat, i < ds.length ∧ d = .int (i : Int)) ∧ ∃ x2 : Sl, ρ = [.val (.tup ds), .val (.tup ds), x2])
    ⟨rfl, fun d hd => by obtain ⟨i, hi, rfl⟩ := List.mem_map.mp hd; exact ⟨i, List.mem_range.mp hi, rfl⟩, _, rfl⟩ ?_ ?_
  · rintro d r ρ s' ⟨rfl, hr, x2, rfl⟩
    obtain ⟨i, hi, rfl⟩ := hr d List.mem_cons_self
    refine ⟨_, s_aName, ?_⟩
    have e : ixD (.tup ds) (.int (i : Int)) = some ds[i] := by
      show _root_.L2.atI ds (i : Int) = _
      unfold L2.atI ixN
      simp [hi]
    have e2 := h _ (List.getElem_mem hi)
    simp [e, e2]
    exact fun d hd => hr d (List.mem_cons_of_mem _ hd)
  · rintro ρ s' ⟨rfl, _, x2, rfl⟩
    simp
end
end LW
namespace LW
open PySem PySem.Spec PyProof.Rows L2 RZ DN
structure StG (st : List Stk) : Prop where
  f : StF st
  v : (lvN st).length < 64
  l : st.length ≤ 200
theorem lvN_nd {st : List Stk} : (lvN st).Nodup := lvN_asc.imp fun {a b} h => by omega
theorem lvN_sub {a b : List Stk} (h : ∀ x ∈ a, x ∈ b) : (lvN a).length ≤ (lvN b).length := sub_lenP lvN_nd fun l hl => by
  obtain ⟨x, hx, e⟩ := lvN_mem.mp hl
  exact lvN_mem.mpr ⟨x, h x hx, e⟩
def pvS (st : List Stk) : Nat := stkV 1000000000 st
section
variable {K : PySem.W.Frag} {cl : CTab}
theorem sp_f1 {st : List Stk} {n : Str} {acc : Nat} {sd : D} {x3 : Sl} {s : Mem} {R : Fl → Mem → Prop} (h : StG st) (hany : anyI sd = some (st.map Stk.d))
    (q : R (.nx [.val sd, .val (.int ((acc + valS 1000000000 (ofN n st) : Nat) : Int)), .val (.str n), x3]) s) :
    wp (b_stock_points_f1 [.val sd, .val (.int (acc : Int)), .val (.str n), x3] : M (MemS K cl) Fl) R s := by
  have el := e_levels (K := K) (cl := cl) (st := ofN n st) (fun t ht => h.f.s t (List.mem_filter.mp ht).1) (fun t ht => h.f.p t (List.mem_filter.mp ht).1)
    (Nat.lt_of_le_of_lt (List.length_filter_le _ _) h.f.l) (Nat.lt_of_le_of_lt (lvN_sub fun x hx => (List.mem_filter.mp hx).1) h.v)
  generalize valS 1000000000 (ofN n st) = V at *
  have he : (xLc [3] (aName 3) (tCm eqD (xIx (eVar 3) (eC (.int 0))) (eVar 2)) (xSl (eVar 3) (oS (eC (.int 1))) (oN)) (iOf anyI (eVar 0)) : DN.Env → M (MemS K cl) D) (seeE pHide [.val sd, .val (.int (acc : Int)), .val (.str n), x3]) = M.pure (.lst ((ofN n st).map Stk.d3)) := by
    simp [hany]
    rw [compL_filter (g := Stk.d) (p := fun t => decide (t.n = n)) (k := Stk.d3) (fun t ht => by
      have i0 : ixD t.d (.int 0) = some (.str t.n) := rfl
      have s0 : slD t.d (some 1) none = some t.d3 := rfl
      by_cases c : t.n = n
      · simp [wipeE, setsE, i0, s0, c]
      · simp [wipeE, setsE, i0, c])]
    rfl
  unfold b_stock_points_f1
  obtain ⟨ρ, hρ⟩ : ∃ ρ : SEnv, ρ = [.val sd, .val (.int (acc : Int)), .val (.str n), x3] := ⟨_, rfl⟩
  rw [← hρ] at he ⊢
  simp only [sAug, xCall, aC, aN, he, DN.bind_pure, el]
  rw [hρ]
  simp
  exact q
theorem e_stock_points {st : List Stk} {sd : D} (h : StG st) (hp : PlS sd) (hs : stksB sd = true) (hany : anyI sd = some (st.map Stk.d)) : (m_stock_points [sd] : M (MemS K cl) D) = M.pure (.int (pvS st : Nat)) := by
  refine pure_of_wp fun s => ?_
  have en := e_names_ofX (K := K) (cl := cl) h.f hany
  have ec := e_check_stocks (K := K) (cl := cl) hp
  rw [if_pos hs] at ec
  simp only [m_stock_points, b_stock_points, s_runF, startE]
  refine wp_bind (wp_cut (fun ρ s' => s' = s ∧ ρ = [.val sd, .no, .no, .no]) (by simp [ec]) ?_)
  rintro ρ s1 ⟨rfl, rfl⟩
  refine wp_cut (fun ρ s' => s' = s1 ∧ ρ = [.val sd, .val (.int 0), .no, .no]) (by simp) ?_
  rintro ρ s1 ⟨rfl, rfl⟩
  refine wp_cut (fun ρ s' => s' = s1 ∧ ∃ x2 x3, ρ = [.val sd, .val (.int (pvS st : Nat)), x2, x3]) ?_ ?_
  · have hn : anyI (.lst ((nmS st).map .str)) = some ((nmS st).map .str) := rfl
    unfold sFor
    rw [show iOf anyI (xCall m_names_of (aC (eVar 0) (aN))) (seeE pHide [.val sd, .val (.int 0), .no, .no]) = (M.pure ((nmS st).map .str) : M (MemS K cl) _) by simp [en, hn], DN.bind_pure]
    refine wp_forI (fun t ρ s' => s' = s1 ∧ ∃ rest acc x2 x3, t = rest.map D.str ∧ pvS st = acc + (rest.map fun n => valS 1000000000 (ofN n st)).sum ∧ ρ = [.val sd, .val (.int ((acc : Nat) : Int)), x2, x3]) ⟨rfl, nmS st, 0, _, _, rfl, by unfold pvS stkV; omega, rfl⟩ ?_ ?_
    · rintro x t ρ s2 ⟨rfl, rest, acc, x2, x3, ht, hm, rfl⟩
      cases rest with
      | nil => exact nomatch ht
      | cons n rest =>
        cases ht
        refine ⟨[(2, .str n)], by simp, ?_⟩
        rw [show setsS [.val sd, .val (.int ((acc : Nat) : Int)), x2, x3] [(2, .str n)] = [.val sd, .val (.int ((acc : Nat) : Int)), .val (.str n), x3] from rfl]
        refine sp_f1 h hany ?_
        rw [List.map_cons, List.sum_cons] at hm
        exact ⟨rfl, rest, _, _, _, rfl, by omega, rfl⟩
    · rintro ρ s2 ⟨rfl, rest, acc, x2, x3, ht, hm, rfl⟩
      have : rest = [] := by cases rest with
        | nil => rfl
        | cons => exact nomatch ht
      subst this
      simp at hm
      rw [hm]
      exact ⟨rfl, _, _, rfl⟩
  rintro ρ s2 ⟨rfl, x2, x3, rfl⟩
  generalize pvS st = V
  simp
theorem e_stock_met {st : List Stk} {sd : D} (h : StG st) (hp : PlS sd) (hs : stksB sd = true) (hany : anyI sd = some (st.map Stk.d)) : (m_stock_met [sd] : M (MemS K cl) D) = M.pure (.int (metS st : Nat)) := by
  have ec := e_check_stocks (K := K) (cl := cl) hp
  rw [if_pos hs] at ec
  have em := e_met_ofX (K := K) (cl := cl) h.f hany
  generalize metS st = V at *
  simp [m_stock_met, b_stock_met, startE, ec, em]
end
end LW
namespace LW
open PySem PySem.Spec PyProof.Rows L2 RZ DN
structure Pq (x : D) : Prop where
  p : Pl x
  n : x.plain = true
  d : x.py.depth ≤ 10
structure Tr (d : D) : Prop where
  s : PlS d
  q : ∀ ds, (d = .lst ds ∨ d = .tup ds) → ∀ x ∈ ds, Pq x
  g : ∀ st, (d = .lst (st.map Stk.d) ∨ d = .tup (st.map Stk.d)) → (nmS st).length < 64 ∧ (lvN st).length < 64
end LW
namespace LW
open PySem PySem.Spec PyProof.Rows L2 RZ DN
structure Pv (x : D) : Prop where
  p : Pl x
  n : x.plain = true
  d : x.py.depth ≤ 3
theorem Pv.q {x : D} (h : Pv x) : Pq x := ⟨h.p, h.n, by have := h.d; omega⟩
theorem pv_int {i : Int} : Pv (.int i) := ⟨.int _, rfl, by simp [D.py, PyData.depth]⟩
theorem pv_str {z : Str} : Pv (.str z) := ⟨.str _, rfl, by simp [D.py, PyData.depth]⟩
theorem pq_tup {xs : List D} (h : ∀ x ∈ xs, Pv x) : Pq (.tup xs) where
  p := .tup _ fun x hx => (h x hx).p
  n := plainL_all fun x hx => (h x hx).n
  d := by
    have b : (D.tup xs).py.depth ≤ 4 := by rw [D.py, PyData.depth]; exact Nat.succ_le_succ (depthAll_le fun x hx => (h x hx).d)
    omega
theorem cut_takeP {xs : List D} {k : Nat} : slD (.lst xs) none (some (k : Int)) = some (.lst (xs.take k)) := by
  have h := slT_take24 (xs := xs) (k := k)
  unfold slD at *
  simp only [Option.some.injEq, D.tup.injEq] at h ⊢
  rw [h]
structure StR (t : Stk) : Prop where
  n : WordOk 8 t.n
  s : t.s ≤ 1
  p : t.p ≤ 1000000000
  c : (t.c : Int) ≤ 1000000000000000000000000000000
theorem is_wordB75 {m : Nat} {z : Str} (h : WordOk m z) : isWordD m (.str z) = true := by
  show wordB m z = true
  unfold wordB
  rw [Bool.and_eq_true, Bool.and_eq_true]
  refine ⟨⟨decide_eq_true h.1, decide_eq_true h.2.1⟩, List.all_eq_true.mpr fun c hc => ?_⟩
  have := h.2.2 c hc
  have e : inD (.str ⟨#[c]⟩) lettersD = some (.bl (!(Builtin.Str.occurrences "abcdefghijklmnopqrstuvwxyz" ⟨#[c]⟩ 0 (26 : Nat) 1).isEmpty)) := in_letter
  rw [e] at this
  simpa using this
theorem StR.ok {t : Stk} (h : StR t) : stkB t.d = true := by
  have e : stkB t.d = (isWordD 8 (.str t.n) && isIntD 0 1 (.int (t.s : Int)) && isIntD 0 1000000000 (.int (t.p : Int)) && isIntD 0 1000000000000000000000000000000 (.int (t.c : Int))) := rfl
  have h1 := h.s
  have h2 := h.p
  have h3 := h.c
  have i1 : isIntD 0 1 (.int (t.s : Int)) = true := by simp [isIntD]; omega
  have i2 : isIntD 0 1000000000 (.int (t.p : Int)) = true := by simp [isIntD]; omega
  have i3 : isIntD 0 1000000000000000000000000000000 (.int (t.c : Int)) = true := by simp [isIntD]; omega
  rw [e, is_wordB75 h.n, i1, i2, i3]; rfl
theorem pv_stk {t : Stk} : ∀ x ∈ [D.str t.n, .int (t.s : Int), .int (t.p : Int), .int (t.c : Int)], Pv x := fun x hx => by
  simp only [List.mem_cons, List.not_mem_nil, or_false] at hx
  rcases hx with rfl | rfl | rfl | rfl
  · exact pv_str
  · exact pv_int
  · exact pv_int
  · exact pv_int
theorem pq_stk {t : Stk} : Pq t.d := pq_tup pv_stk
theorem stks_ok {d : D} {st : List Stk} (hd : d = .lst (st.map Stk.d) ∨ d = .tup (st.map Stk.d)) (hl : st.length ≤ 200) (h : ∀ t ∈ st, StR t) : stksB d = true := by
  have e : stksB d = (decide ((st.map Stk.d).length ≤ 200) && (st.map Stk.d).all stkB) := by rcases hd with rfl | rfl <;> rfl
  rw [e, Bool.and_eq_true]
  refine ⟨decide_eq_true (by rw [List.length_map]; exact hl), List.all_eq_true.mpr fun x hx => ?_⟩
  obtain ⟨t, ht, rfl⟩ := List.mem_map.mp hx
  exact (h t ht).ok
theorem nmS_len {a : List Stk} : (nmS a).length ≤ a.length := by
  have := sub_lenP (nmS_nd (st := a)) (ys := a.map Stk.n) fun n hn => by
    obtain ⟨x, hx, e⟩ := mem_nmS.mp hn
    exact List.mem_map.mpr ⟨x, hx, e⟩
  simpa using this
theorem nmS_sub {a b : List Stk} (h : ∀ x ∈ a, x ∈ b) : (nmS a).length ≤ (nmS b).length := sub_lenP nmS_nd fun l hl => by
  obtain ⟨x, hx, e⟩ := mem_nmS.mp hl
  exact mem_nmS.mpr ⟨x, h x hx, e⟩
theorem lvN_len {a : List Stk} : (lvN a).length ≤ a.length := by
  have := sub_lenP (lvN_nd (st := a)) (ys := a.map Stk.p) fun n hn => by
    obtain ⟨x, hx, e⟩ := lvN_mem.mp hn
    exact List.mem_map.mpr ⟨x, hx, e⟩
  simpa using this
theorem Stk.d_inj {a b : Stk} (h : a.d = b.d) : a = b := by
  obtain ⟨an, as, ap, ac⟩ := a
  obtain ⟨bn, bs, bp, bc⟩ := b
  unfold Stk.d at h
  simp only [D.tup.injEq, List.cons.injEq, D.str.injEq, D.int.injEq] at h
  obtain ⟨h1, h2, h3, h4, _⟩ := h
  have h2 : as = bs := by omega
  have h3 : ap = bp := by omega
  have h4 : ac = bc := by omega
  subst h1 h2 h3 h4
  rfl
theorem tr_pls {d : D} {ds : List D} (hd : d = .lst ds ∨ d = .tup ds) (hq : ∀ x ∈ ds, Pq x) : PlS d where
  p := by
    rcases hd with rfl | rfl
    · exact .lst _
    · exact .tup _ fun x hx => (hq x hx).p
  l := fun es e x hx => by
    rcases hd with rfl | rfl
    · cases e; exact (hq x hx).p
    · cases e
theorem tr_ds {d : D} {ds es : List D} (hd : d = .lst ds ∨ d = .tup ds) (he : d = .lst es ∨ d = .tup es) : es = ds := by
  rcases hd with rfl | rfl <;> rcases he with h | h <;> cases h <;> rfl
theorem Tr.few {d : D} {ds : List D} (hd : d = .lst ds ∨ d = .tup ds) (hl : ds.length ≤ 60) (hq : ∀ x ∈ ds, Pq x) : Tr d where
  s := tr_pls hd hq
  q := fun es he => by rw [tr_ds hd he]; exact hq
  g := fun st he => by
    have e := tr_ds hd he
    have : st.length = ds.length := by rw [← e, List.length_map]
    have a := nmS_len (a := st)
    have b := lvN_len (a := st)
    omega
theorem Tr.sub {d : D} {ds : List D} {st : List Stk} (hd : d = .lst ds ∨ d = .tup ds) (hl : st.length ≤ 60) (hs : ∀ x ∈ ds, x ∈ st.map Stk.d) : Tr d where
  s := tr_pls hd fun x hx => by
    obtain ⟨t, _, rfl⟩ := List.mem_map.mp (hs x hx)
    exact pq_stk
  q := fun es he => by
    rw [tr_ds hd he]
    intro x hx
    obtain ⟨t, _, rfl⟩ := List.mem_map.mp (hs x hx)
    exact pq_stk
  g := fun su he => by
    have e := tr_ds hd he
    have sub : ∀ x ∈ su, x ∈ st := fun x hx => by
      have : x.d ∈ ds := by rw [← e]; exact List.mem_map.mpr ⟨x, hx, rfl⟩
      obtain ⟨t, ht, e2⟩ := List.mem_map.mp (hs _ this)
      exact Stk.d_inj e2 ▸ ht
    have a := nmS_sub sub
    have b := lvN_sub sub
    have a2 := nmS_len (a := st)
    have b2 := lvN_len (a := st)
    omega
theorem Tr.none {d : D} (hp : Pl d) (h : ∀ ds, d ≠ .lst ds ∧ d ≠ .tup ds) : Tr d where
  s := ⟨hp, fun ds e => absurd e (h ds).1⟩
  q := fun ds he => by rcases he with e | e; exact absurd e (h ds).1; exact absurd e (h ds).2
  g := fun ds he => by rcases he with e | e; exact absurd e (h _).1; exact absurd e (h _).2
end LW
namespace LW
open PySem PySem.Spec PyProof.Rows L2 RZ DN
abbrev Pc := Nat × Nat
def cP (t : Nat) (A : List Pc) : Nat := ((A.filter fun x => decide (t ≤ x.1)).map (·.2)).sum
def minP (A B : List Pc) (t : Nat) : Nat := min (cP t A) (cP t B)
theorem cP_cons {t : Nat} {x : Pc} {A : List Pc} : cP t (x :: A) = (if t ≤ x.1 then x.2 else 0) + cP t A := by
  unfold cP
  by_cases h : t ≤ x.1 <;> simp [List.filter_cons, h]
theorem cP_below {t : Nat} {A : List Pc} (h : ∀ x ∈ A, x.1 < t) : cP t A = 0 := by
  unfold cP
  rw [List.filter_eq_nil_iff.mpr fun x hx => by have := h x hx; simp; omega]
  rfl
theorem sumF_ind {m n T : Nat} (h : n ≤ T) : sumF (fun t => if t ≤ n then m else 0) 0 T = m * n := by
  rw [sumF_ext (T := n) h fun t ht => by rw [if_neg (by omega)], sumF_const (c := m) fun t h1 h2 => by rw [if_pos (by omega)]]
  exact Nat.mul_comm ..
theorem pair_step {p l q r T : Nat} {A B : List Pc} (hA : ∀ x ∈ A, x.1 ≤ p) (hB : ∀ x ∈ B, x.1 ≤ q) (hT : min p q ≤ T) :
    sumF (minP ((p, l) :: A) ((q, r) :: B)) 0 T = min l r * min p q + sumF (minP ((p, l - min l r) :: A) ((q, r - min l r) :: B)) 0 T := by
  rw [← sumF_ind hT, ← sumF_plus]
  refine sumF_congr fun t _ _ => ?_
  unfold minP
  simp only [cP_cons]
  by_cases h : t ≤ min p q
  · rw [if_pos h, if_pos (by omega), if_pos (by omega), if_pos (by omega), if_pos (by omega)]
    omega
  · rw [if_neg h]
    by_cases hp : t ≤ p
    · have hq : ¬ t ≤ q := by omega
      have e := cP_below (t := t) (A := B) fun x hx => by have := hB x hx; omega
      rw [if_neg hq, if_neg hq, e]
      omega
    · have e := cP_below (t := t) (A := A) fun x hx => by have := hA x hx; omega
      rw [if_neg hp, if_neg hp, e]
      omega
theorem minP_nil {A : List Pc} {a T : Nat} : sumF (minP [] A) a T = 0 ∧ sumF (minP A []) a T = 0 := by
  have e : ∀ t, cP t [] = 0 := fun _ => rfl
  constructor
  · rw [sumF_const (c := 0) fun t _ _ => by unfold minP; rw [e]; exact Nat.zero_min _]; omega
  · rw [sumF_const (c := 0) fun t _ _ => by unfold minP; rw [e]; exact Nat.min_zero _]; omega
theorem minP_zero1 {p T a : Nat} {A B : List Pc} : sumF (minP ((p, 0) :: A) B) a T = sumF (minP A B) a T := sumF_congr fun t _ _ => by
  unfold minP
  rw [cP_cons]
  simp
theorem minP_zero2 {p T a : Nat} {A B : List Pc} : sumF (minP A ((p, 0) :: B)) a T = sumF (minP A B) a T := sumF_congr fun t _ _ => by
  unfold minP
  rw [cP_cons]
  simp
def fallL (st : List Stk) (n : Str) (i : Nat) : List Pc := (st.filter fun x => decide (x.n = n ∧ x.s = i ∧ 0 < x.c)).map fun x => (x.p, x.c)
theorem cP_perm {t : Nat} {A B : List Pc} (h : A.Perm B) : cP t A = cP t B := ((h.filter _).map _).sum_nat
theorem cP_fall {st : List Stk} {n : Str} {i t : Nat} : cP t (fallL st n i) = cntS i t (ofN n st) := by
  unfold cP fallL cntS ofN
  induction st with
  | nil => rfl
  | cons x st ih =>
    by_cases h1 : x.n = n <;> by_cases h2 : x.s = i <;> by_cases h3 : 0 < x.c <;> by_cases h4 : t ≤ x.p <;>
      simp only [List.filter_cons, h1, h2, h3, h4, and_self, and_true, and_false, true_and, false_and, decide_true, decide_false, if_true, if_false, List.map_cons, List.sum_cons, ih, Bool.false_eq_true] <;> first | rfl | omega
def mulP (A : List Pc) : Nat := (A.map fun x => x.1 * x.2).sum
theorem mulP_perm {A B : List Pc} (h : A.Perm B) : mulP A = mulP B := (h.map _).sum_nat
theorem mulP_fall {st : List Stk} {n : Str} {i : Nat} : mulP (fallL st n i) = sideS n i st := by
  unfold mulP fallL sideS
  induction st with
  | nil => rfl
  | cons x st ih =>
    by_cases h1 : x.n = n <;> by_cases h2 : x.s = i <;> by_cases h3 : 0 < x.c <;>
      simp only [List.filter_cons, h1, h2, h3, and_self, and_true, and_false, true_and, false_and, decide_true, decide_false, if_true, if_false, List.map_cons, List.sum_cons, ih, Bool.false_eq_true] <;> first | rfl | (have : x.c = 0 := by omega); rw [this]; omega
theorem fall_val {T : Nat} {st : List Stk} {n : Str} {A B : List Pc} (hA : A.Perm (fallL st n 0)) (hB : B.Perm (fallL st n 1)) : sumF (minP A B) 0 T = valS T (ofN n st) := sumF_congr fun t _ _ => by
  unfold minP minC
  rw [cP_perm hA, cP_perm hB, cP_fall, cP_fall]
theorem sumF_cnt {i T : Nat} {n : Str} : ∀ {st : List Stk}, (∀ x ∈ st, x.p ≤ T) → sumF (fun t => cntS i t (ofN n st)) 0 T = sideS n i st
  | [], _ => by
    have := sumF_const (f := fun t => cntS i t (ofN n [])) (a := 0) (n := T) (c := 0) fun t _ _ => rfl
    rw [this]; rfl
  | x :: st, h => by
    have ih := sumF_cnt (i := i) (n := n) fun y hy => h y (List.mem_cons_of_mem _ hy)
    have e1 : ∀ t, cntS i t (ofN n (x :: st)) = (if t ≤ x.p then (if x.n = n ∧ x.s = i then x.c else 0) else 0) + cntS i t (ofN n st) := fun t => by
      unfold cntS ofN
      by_cases h1 : x.n = n <;> by_cases h2 : x.s = i <;> by_cases h4 : t ≤ x.p <;> simp [List.filter_cons, h1, h2, h4]
    have e2 : sideS n i (x :: st) = (if x.n = n ∧ x.s = i then x.c else 0) * x.p + sideS n i st := by
      unfold sideS
      by_cases h1 : x.n = n ∧ x.s = i
      · simp [List.filter_cons, h1, Nat.mul_comm]
      · simp [List.filter_cons, h1]
    rw [e2, ← ih, ← sumF_ind (h x List.mem_cons_self), ← sumF_plus]
    exact sumF_congr fun t _ _ => e1 t
theorem val_le {T : Nat} {st : List Stk} (h : ∀ x ∈ st, x.p ≤ T) : stkV T st ≤ metS st := by
  unfold stkV metS
  refine sum_le fun n _ => Nat.le_min.mpr ⟨?_, ?_⟩
  · rw [← sumF_cnt (n := n) (i := 0) h]
    exact sumF_le fun t => Nat.min_le_left ..
  · rw [← sumF_cnt (n := n) (i := 1) h]
    exact sumF_le fun t => Nat.min_le_right ..
theorem nmS_same {a b : List Stk} (h : ∀ n, (∃ x ∈ a, x.n = n) ↔ ∃ x ∈ b, x.n = n) : nmS a = nmS b := by
  have hp : (nmS a).Perm (nmS b) := (List.perm_ext_iff_of_nodup nmS_nd nmS_nd).mpr fun n => by rw [mem_nmS, mem_nmS]; exact h n
  unfold nmS sortS at *
  refine List.Perm.eq_of_pairwise (le := fun a b => leS a b = true) (fun a b _ _ h1 h2 => ?_) (List.pairwise_mergeSort leS_trans leS_total _) (List.pairwise_mergeSort leS_trans leS_total _) hp
  exact leS_anti h1 h2
theorem sideS_perm {a b : List Stk} {n : Str} {i : Nat} (h : a.Perm b) : sideS n i a = sideS n i b := ((h.filter _).map _).sum_nat
theorem cntS_perm {a b : List Stk} {i t : Nat} (h : a.Perm b) : cntS i t a = cntS i t b := ((h.filter _).map _).sum_nat
theorem valS_perm {a b : List Stk} {T : Nat} {n : Str} (h : a.Perm b) : valS T (ofN n a) = valS T (ofN n b) := sumF_congr fun t _ _ => by
  unfold minC ofN
  rw [cntS_perm (h.filter _), cntS_perm (h.filter _)]
theorem stk_perm {a b : List Stk} {T : Nat} (h : a.Perm b) : stkV T a = stkV T b ∧ metS a = metS b := by
  have e : nmS a = nmS b := nmS_same fun n => by
    constructor
    · rintro ⟨x, hx, e⟩; exact ⟨x, h.mem_iff.mp hx, e⟩
    · rintro ⟨x, hx, e⟩; exact ⟨x, h.mem_iff.mpr hx, e⟩
  constructor
  · unfold stkV
    rw [e]
    congr 1
    exact List.map_congr_left fun n _ => valS_perm h
  · unfold metS
    rw [e]
    congr 1
    exact List.map_congr_left fun n _ => by rw [sideS_perm h, sideS_perm h]
theorem sum_mul {β : Type} {L : List β} {g : β → Nat} {c : Nat} : (L.map fun n => c * g n).sum = c * (L.map g).sum := by
  induction L with
  | nil => simp
  | cons a L ih => rw [List.map_cons, List.sum_cons, ih, List.map_cons, List.sum_cons, Nat.mul_add]
theorem min_mul {a b c : Nat} : min (c * a) (c * b) = c * min a b := by
  rcases Nat.le_total a b with h | h
  · rw [Nat.min_eq_left h, Nat.min_eq_left (Nat.mul_le_mul_left c h)]
  · rw [Nat.min_eq_right h, Nat.min_eq_right (Nat.mul_le_mul_left c h)]
def timesC (f : Nat) (x : Stk) : Stk := ⟨x.n, x.s, x.p, x.c * f⟩
def timesP (f : Nat) (x : Stk) : Stk := ⟨x.n, x.s, x.p * f, x.c⟩
theorem nm_map {st : List Stk} {g : Stk → Stk} (h : ∀ x, (g x).n = x.n) : nmS (st.map g) = nmS st := nmS_same fun n => by
  constructor
  · rintro ⟨x, hx, e⟩
    obtain ⟨y, hy, rfl⟩ := List.mem_map.mp hx
    exact ⟨y, hy, by rw [← h]; exact e⟩
  · rintro ⟨x, hx, e⟩
    exact ⟨g x, List.mem_map.mpr ⟨x, hx, rfl⟩, by rw [h]; exact e⟩
theorem cnt_timesC {f i t : Nat} {n : Str} {st : List Stk} : cntS i t (ofN n (st.map (timesC f))) = f * cntS i t (ofN n st) := by
  unfold cntS ofN
  induction st with
  | nil => simp
  | cons x st ih =>
    by_cases h1 : x.n = n <;> by_cases h2 : x.s = i <;> by_cases h4 : t ≤ x.p <;>
      simp only [timesC, List.filter_cons, h1, h2, h4, and_self, and_true, and_false, true_and, false_and, decide_true, decide_false, if_true, if_false, List.map_cons, List.sum_cons, ih, Bool.false_eq_true] <;> rw [Nat.mul_add, Nat.mul_comm x.c f]
theorem side_timesC {f i : Nat} {n : Str} {st : List Stk} : sideS n i (st.map (timesC f)) = f * sideS n i st := by
  unfold sideS
  induction st with
  | nil => simp
  | cons x st ih =>
    by_cases h1 : x.n = n <;> by_cases h2 : x.s = i <;>
      simp only [timesC, List.filter_cons, h1, h2, and_self, and_true, and_false, true_and, false_and, decide_true, decide_false, if_true, if_false, List.map_cons, List.sum_cons, ih, Bool.false_eq_true] <;> rw [Nat.mul_add, ← Nat.mul_assoc, Nat.mul_comm (x.p * x.c) f]
theorem stk_timesC {f T : Nat} {st : List Stk} : stkV T (st.map (timesC f)) = f * stkV T st ∧ metS (st.map (timesC f)) = f * metS st := by
  have e := nm_map (st := st) (g := timesC f) fun _ => rfl
  constructor
  · unfold stkV
    rw [e, ← sum_mul]
    congr 1
    refine List.map_congr_left fun n _ => ?_
    unfold valS
    rw [← sumF_mul]
    refine sumF_congr fun t _ _ => ?_
    unfold minC
    rw [cnt_timesC, cnt_timesC, min_mul]
  · unfold metS
    rw [e, ← sum_mul]
    congr 1
    refine List.map_congr_left fun n _ => ?_
    rw [side_timesC, side_timesC, min_mul]
theorem side_timesP {f i : Nat} {n : Str} {st : List Stk} : sideS n i (st.map (timesP f)) = f * sideS n i st := by
  unfold sideS
  induction st with
  | nil => simp
  | cons x st ih =>
    by_cases h1 : x.n = n <;> by_cases h2 : x.s = i <;>
      simp only [timesP, List.filter_cons, h1, h2, and_self, and_true, and_false, true_and, false_and, decide_true, decide_false, if_true, if_false, List.map_cons, List.sum_cons, ih, Bool.false_eq_true] <;> rw [Nat.mul_add, Nat.mul_comm x.p f, Nat.mul_assoc]
def upF (f t : Nat) : Nat := (t + f - 1) / f
theorem upF_le {f t p : Nat} (hf : 1 ≤ f) : t ≤ p * f ↔ upF f t ≤ p := by
  unfold upF
  rw [Nat.div_le_iff_le_mul_add_pred (by omega), Nat.mul_comm]
  omega
theorem cnt_timesP {f i t : Nat} {n : Str} {st : List Stk} (hf : 1 ≤ f) : cntS i t (ofN n (st.map (timesP f))) = cntS i (upF f t) (ofN n st) := by
  unfold cntS ofN
  induction st with
  | nil => simp
  | cons x st ih =>
    have hu := upF_le (f := f) (t := t) (p := x.p) hf
    by_cases h1 : x.n = n <;> by_cases h2 : x.s = i <;> by_cases h4 : upF f t ≤ x.p <;>
      simp only [timesP, List.filter_cons, h1, h2, h4, hu, and_self, and_true, and_false, true_and, false_and, decide_true, decide_false, if_true, if_false, List.map_cons, List.sum_cons, ih, Bool.false_eq_true]
theorem sumF_up {f : Nat} {h : Nat → Nat} (hf : 1 ≤ f) : ∀ T : Nat, sumF (fun t => h (upF f t)) 0 (f * T) = f * sumF h 0 T
  | 0 => by simp [sumF]
  | T + 1 => by
    have e : f * (T + 1) = f * T + f := Nat.mul_succ ..
    rw [e, sumF_add, sumF_up hf T, sumF_add, Nat.mul_add]
    congr 1
    rw [sumF_const (c := h (T + 1)) fun t h1 h2 => ?_]
    · simp [sumF]
    · congr 1
      have a : upF f t ≤ T + 1 := (upF_le hf).mp (by rw [Nat.mul_comm]; omega)
      have b : ¬ upF f t ≤ T := fun z => by
        have := (upF_le (p := T) hf).mpr z
        rw [Nat.mul_comm] at this
        omega
      omega
theorem valS_ext {T U : Nat} {n : Str} {st : List Stk} (h : T ≤ U) (hp : ∀ x ∈ st, x.p ≤ T) : valS U (ofN n st) = valS T (ofN n st) := sumF_ext h fun t ht => by
  unfold minC
  rw [cntS_zero fun x hx => by have := hp x (List.mem_filter.mp hx).1; omega]
  exact Nat.zero_min _
theorem stk_timesP {f T U : Nat} {st : List Stk} (hf : 1 ≤ f) (hT : f * T ≤ U) (hp : ∀ x ∈ st, x.p ≤ T) : stkV U (st.map (timesP f)) = f * stkV U st ∧ metS (st.map (timesP f)) = f * metS st := by
  have e := nm_map (st := st) (g := timesP f) fun _ => rfl
  constructor
  · unfold stkV
    rw [e, ← sum_mul]
    congr 1
    refine List.map_congr_left fun n _ => ?_
    have hTU : T ≤ U := Nat.le_trans (Nat.le_mul_of_pos_left T hf) hT
    rw [valS_ext hTU hp, valS_ext hT fun x hx => ?_]
    · unfold valS
      rw [← sumF_up hf]
      refine sumF_congr fun t _ _ => ?_
      unfold minC
      rw [cnt_timesP hf, cnt_timesP hf]
    · obtain ⟨y, hy, rfl⟩ := List.mem_map.mp hx
      show y.p * f ≤ f * T
      rw [Nat.mul_comm]
      exact Nat.mul_le_mul_left f (hp y hy)
  · unfold metS
    rw [e, ← sum_mul]
    congr 1
    refine List.map_congr_left fun n _ => ?_
    rw [side_timesP, side_timesP, min_mul]
theorem ofN_ofN {n : Str} {st : List Stk} : ofN n (ofN n st) = ofN n st := by
  unfold ofN
  rw [List.filter_filter]
  simp
theorem stk_one {n : Str} {st : List Stk} {T : Nat} : stkV T (ofN n st) = valS T (ofN n st) ∧ metS (ofN n st) = min (sideS n 0 st) (sideS n 1 st) := by
  have hn : ∀ m ∈ nmS (ofN n st), m ∈ [n] := fun m hm => by
    obtain ⟨x, hx, e⟩ := mem_nmS.mp hm
    have := (List.mem_filter.mp hx).2
    have : x.n = n := by simpa using this
    rw [← e, this]; exact List.mem_singleton.mpr rfl
  have hs : ∀ i, sideS n i (ofN n st) = sideS n i st := fun i => by
    unfold sideS ofN
    rw [List.filter_filter]
    congr 2
    refine List.filter_congr fun x _ => ?_
    by_cases h1 : x.n = n <;> simp [h1]
  constructor
  · rw [← stkV_on (L := [n]) (by simp) hn]
    simp [ofN_ofN]
  · rw [← metS_on (L := [n]) (by simp) hn]
    simp [hs]
theorem stk_more {st : List Stk} {x : Stk} {T : Nat} : stkV T st ≤ stkV T (st ++ [x]) ∧ metS st ≤ metS (st ++ [x]) := by
  have hn : ∀ n ∈ nmS st, n ∈ nmS (st ++ [x]) := fun n hn => by
    obtain ⟨y, hy, e⟩ := mem_nmS.mp hn
    exact mem_nmS.mpr ⟨y, List.mem_append_left _ hy, e⟩
  constructor
  · rw [← stkV_on (st := st) (nmS_nd (st := st ++ [x])) hn]
    unfold stkV
    refine sum_le fun n _ => sumF_le fun t => ?_
    unfold minC
    rw [ofN_app, cntS_app, cntS_app]
    omega
  · rw [← metS_on (st := st) (nmS_nd (st := st ++ [x])) hn]
    unfold metS
    refine sum_le fun n _ => ?_
    rw [sideS_snoc, sideS_snoc]
    omega
end LW
namespace LW
open PySem PySem.Spec PyProof.Rows L2 RZ DN
section
variable {K : PySem.W.Frag} {cl : CTab}
noncomputable def b__law_falling_f1 : SEnv → M (MemS K cl) Fl := sIf pHide (tAn (tCm eqD (xIx (eVar 4) (eC (.int 0))) (eVar 1)) (tAn (tCm eqD (xIx (eVar 4) (eC (.int 1))) (eVar 2)) (tCm gtI (xIx (eVar 4) (eC (.int 3))) (eC (.int 0))))) (sApp pHide yes 3 (xTup (aC (xUn negD (xIx (eVar 4) (eC (.int 2)))) (aC (xIx (eVar 4) (eC (.int 3))) (aN))))) (sPass)
noncomputable def b__law_falling : SEnv → M (MemS K cl) Fl := seqF (sNewL 3) (seqF (sFor (aName 4) (iOf anyI (eVar 0)) (b__law_falling_f1)) (sFrz 3 (sRet pHide (xLc [5, 6] (aTup (aCons (aName 5) (aCons (aName 6) (aNil)))) (tY) (xTup (aC (xUn negD (eVar 5)) (aC (eVar 6) (aN)))) (iOf anyI (xB sortedDD (aC (eVar 3) (aN))))))))
noncomputable def m__law_falling : List D → M (MemS K cl) D := runF 7 b__law_falling
noncomputable def b__law_paired_f1 : SEnv → M (MemS K cl) Fl := seqF (sIf pHide (tOo (tCm geI (eVar 3) (xB lenD (aC (eVar 0) (aN)))) (tCm geI (eVar 4) (xB lenD (aC (eVar 1) (aN))))) (sBrk) (sPass)) (seqF (sSet 8 (xB min2D (aC (eVar 5) (aC (eVar 6) (aN))))) (seqF (sSet 2 (xOp addD (eVar 2) (xOp mulD (eVar 8) (xB min2D (aC (xIx (xIx (eVar 0) (eVar 3)) (eC (.int 0))) (aC (xIx (xIx (eVar 1) (eVar 4)) (eC (.int 0))) (aN))))))) (seqF (sSet 5 (xOp subD (eVar 5) (eVar 8))) (seqF (sSet 6 (xOp subD (eVar 6) (eVar 8))) (seqF (sIf pHide (tCm eqD (eVar 5) (eC (.int 0))) (seqF (sSet 3 (xOp addD (eVar 3) (eC (.int 1)))) (sSet 5 (xIf (tCm ltI (eVar 3) (xB lenD (aC (eVar 0) (aN)))) (xIx (xIx (eVar 0) (eVar 3)) (eC (.int 1))) (eC (.int 0))))) (sPass)) (sIf pHide (tCm eqD (eVar 6) (eC (.int 0))) (seqF (sSet 4 (xOp addD (eVar 4) (eC (.int 1)))) (sSet 6 (xIf (tCm ltI (eVar 4) (xB lenD (aC (eVar 1) (aN)))) (xIx (xIx (eVar 1) (eVar 4)) (eC (.int 1))) (eC (.int 0))))) (sPass)))))))
noncomputable def b__law_paired : SEnv → M (MemS K cl) Fl := seqF (sSet 2 (eC (.int 0))) (seqF (sSet 3 (eC (.int 0))) (seqF (sSet 4 (eC (.int 0))) (seqF (sSet 5 (xIf (tCm neD (eVar 0) (xLst (aN))) (xIx (xIx (eVar 0) (eC (.int 0))) (eC (.int 1))) (eC (.int 0)))) (seqF (sSet 6 (xIf (tCm neD (eVar 1) (xLst (aN))) (xIx (xIx (eVar 1) (eC (.int 0))) (eC (.int 1))) (eC (.int 0)))) (seqF (sFor (aName 7) (iOf range1 (xOp addD (xB lenD (aC (eVar 0) (aN))) (xB lenD (aC (eVar 1) (aN))))) (b__law_paired_f1)) (sRet pHide (eVar 2)))))))
noncomputable def m__law_paired : List D → M (MemS K cl) D := runF 9 b__law_paired
noncomputable def b__law_dues_f1 : SEnv → M (MemS K cl) Fl := seqF (sSet 4 (xCall m__law_falling (aC (eVar 0) (aC (eVar 3) (aC (eC (.int 0)) (aN)))))) (seqF (sSet 5 (xCall m__law_falling (aC (eVar 0) (aC (eVar 3) (aC (eC (.int 1)) (aN)))))) (seqF (sSet 1 (xOp addD (eVar 1) (xCall m__law_paired (aC (eVar 4) (aC (eVar 5) (aN)))))) (sSet 2 (xOp addD (eVar 2) (xB min2D (aC (xB sumD (aC (xLc [7, 8] (aTup (aCons (aName 7) (aCons (aName 8) (aNil)))) (tY) (xOp mulD (eVar 7) (eVar 8)) (iOf anyI (eVar 4))) (aN))) (aC (xB sumD (aC (xLc [7, 8] (aTup (aCons (aName 7) (aCons (aName 8) (aNil)))) (tY) (xOp mulD (eVar 7) (eVar 8)) (iOf anyI (eVar 5))) (aN))) (aN))))))))
noncomputable def b__law_dues : SEnv → M (MemS K cl) Fl := seqF (sSet 1 (eC (.int 0))) (seqF (sSet 2 (eC (.int 0))) (seqF (sFor (aName 3) (iOf anyI (xSrtSet (xLc [6] (aName 6) (tY) (xIx (eVar 6) (eC (.int 0))) (iOf anyI (eVar 0))))) (b__law_dues_f1)) (sRet pHide (xTup (aC (eVar 1) (aC (eVar 2) (aN)))))))
noncomputable def m__law_dues : List D → M (MemS K cl) D := runF 9 b__law_dues
noncomputable def b__law_number : SEnv → M (MemS K cl) Fl := seqF (sSet 2 (xCall m__law_take (aC (eVar 0) (aC (eC (.int 4)) (aN))))) (seqF (sIf pHide (tCm eqD (eVar 2) (eC (.int 0))) (sRet pHide (xCall m__law_take (aC (eVar 0) (aC (eC (.int 4)) (aN))))) (sPass)) (seqF (sIf pHide (tCm eqD (eVar 2) (eC (.int 1))) (sRet pHide (xOp fdivD (xB min2D (aC (eVar 1) (aC (xOp powD (eC (.int 10)) (eC (.int 9))) (aN)))) (eC (.int 10)))) (sPass)) (sRet pHide (xCall m__law_take (aC (eVar 0) (aC (xOp addD (eVar 1) (eC (.int 1))) (aN)))))))
noncomputable def m__law_number : List D → M (MemS K cl) D := runF 3 b__law_number
noncomputable def b__law_row : SEnv → M (MemS K cl) Fl := seqF (sSet 2 (xIx (eVar 1) (xCall m__law_take (aC (eVar 0) (aC (xB lenD (aC (eVar 1) (aN))) (aN)))))) (sRet pHide (xTup (aC (eVar 2) (aC (xCall m__law_take (aC (eVar 0) (aC (eC (.int 2)) (aN)))) (aC (xCall m__law_number (aC (eVar 0) (aC (xOp powD (eC (.int 10)) (eC (.int 8))) (aN)))) (aC (xCall m__law_number (aC (eVar 0) (aC (xOp powD (eC (.int 10)) (eC (.int 29))) (aN)))) (aN)))))))
noncomputable def m__law_row : List D → M (MemS K cl) D := runF 3 b__law_row
noncomputable def b__law_is_told : SEnv → M (MemS K cl) Fl := sRet pHide (xCall (m__law_same_v2 12) (aC (xTup (aC (xCall m_stock_points (aC (eVar 0) (aN))) (aC (xCall m_stock_met (aC (eVar 0) (aN))) (aN)))) (aC (eVar 1) (aN))))
noncomputable def m__law_is_told : List D → M (MemS K cl) D := runF 2 b__law_is_told
noncomputable def b_L74_law_f1 : SEnv → M (MemS K cl) Fl := sSet 3 (xSl (xOp addD (eVar 3) (xLst (aC (xCall m__law_row (aC (xCall m__law_source (aC (eVar 0) (aC (eVar 4) (aN)))) (aC (eVar 2) (aN)))) (aN)))) (oS (xUn negD (eC (.int 12)))) (oN))
noncomputable def b_L74_law_f2 : SEnv → M (MemS K cl) Fl := seqF (sSet 12 (xLc [14] (aName 14) (tCm eqD (xIx (eVar 14) (eC (.int 0))) (eVar 8)) (eVar 14) (iOf anyI (eVar 3)))) (seqF (sPutL pAll D.imm 7 (eC (.int 0)) (xOp addD (xIx (eVar 7) (eC (.int 0))) (xCall m_stock_points (aC (eVar 12) (aN))))) (sPutL pAll D.imm 7 (eC (.int 1)) (xOp addD (xIx (eVar 7) (eC (.int 1))) (xCall m_stock_met (aC (eVar 12) (aN))))))
noncomputable def b_L74_law : SEnv → M (MemS K cl) Fl := seqF (sSet 1 (xCall m__law_source (aC (eVar 0) (aC (eC (.int 0)) (aN))))) (seqF (sSet 2 (xCall m__law_names (aC (eVar 1) (aC (xOp addD (eC (.int 1)) (xCall m__law_take (aC (eVar 1) (aC (eC (.int 4)) (aN))))) (aN))))) (seqF (sSet 3 (xLc [13] (aName 13) (tY) (xCall m__law_row (aC (eVar 1) (aC (eVar 2) (aN)))) (iOf range1 (xOp addD (eC (.int 1)) (xCall m__law_take (aC (eVar 1) (aC (eC (.int 12)) (aN)))))))) (seqF (sFor (aName 4) (iOf2 range2 (eC (.int 1)) (xB min2D (aC (eC (.int 9)) (aC (xB lenD (aC (eVar 0) (aN))) (aN))))) (b_L74_law_f1)) (seqF (sIf pHide (tCm eqD (xCall m__law_take (aC (eVar 1) (aC (eC (.int 6)) (aN)))) (eC (.int 5))) (sSet 3 (xSl (xOp mulD (eVar 3) (eC (.int 200))) (oN) (oS (eC (.int 200))))) (sPass)) (seqF (sAsg (aTup (aCons (aName 10) (aCons (aName 11) (aNil)))) (xCall m__law_dues (aC (eVar 3) (aN)))) (seqF (sIf pHide (tOo (tCm gtI (eVar 10) (eVar 11)) (tOo (tNt (tTr (xCall m__law_is_told (aC (eVar 3) (aC (xTup (aC (eVar 10) (aC (eVar 11) (aN)))) (aN)))))) (tNt (tTr (xCall m__law_is_told (aC (xB tupleD (aC (xRev (eVar 3)) (aN))) (aC (xTup (aC (eVar 10) (aC (eVar 11) (aN)))) (aN)))))))) (sRet pHide (eC (.bl false))) (sPass)) (seqF (sSet 5 (xOp addD (eC (.int 2)) (xCall m__law_take (aC (eVar 1) (aC (eC (.int 9)) (aN)))))) (seqF (sSet 6 (xTup (aC (xOp mulD (eVar 5) (eVar 10)) (aC (xOp mulD (eVar 5) (eVar 11)) (aN))))) (seqF (sIf pHide (tNt (tTr (xCall m__law_is_told (aC (xLc [8, 15, 16, 17] (aTup (aCons (aName 8) (aCons (aName 15) (aCons (aName 16) (aCons (aName 17) (aNil)))))) (tY) (xTup (aC (eVar 8) (aC (eVar 15) (aC (eVar 16) (aC (xOp mulD (eVar 17) (eVar 5)) (aN)))))) (iOf anyI (eVar 3))) (aC (eVar 6) (aN)))))) (sRet pHide (eC (.bl false))) (sPass)) (seqF (sIf pHide (tNt (tTr (xCall m__law_is_told (aC (xLc [8, 15, 16, 17] (aTup (aCons (aName 8) (aCons (aName 15) (aCons (aName 16) (aCons (aName 17) (aNil)))))) (tY) (xTup (aC (eVar 8) (aC (eVar 15) (aC (xOp mulD (eVar 16) (eVar 5)) (aC (eVar 17) (aN)))))) (iOf anyI (eVar 3))) (aC (eVar 6) (aN)))))) (sRet pHide (eC (.bl false))) (sPass)) (seqF (sOwn 7 (xFl (xLst (aC (eC (.int 0)) (aC (eC (.int 0)) (aN)))))) (seqF (sFor (aName 8) (iOf anyI (xSrtSet (xLc [14] (aName 14) (tY) (xIx (eVar 14) (eC (.int 0))) (iOf anyI (eVar 3))))) (b_L74_law_f2)) (sFrz 7 (seqF (sIf pHide (tNt (tTr (xCall (m__law_same_v2 12) (aC (xB tupleD (aC (eVar 7) (aN))) (aC (xTup (aC (eVar 10) (aC (eVar 11) (aN)))) (aN)))))) (sRet pHide (eC (.bl false))) (sPass)) (seqF (sSet 9 (xOp addD (xSl (eVar 3) (oN) (oS (eC (.int 199)))) (xLst (aC (xCall m__law_row (aC (eVar 1) (aC (eVar 2) (aN)))) (aN))))) (seqF (sIf pHide (tCm eqD (xB lenD (aC (eVar 3) (aN))) (eC (.int 200))) (sSet 3 (xSl (eVar 3) (oN) (oS (eC (.int 199))))) (sPass)) (sRet pHide (xAn (xCall m__law_is_told (aC (eVar 9) (aC (xCall m__law_dues (aC (eVar 9) (aN))) (aN)))) (xAn (xOp geI (xCall m_stock_points (aC (eVar 9) (aN))) (xCall m_stock_points (aC (eVar 3) (aN)))) (xOp geI (xCall m_stock_met (aC (eVar 9) (aN))) (xCall m_stock_met (aC (eVar 3) (aN)))))))))))))))))))))))
end
end LW
namespace LW
open PySem PySem.Spec PyProof.Rows L2 RZ DN
def ngD (x : Pc) : D := .tup [.int (-(x.1 : Int)), .int (x.2 : Int)]
def pcD (x : Pc) : D := .tup [.int (x.1 : Int), .int (x.2 : Int)]
theorem ngD_da {x : Pc} : Da 2 (ngD x) := by simp [ngD]
theorem ngD_alike {p q : Pc} : PySem.W.alike (ngD p).py (ngD q).py = true := by simp [ngD, D.py, D.pyL, PySem.W.alike, PySem.W.alikeAll]
theorem ng_sortable {c : List Pc} : sortableD (c.map ngD) = true := by
  unfold sortableD alikeAllD
  simp only [Bool.and_eq_true, Bool.or_eq_true, List.all_eq_true]
  refine ⟨⟨fun d hd => ?_, fun d hd e he => ?_⟩, .inl fun d hd => ?_⟩
  · obtain ⟨p, _, rfl⟩ := List.mem_map.mp hd; exact ngD_da.okc (by decide)
  · obtain ⟨p, _, rfl⟩ := List.mem_map.mp hd; obtain ⟨q, _, rfl⟩ := List.mem_map.mp he; exact ngD_alike
  · obtain ⟨p, _, rfl⟩ := List.mem_map.mp hd; rfl
noncomputable def srtNg (c : List Pc) : List Pc := c.mergeSort fun p q => leData (ngD p) (ngD q)
theorem sorted_ng {c : List Pc} : sortedDD [.lst (c.map ngD)] = some (.lst ((srtNg c).map ngD)) := by
  show (if sortableD _ = true then _ else _) = _
  rw [if_pos ng_sortable]
  congr 2
  unfold sortDL srtNg
  exact (List.map_mergeSort (f := ngD) (fun _ _ _ _ => rfl)).symm
theorem srtNg_perm {c : List Pc} : (srtNg c).Perm c := List.mergeSort_perm _ _
theorem ng_first {p q : Pc} (h : q.1 < p.1) : ltD (ngD p) (ngD q) = true := by
  have e : ∀ p : Pc, PySem.W.keyToks (ngD p).py = [.inl 1, .inl (-(p.1 : Int)), .inl 1, .inl (p.2 : Int), .inl 0] := fun p => by
    simp [ngD, D.py, D.pyL, PySem.W.keyToks, PySem.W.keyToksAll]
  unfold ltD PySem.W.dataLt
  rw [e, e]
  have h2 : (Sum.inl (-(p.1 : Int)) : Int ⊕ List Nat) ≠ .inl (-(q.1 : Int)) := fun z => by
    have := Sum.inl.inj z
    omega
  refine (PyProof.Rows.lex_self (O := itemOrd) _ _ _).trans ((PyProof.Rows.lex_diff (O := itemOrd) h2).trans ?_)
  show decide (-(p.1 : Int) < -(q.1 : Int)) = true
  rw [decide_eq_true_iff]
  omega
theorem srtNg_desc {c : List Pc} : (srtNg c).Pairwise fun p q => q.1 ≤ p.1 := by
  have h1 : (srtNg c).Pairwise fun p q => leData (ngD p) (ngD q) = true :=
    List.pairwise_mergeSort (le := fun p q : Pc => leData (ngD p) (ngD q)) (fun a b c h g => by
      have h : leData (ngD a) (ngD b) = true := h
      have g : leData (ngD b) (ngD c) = true := g
      show leData (ngD a) (ngD c) = true
      rw [le_ltD, Bool.not_eq_true'] at *
      cases e : ltD (ngD c) (ngD a) with
      | false => rfl
      | true =>
        rcases ltD_neg (b := ngD b) e with z | z
        · rw [z] at g; cases g
        · rw [z] at h; cases h) (fun a b => by
      show (leData (ngD a) (ngD b) || leData (ngD b) (ngD a)) = true
      rw [le_ltD, le_ltD]
      cases e : ltD (ngD b) (ngD a) with
      | false => rfl
      | true => rw [ltD_asymm e]; rfl) c
  refine h1.imp fun {p q} h => ?_
  rw [le_ltD, Bool.not_eq_true'] at h
  refine Nat.le_of_not_lt fun z => ?_
  rw [ng_first z] at h
  cases h
noncomputable def fallS (st : List Stk) (n : Str) (i : Nat) : List Pc := srtNg (fallL st n i)
theorem fallS_perm {st : List Stk} {n : Str} {i : Nat} : (fallS st n i).Perm (fallL st n i) := srtNg_perm
theorem fallS_desc {st : List Stk} {n : Str} {i : Nat} : (fallS st n i).Pairwise fun p q => q.1 ≤ p.1 := srtNg_desc
theorem fallS_mem {st : List Stk} {n : Str} {i : Nat} {x : Pc} (h : x ∈ fallS st n i) : ∃ t ∈ st, x = (t.p, t.c) ∧ 0 < t.c := by
  have := fallS_perm.mem_iff.mp h
  unfold fallL at this
  obtain ⟨t, ht, rfl⟩ := List.mem_map.mp this
  obtain ⟨h1, h2⟩ := List.mem_filter.mp ht
  have := of_decide_eq_true h2
  exact ⟨t, h1, rfl, this.2.2⟩
theorem fallL_len {st : List Stk} {n : Str} {i : Nat} : (fallL st n i).length ≤ st.length := by
  unfold fallL
  rw [List.length_map]
  exact List.length_filter_le _ _
theorem fallS_len {st : List Stk} {n : Str} {i : Nat} : (fallS st n i).length ≤ st.length := by rw [fallS_perm.length_eq]; exact fallL_len
theorem fallL_snoc {st : List Stk} {t : Stk} {n : Str} {i : Nat} : fallL (st ++ [t]) n i = fallL st n i ++ if t.n = n ∧ t.s = i ∧ 0 < t.c then [(t.p, t.c)] else [] := by
  unfold fallL
  rw [List.filter_append, List.map_append]
  by_cases h : t.n = n ∧ t.s = i ∧ 0 < t.c
  · rw [if_pos h]; simp [List.filter_cons, h]
  · rw [if_neg h]; simp [List.filter_cons, h]
section
variable {K : PySem.W.Frag} {cl : CTab}
theorem fall_f1 {st : List Stk} {t : Stk} {n : Str} {i : Nat} {x0 x5 x6 : Sl} {s : Mem} {R : Fl → Mem → Prop} (hl : st.length ≤ 1000)
    (q : R (.nx [x0, .val (.str n), .val (.int (i : Int)), .own (.lst ((fallL (st ++ [t]) n i).map ngD)), .val t.d, x5, x6]) s) :
    wp (b__law_falling_f1 [x0, .val (.str n), .val (.int (i : Int)), .own (.lst ((fallL st n i).map ngD)), .val t.d, x5, x6] : M (MemS K cl) Fl) R s := by
  have i0 : ixD t.d (.int 0) = some (.str t.n) := rfl
  have i1 : ixD t.d (.int 1) = some (.int (t.s : Int)) := rfl
  have i2 : ixD t.d (.int 2) = some (.int (t.p : Int)) := rfl
  have i3 : ixD t.d (.int 3) = some (.int (t.c : Int)) := rfl
  have ng : negD (.int (t.p : Int)) = some (.int (-(t.p : Int))) := rfl
  have im : D.isMut (.tup [.int (-(t.p : Int)), .int (t.c : Int)]) = false := rfl
  rw [fallL_snoc] at q
  have fl := fallL_len (st := st) (n := n) (i := i)
  generalize fallL st n i = A at q fl ⊢
  have sz : decide (A.length < sizeLine) = true := by rw [sizeLine_eq]; simp; omega
  unfold b__law_falling_f1
  by_cases c1 : t.n = n
  · by_cases c2 : t.s = i
    · by_cases c3 : 0 < t.c
      · rw [if_pos ⟨c1, c2, c3⟩, List.map_append] at q
        simp [i0, i1, i2, i3, c1, c2, c3, ng, sz, im]
        exact q
      · rw [if_neg (fun z => c3 z.2.2), List.append_nil] at q
        simp [i0, i1, i2, i3, c1, c2, c3]
        exact q
    · rw [if_neg (fun z => c2 z.2.1), List.append_nil] at q
      have c2' : ¬ ((t.s : Int) = (i : Int)) := by omega
      simp [i0, i1, c1, c2, c2']
      exact q
  · rw [if_neg (fun z => c1 z.1), List.append_nil] at q
    simp [i0, c1]
    exact q
theorem e_falling {st : List Stk} {sd : D} {n : Str} {i : Nat} (hany : anyI sd = some (st.map Stk.d)) (hl : st.length ≤ 1000) : (m__law_falling [sd, .str n, .int (i : Int)] : M (MemS K cl) D) = M.pure (.lst ((fallS st n i).map pcD)) := by
  refine pure_of_wp fun s => ?_
  simp only [m__law_falling, b__law_falling, s_runF, startE]
  refine wp_bind (wp_cut (fun ρ s' => s' = s ∧ ρ = [.val sd, .val (.str n), .val (.int (i : Int)), .own (.lst ((fallL [] n i).map ngD)), .no, .no, .no]) (by simp [fallL]) ?_)
  rintro ρ s1 ⟨rfl, rfl⟩
  refine wp_cut (fun ρ s' => s' = s1 ∧ ∃ x4, ρ = [.val sd, .val (.str n), .val (.int (i : Int)), .own (.lst ((fallL st n i).map ngD)), x4, .no, .no]) ?_ ?_
  · unfold sFor
    rw [show iOf anyI (eVar 0) (seeE pHide [.val sd, .val (.str n), .val (.int (i : Int)), .own (.lst ((fallL [] n i).map ngD)), .no, .no, .no]) = (M.pure (st.map Stk.d) : M (MemS K cl) _) by simp [hany], DN.bind_pure]
    refine wp_forI (fun u ρ s' => s' = s1 ∧ ∃ done todo x4, st = done ++ todo ∧ u = todo.map Stk.d ∧ ρ = [.val sd, .val (.str n), .val (.int (i : Int)), .own (.lst ((fallL done n i).map ngD)), x4, .no, .no]) ⟨rfl, [], st, _, rfl, rfl, rfl⟩ ?_ ?_
    · rintro x u ρ s2 ⟨rfl, done, todo, y4, h1, h2, rfl⟩
      cases todo with
      | nil => exact nomatch h2
      | cons t todo =>
        cases h2
        refine ⟨_, s_aName, ?_⟩
        refine fall_f1 (st := done) (t := t) (by have := congrArg List.length h1; simp at this; omega) ?_
        exact ⟨rfl, done ++ [t], todo, _, by rw [h1]; simp, rfl, rfl⟩
    · rintro ρ s2 ⟨rfl, done, todo, y4, h1, h2, rfl⟩
      have : todo = [] := by cases todo with
        | nil => rfl
        | cons => exact nomatch h2
      subst this
      rw [List.append_nil] at h1
      subst h1
      exact ⟨rfl, _, rfl⟩
  rintro ρ s2 ⟨rfl, x4, rfl⟩
  have hst : D.stripL ((fallL st n i).map ngD) = (fallL st n i).map ngD := stripL_leaf fun d hd => by
    obtain ⟨k, _, rfl⟩ := List.mem_map.mp hd; rfl
  have sr := sorted_ng (c := fallL st n i)
  have hL : ∀ L : List D, anyI (.lst L) = some L := fun _ => rfl
  have ng : ∀ x : Int, negD (.int x) = some (.int (-x)) := fun _ => rfl
  have fs : fallS st n i = srtNg (fallL st n i) := rfl
  rw [fs]
  generalize fallL st n i = A at *
  simp only [sFrz, frzS]
  simp [strip_lst, hst, sr, hL]
  rw [compL_map (g := ngD) (k := pcD) (fun x hx => by simp [wipeE, setsE, ngD, pcD, ng])]
  simp
end
end LW
namespace LW
open PySem PySem.Spec PyProof.Rows L2 RZ DN
theorem mul_st2 {p c : Nat} (h : (c : Int) < 18446744073709551616) : mulD (.int (p : Int)) (.int (c : Int)) = some (.int ((p * c : Nat) : Int)) := by
  have h0 : (0 : Int) ≤ (c : Int) := Int.natCast_nonneg c
  rw [s_mulI, if_pos (.inr ⟨by simp; omega, by simp; omega⟩), Int.natCast_mul]
theorem ne_nilP {l : List Pc} : neD (.lst (l.map pcD)) (.lst []) = some (.bl (decide (l ≠ []))) := by
  have ok : (D.lst (l.map pcD)).okc = true := by
    unfold D.okc
    have a : (D.lst (l.map pcD)).plain = true := plainL_all fun x hx => by obtain ⟨n, _, rfl⟩ := List.mem_map.mp hx; rfl
    have b : (D.lst (l.map pcD)).py.depth ≤ 4 := by rw [D.py, PyData.depth]; exact Nat.succ_le_succ (depthAll_le (n := 3) fun x hx => by obtain ⟨n, _, rfl⟩ := List.mem_map.mp hx; simp [pcD, D.py, D.pyL, PyData.depth, PyData.depthAll])
    rw [a, decide_eq_true (by omega)]
    rfl
  unfold neD
  rw [ok, show (D.lst []).okc = true from rfl]
  cases l with
  | nil => rfl
  | cons x xs => simp [D.py, D.pyL, PyData.eqv, PyData.eqvAll]
def cnt0 (A : List Pc) (k : Nat) : Nat := ((A[k]?).map (·.2)).getD 0
def nxtK (A : List Pc) (k l : Nat) : Nat := if l = 0 then k + 1 else k
def nxtL (A : List Pc) (k l : Nat) : Nat := if l = 0 then cnt0 A (k + 1) else l
def remP (A : List Pc) (k l : Nat) : List Pc := match A.drop k with
  | [] => []
  | x :: r => (x.1, l) :: r
theorem remP_at {A : List Pc} {k l : Nat} (h : k < A.length) : remP A k l = (A[k].1, l) :: A.drop (k + 1) := by
  unfold remP
  rw [List.drop_eq_getElem_cons h]
theorem remP_end {A : List Pc} {k l : Nat} (h : A.length ≤ k) : remP A k l = [] := by
  unfold remP
  rw [List.drop_eq_nil_of_le h]
theorem remP_all {A : List Pc} {k : Nat} : remP A k (cnt0 A k) = A.drop k := by
  by_cases h : k < A.length
  · have e : cnt0 A k = A[k].2 := by simp [cnt0, h]
    rw [remP_at h, e]
    exact (List.drop_eq_getElem_cons h).symm
  · rw [remP_end (by omega), List.drop_eq_nil_of_le (by omega)]
theorem sum_nxt1 {A B : List Pc} {k l T : Nat} (h : k < A.length) : sumF (minP (remP A (nxtK A k l) (nxtL A k l)) B) 0 T = sumF (minP ((A[k].1, l) :: A.drop (k + 1)) B) 0 T := by
  unfold nxtK nxtL
  by_cases hl : l = 0
  · rw [if_pos hl, if_pos hl, remP_all, hl, minP_zero1]
  · rw [if_neg hl, if_neg hl, remP_at h]
theorem sum_nxt2 {A B : List Pc} {k l T : Nat} (h : k < B.length) : sumF (minP A (remP B (nxtK B k l) (nxtL B k l))) 0 T = sumF (minP A ((B[k].1, l) :: B.drop (k + 1))) 0 T := by
  unfold nxtK nxtL
  by_cases hl : l = 0
  · rw [if_pos hl, if_pos hl, remP_all, hl, minP_zero2]
  · rw [if_neg hl, if_neg hl, remP_at h]
def e74p (A B : List Pc) (t k j l r : Nat) (x7 x8 : Sl) : SEnv := [.val (.lst (A.map pcD)), .val (.lst (B.map pcD)), .val (.int (t : Int)), .val (.int (k : Int)), .val (.int (j : Int)), .val (.int (l : Int)), .val (.int (r : Int)), x7, x8]
section
variable {K : PySem.W.Frag} {cl : CTab}
theorem wp_sSetP {i : Nat} {f : DN.Env → M (MemS K cl) D} {ρ : SEnv} {d : D} {s : Mem} {R : Fl → Mem → Prop} (h : f (seeE pHide ρ) = M.pure d) (q : R (.nx (ρ.set i (.val d))) s) : wp (sSet i f ρ) R s := by
  have e : sSet i f ρ = M.pure (.nx (ρ.set i (.val d))) := by simp only [sSet, h, DN.bind_pure]
  rw [e]
  exact wp_pure q
theorem paired_f1 {A B : List Pc} {t k j l r : Nat} {x7 x8 : Sl} {s : Mem} {R : Fl → Mem → Prop} (hp : ∀ x ∈ A, x.1 ≤ 1000000000) :
    (k < A.length → (hj : j < B.length) → (hk : k < A.length) → ∀ y8, R (.nx (e74p A B (t + min l r * min A[k].1 B[j].1) (nxtK A k (l - min l r)) (nxtK B j (r - min l r)) (nxtL A k (l - min l r)) (nxtL B j (r - min l r)) x7 y8)) s) →
    ((A.length ≤ k ∨ B.length ≤ j) → R (.bk (e74p A B t k j l r x7 x8)) s) →
    wp (b__law_paired_f1 (e74p A B t k j l r x7 x8) : M (MemS K cl) Fl) R s := by
  intro q1 q2
  have hA : lenD [.lst (A.map pcD)] = some (.int (A.length : Int)) := by simp [lenD]
  have hB : lenD [.lst (B.map pcD)] = some (.int (B.length : Int)) := by simp [lenD]
  unfold b__law_paired_f1
  by_cases hk : k < A.length
  · by_cases hj : j < B.length
    · have q := q1 hk hj hk
      clear q1 q2
      have hk1 : ¬ ((A.length : Int) ≤ (k : Int)) := by omega
      have hj1 : ¬ ((B.length : Int) ≤ (j : Int)) := by omega
      refine wp_cut (fun ρ s' => s' = s ∧ ρ = e74p A B t k j l r x7 x8) (by unfold e74p; simp [hA, hB, hk1, hj1]) ?_
      rintro ρ s1 ⟨rfl, rfl⟩
      have mn : ∀ a b : Nat, min2D [.int (a : Int), .int (b : Int)] = some (.int ((min a b : Nat) : Int)) := fun a b => min_2
      refine wp_cut (fun ρ s' => s' = s1 ∧ ρ = e74p A B t k j l r x7 (.val (.int ((min l r : Nat) : Int)))) (by unfold e74p; simp [mn l r]) ?_
      rintro ρ s2 ⟨rfl, rfl⟩
      have e1 : ixD (.lst (A.map pcD)) (.int (k : Int)) = some (pcD A[k]) := by rw [ixL (by simpa using hk)]; simp
      have e2 : ixD (.lst (B.map pcD)) (.int (j : Int)) = some (pcD B[j]) := by rw [ixL (by simpa using hj)]; simp
      have i0 : ∀ x : Pc, ixD (pcD x) (.int 0) = some (.int (x.1 : Int)) := fun _ => rfl
      have i1 : ∀ x : Pc, ixD (pcD x) (.int 1) = some (.int (x.2 : Int)) := fun _ => rfl
      have pk := hp _ (List.getElem_mem hk)
      have mu := mul_st2 (p := min l r) (c := min A[k].1 B[j].1) (by omega)
      refine wp_cut (fun ρ s' => s' = s2 ∧ ρ = e74p A B (t + min l r * min A[k].1 B[j].1) k j l r x7 (.val (.int ((min l r : Nat) : Int)))) ?_ ?_
      · have m2 := mn A[k].1 B[j].1
        generalize A[k] = a at *
        generalize B[j] = b at *
        generalize min l r = m at *
        generalize min a.1 b.1 = n at *
        generalize m * n = P at *
        obtain ⟨ρ, hρ⟩ : ∃ ρ : SEnv, ρ = e74p A B t k j l r x7 (.val (.int (m : Int))) := ⟨_, rfl⟩
        have a1 : (xIx (xIx (eVar 0) (eVar 3)) (eC (.int 0)) : DN.Env → M (MemS K cl) D) (seeE pHide ρ) = M.pure (.int (a.1 : Int)) := by rw [hρ]; unfold e74p; simp [e1, i0]
        have a2 : (xIx (xIx (eVar 1) (eVar 4)) (eC (.int 0)) : DN.Env → M (MemS K cl) D) (seeE pHide ρ) = M.pure (.int (b.1 : Int)) := by rw [hρ]; unfold e74p; simp [e2, i0]
        have a3 : (xB min2D (aC (xIx (xIx (eVar 0) (eVar 3)) (eC (.int 0))) (aC (xIx (xIx (eVar 1) (eVar 4)) (eC (.int 0))) (aN))) : DN.Env → M (MemS K cl) D) (seeE pHide ρ) = M.pure (.int (n : Int)) := by
          simp only [xB, aC, aN, a1, a2, DN.bind_pure, m2]
          rfl
        have a4 : (eVar 8 : DN.Env → M (MemS K cl) D) (seeE pHide ρ) = M.pure (.int (m : Int)) := by rw [hρ]; unfold e74p; simp
        have a5 : (xOp mulD (eVar 8) (xB min2D (aC (xIx (xIx (eVar 0) (eVar 3)) (eC (.int 0))) (aC (xIx (xIx (eVar 1) (eVar 4)) (eC (.int 0))) (aN)))) : DN.Env → M (MemS K cl) D) (seeE pHide ρ) = M.pure (.int (P : Int)) := by
          show M.bind (eVar 8 (seeE pHide ρ)) (fun x => M.bind (xB min2D (aC (xIx (xIx (eVar 0) (eVar 3)) (eC (.int 0))) (aC (xIx (xIx (eVar 1) (eVar 4)) (eC (.int 0))) (aN))) (seeE pHide ρ)) fun y => lift (mulD x y)) = _
          rw [a4, DN.bind_pure, a3, DN.bind_pure, mu]
          rfl
        have a6 : (eVar 2 : DN.Env → M (MemS K cl) D) (seeE pHide ρ) = M.pure (.int (t : Int)) := by rw [hρ]; unfold e74p; simp
        rw [← hρ]
        refine wp_sSetP (d := .int ((t + P : Nat) : Int)) ?_ ?_
        · show M.bind (eVar 2 (seeE pHide ρ)) (fun x => M.bind (xOp mulD (eVar 8) (xB min2D (aC (xIx (xIx (eVar 0) (eVar 3)) (eC (.int 0))) (aC (xIx (xIx (eVar 1) (eVar 4)) (eC (.int 0))) (aN)))) (seeE pHide ρ)) fun y => lift (addD x y)) = _
          rw [a6, DN.bind_pure, a5, DN.bind_pure]
          rfl
        · rw [hρ]
          exact ⟨rfl, rfl⟩
      rintro ρ s3 ⟨rfl, rfl⟩
      have sb : ∀ a b : Nat, b ≤ a → subD (.int (a : Int)) (.int (b : Int)) = some (.int ((a - b : Nat) : Int)) := fun a b h => sub_nat h
      have sl := sb l (min l r) (Nat.min_le_left ..)
      have sr := sb r (min l r) (Nat.min_le_right ..)
      generalize t + min l r * min A[k].1 B[j].1 = t2 at *
      generalize min l r = m at *
      refine wp_cut (fun ρ s' => s' = s3 ∧ ρ = e74p A B t2 k j (l - m) r x7 (.val (.int (m : Int)))) ?_ ?_
      · generalize l - m = l2 at *
        have : ∃ v, subD (.int (l : Int)) (.int (m : Int)) = some v := ⟨_, sl⟩
        unfold e74p
        simp only [sSet, xOp]
        simp [-s_subI, sl]
      rintro ρ s4 ⟨rfl, rfl⟩
      refine wp_cut (fun ρ s' => s' = s4 ∧ ρ = e74p A B t2 k j (l - m) (r - m) x7 (.val (.int (m : Int)))) ?_ ?_
      · generalize r - m = r2 at *
        unfold e74p
        simp [-s_subI, sr]
      rintro ρ s5 ⟨rfl, rfl⟩
      generalize l - m = l2 at *
      generalize r - m = r2 at *
      have nextK : ∀ (A : List Pc) (k : Nat), ¬ k + 1 < A.length → cnt0 A (k + 1) = 0 := fun A k h => by
        unfold cnt0
        rw [List.getElem?_eq_none (by omega)]; rfl
      have nextX : ∀ (A : List Pc) (k : Nat), k + 1 < A.length → ∃ x : Pc, ixD (.lst (A.map pcD)) (.int ((k : Int) + 1)) = some (pcD x) ∧ cnt0 A (k + 1) = x.2 := fun A k h => by
        refine ⟨A[k + 1], ?_, ?_⟩
        · have := ixL (ds := A.map pcD) (k := k + 1) (by simpa using h)
          simpa using this
        · simp [cnt0, h]
      refine wp_cut (fun ρ s' => s' = s5 ∧ ρ = e74p A B t2 (nxtK A k l2) j (nxtL A k l2) r2 x7 (.val (.int (m : Int)))) ?_ ?_
      · unfold nxtK nxtL
        by_cases h0 : l2 = 0
        · rw [if_pos h0, if_pos h0, h0]
          by_cases hk2 : k + 1 < A.length
          · obtain ⟨x, ex, cx⟩ := nextX A k hk2
            have hk3 : (k : Int) + 1 < (A.length : Int) := by omega
            rw [cx]
            unfold e74p
            simp [hA, hk3, ex, i1]
          · have hk3 : ¬ ((k : Int) + 1 < (A.length : Int)) := by omega
            rw [nextK A k hk2]
            unfold e74p
            simp [hA, hk3]
        · rw [if_neg h0, if_neg h0]
          have h0' : ¬ ((l2 : Int) = 0) := by omega
          unfold e74p
          simp [h0, h0']
      rintro ρ s6 ⟨rfl, rfl⟩
      generalize nxtK A k l2 = k2 at *
      generalize nxtL A k l2 = l3 at *
      refine wp_mono (R := fun fl s' => s' = s6 ∧ fl = .nx (e74p A B t2 k2 (nxtK B j r2) l3 (nxtL B j r2) x7 (.val (.int (m : Int))))) ?_ ?_
      · unfold nxtK nxtL
        by_cases h0 : r2 = 0
        · rw [if_pos h0, if_pos h0, h0]
          by_cases hk2 : j + 1 < B.length
          · obtain ⟨x, ex, cx⟩ := nextX B j hk2
            have hk3 : (j : Int) + 1 < (B.length : Int) := by omega
            rw [cx]
            unfold e74p
            simp [hB, hk3, ex, i1]
          · have hk3 : ¬ ((j : Int) + 1 < (B.length : Int)) := by omega
            rw [nextK B j hk2]
            unfold e74p
            simp [hB, hk3]
        · rw [if_neg h0, if_neg h0]
          have h0' : ¬ ((r2 : Int) = 0) := by omega
          unfold e74p
          simp [h0, h0']
      rintro fl s7 ⟨rfl, rfl⟩
      exact q _
    · have hk1 : ¬ ((A.length : Int) ≤ (k : Int)) := by omega
      have hj1 : (B.length : Int) ≤ (j : Int) := by omega
      have q := q2 (.inr (by omega))
      unfold e74p at q ⊢
      simp [hA, hB, hk1, hj1]
      exact q
  · have hk1 : (A.length : Int) ≤ (k : Int) := by omega
    have q := q2 (.inl (by omega))
    unfold e74p at q ⊢
    simp [hA, hk1]
    exact q
end
end LW
namespace LW
open PySem PySem.Spec PyProof.Rows L2 RZ DN
theorem desc_at {A : List Pc} (h : A.Pairwise fun p q => q.1 ≤ p.1) {k : Nat} (hk : k < A.length) : ∀ x ∈ A.drop (k + 1), x.1 ≤ A[k].1 := by
  have h1 : (A.drop k).Pairwise fun p q => q.1 ≤ p.1 := h.drop
  rw [List.drop_eq_getElem_cons hk] at h1
  exact (List.pairwise_cons.mp h1).1
theorem pc_int {x : Pc} : ixD (pcD x) (.int 1) = some (.int (x.2 : Int)) := rfl
structure Fal (A : List Pc) : Prop where
  d : A.Pairwise fun p q => q.1 ≤ p.1
  c : ∀ x ∈ A, 0 < x.2
  p : ∀ x ∈ A, x.1 ≤ 1000000000
  l : A.length ≤ 1000
theorem nxtL_pos {A : List Pc} (h : Fal A) {k l : Nat} (hk : nxtK A k l < A.length) : 0 < nxtL A k l := by
  unfold nxtK at hk
  unfold nxtL
  by_cases h0 : l = 0
  · rw [if_pos h0] at hk ⊢
    have : cnt0 A (k + 1) = A[k + 1].2 := by simp [cnt0, hk]
    rw [this]
    exact h.c _ (List.getElem_mem hk)
  · rw [if_neg h0]; omega
section
variable {K : PySem.W.Frag} {cl : CTab}
theorem e_paired {A B : List Pc} (hA : Fal A) (hB : Fal B) : (m__law_paired [.lst (A.map pcD), .lst (B.map pcD)] : M (MemS K cl) D) = M.pure (.int (sumF (minP A B) 0 1000000000 : Nat)) := by
  refine pure_of_wp fun s => ?_
  have lA : lenD [.lst (A.map pcD)] = some (.int (A.length : Int)) := by simp [lenD]
  have lB : lenD [.lst (B.map pcD)] = some (.int (B.length : Int)) := by simp [lenD]
  obtain ⟨V, hV⟩ : ∃ V, V = sumF (minP A B) 0 1000000000 := ⟨_, rfl⟩
  rw [← hV]
  simp only [m__law_paired, b__law_paired, s_runF, startE]
  refine wp_bind (wp_cut (fun ρ s' => s' = s ∧ ρ = [.val (.lst (A.map pcD)), .val (.lst (B.map pcD)), .val (.int 0), .no, .no, .no, .no, .no, .no]) (by simp) ?_)
  rintro ρ s1 ⟨rfl, rfl⟩
  refine wp_cut (fun ρ s' => s' = s1 ∧ ρ = [.val (.lst (A.map pcD)), .val (.lst (B.map pcD)), .val (.int 0), .val (.int 0), .no, .no, .no, .no, .no]) (by simp) ?_
  rintro ρ s1 ⟨rfl, rfl⟩
  refine wp_cut (fun ρ s' => s' = s1 ∧ ρ = [.val (.lst (A.map pcD)), .val (.lst (B.map pcD)), .val (.int 0), .val (.int 0), .val (.int 0), .no, .no, .no, .no]) (by simp) ?_
  rintro ρ s1 ⟨rfl, rfl⟩
  have first : ∀ A : List Pc, A ≠ [] → ∃ x : Pc, ixD (.lst (A.map pcD)) (.int 0) = some (pcD x) ∧ cnt0 A 0 = x.2 := fun A h => by
    cases A with
    | nil => exact absurd rfl h
    | cons x A =>
      have := ixL (ds := (x :: A).map pcD) (k := 0) (by simp)
      exact ⟨x, by simpa using this, rfl⟩
  have n1 := ne_nilP (l := A)
  have n2 := ne_nilP (l := B)
  refine wp_cut (fun ρ s' => s' = s1 ∧ ρ = [.val (.lst (A.map pcD)), .val (.lst (B.map pcD)), .val (.int 0), .val (.int 0), .val (.int 0), .val (.int (cnt0 A 0 : Nat)), .no, .no, .no]) ?_ ?_
  · by_cases h : A = []
    · subst h
      rw [decide_eq_false (by simp)] at n1
      have e : cnt0 [] 0 = 0 := rfl
      rw [e]
      simp at n1
      simp [n1]
    · obtain ⟨x, ex, cx⟩ := first A h
      rw [decide_eq_true h] at n1
      rw [cx]
      simp [n1, ex, pc_int]
  rintro ρ s1 ⟨rfl, rfl⟩
  refine wp_cut (fun ρ s' => s' = s1 ∧ ρ = [.val (.lst (A.map pcD)), .val (.lst (B.map pcD)), .val (.int 0), .val (.int 0), .val (.int 0), .val (.int (cnt0 A 0 : Nat)), .val (.int (cnt0 B 0 : Nat)), .no, .no]) ?_ ?_
  · by_cases h : B = []
    · subst h
      rw [decide_eq_false (by simp)] at n2
      have e : cnt0 [] 0 = 0 := rfl
      rw [e]
      simp at n2
      simp [n2]
    · obtain ⟨x, ex, cx⟩ := first B h
      rw [decide_eq_true h] at n2
      rw [cx]
      simp [n2, ex, pc_int]
  rintro ρ s1 ⟨rfl, rfl⟩
  refine wp_cut (fun ρ s' => s' = s1 ∧ ∃ k j l r x7 x8, ρ = e74p A B V k j l r x7 x8) ?_ ?_
  · have er := rng (A.length + B.length) (by have := hA.l; have := hB.l; omega)
    have ei : (iOf range1 (xOp addD (xB lenD (aC (eVar 0) (aN))) (xB lenD (aC (eVar 1) (aN)))) (seeE pHide [.val (.lst (A.map pcD)), .val (.lst (B.map pcD)), .val (.int 0), .val (.int 0), .val (.int 0), .val (.int (cnt0 A 0 : Nat)), .val (.int (cnt0 B 0 : Nat)), .no, .no]) : M (MemS K cl) _) = M.pure ((List.range (A.length + B.length)).map fun i : Nat => .int (i : Int)) := by
      have e2 : (A.length : Int) + (B.length : Int) = ((A.length + B.length : Nat) : Int) := by omega
      simp [lA, lB]
      rw [e2, er]
      rfl
    unfold sFor
    rw [ei, DN.bind_pure]
    refine wp_forI (fun u ρ s' => s' = s1 ∧ ∃ t k j l r x7 x8, t + sumF (minP (remP A k l) (remP B j r)) 0 1000000000 = V ∧ A.length + B.length ≤ k + j + u.length ∧ k ≤ A.length ∧ j ≤ B.length ∧ (k < A.length → 0 < l) ∧ (j < B.length → 0 < r) ∧ ρ = e74p A B t k j l r x7 x8)
      ⟨rfl, 0, 0, 0, cnt0 A 0, cnt0 B 0, _, _, ?_, by simp, by omega, by omega, fun h => ?_, fun h => ?_, rfl⟩ ?_ ?_
    · rw [remP_all, remP_all, hV]
      simp
    · have : cnt0 A 0 = A[0].2 := by simp [cnt0, h]
      rw [this]; exact hA.c _ (List.getElem_mem h)
    · have : cnt0 B 0 = B[0].2 := by simp [cnt0, h]
      rw [this]; exact hB.c _ (List.getElem_mem h)
    · rintro x u ρ s2 ⟨rfl, t, k, j, l, r, x7, x8, hs, hn, hk, hj, lp, rp, rfl⟩
      refine ⟨_, s_aName, ?_⟩
      show wp (b__law_paired_f1 (e74p A B t k j l r (.val x) x8)) _ _
      refine paired_f1 hA.p (fun hk1 hj1 hk2 y8 => ?_) (fun hend => ?_)
      · have pA := desc_at hA.d hk1
        have pB := desc_at hB.d hj1
        have st := pair_step (p := A[k].1) (l := l) (q := B[j].1) (r := r) (T := 1000000000) pA pB (by have := hA.p _ (List.getElem_mem hk1); omega)
        rw [remP_at hk1, remP_at hj1, st] at hs
        have l0 := lp hk1
        have r0 := rp hj1
        refine ⟨rfl, t + min l r * min A[k].1 B[j].1, nxtK A k (l - min l r), nxtK B j (r - min l r), nxtL A k (l - min l r), nxtL B j (r - min l r), _, _, ?_, ?_, ?_, ?_, nxtL_pos hA, nxtL_pos hB, rfl⟩
        · rw [sum_nxt1 hk1, sum_nxt2 hj1]
          omega
        · rw [List.length_cons] at hn
          unfold nxtK
          rcases Nat.le_total l r with h | h
          · rw [Nat.min_eq_left h, if_pos (show l - l = 0 by omega)]
            split <;> omega
          · rw [Nat.min_eq_right h, if_pos (show r - r = 0 by omega)]
            split <;> omega
        · unfold nxtK
          split <;> omega
        · unfold nxtK
          split <;> omega
      · refine ⟨rfl, k, j, l, r, .val x, x8, ?_⟩
        have : sumF (minP (remP A k l) (remP B j r)) 0 1000000000 = 0 := by
          rcases hend with h | h
          · rw [remP_end h]; exact minP_nil.1
          · rw [remP_end h]; exact minP_nil.2
        rw [this] at hs
        have : t = V := by omega
        rw [this]
    · rintro ρ s2 ⟨rfl, t, k, j, l, r, x7, x8, hs, hn, hk, hj, lp, rp, rfl⟩
      refine ⟨rfl, k, j, l, r, x7, x8, ?_⟩
      rw [remP_end (A := A) (by simp at hn; omega), minP_nil.1] at hs
      have : t = V := by omega
      rw [this]
  rintro ρ s2 ⟨rfl, k, j, l, r, x7, x8, rfl⟩
  unfold e74p
  simp
theorem fall_fal {st : List Stk} {n : Str} {i : Nat} (hp : ∀ t ∈ st, t.p ≤ 1000000000) (hl : st.length ≤ 1000) : Fal (fallS st n i) where
  d := fallS_desc
  c x hx := by obtain ⟨t, _, rfl, h⟩ := fallS_mem hx; exact h
  p x hx := by obtain ⟨t, ht, rfl, _⟩ := fallS_mem hx; exact hp t ht
  l := Nat.le_trans fallS_len hl
theorem e_sumP {A : List Pc} (h : ∀ x ∈ A, x.1 ≤ 1000000000) : (A.map fun x => D.int ((x.1 * x.2 : Nat) : Int)) = iL (A.map fun x => x.1 * x.2) ∧ sumD [.lst (iL (A.map fun x => x.1 * x.2))] = some (.int (mulP A : Nat)) := by
  refine ⟨?_, sum_iL⟩
  show _ = List.map iD (List.map _ A)
  rw [List.map_map]; rfl
theorem mul_step {ρ : DN.Env} {x : Pc} {m : Nat} (hl : ρ.length = 9) (h : mulD (.int (x.1 : Int)) (.int (x.2 : Int)) = some (.int (m : Int))) :
    compF (aTup (aCons (aName 7) (aCons (aName 8) (aNil)))) tY (xOp mulD (eVar 7) (eVar 8)) ρ (pcD x) = (M.pure (some (D.int (m : Int))) : M (MemS K cl) _) := by
  obtain ⟨as, has⟩ : ∃ as, as = [((7 : Nat), D.int (x.1 : Int)), (8, D.int (x.2 : Int))] := ⟨_, rfl⟩
  have h1 : (aTup (aCons (aName 7) (aCons (aName 8) (aNil)))) (pcD x) = some as := by rw [has]; simp [pcD]
  have a7 : (eVar 7 : DN.Env → M (MemS K cl) D) (setsE ρ as) = M.pure (.int (x.1 : Int)) := by
    rw [has]
    simp [setsE, hl]
  have a8 : (eVar 8 : DN.Env → M (MemS K cl) D) (setsE ρ as) = M.pure (.int (x.2 : Int)) := by
    rw [has]
    simp [setsE, hl]
  have e : (xOp mulD (eVar 7) (eVar 8) : DN.Env → M (MemS K cl) D) (setsE ρ as) = M.pure (.int (m : Int)) := by
    show M.bind (eVar 7 (setsE ρ as)) (fun x => M.bind (eVar 8 (setsE ρ as)) fun y => lift (mulD x y)) = _
    rw [a7, DN.bind_pure, a8, DN.bind_pure, h]
    rfl
  generalize (xOp mulD (eVar 7) (eVar 8) : DN.Env → M (MemS K cl) D) = f at e ⊢
  simp only [compF, h1, Option.map_some, lift_some', DN.bind_pure, tY, e]
  rfl
theorem dues_f1 {st : List Stk} {sd : D} {n : Str} {a b : Nat} {x4 x5 x6 x7 x8 : Sl} {s : Mem} {R : Fl → Mem → Prop} (hany : anyI sd = some (st.map Stk.d)) (hl : st.length ≤ 1000) (hp : ∀ t ∈ st, t.p ≤ 1000000000)
    (q : ∀ y4 y5 y6 y7 y8, R (.nx [.val sd, .val (.int ((a + valS 1000000000 (ofN n st) : Nat) : Int)), .val (.int ((b + min (sideS n 0 st) (sideS n 1 st) : Nat) : Int)), .val (.str n), y4, y5, y6, y7, y8]) s) :
    wp (b__law_dues_f1 [.val sd, .val (.int (a : Int)), .val (.int (b : Int)), .val (.str n), x4, x5, x6, x7, x8] : M (MemS K cl) Fl) R s := by
  have f0 := e_falling (K := K) (cl := cl) (n := n) (i := 0) hany hl
  have f1 := e_falling (K := K) (cl := cl) (n := n) (i := 1) hany hl
  have a0 := fall_fal (n := n) (i := 0) hp hl
  have a1 := fall_fal (n := n) (i := 1) hp hl
  have ep := e_paired (K := K) (cl := cl) a0 a1
  rw [fall_val (fallS_perm (st := st)) fallS_perm] at ep
  have m0 : mulP (fallS st n 0) = sideS n 0 st := (mulP_perm fallS_perm).trans mulP_fall
  have m1 : mulP (fallS st n 1) = sideS n 1 st := (mulP_perm fallS_perm).trans mulP_fall
  obtain ⟨e0, s0⟩ := e_sumP a0.p
  obtain ⟨e1, s1⟩ := e_sumP a1.p
  rw [m0] at s0
  rw [m1] at s1
  have hm : ∀ L : List Pc, (∀ x ∈ L, x.1 ≤ 1000000000) → ∀ x ∈ L, mulD (.int (x.1 : Int)) (.int (x.2 : Int)) = some (.int ((x.1 * x.2 : Nat) : Int)) := fun L h x hx => mul_st (by have := h x hx; omega)
  have h0 := hm _ a0.p
  have h1 := hm _ a1.p
  have hL : ∀ L : List D, anyI (.lst L) = some L := fun _ => rfl
  generalize valS 1000000000 (ofN n st) = V at *
  generalize sideS n 0 st = S0 at *
  generalize sideS n 1 st = S1 at *
  generalize fallS st n 0 = A at *
  generalize fallS st n 1 = B at *
  have mn : min2D [.int (S0 : Int), .int (S1 : Int)] = some (.int ((min S0 S1 : Nat) : Int)) := min_2
  unfold b__law_dues_f1
  refine wp_cut (fun ρ s' => s' = s ∧ ρ = [.val sd, .val (.int (a : Int)), .val (.int (b : Int)), .val (.str n), .val (.lst (A.map pcD)), x5, x6, x7, x8]) (by have f0 : (m__law_falling [sd, .str n, .int 0] : M (MemS K cl) D) = M.pure (.lst (A.map pcD)) := f0; simp [f0]) ?_
  rintro ρ s2 ⟨rfl, rfl⟩
  refine wp_cut (fun ρ s' => s' = s2 ∧ ρ = [.val sd, .val (.int (a : Int)), .val (.int (b : Int)), .val (.str n), .val (.lst (A.map pcD)), .val (.lst (B.map pcD)), x6, x7, x8]) (by have f1 : (m__law_falling [sd, .str n, .int 1] : M (MemS K cl) D) = M.pure (.lst (B.map pcD)) := f1; simp [f1]) ?_
  rintro ρ s2 ⟨rfl, rfl⟩
  refine wp_cut (fun ρ s' => s' = s2 ∧ ρ = [.val sd, .val (.int ((a + V : Nat) : Int)), .val (.int (b : Int)), .val (.str n), .val (.lst (A.map pcD)), .val (.lst (B.map pcD)), x6, x7, x8]) (by simp [ep]) ?_
  rintro ρ s2 ⟨rfl, rfl⟩
  have comp : ∀ (i : Nat) (L : List Pc), (i = 4 ∧ L = A ∨ i = 5 ∧ L = B) → (xLc [7, 8] (aTup (aCons (aName 7) (aCons (aName 8) (aNil)))) (tY) (xOp mulD (eVar 7) (eVar 8)) (iOf anyI (eVar i)) : DN.Env → M (MemS K cl) D) (seeE pHide [.val sd, .val (.int ((a + V : Nat) : Int)), .val (.int (b : Int)), .val (.str n), .val (.lst (A.map pcD)), .val (.lst (B.map pcD)), x6, x7, x8]) = M.pure (.lst (L.map fun x => D.int ((x.1 * x.2 : Nat) : Int))) := fun i L hi => by
    have hx : ∀ x ∈ L, mulD (.int (x.1 : Int)) (.int (x.2 : Int)) = some (.int ((x.1 * x.2 : Nat) : Int)) := by
      rcases hi with ⟨_, rfl⟩ | ⟨_, rfl⟩
      · exact h0
      · exact h1
    rcases hi with ⟨rfl, rfl⟩ | ⟨rfl, rfl⟩
    · simp only [xLc, iOf]
      rw [show (eVar 4 : DN.Env → M (MemS K cl) D) (seeE pHide [.val sd, .val (.int ((a + V : Nat) : Int)), .val (.int (b : Int)), .val (.str n), .val (.lst (L.map pcD)), .val (.lst (B.map pcD)), x6, x7, x8]) = M.pure (.lst (L.map pcD)) by simp, DN.bind_pure, hL]
      simp only [lift_some', DN.bind_pure]
      rw [compL_map (g := pcD) (k := fun x => D.int ((x.1 * x.2 : Nat) : Int)) (fun x hx2 => mul_step (by simp [wipeE]) (hx x hx2))]
      rfl
    · simp only [xLc, iOf]
      rw [show (eVar 5 : DN.Env → M (MemS K cl) D) (seeE pHide [.val sd, .val (.int ((a + V : Nat) : Int)), .val (.int (b : Int)), .val (.str n), .val (.lst (A.map pcD)), .val (.lst (L.map pcD)), x6, x7, x8]) = M.pure (.lst (L.map pcD)) by simp, DN.bind_pure, hL]
      simp only [lift_some', DN.bind_pure]
      rw [compL_map (g := pcD) (k := fun x => D.int ((x.1 * x.2 : Nat) : Int)) (fun x hx2 => mul_step (by simp [wipeE]) (hx x hx2))]
      rfl
  have c4 := comp 4 A (.inl ⟨rfl, rfl⟩)
  have c5 := comp 5 B (.inr ⟨rfl, rfl⟩)
  rw [e0] at c4
  rw [e1] at c5
  have q := q (.val (.lst (A.map pcD))) (.val (.lst (B.map pcD))) x6 x7 x8
  obtain ⟨ρ, hρ⟩ : ∃ ρ : SEnv, ρ = [.val sd, .val (.int ((a + V : Nat) : Int)), .val (.int (b : Int)), .val (.str n), .val (.lst (A.map pcD)), .val (.lst (B.map pcD)), x6, x7, x8] := ⟨_, rfl⟩
  rw [← hρ] at c4 c5 ⊢
  refine wp_sSetP (d := .int ((b + min S0 S1 : Nat) : Int)) ?_ ?_
  · have a6 : (eVar 2 : DN.Env → M (MemS K cl) D) (seeE pHide ρ) = M.pure (.int (b : Int)) := by rw [hρ]; simp
    simp only [xOp, a6, DN.bind_pure, xB, aC, aN, c4, c5, s0, s1, lift, mn]
    rfl
  · rw [hρ]
    exact q
end
end LW
namespace LW
open PySem PySem.Spec PyProof.Rows L2 RZ DN
structure Ok74 (t : Stk) : Prop where
  n : WordOk 8 t.n
  s : t.s ≤ 1
  p : t.p ≤ 100000000
  c : (t.c : Int) ≤ 100000000000000000000000000000
theorem Ok74.r {t : Stk} (h : Ok74 t) : StR t := ⟨h.n, h.s, by have := h.p; omega, by have := h.c; omega⟩
structure Few74 (B st : List Stk) : Prop where
  ok : ∀ t ∈ B, StR t
  bl : B.length ≤ 60
  sub : ∀ x ∈ st, x ∈ B
  l : st.length ≤ 200
theorem Few74.st {B st : List Stk} (h : Few74 B st) : ∀ t ∈ st, StR t := fun t ht => h.ok t (h.sub t ht)
theorem Few74.g {B st : List Stk} (h : Few74 B st) : StG st where
  f := ⟨by have := h.l; omega, by
    have a := nmS_sub h.sub
    have b := nmS_len (a := B)
    have := h.bl
    omega, fun t ht => (h.st t ht).s, fun t ht => (h.st t ht).p⟩
  v := by
    have a := lvN_sub h.sub
    have b := lvN_len (a := B)
    have := h.bl
    omega
  l := h.l
theorem Few74.pls {B st : List Stk} (h : Few74 B st) {d : D} (hd : d = .lst (st.map Stk.d) ∨ d = .tup (st.map Stk.d)) : PlS d ∧ stksB d = true ∧ anyI d = some (st.map Stk.d) :=
  ⟨tr_pls hd fun x hx => by obtain ⟨t, _, rfl⟩ := List.mem_map.mp hx; exact pq_stk, stks_ok hd h.l h.st, by rcases hd with rfl | rfl <;> rfl⟩
theorem Few74.sub2 {B st su : List Stk} (h : Few74 B st) (hs : ∀ x ∈ su, x ∈ st) (hl : su.length ≤ 200) : Few74 B su := ⟨h.ok, h.bl, fun x hx => h.sub x (hs x hx), hl⟩
theorem Few74.p {B st : List Stk} (h : Few74 B st) : ∀ t ∈ st, t.p ≤ 1000000000 := fun t ht => (h.st t ht).p
theorem cut_m12 {xs : List D} : slD (.lst xs) (some (-12)) none = some (.lst (xs.drop (xs.length - 12))) := by
  show some (D.lst (cutL xs (some (-12)) none)) = _
  unfold cutL
  have e2 : HT.sIx xs.length xs.length (none : Option Int) = xs.length := rfl
  have e1 : HT.sIx xs.length 0 (some (-12)) = xs.length - 12 := by
    show (if (-12 : Int) < 0 then ((-12 : Int) + (xs.length : Int)).toNat else min (-12 : Int).toNat xs.length) = _
    rw [if_pos (by decide)]
    omega
  rw [e1, e2, List.take_of_length_le (by simp)]
def FrOk (k : Nat) (Fr : Mem → Prop) : Prop := ∀ (s : Mem) (c f z n : Int), Src k s → Fr s → Fr (updM s k (some (.lst [.int c, .int f, .int z, .int n])))
theorem frT {k : Nat} : FrOk k fun _ => True := fun _ _ _ _ _ _ _ => trivial
theorem frS {k k' : Nat} (h : k' ≠ k) : FrOk k (Src k') := fun s c f z n hk ⟨w, c', f', z', n', e⟩ => by
  refine ⟨(hk.set c f z n).wf, c', f', z', n', ?_⟩
  show (if k' = k then _ else s.m k') = _
  rw [if_neg h, e]
section
variable {K : PySem.W.Frag} {cl : CTab} {k : Nat} {s : Mem} {R : D → Mem → Prop}
theorem wp_takeX {k : Nat} {n : Int} {Fr : Mem → Prop} {R : D → Mem → Prop} {s : Mem} (hF : FrOk k Fr) (hs : Src k s) (hf : Fr s) (h1 : 1 ≤ n) (h2 : n.natAbs < 2 ^ 200) (q : ∀ j s', 0 ≤ j → j < n → Src k s' → Fr s' → R (.int j) s') : wp (m__law_take (K := K) (cl := cl) [.ref k, .int n]) R s := by
  obtain ⟨w, c, f, z, m, e⟩ := hs
  have mod0 : ∀ x : Int, 0 ≤ x % n ∧ x % n < n := fun x => ⟨Int.emod_nonneg _ (by omega), Int.emod_lt_of_pos _ (by omega)⟩
  have hn0 : 0 < n := by omega
  have r0 : ∀ {s : Mem} {c f z m : Int} {R : D → Mem → Prop}, s.m k = some (.lst [.int c, .int f, .int z, .int m]) → (wp (ixM (K := K) (cl := cl) (.ref k) (.int 0)) R s ↔ R (.int c) s) := fun h => wp_ixr h rfl
  have r1 : ∀ {s : Mem} {c f z m : Int} {R : D → Mem → Prop}, s.m k = some (.lst [.int c, .int f, .int z, .int m]) → (wp (ixM (K := K) (cl := cl) (.ref k) (.int 1)) R s ↔ R (.int f) s) := fun h => wp_ixr h rfl
  have r2 : ∀ {s : Mem} {c f z m : Int} {R : D → Mem → Prop}, s.m k = some (.lst [.int c, .int f, .int z, .int m]) → (wp (ixM (K := K) (cl := cl) (.ref k) (.int 2)) R s ↔ R (.int z) s) := fun h => wp_ixr h rfl
  have r3 : ∀ {s : Mem} {c f z m : Int} {R : D → Mem → Prop}, s.m k = some (.lst [.int c, .int f, .int z, .int m]) → (wp (ixM (K := K) (cl := cl) (.ref k) (.int 3)) R s ↔ R (.int m) s) := fun h => wp_ixr h rfl
  have w3 : ∀ {s : Mem} {c f z m x : Int} {R : Unit → Mem → Prop}, s.m k = some (.lst [.int c, .int f, .int z, .int m]) → (wp (setM (K := K) (cl := cl) (.ref k) (.int 3) (.int x)) R s ↔ R () (updM s k (some (.lst [.int c, .int f, .int z, .int x])))) := fun h => by
    simp [wp, setM, h, ixN, D.imm]
  have w0 : ∀ {s : Mem} {c f z m x : Int} {R : Unit → Mem → Prop}, s.m k = some (.lst [.int c, .int f, .int z, .int m]) → (wp (setM (K := K) (cl := cl) (.ref k) (.int 0) (.int x)) R s ↔ R () (updM s k (some (.lst [.int x, .int f, .int z, .int m])))) := fun h => by
    simp [wp, setM, h, ixN, D.imm]
  have eu : ∀ {s : Mem} {d : D}, (updM s k (some d)).m k = some d := fun {s d} => if_pos rfl
  have hs0 : Src k s := ⟨w, c, f, z, m, e⟩
  have hf1 := hF s c f z (m + 1) hs0 hf
  have hs1 : Src k (updM s k (some (.lst [.int c, .int f, .int z, .int (m + 1)]))) := hs0.set ..
  have e1 := eu (s := s) (d := .lst [.int c, .int f, .int z, .int (m + 1)])
  simp only [m__law_take, b__law_take, s_runF, startE]
  refine wp_bind (wp_cut (fun ρ s' => (Src k s' ∧ Fr s') ∧ s'.m k = some (.lst [.int c, .int f, .int z, .int (m + 1)]) ∧ ρ = [.val (.ref k), .val (.int n), .no, .no]) ?_ ?_)
  · simp [r3 e, w3 e]
    exact ⟨hs1, hf1⟩
  clear hs1 e1 hs0 e hf hf1
  have fd : ∀ x : Int, fdivD (.int x) (.int n) = some (.int (x / n)) := fun x => by
    rw [s_fdivI]
    split
    · rfl
    · rw [if_pos ⟨hn0, h2⟩]
  rintro ρ s ⟨⟨hs, hf⟩, e, rfl⟩
  refine wp_cut (fun ρ s' => (Src k s' ∧ Fr s') ∧ s'.m k = some (.lst [.int c, .int f, .int z, .int (m + 1)]) ∧ ρ = [.val (.ref k), .val (.int n), .no, .no]) ?_ ?_
  · by_cases hff : f = 1
    · subst hff
      by_cases hc : 0 < c
      · simp [-s_fdivI, r1 e, r0 e, hc, hn0, fd, w0 e]
        exact q _ _ (mod0 _).1 (mod0 _).2 (hs.set ..) (hF _ _ _ _ _ hs hf)
      · simp [r1 e, r0 e, hc]
        exact ⟨⟨hs, hf⟩, e⟩
    · simp [r1 e, hff]
      exact ⟨⟨hs, hf⟩, e⟩
  rintro ρ s ⟨⟨hs, hf⟩, e, rfl⟩
  simp [r2 e, r3 e, hn0]
  have hx : ∀ x : Int, 0 ≤ x % 2147483647 ∧ x % 2147483647 < 2147483647 := fun x => ⟨Int.emod_nonneg _ (by omega), Int.emod_lt_of_pos _ (by omega)⟩
  have hx1 := hx ((z + 7919 * (m + 1)) * 48271)
  generalize (z + 7919 * (m + 1)) * 48271 % 2147483647 = x at hx1
  rw [if_pos (.inl (by omega)), wp_lift_iff]
  simp
  have hx2 := hx (x * (x / 1009 + 69621))
  generalize x * (x / 1009 + 69621) % 2147483647 = y at hx2
  rw [if_pos (.inl (by omega)), wp_lift_iff]
  simp [hn0]
  exact q _ _ (mod0 _).1 (mod0 _).2 hs hf
theorem e_told74 {B st : List Stk} (h : Few74 B st) {d : D} (hd : d = .lst (st.map Stk.d) ∨ d = .tup (st.map Stk.d)) {a b : Nat} (ha : a = pvS st) (hb : b = metS st) : (m__law_is_told [d, .tup [.int (a : Int), .int (b : Int)]] : M (MemS K cl) D) = M.pure (.bl true) := by
  obtain ⟨p, hs, hany⟩ := h.pls hd
  have e1 := e_stock_points (K := K) (cl := cl) h.g p hs hany
  have e2 := e_stock_met (K := K) (cl := cl) h.g p hs hany
  rw [← ha] at e1
  rw [← hb] at e2
  have sm := same_tP (K := K) (cl := cl) (n := 11) (ds := [.int (a : Int), .int (b : Int)]) (by simp) fun d hd => by
    simp only [List.mem_cons, List.not_mem_nil, or_false] at hd
    rcases hd with rfl | rfl <;> exact same_iP
  simp [m__law_is_told, b__law_is_told, startE, e1, e2, sm]
theorem e_dues {B st : List Stk} (h : Few74 B st) : (m__law_dues [.lst (st.map Stk.d)] : M (MemS K cl) D) = M.pure (.tup [.int (pvS st : Nat), .int (metS st : Nat)]) := by
  refine pure_of_wp fun s => ?_
  have hg := h.g
  have hss : sortSetD (.lst (st.map fun t => D.str t.n)) = some (.lst ((nmS st).map .str)) := by
    have e : (st.map fun t => D.str t.n) = (st.map Stk.n).map D.str := by rw [List.map_map]; rfl
    rw [e]
    show (strsOf _).bind _ = _
    rw [strsOf_map]
    have hn := hg.f.n
    unfold nmS sortS at hn
    rw [List.length_mergeSort] at hn
    show (if _ then _ else _) = _
    rw [if_pos ⟨by rw [List.length_map]; exact hg.f.l, hn⟩]
    rfl
  obtain ⟨sd, hsd⟩ : ∃ sd, sd = D.lst (st.map Stk.d) := ⟨_, rfl⟩
  have hany : anyI sd = some (st.map Stk.d) := by rw [hsd]
  rw [← hsd]
  simp only [m__law_dues, b__law_dues, s_runF, startE]
  refine wp_bind (wp_cut (fun ρ s' => s' = s ∧ ρ = [.val sd, .val (.int 0), .no, .no, .no, .no, .no, .no, .no]) (by simp) ?_)
  rintro ρ s1 ⟨rfl, rfl⟩
  refine wp_cut (fun ρ s' => s' = s1 ∧ ρ = [.val sd, .val (.int 0), .val (.int 0), .no, .no, .no, .no, .no, .no]) (by simp) ?_
  rintro ρ s1 ⟨rfl, rfl⟩
  refine wp_cut (fun ρ s' => s' = s1 ∧ ∃ x3 x4 x5 x6 x7 x8, ρ = [.val sd, .val (.int (pvS st : Nat)), .val (.int (metS st : Nat)), x3, x4, x5, x6, x7, x8]) ?_ ?_
  · have hn : ∀ L : List D, anyI (.lst L) = some L := fun _ => rfl
    have he : (iOf anyI (xSrtSet (xLc [6] (aName 6) (tY) (xIx (eVar 6) (eC (.int 0))) (iOf anyI (eVar 0)))) (seeE pHide [.val sd, .val (.int 0), .val (.int 0), .no, .no, .no, .no, .no, .no]) : M (MemS K cl) _) = M.pure ((nmS st).map D.str) := by
      simp [hany]
      rw [compL_map (k := fun t : Stk => D.str t.n) (fun t ht => by
        have i0 : ixD t.d (.int 0) = some (.str t.n) := rfl
        simp [wipeE, setsE, i0])]
      generalize (st.map fun t => D.str t.n) = L at hss
      simp [hss, hn]
    unfold sFor
    rw [he, DN.bind_pure]
    refine wp_forI (fun t ρ s' => s' = s1 ∧ ∃ (rest : List Str) (a b : Nat), ∃ x3 x4 x5 x6 x7 x8, t = rest.map D.str ∧ pvS st = a + (rest.map fun n => valS 1000000000 (ofN n st)).sum ∧ metS st = b + (rest.map fun n => min (sideS n 0 st) (sideS n 1 st)).sum ∧ ρ = [.val sd, .val (.int (a : Int)), .val (.int (b : Int)), x3, x4, x5, x6, x7, x8])
      ⟨rfl, nmS st, 0, 0, _, _, _, _, _, _, rfl, by unfold pvS stkV; omega, by unfold metS; omega, rfl⟩ ?_ ?_
    · rintro x t ρ s2 ⟨rfl, rest, a, b, x3, x4, x5, x6, x7, x8, ht, hm1, hm2, rfl⟩
      cases rest with
      | nil => exact nomatch ht
      | cons n rest =>
        cases ht
        refine ⟨_, s_aName, ?_⟩
        show wp (b__law_dues_f1 [.val sd, .val (.int (a : Int)), .val (.int (b : Int)), .val (.str n), x4, x5, x6, x7, x8]) _ _
        refine dues_f1 hany (by have := h.l; omega) h.p fun y4 y5 y6 y7 y8 => ?_
        rw [List.map_cons, List.sum_cons] at hm1 hm2
        exact ⟨rfl, rest, _, _, _, _, _, _, _, _, rfl, by omega, by omega, rfl⟩
    · rintro ρ s2 ⟨rfl, rest, a, b, x3, x4, x5, x6, x7, x8, ht, hm1, hm2, rfl⟩
      have : rest = [] := by cases rest with
        | nil => rfl
        | cons => exact nomatch ht
      subst this
      have hm1 : pvS st = a := hm1
      have hm2 : metS st = b := hm2
      rw [hm1, hm2]
      exact ⟨rfl, _, _, _, _, _, _, rfl⟩
  rintro ρ s2 ⟨rfl, x3, x4, x5, x6, x7, x8, rfl⟩
  generalize pvS st = V
  generalize metS st = W
  simp
theorem wp_number {most : Nat} {Fr : Mem → Prop} (hF : FrOk k Fr) (hs : Src k s) (hf : Fr s) (h1 : 10 ≤ most) (h2 : (most : Int) < 2 ^ 150) (q : ∀ (j : Nat) s', j ≤ most → Src k s' → Fr s' → R (.int (j : Int)) s') : wp (m__law_number (K := K) (cl := cl) [.ref k, .int (most : Int)]) R s := by
  simp only [m__law_number, b__law_number, s_runF, startE]
  refine wp_bind ?_
  refine wp_cut (fun ρ' s' => (Src k s' ∧ Fr s') ∧ ∃ a : Nat, a < 4 ∧ ρ' = [.val (.ref k), .val (.int (most : Int)), .val (.int (a : Int))]) ?_ ?_
  · simp
    refine wp_takeX hF hs hf (by omega) (by omega) fun j s2 j0 j1 hs2 hf2 => ?_
    exact ⟨⟨hs2, hf2⟩, j.toNat, by omega, by congr 2; omega⟩
  rintro _ s ⟨⟨hs, hf⟩, a, ha, rfl⟩
  refine wp_cut (fun ρ' s' => (Src k s' ∧ Fr s') ∧ a ≠ 0 ∧ ρ' = [.val (.ref k), .val (.int (most : Int)), .val (.int (a : Int))]) ?_ ?_
  · by_cases h : a = 0
    · subst h
      simp
      refine wp_takeX hF hs hf (by omega) (by omega) fun j s2 j0 j1 hs2 hf2 => ?_
      obtain ⟨j, rfl⟩ : ∃ i : Nat, j = i := ⟨j.toNat, by omega⟩
      exact q j s2 (by omega) hs2 hf2
    · have h' : ¬ ((a : Int) = 0) := by omega
      simp [h, h']
      exact ⟨hs, hf⟩
  rintro _ s ⟨⟨hs, hf⟩, a0, rfl⟩
  refine wp_cut (fun ρ' s' => (Src k s' ∧ Fr s') ∧ a ≠ 1 ∧ ρ' = [.val (.ref k), .val (.int (most : Int)), .val (.int (a : Int))]) ?_ ?_
  · by_cases h : a = 1
    · subst h
      have pw9 : powD (.int 10) (.int 9) = some (.int ((1000000000 : Nat) : Int)) := by simp
      have mn : min2D [.int (most : Int), .int ((1000000000 : Nat) : Int)] = some (.int ((min most 1000000000 : Nat) : Int)) := min_2
      have fd : fdivD (.int ((min most 1000000000 : Nat) : Int)) (.int 10) = some (.int ((min most 1000000000 / 10 : Nat) : Int)) := by
        rw [s_fdivI, if_pos ⟨by omega, by omega⟩, Int.natCast_ediv]; rfl
      have le : min most 1000000000 / 10 ≤ most := by omega
      generalize min most 1000000000 / 10 = V at *
      generalize min most 1000000000 = W at *
      simp [-s_powI, -s_fdivI, pw9, mn]
      rw [show ((1000000000 : Nat) : Int) = 1000000000 from rfl] at mn
      simp [-s_fdivI, mn, fd]
      exact q _ _ le hs hf
    · have h' : ¬ ((a : Int) = 1) := by omega
      simp [h, h']
      exact ⟨hs, hf⟩
  rintro _ s ⟨⟨hs, hf⟩, a1, rfl⟩
  simp
  refine wp_takeX hF hs hf (by omega) (by omega) fun j s2 j0 j1 hs2 hf2 => ?_
  obtain ⟨j, rfl⟩ : ∃ i : Nat, j = i := ⟨j.toNat, by omega⟩
  exact q j s2 (by omega) hs2 hf2
theorem wp_row74 {nl : List Str} {Fr : Mem → Prop} (hF : FrOk k Fr) (hs : Src k s) (hf : Fr s) (hn1 : 1 ≤ nl.length) (hn2 : nl.length ≤ 1000) (hnl : ∀ n ∈ nl, WordOk 8 n) (q : ∀ t s', Ok74 t → Src k s' → Fr s' → R t.d s') : wp (m__law_row (K := K) (cl := cl) [.ref k, .lst (nl.map .str)]) R s := by
  have hlen : lenD [.lst (nl.map .str)] = some (.int (nl.length : Int)) := by simp [lenD]
  simp only [m__law_row, b__law_row, s_runF, startE]
  refine wp_bind ?_
  refine wp_cut (fun ρ s' => (Src k s' ∧ Fr s') ∧ ∃ n, n ∈ nl ∧ ρ = [.val (.ref k), .val (.lst (nl.map .str)), .val (.str n)]) ?_ ?_
  · simp [hlen]
    refine wp_takeX hF hs hf (by omega) (by omega) fun j s2 j0 j1 hs2 hf2 => ?_
    obtain ⟨j, rfl⟩ : ∃ i : Nat, j = i := ⟨j.toNat, by omega⟩
    have hj : j < nl.length := by omega
    rw [ixL (k := j) (by simpa using hj)]
    simp
    exact ⟨hs2, hf2⟩
  rintro ρ s1 ⟨⟨hs, hf⟩, n, hn, rfl⟩
  have pw8 : powD (.int 10) (.int 8) = some (.int ((100000000 : Nat) : Int)) := by simp
  have pw29 : powD (.int 10) (.int 29) = some (.int ((100000000000000000000000000000 : Nat) : Int)) := by simp
  simp [-s_powI, pw8, pw29]
  refine wp_takeX hF hs hf (by omega) (by omega) fun a s2 a0 a1 hs2 hf2 => ?_
  obtain ⟨a, rfl⟩ : ∃ i : Nat, a = i := ⟨a.toNat, by omega⟩
  try simp
  refine wp_number (most := 100000000) hF hs2 hf2 (by omega) (by decide) fun b s3 b0 hs3 hf3 => ?_
  try simp
  refine wp_number (most := 100000000000000000000000000000) hF hs3 hf3 (by omega) (by decide) fun c s4 c0 hs4 hf4 => ?_
  try simp
  exact q ⟨n, a, b, c⟩ s4 ⟨hnl n hn, by show a ≤ 1; omega, b0, by show (c : Int) ≤ _; omega⟩ hs4 hf4
end
end LW
namespace LW
open PySem PySem.Spec PyProof.Rows L2 RZ DN
def e74 (sc : List Int) (x1 : Sl) (nl : List Str) (x3 x4 x5 x6 x7 x8 x9 x10 x11 x12 x13 x14 x15 x16 x17 : Sl) : SEnv :=
  [.val (.lst (sc.map .int)), x1, .val (.lst (nl.map .str)), x3, x4, x5, x6, x7, x8, x9, x10, x11, x12, x13, x14, x15, x16, x17]
abbrev rsD (st : List Stk) : D := .lst (st.map Stk.d)
theorem add_LL {xs ys : List D} (h : xs.length + ys.length ≤ 1000) : addD (.lst xs) (.lst ys) = some (.lst (xs ++ ys)) := by
  show (if _ then _ else _) = _
  rw [if_pos (by rw [sizeLine_eq]; omega)]
section
variable {K : PySem.W.Frag} {cl : CTab} {s : Mem} {k : Nat}
theorem law74_f1 {ns : List Int} {nl : List Str} {x5 x6 x7 x8 x9 x10 x11 x12 x13 x14 x15 x16 x17 : Sl} {at' : Nat} {st : List Stk} {R : Fl → Mem → Prop} (hs : Src k s) (hl : ns.length ≤ 63) (hn1 : 1 ≤ nl.length) (hn2 : nl.length ≤ 1000) (hnl : ∀ n ∈ nl, WordOk 8 n) (h1 : 1 ≤ st.length) (h12 : st.length ≤ 12) (hok : ∀ t ∈ st, Ok74 t)
    (q : ∀ (su : List Stk) s', 1 ≤ su.length → su.length ≤ 12 → (∀ t ∈ su, Ok74 t) → Src k s' → R (.nx (e74 ns (.val (.ref k)) nl (.val (rsD su)) (.val (.int (at' : Int))) x5 x6 x7 x8 x9 x10 x11 x12 x13 x14 x15 x16 x17)) s') :
    wp (b_L74_law_f1 (e74 ns (.val (.ref k)) nl (.val (rsD st)) (.val (.int (at' : Int))) x5 x6 x7 x8 x9 x10 x11 x12 x13 x14 x15 x16 x17) : M (MemS K cl) Fl) R s := by
  have ng : negD (.int 12) = some (.int (-12)) := rfl
  have hk : k ≠ s.n := by
    obtain ⟨w, c, f, z, n, e⟩ := hs
    have := w.lt e
    omega
  unfold b_L74_law_f1 e74
  simp [ng]
  refine wp_source hs.wf hl fun s1 hs1 hx => ?_
  have hs' := hs.ext hx
  refine wp_row74 (frS hk) hs1 hs' hn1 hn2 hnl fun t s2 ht hs2 hf2 => ?_
  obtain ⟨su, hsu⟩ : ∃ su : List Stk, su = (st ++ [t]).drop ((st ++ [t]).length - 12) := ⟨_, rfl⟩
  have ad := add_LL (xs := st.map Stk.d) (ys := [t.d]) (by simp; omega)
  have e1 : st.map Stk.d ++ [t.d] = (st ++ [t]).map Stk.d := by simp
  rw [e1] at ad
  have ct := cut_m12 (xs := (st ++ [t]).map Stk.d)
  rw [List.length_map, ← List.map_drop, ← hsu] at ct
  rw [ad, wp_lift_iff, ct, wp_lift_iff]
  refine q su s2 ?_ ?_ ?_ hf2
  · rw [hsu, List.length_drop, List.length_append]; simp; omega
  · rw [hsu, List.length_drop, List.length_append]; simp; omega
  · intro u hu
    rw [hsu] at hu
    rcases List.mem_append.mp (List.mem_of_mem_drop hu) with hu | hu
    · exact hok u hu
    · rw [List.mem_singleton.mp hu]; exact ht
theorem law74_f2 {ns : List Int} {nl : List Str} {x1 x4 x5 x6 x9 x10 x11 x12 x13 x14 x15 x16 x17 : Sl} {B st : List Stk} {n : Str} {a b : Nat} {R : Fl → Mem → Prop} (h : Few74 B st)
    (q : ∀ y12 y14, R (.nx (e74 ns x1 nl (.val (rsD st)) x4 x5 x6 (.own (.lst [.int ((a + valS 1000000000 (ofN n st) : Nat) : Int), .int ((b + min (sideS n 0 st) (sideS n 1 st) : Nat) : Int)])) (.val (.str n)) x9 x10 x11 y12 x13 y14 x15 x16 x17)) s) :
    wp (b_L74_law_f2 (e74 ns x1 nl (.val (rsD st)) x4 x5 x6 (.own (.lst [.int (a : Int), .int (b : Int)])) (.val (.str n)) x9 x10 x11 x12 x13 x14 x15 x16 x17) : M (MemS K cl) Fl) R s := by
  have hany : anyI (rsD st) = some (st.map Stk.d) := rfl
  have ho : Few74 B (ofN n st) := h.sub2 (fun x hx => (List.mem_filter.mp hx).1) (Nat.le_trans (List.length_filter_le _ _) h.l)
  obtain ⟨p, hs, ha⟩ := ho.pls (d := rsD (ofN n st)) (.inl rfl)
  have e1 := e_stock_points (K := K) (cl := cl) ho.g p hs ha
  have e2 := e_stock_met (K := K) (cl := cl) ho.g p hs ha
  obtain ⟨o1, o2⟩ := stk_one (n := n) (st := st) (T := 1000000000)
  unfold pvS at e1
  rw [o1] at e1
  rw [o2] at e2
  clear o1 o2 p hs ha
  generalize valS 1000000000 (ofN n st) = V at *
  generalize min (sideS n 0 st) (sideS n 1 st) = W at *
  unfold b_L74_law_f2
  refine wp_cut (fun ρ s' => s' = s ∧ ρ = e74 ns x1 nl (.val (rsD st)) x4 x5 x6 (.own (.lst [.int (a : Int), .int (b : Int)])) (.val (.str n)) x9 x10 x11 (.val (rsD (ofN n st))) x13 x14 x15 x16 x17) ?_ ?_
  · unfold e74
    simp [hany]
    rw [compL_filter (g := Stk.d) (p := fun t => decide (t.n = n)) (k := Stk.d) (fun t ht => by
      have i0 : ixD t.d (.int 0) = some (.str t.n) := rfl
      by_cases c : t.n = n
      · simp [wipeE, setsE, i0, c]
      · simp [wipeE, setsE, i0, c])]
    simp
    rfl
  rintro ρ s1 ⟨rfl, rfl⟩
  have q := q (.val (rsD (ofN n st))) x14
  generalize rsD (ofN n st) = od at *
  have st2 : ∀ x y : Int, D.stripL [.int x, .int y] = [.int x, .int y] := fun x y => stripL_leaf fun d hd => by
    simp only [List.mem_cons, List.not_mem_nil, or_false] at hd
    rcases hd with rfl | rfl <;> rfl
  have sp : ∀ x y : Int, see1 pAll (.own (.lst [.int x, .int y])) = some (.lst [.int x, .int y]) := fun x y => by
    have h : pAll (.lst [.int x, .int y]) = true := rfl
    unfold see1
    simp only [h, if_true]
    rw [strip_lst, st2]
  have x0 : ∀ x y : Int, ixD (.lst [.int x, .int y]) (.int 0) = some (.int x) := fun _ _ => rfl
  have x1' : ∀ x y : Int, ixD (.lst [.int x, .int y]) (.int 1) = some (.int y) := fun _ _ => rfl
  refine wp_cut (fun ρ s' => s' = s1 ∧ ρ = e74 ns x1 nl (.val (rsD st)) x4 x5 x6 (.own (.lst [.int ((a + V : Nat) : Int), .int (b : Int)])) (.val (.str n)) x9 x10 x11 (.val od) x13 x14 x15 x16 x17) ?_ ?_
  · unfold e74
    simp [sp, x0, e1, ixN, D.imm, D.isMut]
  rintro ρ s2 ⟨rfl, rfl⟩
  unfold e74 at q ⊢
  simp [sp, x1', e2, ixN, D.imm, D.isMut]
  exact q
theorem times_all {st : List Stk} {f : Nat} (f1 : 1 ≤ f) (f10 : f ≤ 10) (h : ∀ x ∈ st, x.p ≤ 100000000) : pvS (st.map (timesC f)) = f * pvS st ∧ metS (st.map (timesC f)) = f * metS st ∧ pvS (st.map (timesP f)) = f * pvS st ∧ metS (st.map (timesP f)) = f * metS st := by
  have a := stk_timesC (f := f) (T := 1000000000) (st := st)
  have b := stk_timesP (f := f) (T := 100000000) (U := 1000000000) (st := st) f1 (by omega) h
  unfold pvS
  exact ⟨a.1, a.2, b.1, b.2⟩
theorem rep_mem74 {α : Type} {xs : List α} {n m : Nat} {x : α} (h : x ∈ ((List.replicate n xs).flatten).take m) : x ∈ xs := by
  have := List.mem_of_mem_take h
  rw [List.mem_flatten] at this
  obtain ⟨l, hl, hx⟩ := this
  rw [List.eq_of_mem_replicate hl] at hx
  exact hx
theorem rep_map {B : List Stk} {n m : Nat} : ((List.replicate n (B.map Stk.d)).flatten).take m = (((List.replicate n B).flatten).take m).map Stk.d := by
  rw [List.map_take, List.map_flatten, List.map_replicate]
theorem rep_len {B : List Stk} (h : 1 ≤ B.length) : (((List.replicate 200 B).flatten).take 200).length = 200 := by
  rw [List.length_take, List.length_flatten, List.map_replicate, List.sum_replicate_nat]
  omega
abbrev t4 : D → Option Asg := aTup (aCons (aName 8) (aCons (aName 15) (aCons (aName 16) (aCons (aName 17) (aNil)))))
theorem mul_at {ρ : DN.Env} {i j x y m : Nat} (a : (eVar i : DN.Env → M (MemS K cl) D) ρ = M.pure (.int (x : Int))) (b : (eVar j : DN.Env → M (MemS K cl) D) ρ = M.pure (.int (y : Int))) (h : mulD (.int (x : Int)) (.int (y : Int)) = some (.int (m : Int))) :
    (xOp mulD (eVar i) (eVar j) : DN.Env → M (MemS K cl) D) ρ = M.pure (.int (m : Int)) := by
  show M.bind (eVar i ρ) (fun x => M.bind (eVar j ρ) fun y => lift (mulD x y)) = _
  rw [a, DN.bind_pure, b, DN.bind_pure, h]
  rfl
theorem row_step {ρ : DN.Env} {t : Stk} {f : Nat} (hl : ρ.length = 18) (h5 : ρ[5]? = some (some (.int (f : Int)))) (hf : f < 18446744073709551616) :
    compF t4 tY (xTup (aC (eVar 8) (aC (eVar 15) (aC (eVar 16) (aC (xOp mulD (eVar 17) (eVar 5)) (aN)))))) ρ t.d = (M.pure (some (timesC f t).d) : M (MemS K cl) _) ∧
    (t.p < 18446744073709551616 → compF t4 tY (xTup (aC (eVar 8) (aC (eVar 15) (aC (xOp mulD (eVar 16) (eVar 5)) (aC (eVar 17) (aN)))))) ρ t.d = (M.pure (some (timesP f t).d) : M (MemS K cl) _)) := by
  obtain ⟨as, has⟩ : ∃ as, as = [((8 : Nat), D.str t.n), (15, D.int (t.s : Int)), (16, D.int (t.p : Int)), (17, D.int (t.c : Int))] := ⟨_, rfl⟩
  have h1 : t4 t.d = some as := by rw [has]; simp [Stk.d]
  have a8 : (eVar 8 : DN.Env → M (MemS K cl) D) (setsE ρ as) = M.pure (.str t.n) := by rw [has]; simp [setsE, hl]
  have a15 : (eVar 15 : DN.Env → M (MemS K cl) D) (setsE ρ as) = M.pure (.int (t.s : Int)) := by rw [has]; simp [setsE, hl]
  have a16 : (eVar 16 : DN.Env → M (MemS K cl) D) (setsE ρ as) = M.pure (.int (t.p : Int)) := by rw [has]; simp [setsE, hl]
  have a17 : (eVar 17 : DN.Env → M (MemS K cl) D) (setsE ρ as) = M.pure (.int (t.c : Int)) := by rw [has]; simp [setsE, hl]
  have h5' : ρ[5]'(by omega) = some (.int (f : Int)) := by
    rw [List.getElem?_eq_getElem (by omega)] at h5
    exact Option.some.inj h5
  have a5 : (eVar 5 : DN.Env → M (MemS K cl) D) (setsE ρ as) = M.pure (.int (f : Int)) := by rw [has]; simp [setsE, hl, h5']
  have m1 := mul_at (K := K) (cl := cl) a17 a5 (mul_st2 (p := t.c) (c := f) (by omega))
  have m2 := mul_at (K := K) (cl := cl) a16 a5 (mul_st2 (p := t.p) (c := f) (by omega))
  constructor
  · have : (timesC f t).d = .tup [.str t.n, .int (t.s : Int), .int (t.p : Int), .int ((t.c * f : Nat) : Int)] := rfl
    rw [this]
    generalize (xOp mulD (eVar 17) (eVar 5) : DN.Env → M (MemS K cl) D) = g1 at m1 ⊢
    generalize t.c * f = P at *
    simp only [compF, h1, Option.map_some, lift_some', DN.bind_pure, tY, xTup, aC, aN, a8, a15, a16, m1]
    rfl
  · intro _
    have : (timesP f t).d = .tup [.str t.n, .int (t.s : Int), .int ((t.p * f : Nat) : Int), .int (t.c : Int)] := rfl
    rw [this]
    generalize (xOp mulD (eVar 16) (eVar 5) : DN.Env → M (MemS K cl) D) = g1 at m2 ⊢
    generalize t.p * f = P at *
    simp only [compF, h1, Option.map_some, lift_some', DN.bind_pure, tY, xTup, aC, aN, a8, a15, a17, m2]
    rfl
theorem few_timesC {B st : List Stk} {f : Nat} (h : Few74 B st) (hB : ∀ t ∈ B, Ok74 t) (f10 : f ≤ 10) : Few74 (B.map (timesC f)) (st.map (timesC f)) where
  ok u hu := by
    obtain ⟨t, ht, rfl⟩ := List.mem_map.mp hu
    have o := hB t ht
    refine ⟨o.n, o.s, by show t.p ≤ _; have := o.p; omega, ?_⟩
    show ((t.c * f : Nat) : Int) ≤ _
    have c := o.c
    have : t.c * f ≤ 100000000000000000000000000000 * 10 := Nat.mul_le_mul (by omega) f10
    omega
  bl := by rw [List.length_map]; exact h.bl
  sub x hx := by
    obtain ⟨t, ht, rfl⟩ := List.mem_map.mp hx
    exact List.mem_map.mpr ⟨t, h.sub t ht, rfl⟩
  l := by rw [List.length_map]; exact h.l
theorem few_timesP {B st : List Stk} {f : Nat} (h : Few74 B st) (hB : ∀ t ∈ B, Ok74 t) (f10 : f ≤ 10) : Few74 (B.map (timesP f)) (st.map (timesP f)) where
  ok u hu := by
    obtain ⟨t, ht, rfl⟩ := List.mem_map.mp hu
    have o := hB t ht
    refine ⟨o.n, o.s, ?_, by show (t.c : Int) ≤ _; have := o.c; omega⟩
    show t.p * f ≤ _
    have : t.p * f ≤ 100000000 * 10 := Nat.mul_le_mul o.p f10
    omega
  bl := by rw [List.length_map]; exact h.bl
  sub x hx := by
    obtain ⟨t, ht, rfl⟩ := List.mem_map.mp hx
    exact List.mem_map.mpr ⟨t, h.sub t ht, rfl⟩
  l := by rw [List.length_map]; exact h.l
theorem told_if {ρ : SEnv} {g : DN.Env → M (MemS K cl) D} {rc due : D} {R : Fl → Mem → Prop} (hg : g (seeE pHide ρ) = M.pure rc) (h6 : (eVar 6 : DN.Env → M (MemS K cl) D) (seeE pHide ρ) = M.pure due) (ht : (m__law_is_told [rc, due] : M (MemS K cl) D) = M.pure (.bl true)) (q : R (.nx ρ) s) :
    wp (sIf pHide (tNt (tTr (xCall m__law_is_told (aC g (aC (eVar 6) (aN)))))) (sRet pHide (eC (.bl false))) sPass ρ : M (MemS K cl) Fl) R s := by
  have ht : (tNt (tTr (xCall m__law_is_told (aC g (aC (eVar 6) (aN))))) : DN.Env → M (MemS K cl) Bool) (seeE pHide ρ) = M.pure false := by
    simp only [tNt, tTr, xCall, aC, aN, hg, h6, DN.bind_pure, ht]
    rfl
  rw [sIf_tP ht, if_neg (fun z => nomatch z)]
  exact wp_pure q
theorem wp_due {ρ : SEnv} {f V W V2 W2 : Nat} {R : Fl → Mem → Prop} (a5 : (eVar 5 : DN.Env → M (MemS K cl) D) (seeE pHide ρ) = M.pure (.int (f : Int))) (a10 : (eVar 10 : DN.Env → M (MemS K cl) D) (seeE pHide ρ) = M.pure (.int (V : Int))) (a11 : (eVar 11 : DN.Env → M (MemS K cl) D) (seeE pHide ρ) = M.pure (.int (W : Int)))
    (m1 : mulD (.int (f : Int)) (.int (V : Int)) = some (.int (V2 : Int))) (m2 : mulD (.int (f : Int)) (.int (W : Int)) = some (.int (W2 : Int))) (q : R (.nx (ρ.set 6 (.val (.tup [.int (V2 : Int), .int (W2 : Int)])))) s) :
    wp (sSet 6 (xTup (aC (xOp mulD (eVar 5) (eVar 10)) (aC (xOp mulD (eVar 5) (eVar 11)) (aN)))) ρ : M (MemS K cl) Fl) R s := by
  have b1 : (xOp mulD (eVar 5) (eVar 10) : DN.Env → M (MemS K cl) D) (seeE pHide ρ) = M.pure (.int (V2 : Int)) := by
    show M.bind (eVar 5 (seeE pHide ρ)) (fun x => M.bind (eVar 10 (seeE pHide ρ)) fun y => lift (mulD x y)) = _
    rw [a5, DN.bind_pure, a10, DN.bind_pure, m1]
    rfl
  have b2 : (xOp mulD (eVar 5) (eVar 11) : DN.Env → M (MemS K cl) D) (seeE pHide ρ) = M.pure (.int (W2 : Int)) := by
    show M.bind (eVar 5 (seeE pHide ρ)) (fun x => M.bind (eVar 11 (seeE pHide ρ)) fun y => lift (mulD x y)) = _
    rw [a5, DN.bind_pure, a11, DN.bind_pure, m2]
    rfl
  refine wp_sSetP (d := .tup [.int (V2 : Int), .int (W2 : Int)]) ?_ q
  generalize (xOp mulD (eVar 5) (eVar 10) : DN.Env → M (MemS K cl) D) = g1 at *
  generalize (xOp mulD (eVar 5) (eVar 11) : DN.Env → M (MemS K cl) D) = g2 at *
  simp [b1, b2]
theorem law74_rest {ns : List Int} {nl : List Str} {B st : List Stk} {y4 y13 : Sl} {f V W V2 W2 : Nat} (hV2 : V2 = f * V) (hW2 : W2 = f * W) (hV : V = pvS st) (hW : W = metS st) (hs : Src k s) (hn1 : 1 ≤ nl.length) (hn2 : nl.length ≤ 1000) (hnl : ∀ n ∈ nl, WordOk 8 n) (hB : ∀ t ∈ B, Ok74 t) (lB : B.length ≤ 12) (sub : ∀ x ∈ st, x ∈ B) (h12 : st.length ≤ 12 ∨ st.length = 200) (f2 : 2 ≤ f) (f10 : f ≤ 10) :
    wp ((seqF (sSet 6 (xTup (aC (xOp mulD (eVar 5) (eVar 10)) (aC (xOp mulD (eVar 5) (eVar 11)) (aN))))) (seqF (sIf pHide (tNt (tTr (xCall m__law_is_told (aC (xLc [8, 15, 16, 17] (aTup (aCons (aName 8) (aCons (aName 15) (aCons (aName 16) (aCons (aName 17) (aNil)))))) (tY) (xTup (aC (eVar 8) (aC (eVar 15) (aC (eVar 16) (aC (xOp mulD (eVar 17) (eVar 5)) (aN)))))) (iOf anyI (eVar 3))) (aC (eVar 6) (aN)))))) (sRet pHide (eC (.bl false))) (sPass)) (seqF (sIf pHide (tNt (tTr (xCall m__law_is_told (aC (xLc [8, 15, 16, 17] (aTup (aCons (aName 8) (aCons (aName 15) (aCons (aName 16) (aCons (aName 17) (aNil)))))) (tY) (xTup (aC (eVar 8) (aC (eVar 15) (aC (xOp mulD (eVar 16) (eVar 5)) (aC (eVar 17) (aN)))))) (iOf anyI (eVar 3))) (aC (eVar 6) (aN)))))) (sRet pHide (eC (.bl false))) (sPass)) (seqF (sOwn 7 (xFl (xLst (aC (eC (.int 0)) (aC (eC (.int 0)) (aN)))))) (seqF (sFor (aName 8) (iOf anyI (xSrtSet (xLc [14] (aName 14) (tY) (xIx (eVar 14) (eC (.int 0))) (iOf anyI (eVar 3))))) (b_L74_law_f2)) (sFrz 7 (seqF (sIf pHide (tNt (tTr (xCall (m__law_same_v2 12) (aC (xB tupleD (aC (eVar 7) (aN))) (aC (xTup (aC (eVar 10) (aC (eVar 11) (aN)))) (aN)))))) (sRet pHide (eC (.bl false))) (sPass)) (seqF (sSet 9 (xOp addD (xSl (eVar 3) (oN) (oS (eC (.int 199)))) (xLst (aC (xCall m__law_row (aC (eVar 1) (aC (eVar 2) (aN)))) (aN))))) (seqF (sIf pHide (tCm eqD (xB lenD (aC (eVar 3) (aN))) (eC (.int 200))) (sSet 3 (xSl (eVar 3) (oN) (oS (eC (.int 199))))) (sPass)) (sRet pHide (xAn (xCall m__law_is_told (aC (eVar 9) (aC (xCall m__law_dues (aC (eVar 9) (aN))) (aN)))) (xAn (xOp geI (xCall m_stock_points (aC (eVar 9) (aN))) (xCall m_stock_points (aC (eVar 3) (aN)))) (xOp geI (xCall m_stock_met (aC (eVar 9) (aN))) (xCall m_stock_met (aC (eVar 3) (aN)))))))))))))))) (e74 ns (.val (.ref k)) nl (.val (rsD st)) y4 (.val (.int (f : Int))) .no .no .no .no (.val (.int (V : Int))) (.val (.int (W : Int))) .no y13 .no .no .no .no) : M (MemS K cl) Fl) (fun fl _ => fl = .rt (.bl true)) s := by
  have hBr : ∀ t ∈ B, StR t := fun t ht => (hB t ht).r
  have few : Few74 B st := ⟨hBr, by omega, sub, by omega⟩
  have tm := times_all (f := f) (st := st) (by omega) f10 fun x hx => (hB x (sub x hx)).p
  rw [← hV, ← hW] at tm
  have c1 := tm.1
  have c2 := tm.2.1
  have q1 := tm.2.2.1
  have q2 := tm.2.2.2
  clear tm
  with_reducible refine wp_cut (fun ρ s' => s' = s ∧ ρ = e74 ns (.val (.ref k)) nl (.val (rsD st)) y4 (.val (.int (f : Int))) (.val (.tup [.int (V2 : Int), .int (W2 : Int)])) .no .no .no (.val (.int (V : Int))) (.val (.int (W : Int))) .no y13 .no .no .no .no) ?_ ?_
  · have m1 := mul_st (p := f) (c := V) (by omega)
    have m2 := mul_st (p := f) (c := W) (by omega)
    rw [← hV2] at m1
    rw [← hW2] at m2
    with_reducible refine wp_due (f := f) (V := V) (W := W) ?_ ?_ ?_ m1 m2 ?_
    · unfold e74; simp
    · unfold e74; simp
    · unfold e74; simp
    · exact ⟨rfl, rfl⟩
  rintro ρ s9 ⟨rfl, rfl⟩
  have fC := few_timesC (f := f) few hB f10
  have fP := few_timesP (f := f) few hB f10
  have tC := e_told74 (K := K) (cl := cl) fC (d := rsD (st.map (timesC f))) (.inl rfl) (a := V2) (b := W2) (by rw [c1, hV2]) (by rw [c2, hW2])
  have tP := e_told74 (K := K) (cl := cl) fP (d := rsD (st.map (timesP f))) (.inl rfl) (a := V2) (b := W2) (by rw [q1, hV2]) (by rw [q2, hW2])
  have hany : anyI (rsD st) = some (st.map Stk.d) := rfl
  have mC : st.map (fun t => (timesC f t).d) = (st.map (timesC f)).map Stk.d := by rw [List.map_map]; rfl
  have mP : st.map (fun t => (timesP f t).d) = (st.map (timesP f)).map Stk.d := by rw [List.map_map]; rfl
  refine wp_cut (fun ρ s' => s' = s9 ∧ ρ = e74 ns (.val (.ref k)) nl (.val (rsD st)) y4 (.val (.int (f : Int))) (.val (.tup [.int (V2 : Int), .int (W2 : Int)])) .no .no .no (.val (.int (V : Int))) (.val (.int (W : Int))) .no y13 .no .no .no .no) ?_ ?_
  · have xe : (xLc [8, 15, 16, 17] t4 tY (xTup (aC (eVar 8) (aC (eVar 15) (aC (eVar 16) (aC (xOp mulD (eVar 17) (eVar 5)) (aN)))))) (iOf anyI (eVar 3)) : DN.Env → M (MemS K cl) D) (seeE pHide (e74 ns (.val (.ref k)) nl (.val (rsD st)) y4 (.val (.int (f : Int))) (.val (.tup [.int (V2 : Int), .int (W2 : Int)])) .no .no .no (.val (.int (V : Int))) (.val (.int (W : Int))) .no y13 .no .no .no .no)) = M.pure (rsD (st.map (timesC f))) := by
      simp only [xLc, iOf]
      rw [show (eVar 3 : DN.Env → M (MemS K cl) D) (seeE pHide (e74 ns (.val (.ref k)) nl (.val (rsD st)) y4 (.val (.int (f : Int))) (.val (.tup [.int (V2 : Int), .int (W2 : Int)])) .no .no .no (.val (.int (V : Int))) (.val (.int (W : Int))) .no y13 .no .no .no .no)) = M.pure (rsD st) by unfold e74; simp, DN.bind_pure, hany]
      simp only [lift_some', DN.bind_pure]
      rw [compL_map (g := Stk.d) (k := fun t => (timesC f t).d) (fun t ht => (row_step (f := f) (by unfold e74; simp [wipeE]) (by unfold e74; simp [wipeE]) (by omega)).1), mC]
      rfl
    with_reducible refine told_if xe ?_ tC ?_
    · unfold e74; simp
    · exact ⟨rfl, rfl⟩
  rintro ρ s10 ⟨rfl, rfl⟩
  refine wp_cut (fun ρ s' => s' = s10 ∧ ρ = e74 ns (.val (.ref k)) nl (.val (rsD st)) y4 (.val (.int (f : Int))) (.val (.tup [.int (V2 : Int), .int (W2 : Int)])) .no .no .no (.val (.int (V : Int))) (.val (.int (W : Int))) .no y13 .no .no .no .no) ?_ ?_
  · have xe : (xLc [8, 15, 16, 17] t4 tY (xTup (aC (eVar 8) (aC (eVar 15) (aC (xOp mulD (eVar 16) (eVar 5)) (aC (eVar 17) (aN)))))) (iOf anyI (eVar 3)) : DN.Env → M (MemS K cl) D) (seeE pHide (e74 ns (.val (.ref k)) nl (.val (rsD st)) y4 (.val (.int (f : Int))) (.val (.tup [.int (V2 : Int), .int (W2 : Int)])) .no .no .no (.val (.int (V : Int))) (.val (.int (W : Int))) .no y13 .no .no .no .no)) = M.pure (rsD (st.map (timesP f))) := by
      simp only [xLc, iOf]
      rw [show (eVar 3 : DN.Env → M (MemS K cl) D) (seeE pHide (e74 ns (.val (.ref k)) nl (.val (rsD st)) y4 (.val (.int (f : Int))) (.val (.tup [.int (V2 : Int), .int (W2 : Int)])) .no .no .no (.val (.int (V : Int))) (.val (.int (W : Int))) .no y13 .no .no .no .no)) = M.pure (rsD st) by unfold e74; simp, DN.bind_pure, hany]
      simp only [lift_some', DN.bind_pure]
      rw [compL_map (g := Stk.d) (k := fun t => (timesP f t).d) (fun t ht => (row_step (f := f) (by unfold e74; simp [wipeE]) (by unfold e74; simp [wipeE]) (by omega)).2 (by have := few.p t ht; omega)), mP]
      rfl
    with_reducible refine told_if xe ?_ tP ?_
    · unfold e74; simp
    · exact ⟨rfl, rfl⟩
  rintro ρ s11 ⟨rfl, rfl⟩
  clear tC tP mC mP fC fP c1 c2 q1 q2
  refine wp_cut (fun ρ s' => s' = s11 ∧ ρ = e74 ns (.val (.ref k)) nl (.val (rsD st)) y4 (.val (.int (f : Int))) (.val (.tup [.int (V2 : Int), .int (W2 : Int)])) (.own (.lst [.int ((0 : Nat) : Int), .int ((0 : Nat) : Int)])) .no .no (.val (.int (V : Int))) (.val (.int (W : Int))) .no y13 .no .no .no .no) (by unfold e74; simp [DN.flatB, D.isMut, ownS]) ?_
  rintro ρ s12 ⟨rfl, rfl⟩
  refine wp_cut (fun ρ s' => s' = s12 ∧ ∃ x8 x12 x14, ρ = e74 ns (.val (.ref k)) nl (.val (rsD st)) y4 (.val (.int (f : Int))) (.val (.tup [.int (V2 : Int), .int (W2 : Int)])) (.own (.lst [.int (V : Int), .int (W : Int)])) x8 .no (.val (.int (V : Int))) (.val (.int (W : Int))) x12 y13 x14 .no .no .no) ?_ ?_
  · have hg := few.g
    have hss : sortSetD (.lst (st.map fun t => D.str t.n)) = some (.lst ((nmS st).map .str)) := by
      have e : (st.map fun t => D.str t.n) = (st.map Stk.n).map D.str := by rw [List.map_map]; rfl
      rw [e]
      show (strsOf _).bind _ = _
      rw [strsOf_map]
      have hn := hg.f.n
      unfold nmS sortS at hn
      rw [List.length_mergeSort] at hn
      show (if _ then _ else _) = _
      rw [if_pos ⟨by rw [List.length_map]; exact hg.f.l, hn⟩]
      rfl
    have hn : ∀ L : List D, anyI (.lst L) = some L := fun _ => rfl
    have he : (iOf anyI (xSrtSet (xLc [14] (aName 14) (tY) (xIx (eVar 14) (eC (.int 0))) (iOf anyI (eVar 3)))) (seeE pHide (e74 ns (.val (.ref k)) nl (.val (rsD st)) y4 (.val (.int (f : Int))) (.val (.tup [.int (V2 : Int), .int (W2 : Int)])) (.own (.lst [.int ((0 : Nat) : Int), .int ((0 : Nat) : Int)])) .no .no (.val (.int (V : Int))) (.val (.int (W : Int))) .no y13 .no .no .no .no)) : M (MemS K cl) _) = M.pure ((nmS st).map D.str) := by
      unfold e74
      simp [hany]
      rw [compL_map (k := fun t : Stk => D.str t.n) (fun t ht => by
        have i0 : ixD t.d (.int 0) = some (.str t.n) := rfl
        simp [wipeE, setsE, i0])]
      generalize (st.map fun t => D.str t.n) = L at hss
      simp [hss, hn]
    unfold sFor
    rw [he, DN.bind_pure]
    refine wp_forI (fun t ρ s' => s' = s12 ∧ ∃ (rest : List Str) (a b : Nat), ∃ x8 x12 x14, t = rest.map D.str ∧ V = a + (rest.map fun n => valS 1000000000 (ofN n st)).sum ∧ W = b + (rest.map fun n => min (sideS n 0 st) (sideS n 1 st)).sum ∧ ρ = e74 ns (.val (.ref k)) nl (.val (rsD st)) y4 (.val (.int (f : Int))) (.val (.tup [.int (V2 : Int), .int (W2 : Int)])) (.own (.lst [.int (a : Int), .int (b : Int)])) x8 .no (.val (.int (V : Int))) (.val (.int (W : Int))) x12 y13 x14 .no .no .no)
      ⟨rfl, nmS st, 0, 0, _, _, _, rfl, by rw [hV]; unfold pvS stkV; omega, by rw [hW]; unfold metS; omega, rfl⟩ ?_ ?_
    · rintro x t ρ s2 ⟨rfl, rest, a, b, x8, x12, x14, ht, hm1, hm2, rfl⟩
      cases rest with
      | nil => exact nomatch ht
      | cons n rest =>
        cases ht
        refine ⟨_, s_aName, ?_⟩
        refine law74_f2 few fun y12 y14 => ?_
        rw [List.map_cons, List.sum_cons] at hm1 hm2
        exact ⟨rfl, rest, _, _, _, _, _, rfl, by omega, by omega, rfl⟩
    · rintro ρ s2 ⟨rfl, rest, a, b, x8, x12, x14, ht, hm1, hm2, rfl⟩
      have : rest = [] := by cases rest with
        | nil => rfl
        | cons => exact nomatch ht
      subst this
      have hm1 : V = a := hm1
      have hm2 : W = b := hm2
      rw [← hm1, ← hm2]
      exact ⟨rfl, _, _, _, rfl⟩
  rintro ρ s13 ⟨rfl, x8, x12, x14, rfl⟩
  have hst : D.stripL [.int (V : Int), .int (W : Int)] = [.int (V : Int), .int (W : Int)] := stripL_leaf fun d hd => by
    simp only [List.mem_cons, List.not_mem_nil, or_false] at hd
    rcases hd with rfl | rfl <;> rfl
  have sm := same_tP (K := K) (cl := cl) (n := 11) (ds := [.int (V : Int), .int (W : Int)]) (by simp) fun d hd => by
    simp only [List.mem_cons, List.not_mem_nil, or_false] at hd
    rcases hd with rfl | rfl <;> exact same_iP
  simp only [sFrz, frzS]
  rw [show (e74 ns (.val (.ref k)) nl (.val (rsD st)) y4 (.val (.int (f : Int))) (.val (.tup [.int (V2 : Int), .int (W2 : Int)])) (.own (.lst [.int (V : Int), .int (W : Int)])) x8 .no (.val (.int (V : Int))) (.val (.int (W : Int))) x12 y13 x14 .no .no .no)[7]? = some (.own (.lst [.int (V : Int), .int (W : Int)])) from rfl]
  simp only [strip_lst, hst]
  rw [show (e74 ns (.val (.ref k)) nl (.val (rsD st)) y4 (.val (.int (f : Int))) (.val (.tup [.int (V2 : Int), .int (W2 : Int)])) (.own (.lst [.int (V : Int), .int (W : Int)])) x8 .no (.val (.int (V : Int))) (.val (.int (W : Int))) x12 y13 x14 .no .no .no).set 7 (.val (.lst [.int (V : Int), .int (W : Int)])) = e74 ns (.val (.ref k)) nl (.val (rsD st)) y4 (.val (.int (f : Int))) (.val (.tup [.int (V2 : Int), .int (W2 : Int)])) (.val (.lst [.int (V : Int), .int (W : Int)])) x8 .no (.val (.int (V : Int))) (.val (.int (W : Int))) x12 y13 x14 .no .no .no from rfl]
  have tu : tupleD [.lst [.int (V : Int), .int (W : Int)]] = some (.tup [.int (V : Int), .int (W : Int)]) := rfl
  with_reducible refine wp_cut (fun ρ s' => s' = s13 ∧ ρ = e74 ns (.val (.ref k)) nl (.val (rsD st)) y4 (.val (.int (f : Int))) (.val (.tup [.int (V2 : Int), .int (W2 : Int)])) (.val (.lst [.int (V : Int), .int (W : Int)])) x8 .no (.val (.int (V : Int))) (.val (.int (W : Int))) x12 y13 x14 .no .no .no) ?_ ?_
  · unfold e74; simp [tu, sm]
  rintro ρ s14 ⟨rfl, rfl⟩
  have ct : slD (rsD st) none (some 199) = some (rsD (st.take 199)) := by
    have := cut_takeP (xs := st.map Stk.d) (k := 199)
    rw [← List.map_take] at this
    exact this
  have fT : Few74 B (st.take 199) := few.sub2 (fun x hx => List.mem_of_mem_take hx) (Nat.le_trans (by rw [List.length_take]; omega) few.l)
  refine wp_cut (fun ρ s' => Src k s' ∧ ∃ t, Ok74 t ∧ ρ = e74 ns (.val (.ref k)) nl (.val (rsD st)) y4 (.val (.int (f : Int))) (.val (.tup [.int (V2 : Int), .int (W2 : Int)])) (.val (.lst [.int (V : Int), .int (W : Int)])) x8 (.val (rsD (st.take 199 ++ [t]))) (.val (.int (V : Int))) (.val (.int (W : Int))) x12 y13 x14 .no .no .no) ?_ ?_
  · unfold e74
    simp [ct]
    refine wp_row74 frT hs trivial hn1 hn2 hnl fun t s5 ht hs5 _ => ?_
    have ad := add_LL (xs := (st.take 199).map Stk.d) (ys := [t.d]) (by simp; omega)
    have e1 : (st.take 199).map Stk.d ++ [t.d] = (st.take 199 ++ [t]).map Stk.d := by simp
    rw [e1] at ad
    rw [ad, wp_lift_iff]
    exact ⟨hs5, t, ht, rfl⟩
  rintro ρ s15 ⟨hs, t, ht, rfl⟩
  have fM : Few74 (B ++ [t]) (st.take 199 ++ [t]) := by
    refine ⟨fun u hu => ?_, by rw [List.length_append]; simp; omega, fun x hx => ?_, by rw [List.length_append, List.length_take]; simp; omega⟩
    · rcases List.mem_append.mp hu with hu | hu
      · exact hBr u hu
      · rw [List.mem_singleton.mp hu]; exact ht.r
    · rcases List.mem_append.mp hx with hx | hx
      · exact List.mem_append_left _ (fT.sub x hx)
      · exact List.mem_append_right _ hx
  have hlen : lenD [rsD st] = some (.int (st.length : Int)) := by simp [lenD]
  refine wp_cut (fun ρ s' => s' = s15 ∧ ρ = e74 ns (.val (.ref k)) nl (.val (rsD (st.take 199))) y4 (.val (.int (f : Int))) (.val (.tup [.int (V2 : Int), .int (W2 : Int)])) (.val (.lst [.int (V : Int), .int (W : Int)])) x8 (.val (rsD (st.take 199 ++ [t]))) (.val (.int (V : Int))) (.val (.int (W : Int))) x12 y13 x14 .no .no .no) ?_ ?_
  · generalize rsD (st.take 199 ++ [t]) = mo
    rcases h12 with h | h
    · have h' : ¬ ((st.length : Int) = 200) := by omega
      rw [List.take_of_length_le (by omega)]
      unfold e74
      simp [hlen, h']
    · have h' : (st.length : Int) = 200 := by omega
      generalize rsD (st.take 199) = so at *
      unfold e74
      simp [hlen, h', ct]
  rintro ρ s16 ⟨rfl, rfl⟩
  have ed : (m__law_dues [rsD (st.take 199 ++ [t])] : M (MemS K cl) D) = _ := e_dues (K := K) (cl := cl) fM
  have et := e_told74 (K := K) (cl := cl) fM (d := rsD (st.take 199 ++ [t])) (.inl rfl) rfl rfl
  obtain ⟨pM1, pM2, pM3⟩ := fM.pls (d := rsD (st.take 199 ++ [t])) (.inl rfl)
  obtain ⟨pT1, pT2, pT3⟩ := fT.pls (d := rsD (st.take 199)) (.inl rfl)
  have aM := e_stock_points (K := K) (cl := cl) fM.g pM1 pM2 pM3
  have bM := e_stock_met (K := K) (cl := cl) fM.g pM1 pM2 pM3
  have aT := e_stock_points (K := K) (cl := cl) fT.g pT1 pT2 pT3
  have bT := e_stock_met (K := K) (cl := cl) fT.g pT1 pT2 pT3
  have mo := stk_more (st := st.take 199) (x := t) (T := 1000000000)
  have mo1 : pvS (st.take 199) ≤ pvS (st.take 199 ++ [t]) := by unfold pvS; exact mo.1
  have mo2 := mo.2
  clear mo pM1 pM2 pM3 pT1 pT2 pT3 ct hany
  generalize pvS (st.take 199 ++ [t]) = p1 at *
  generalize pvS (st.take 199) = p2 at *
  generalize metS (st.take 199 ++ [t]) = q1 at *
  generalize metS (st.take 199) = q2 at *
  generalize rsD (st.take 199 ++ [t]) = d1 at *
  generalize rsD (st.take 199) = d2 at *
  have g1 : (p2 : Int) ≤ (p1 : Int) := by omega
  have g2 : (q2 : Int) ≤ (q1 : Int) := by omega
  unfold e74
  simp [ed, et, aM, bM, aT, bT, g1, g2]
theorem law_all {ns : List Int} (hl : ns.length ≤ 63) : ∃ s', b_L74_law (K := K) (cl := cl) (startV 18 ns) mem0 = .ok (.rt (.bl true)) s' := by
  have w0 : WF mem0 := fun j _ => rfl
  have key : wp (b_L74_law (K := K) (cl := cl) (startV 18 ns)) (fun fl _ => fl = .rt (.bl true)) mem0 := by
    unfold b_L74_law
    refine wp_cut (fun ρ s' => ∃ k, Src k s' ∧ ρ = [.val (.lst (ns.map .int)), .val (.ref k), .no, .no, .no, .no, .no, .no, .no, .no, .no, .no, .no, .no, .no, .no, .no, .no]) ?_ ?_
    · unfold startV
      simp
      exact wp_source (a := 0) w0 hl fun s1 hs _ => ⟨_, hs, rfl⟩
    rintro ρ s1 ⟨k, hs, rfl⟩
    refine wp_cut (fun ρ s' => Src k s' ∧ ∃ nl : List Str, 1 ≤ nl.length ∧ nl.length ≤ 1000 ∧ (∀ n ∈ nl, WordOk 8 n) ∧ ρ = e74 ns (.val (.ref k)) nl .no .no .no .no .no .no .no .no .no .no .no .no .no .no .no) ?_ ?_
    · unfold e74
      simp
      refine wp_take hs (by omega) (by omega) fun j s2 j0 j1 hs2 => ?_
      obtain ⟨m, hm, m1, m2⟩ : ∃ m : Nat, 1 + j = (m : Int) ∧ 1 ≤ m ∧ m ≤ 4 := ⟨(1 + j).toNat, by omega, by omega, by omega⟩
      simp [hm]
      refine wp_names hs2 m1 (by omega) fun nl s3 h1 h2 h3 hs3 => ?_
      exact ⟨hs3, nl, h1, by omega, h3, rfl⟩
    rintro ρ s2 ⟨hs, nl, hn1, hn2, hnl, rfl⟩
    refine wp_cut (fun ρ s' => Src k s' ∧ ∃ st : List Stk, 1 ≤ st.length ∧ st.length ≤ 12 ∧ (∀ t ∈ st, Ok74 t) ∧ ∃ x13, ρ = e74 ns (.val (.ref k)) nl (.val (rsD st)) .no .no .no .no .no .no .no .no .no x13 .no .no .no .no) ?_ ?_
    · unfold e74
      simp
      refine wp_take hs (by omega) (by omega) fun j s3 j0 j1 hs3 => ?_
      obtain ⟨m, hm, m1, m2⟩ : ∃ m : Nat, 1 + j = (m : Int) ∧ 1 ≤ m ∧ m ≤ 12 := ⟨(1 + j).toNat, by omega, by omega, by omega⟩
      simp [hm]
      rw [rng m (by omega), wp_lift_iff]
      refine wp_compLx (Src k) (fun t : Stk => Ok74 t) Stk.d hs3 ?_ ?_
      · intro d hd s4 hs4
        refine wp_noErr ?_
        simp [wipeE]
        refine wp_row74 frT hs4 trivial hn1 hn2 hnl fun t s5 ht hs5 _ => ?_
        exact ⟨hs5, t, ht, rfl⟩
      · intro l s4 hs4 hl hb
        try simp
        exact ⟨hs4, l, by simp at hl; omega, by simp at hl; omega, hb, rfl⟩
    rintro ρ s3 ⟨hs, st0, l1, l12, hok0, y13, rfl⟩
    refine wp_cut (fun ρ s' => Src k s' ∧ ∃ st : List Stk, 1 ≤ st.length ∧ st.length ≤ 12 ∧ (∀ t ∈ st, Ok74 t) ∧ ∃ x4, ρ = e74 ns (.val (.ref k)) nl (.val (rsD st)) x4 .no .no .no .no .no .no .no .no y13 .no .no .no .no) ?_ ?_
    · have e1 : min2D [.int 9, .int (ns.length : Int)] = some (.int ((min 9 ns.length : Nat) : Int)) := by
        show some (D.int (if (ns.length : Int) < 9 then (ns.length : Int) else 9)) = _
        congr 2
        split <;> omega
      have hlen : lenD [.lst (ns.map .int)] = some (.int (ns.length : Int)) := by simp [lenD]
      obtain ⟨N, hN⟩ : ∃ N, N = min 9 ns.length := ⟨_, rfl⟩
      rw [← hN] at e1
      have er : range2 (.int 1) (.int (N : Int)) = some ((List.range' 1 (N - 1)).map fun k : Nat => .int (k : Int)) := rng2 (i := 1) (by omega) (by omega)
      have ei : (iOf2 range2 (eC (.int 1)) (xB min2D (aC (eC (.int 9)) (aC (xB lenD (aC (eVar 0) aN)) aN))) (seeE pHide (e74 ns (.val (.ref k)) nl (.val (rsD st0)) .no .no .no .no .no .no .no .no .no y13 .no .no .no .no)) : M (MemS K cl) _) = M.pure ((List.range' 1 (N - 1)).map fun k : Nat => .int (k : Int)) := by
        unfold e74
        simp [hlen, e1, er]
      unfold sFor
      rw [ei, DN.bind_pure]
      refine wp_forI (fun (r : List D) ρ s' => (∀ d ∈ r, ∃ i : Nat, d = .int (i : Int)) ∧ Src k s' ∧ ∃ st : List Stk, 1 ≤ st.length ∧ st.length ≤ 12 ∧ (∀ t ∈ st, Ok74 t) ∧ ∃ x4, ρ = e74 ns (.val (.ref k)) nl (.val (rsD st)) x4 .no .no .no .no .no .no .no .no y13 .no .no .no .no) ⟨fun d hd => by obtain ⟨i, _, rfl⟩ := List.mem_map.mp hd; exact ⟨i, rfl⟩, hs, st0, l1, l12, hok0, _, rfl⟩ ?_ ?_
      · rintro d r ρ s' ⟨hr, hs, st, l1, l12, hok, x4, rfl⟩
        obtain ⟨i, rfl⟩ := hr d List.mem_cons_self
        refine ⟨_, s_aName, ?_⟩
        refine law74_f1 (at' := i) hs hl hn1 hn2 hnl l1 l12 hok fun su s5 a b c hs5 => ?_
        exact ⟨fun d hd => hr d (List.mem_cons_of_mem _ hd), hs5, su, a, b, c, _, rfl⟩
      · rintro ρ s' ⟨_, h⟩
        exact h
    rintro ρ s4 ⟨hs, B, l1, l12, hB, y4, rfl⟩
    clear hok0
    have hBr : ∀ t ∈ B, StR t := fun t ht => (hB t ht).r
    refine wp_cut (fun ρ s' => Src k s' ∧ ∃ st : List Stk, (∀ x ∈ st, x ∈ B) ∧ (st.length ≤ 12 ∨ st.length = 200) ∧ ρ = e74 ns (.val (.ref k)) nl (.val (rsD st)) y4 .no .no .no .no .no .no .no .no y13 .no .no .no .no) ?_ ?_
    · unfold e74
      simp
      refine wp_take hs (by omega) (by omega) fun j s5 j0 j1 hs5 => ?_
      by_cases h5 : j = 5
      · subst h5
        have mu : mulD (rsD B) (.int 200) = some (.lst (List.replicate 200 (B.map Stk.d)).flatten) := by
          show (if _ then _ else _) = _
          rw [if_pos ⟨by omega, by omega, by rw [List.length_map]; omega⟩]
          rfl
        have ct : slD (.lst (List.replicate 200 (B.map Stk.d)).flatten) none (some 200) = some (.lst ((List.replicate 200 (B.map Stk.d)).flatten.take 200)) := cut_takeP (k := 200)
        rw [rep_map] at ct
        generalize (List.replicate 200 (B.map Stk.d)).flatten = A1 at *
        have l2 := rep_len (B := B) (by assumption)
        have m2 : ∀ x ∈ ((List.replicate 200 B).flatten).take 200, x ∈ B := fun x hx => rep_mem74 hx
        generalize ((List.replicate 200 B).flatten).take 200 = su at *
        simp [mu, ct]
        exact ⟨hs5, su, m2, .inr l2, rfl⟩
      · simp [h5]
        exact ⟨hs5, B, fun x h => h, .inl (by assumption), rfl⟩
    rintro ρ s5 ⟨hs, st, sub, h12, rfl⟩
    have lB : B.length ≤ 12 := by assumption
    have few : Few74 B st := ⟨hBr, by omega, sub, by omega⟩
    refine wp_cut (fun ρ s' => s' = s5 ∧ ρ = e74 ns (.val (.ref k)) nl (.val (rsD st)) y4 .no .no .no .no .no (.val (.int (pvS st : Nat))) (.val (.int (metS st : Nat))) .no y13 .no .no .no .no) ?_ ?_
    · have ed := e_dues (K := K) (cl := cl) few
      generalize pvS st = V at *
      generalize metS st = W at *
      unfold e74
      simp [ed]
    rintro ρ s6 ⟨rfl, rfl⟩
    refine wp_cut (fun ρ s' => s' = s6 ∧ ρ = e74 ns (.val (.ref k)) nl (.val (rsD st)) y4 .no .no .no .no .no (.val (.int (pvS st : Nat))) (.val (.int (metS st : Nat))) .no y13 .no .no .no .no) ?_ ?_
    · have le : pvS st ≤ metS st := val_le few.p
      have t1 := e_told74 (K := K) (cl := cl) few (d := rsD st) (.inl rfl) rfl rfl
      have few2 : Few74 B st.reverse := few.sub2 (fun x hx => List.mem_reverse.mp hx) (by rw [List.length_reverse]; exact few.l)
      obtain ⟨p1, p2⟩ := stk_perm (T := 1000000000) (List.reverse_perm st)
      have t2 := e_told74 (K := K) (cl := cl) few2 (d := .tup (st.reverse.map Stk.d)) (.inr rfl) (a := pvS st) (b := metS st) p1.symm p2.symm
      have rv : revD (rsD st) = some (.lst (st.reverse.map Stk.d)) := by
        rw [List.map_reverse]; rfl
      have tu : tupleD [.lst (st.reverse.map Stk.d)] = some (.tup (st.reverse.map Stk.d)) := rfl
      generalize pvS st = V at *
      generalize metS st = W at *
      generalize st.reverse.map Stk.d = rr at *
      have gt : ¬ ((W : Int) < (V : Int)) := by omega
      unfold e74
      simp [gt, t1, rv, tu, t2]
    rintro ρ s7 ⟨rfl, rfl⟩
    refine wp_cut (fun ρ s' => Src k s' ∧ ∃ f : Nat, 2 ≤ f ∧ f ≤ 10 ∧ ρ = e74 ns (.val (.ref k)) nl (.val (rsD st)) y4 (.val (.int (f : Int))) .no .no .no .no (.val (.int (pvS st : Nat))) (.val (.int (metS st : Nat))) .no y13 .no .no .no .no) ?_ ?_
    · unfold e74
      simp
      refine wp_take hs (by omega) (by omega) fun j s8 j0 j1 hs8 => ?_
      exact ⟨hs8, (2 + j).toNat, by omega, by omega, by congr 2; omega⟩
    rintro ρ s8 ⟨hs, f, f2, f10, rfl⟩
    with_reducible exact law74_rest rfl rfl rfl rfl hs hn1 hn2 hnl hB lB sub h12 f2 f10
  obtain ⟨fl, s', e, rfl⟩ := wp_ok key
  exact ⟨s', e⟩
theorem law_true {ns : List Int} (hl : ns.length ≤ 63) : ∃ s', b_L74_law (K := K) (cl := cl) (startV 18 ns) mem0 = .ok (.rt (.bl true)) s' := law_all hl
end
end LW
namespace LW
open PySem PySem.Spec PyProof.Rows L2 RZ DN
def top (i : Nat) : Stmt := PySem.Challenge.pw_untoldgames_k74_whole_stocks_in_great_nu.main.body.getD i (.Pass ⟨0, 0, 0, 0⟩)
structure Txt (P : Program) (w : World) (K : PySem.W.Frag) (mg : Str → Option Value) (cl : CTab) : Prop where
  wp : P = cl.P
  ww : w = cl.w
  b_all : mg "all" = none
  b_bool : mg "bool" = none
  b_int : mg "int" = none
  b_isinstance : mg "isinstance" = none
  b_len : mg "len" = none
  b_list : mg "list" = none
  b_min : mg "min" = none
  b_range : mg "range" = none
  b_set : mg "set" = none
  b_sorted : mg "sorted" = none
  b_str : mg "str" = none
  b_sum : mg "sum" = none
  b_tuple : mg "tuple" = none
  g_LETTERS : GlC K mg cl "LETTERS" (.str "abcdefghijklmnopqrstuvwxyz")
  g_MOST_ALIKE : GlC K mg cl "MOST_ALIKE" (.int 1000000000000000000000000000000)
  g_MOST_NAME : GlC K mg cl "MOST_NAME" (.int 8)
  g_MOST_POINTS : GlC K mg cl "MOST_POINTS" (.int 1000000000)
  g_MOST_STOCKS : GlC K mg cl "MOST_STOCKS" (.int 200)
  r_NoStocks : ∃ C, RaiseAt K mg cl "NoStocks" C
abbrev s__law_source : Stmt := top 25
abbrev N__law_source : List Str := ["_law_script", "_law_at", "_law_cell", "_law_seed", "_law_k"]
theorem sc__law_source : FnScope N__law_source ["_law_script", "_law_at"] (defScope s__law_source) := ⟨rfl, rfl, rfl, by decide +kernel, rfl, by decide +kernel, by decide +kernel⟩
abbrev s__law_take : Stmt := top 26
abbrev N__law_take : List Str := ["_law_source_here", "_law_many", "_law_number_here", "_law_found"]
theorem sc__law_take : FnScope N__law_take ["_law_source_here", "_law_many"] (defScope s__law_take) := ⟨rfl, rfl, rfl, by decide +kernel, rfl, by decide +kernel, by decide +kernel⟩
abbrev s__law_names : Stmt := top 28
abbrev N__law_names : List Str := ["_law_source_here", "_law_many", "_law_letters", "_law_found", "_law_k", "_law_size", "_law_word", "_law_sign"]
theorem sc__law_names : FnScope N__law_names ["_law_source_here", "_law_many"] (defScope s__law_names) := ⟨rfl, rfl, rfl, by decide +kernel, rfl, by decide +kernel, by decide +kernel⟩
abbrev s__law_falling : Stmt := top 31
abbrev N__law_falling : List Str := ["_law_rows", "_law_name", "_law_side", "_law_found", "_law_row_here", "_law_points", "_law_number_here"]
theorem sc__law_falling : FnScope N__law_falling ["_law_rows", "_law_name", "_law_side"] (defScope s__law_falling) := ⟨rfl, rfl, rfl, by decide +kernel, rfl, by decide +kernel, by decide +kernel⟩
abbrev s__law_paired : Stmt := top 32
abbrev N__law_paired : List Str := ["_law_one", "_law_other", "_law_total", "_law_k", "_law_j", "_law_left", "_law_right", "_law_turn", "_law_many"]
theorem sc__law_paired : FnScope N__law_paired ["_law_one", "_law_other"] (defScope s__law_paired) := ⟨rfl, rfl, rfl, by decide +kernel, rfl, by decide +kernel, by decide +kernel⟩
abbrev s__law_dues : Stmt := top 33
abbrev N__law_dues : List Str := ["_law_rows", "_law_sure", "_law_met", "_law_name", "_law_one", "_law_other", "_law_row_here", "_law_points", "_law_many"]
theorem sc__law_dues : FnScope N__law_dues ["_law_rows"] (defScope s__law_dues) := ⟨rfl, rfl, rfl, by decide +kernel, rfl, by decide +kernel, by decide +kernel⟩
abbrev s__law_number : Stmt := top 29
abbrev N__law_number : List Str := ["_law_source_here", "_law_most", "_law_kind"]
theorem sc__law_number : FnScope N__law_number ["_law_source_here", "_law_most"] (defScope s__law_number) := ⟨rfl, rfl, rfl, by decide +kernel, rfl, by decide +kernel, by decide +kernel⟩
abbrev s__law_row : Stmt := top 30
abbrev N__law_row : List Str := ["_law_source_here", "_law_names_here", "_law_name"]
theorem sc__law_row : FnScope N__law_row ["_law_source_here", "_law_names_here"] (defScope s__law_row) := ⟨rfl, rfl, rfl, by decide +kernel, rfl, by decide +kernel, by decide +kernel⟩
abbrev s__law_is_int : Stmt := top 23
abbrev N__law_is_int : List Str := ["_law_thing"]
theorem sc__law_is_int : FnScope N__law_is_int ["_law_thing"] (defScope s__law_is_int) := ⟨rfl, rfl, rfl, by decide +kernel, rfl, by decide +kernel, by decide +kernel⟩
abbrev s__law_same : Stmt := top 24
abbrev N__law_same : List Str := ["_law_found", "_law_due", "_law_k"]
theorem sc__law_same : FnScope N__law_same ["_law_found", "_law_due"] (defScope s__law_same) := ⟨rfl, rfl, rfl, by decide +kernel, rfl, by decide +kernel, by decide +kernel⟩
abbrev s_is_listed : Stmt := top 8
abbrev N_is_listed : List Str := ["thing"]
theorem sc_is_listed : FnScope N_is_listed ["thing"] (defScope s_is_listed) := ⟨rfl, rfl, rfl, by decide +kernel, rfl, by decide +kernel, by decide +kernel⟩
abbrev s_is_integer : Stmt := top 6
abbrev N_is_integer : List Str := ["thing"]
theorem sc_is_integer : FnScope N_is_integer ["thing"] (defScope s_is_integer) := ⟨rfl, rfl, rfl, by decide +kernel, rfl, by decide +kernel, by decide +kernel⟩
abbrev s_is_within : Stmt := top 7
abbrev N_is_within : List Str := ["thing", "least", "most"]
theorem sc_is_within : FnScope N_is_within ["thing", "least", "most"] (defScope s_is_within) := ⟨rfl, rfl, rfl, by decide +kernel, rfl, by decide +kernel, by decide +kernel⟩
abbrev s_is_letters : Stmt := top 9
abbrev N_is_letters : List Str := ["thing", "most", "sign"]
theorem sc_is_letters : FnScope N_is_letters ["thing", "most"] (defScope s_is_letters) := ⟨rfl, rfl, rfl, by decide +kernel, rfl, by decide +kernel, by decide +kernel⟩
abbrev s_is_name : Stmt := top 10
abbrev N_is_name : List Str := ["thing"]
theorem sc_is_name : FnScope N_is_name ["thing"] (defScope s_is_name) := ⟨rfl, rfl, rfl, by decide +kernel, rfl, by decide +kernel, by decide +kernel⟩
abbrev s_is_stock : Stmt := top 17
abbrev N_is_stock : List Str := ["thing", "name", "side", "points", "number"]
theorem sc_is_stock : FnScope N_is_stock ["thing"] (defScope s_is_stock) := ⟨rfl, rfl, rfl, by decide +kernel, rfl, by decide +kernel, by decide +kernel⟩
abbrev s_check_stocks : Stmt := top 18
abbrev N_check_stocks : List Str := ["stocks", "stock"]
theorem sc_check_stocks : FnScope N_check_stocks ["stocks"] (defScope s_check_stocks) := ⟨rfl, rfl, rfl, by decide +kernel, rfl, by decide +kernel, by decide +kernel⟩
abbrev s_names_of : Stmt := top 16
abbrev N_names_of : List Str := ["stocks", "name", "side", "points", "number"]
theorem sc_names_of : FnScope N_names_of ["stocks"] (defScope s_names_of) := ⟨rfl, rfl, rfl, by decide +kernel, rfl, by decide +kernel, by decide +kernel⟩
abbrev s_points_by_levels : Stmt := top 19
abbrev N_points_by_levels : List Str := ["rows", "found", "below", "level", "counts", "side", "points", "number"]
theorem sc_points_by_levels : FnScope N_points_by_levels ["rows"] (defScope s_points_by_levels) := ⟨rfl, rfl, rfl, by decide +kernel, rfl, by decide +kernel, by decide +kernel⟩
abbrev s_stock_points : Stmt := top 20
abbrev N_stock_points : List Str := ["stocks", "found", "name", "stock"]
theorem sc_stock_points : FnScope N_stock_points ["stocks"] (defScope s_stock_points) := ⟨rfl, rfl, rfl, by decide +kernel, rfl, by decide +kernel, by decide +kernel⟩
abbrev s_met_of : Stmt := top 15
abbrev N_met_of : List Str := ["stocks", "found", "name", "sums", "other", "side", "points", "number"]
theorem sc_met_of : FnScope N_met_of ["stocks"] (defScope s_met_of) := ⟨rfl, rfl, rfl, by decide +kernel, rfl, by decide +kernel, by decide +kernel⟩
abbrev s_stock_met : Stmt := top 21
abbrev N_stock_met : List Str := ["stocks"]
theorem sc_stock_met : FnScope N_stock_met ["stocks"] (defScope s_stock_met) := ⟨rfl, rfl, rfl, by decide +kernel, rfl, by decide +kernel, by decide +kernel⟩
abbrev s__law_is_told : Stmt := top 34
abbrev N__law_is_told : List Str := ["_law_rows", "_law_due"]
theorem sc__law_is_told : FnScope N__law_is_told ["_law_rows", "_law_due"] (defScope s__law_is_told) := ⟨rfl, rfl, rfl, by decide +kernel, rfl, by decide +kernel, by decide +kernel⟩
abbrev s_law : Stmt := top 35
abbrev N_law : List Str := ["_law_script", "_law_source_here", "_law_names_here", "_law_rows", "_law_at", "_law_factor", "_law_due", "_law_parts", "_law_name", "_law_more", "_law_sure", "_law_met", "_law_own", "_law_k", "_law_row_here", "_law_side", "_law_points", "_law_many"]
theorem sc_law : FnScope N_law ["_law_script"] (defScope s_law) := ⟨rfl, rfl, rfl, by decide +kernel, rfl, by decide +kernel, by decide +kernel⟩
section
variable {P : Program} {w : World} {K : PySem.W.Frag} {mg : Str → Option Value} {base : Heap} {cl : CTab}
theorem ok__law_source (T : Txt P w K mg cl) {a__law_source : Addr} {fd__law_source : FuncData} (G__law_source : Fun K "_law_source" "_law_source" s__law_source a__law_source fd__law_source)
     : FnOk P w K mg base (L2.CX P w) 1 a__law_source fd__law_source ["_law_script", "_law_at"] (spD K cl (MemS K cl) 2 m__law_source) := by
  refine FnOk.mono (fn_ok (k := 0) G__law_source sc__law_source rfl fun cdv A outer s H E hr => ?_) (by omega)
  exact dss_cons (ds_set (i := 2) sc__law_source.nd rfl (by first | exact Or.inl rfl | exact Or.inr rfl) (de_int)) (dss_cons (ds_if seeHide (dt_cmp op_lt v_lt (by with_unfolding_all rfl) (de_var (pv 1)) (de_callB (c_len ⟨T.wp, T.ww⟩) v_len (by rfl) T.b_len PySem.boot_len (da_cons (de_var (pv 0)) (da_nil)))) (dss_one (ds_set (i := 2) sc__law_source.nd rfl (by first | exact Or.inl rfl | exact Or.inr rfl) (de_ix ⟨T.wp, T.ww⟩ (hu65 hr) (de_var (pv 0)) (de_var (pv 1))))) (dss_nil)) (dss_cons (ds_set (i := 3) sc__law_source.nd rfl (by first | exact Or.inl rfl | exact Or.inr rfl) (de_op op_addA v_add (de_var (pv 1)) (de_int))) (dss_cons (ds_for passesD rfl (di_range1 (by rfl) T.b_range (de_callB (call_min2 rfl) v_min2 (by rfl) T.b_min PyProof.Rows.boot_min (da_cons (de_callB (c_len ⟨T.wp, T.ww⟩) v_len (by rfl) T.b_len PySem.boot_len (da_cons (de_var (pv 0)) (da_nil))) (da_cons (de_int) (da_nil))))) (dg_name (i := 4) sc__law_source.nd rfl (by first | exact Or.inl rfl | exact Or.inr rfl)) (dss_one (ds_set (i := 3) sc__law_source.nd rfl (by first | exact Or.inl rfl | exact Or.inr rfl) (de_op op_mod v_mod (de_callTy call_int1 v_int (by rfl) T.b_int PyProof.Rows.boot_int (da_cons (de_op op_addA v_add (de_op op_addA v_add (de_op op_mulA v_mul (de_var (pv 3)) (de_int)) (de_ix ⟨T.wp, T.ww⟩ (hu65 hr) (de_var (pv 0)) (de_var (pv 4)))) (de_int)) (da_nil))) (de_int))))) (dss_cons (ds_set (i := 3) sc__law_source.nd rfl (by first | exact Or.inl rfl | exact Or.inr rfl) (de_op op_mod v_mod (de_callTy call_int1 v_int (by rfl) T.b_int PyProof.Rows.boot_int (da_cons (de_op op_addA v_add (de_op op_mulA v_mul (de_var (pv 3)) (de_int)) (de_var (pv 2))) (da_nil))) (de_int))) (dss_one (ds_ret seeHide (de_ent (dx_lst (da_cons (de_var (pv 2)) (da_cons (de_callTy call_int1 v_int (by rfl) T.b_int PyProof.Rows.boot_int (da_cons (de_cmp op_ge v_ge (by with_unfolding_all rfl) (de_var (pv 2)) (de_op op_pow v_pow (de_int) (de_int))) (da_nil))) (da_cons (de_var (pv 3)) (da_cons (de_int) (da_nil)))))))))))))
theorem ok__law_take (T : Txt P w K mg cl) {a__law_take : Addr} {fd__law_take : FuncData} (G__law_take : Fun K "_law_take" "_law_take" s__law_take a__law_take fd__law_take)
     : FnOk P w K mg base (L2.CX P w) 1 a__law_take fd__law_take ["_law_source_here", "_law_many"] (spD K cl (MemS K cl) 2 m__law_take) := by
  refine FnOk.mono (fn_ok (k := 0) G__law_take sc__law_take rfl fun cdv A outer s H E hr => ?_) (by omega)
  exact dss_cons (ds_setM seeHide (de_op op_addA v_add (de_ixM (de_var (pv 0)) (de_int)) (de_int)) (de_var (pv 0)) (de_int)) (dss_cons (ds_if seeHide (dt_of_dw (dw_and (dt_cmp (op_eqD (hu64 (hu65 hr))) v_eq (by with_unfolding_all rfl) (de_ixM (de_var (pv 0)) (de_int)) (de_int)) (dw_and1 (dt_cmp op_gt v_gt (by with_unfolding_all rfl) (de_ixM (de_var (pv 0)) (de_int)) (de_int))))) (dss_cons (ds_set (i := 3) sc__law_take.nd rfl (by first | exact Or.inl rfl | exact Or.inr rfl) (de_op op_mod v_mod (de_callTy call_int1 v_int (by rfl) T.b_int PyProof.Rows.boot_int (da_cons (de_ixM (de_var (pv 0)) (de_int)) (da_nil))) (de_var (pv 1)))) (dss_cons (ds_setM seeHide (de_op op_fdivW v_fdiv (de_ixM (de_var (pv 0)) (de_int)) (de_var (pv 1))) (de_var (pv 0)) (de_int)) (dss_one (ds_ret seeHide (de_var (pv 3)))))) (dss_nil)) (dss_cons (ds_set (i := 2) sc__law_take.nd rfl (by first | exact Or.inl rfl | exact Or.inr rfl) (de_op op_mod v_mod (de_op op_mulA v_mul (de_callTy call_int1 v_int (by rfl) T.b_int PyProof.Rows.boot_int (da_cons (de_op op_addA v_add (de_ixM (de_var (pv 0)) (de_int)) (de_op op_mulA v_mul (de_int) (de_ixM (de_var (pv 0)) (de_int)))) (da_nil))) (de_int)) (de_int))) (dss_cons (ds_set (i := 2) sc__law_take.nd rfl (by first | exact Or.inl rfl | exact Or.inr rfl) (de_op op_mod v_mod (de_op op_mulA v_mul (de_var (pv 2)) (de_op op_addA v_add (de_op op_fdivW v_fdiv (de_var (pv 2)) (de_int)) (de_int))) (de_int))) (dss_cons (ds_set (i := 2) sc__law_take.nd rfl (by first | exact Or.inl rfl | exact Or.inr rfl) (de_op op_mod v_mod (de_op op_mulA v_mul (de_var (pv 2)) (de_op op_addA v_add (de_op op_fdivW v_fdiv (de_var (pv 2)) (de_int)) (de_int))) (de_int))) (dss_one (ds_ret seeHide (de_op op_mod v_mod (de_op op_fdivW v_fdiv (de_var (pv 2)) (de_int)) (de_var (pv 1)))))))))
theorem ok__law_names (T : Txt P w K mg cl) {a__law_names : Addr} {fd__law_names : FuncData} (G__law_names : Fun K "_law_names" "_law_names" s__law_names a__law_names fd__law_names)
    {a__law_take : Addr} {fd__law_take : FuncData} (c__law_take : Cal K mg "_law_take" a__law_take fd__law_take ["_law_source_here", "_law_many"]) (F__law_take : FnOk P w K mg base (L2.CX P w) 1 a__law_take fd__law_take ["_law_source_here", "_law_many"] (spD K cl (MemS K cl) 2 m__law_take)) : FnOk P w K mg base (L2.CX P w) 2 a__law_names fd__law_names ["_law_source_here", "_law_many"] (spD K cl (MemS K cl) 2 m__law_names) := by
  refine FnOk.mono (fn_ok (k := 1) G__law_names sc__law_names rfl fun cdv A outer s H E hr => ?_) (by omega)
  exact dss_cons (ds_set (i := 2) sc__law_names.nd rfl (by first | exact Or.inl rfl | exact Or.inr rfl) (de_str)) (dss_cons (ds_newL (i := 3) sc__law_names.nd rfl (by first | exact Or.inl rfl | exact Or.inr rfl)) (dss_cons (ds_for passesD rfl (di_range1 (by rfl) T.b_range (de_var (pv 1))) (dg_name (i := 4) sc__law_names.nd rfl (by first | exact Or.inl rfl | exact Or.inr rfl)) (dss_cons (ds_set (i := 5) sc__law_names.nd rfl (by first | exact Or.inl rfl | exact Or.inr rfl) (de_op op_addA v_add (de_int) (de_call F__law_take (hr.mono (by first | decide | omega)) (by rfl) c__law_take.mg c__law_take.kp c__law_take.b takesD (da_cons (de_var (pv 0)) (da_cons (de_int) (da_nil))) rfl))) (dss_cons (ds_set (i := 6) sc__law_names.nd rfl (by first | exact Or.inl rfl | exact Or.inr rfl) (de_bmV PySem.F.plainAttrs_str PySem.F.slot_str_join PySem.F.type_str_join mt_join mv_join (de_str) (da_cons (de_comp (own := [("_law_sign", 7)]) rfl sc__law_names.nd (di_range1 (by rfl) T.b_range (de_var (pv 5))) (blkOk_by (own := [("_law_sign", 7)]) (N := N__law_names) (sc := defScope s__law_names) (by decide +kernel)) (fun _ _ _ _ _ => dg_name (i := 7) sc__law_names.nd rfl (by first | exact Or.inl rfl | exact Or.inr rfl)) (in_name (by decide)) (fun _ _ _ _ _ => dts_nil) (fun _ _ _ _ _ => de_ix ⟨T.wp, T.ww⟩ (hu65 hr) (de_var (pv 2)) (de_call F__law_take (hr.mono (by first | decide | omega)) (by rfl) c__law_take.mg c__law_take.kp c__law_take.b takes0 (da_cons (de_var (pv 0)) (da_cons (de_int) (da_nil))) rfl))) (da_nil)))) (dss_one (ds_if seeAll (dt_cmp (op_notInK ⟨T.wp, T.ww⟩ (hu65 hr)) v_notInK (by with_unfolding_all rfl) (de_var (pv 6)) (de_var (pv 3))) (dss_one (ds_app (i := 3) seeHide kpHide (pv 3) (de_var (pv 6)))) (dss_nil)))))) (dss_frz (i := 3) (dss_one (ds_ret seeHide (de_var (pv 3)))))))
theorem ok__law_falling (T : Txt P w K mg cl) {a__law_falling : Addr} {fd__law_falling : FuncData} (G__law_falling : Fun K "_law_falling" "_law_falling" s__law_falling a__law_falling fd__law_falling)
     : FnOk P w K mg base (L2.CX P w) 1 a__law_falling fd__law_falling ["_law_rows", "_law_name", "_law_side"] (spD K cl (MemS K cl) 3 m__law_falling) := by
  refine FnOk.mono (fn_ok (k := 0) G__law_falling sc__law_falling rfl fun cdv A outer s H E hr => ?_) (by omega)
  exact dss_cons (ds_newL (i := 3) sc__law_falling.nd rfl (by first | exact Or.inl rfl | exact Or.inr rfl)) (dss_cons (ds_for passesD rfl (di_any (de_var (pv 0))) (dg_name (i := 4) sc__law_falling.nd rfl (by first | exact Or.inl rfl | exact Or.inr rfl)) (dss_one (ds_if seeHide (dt_of_dw (dw_and (dt_cmp (op_eqD (hu64 (hu65 hr))) v_eq (by with_unfolding_all rfl) (de_ix ⟨T.wp, T.ww⟩ (hu65 hr) (de_var (pv 4)) (de_int)) (de_var (pv 1))) (dw_and (dt_cmp (op_eqD (hu64 (hu65 hr))) v_eq (by with_unfolding_all rfl) (de_ix ⟨T.wp, T.ww⟩ (hu65 hr) (de_var (pv 4)) (de_int)) (de_var (pv 2))) (dw_and1 (dt_cmp op_gt v_gt (by with_unfolding_all rfl) (de_ix ⟨T.wp, T.ww⟩ (hu65 hr) (de_var (pv 4)) (de_int)) (de_int)))))) (dss_one (ds_app (i := 3) seeHide kpHide (pv 3) (de_tup (da_cons (de_un un_neg v_neg (de_ix ⟨T.wp, T.ww⟩ (hu65 hr) (de_var (pv 4)) (de_int))) (da_cons (de_ix ⟨T.wp, T.ww⟩ (hu65 hr) (de_var (pv 4)) (de_int)) (da_nil)))))) (dss_nil)))) (dss_frz (i := 3) (dss_one (ds_ret seeHide (de_comp (own := [("_law_points", 5), ("_law_number_here", 6)]) rfl sc__law_falling.nd (di_any (de_callB (cr_sortDat (hu65 hr)) v_sorted (by rfl) T.b_sorted boot_sorted (da_cons (de_var (pv 3)) (da_nil)))) (blkOk_by (own := [("_law_points", 5), ("_law_number_here", 6)]) (N := N__law_falling) (sc := defScope s__law_falling) (by decide +kernel)) (fun _ _ _ _ _ => dg_tup rfl (dgs_cons (dg_name (i := 5) sc__law_falling.nd rfl (by first | exact Or.inl rfl | exact Or.inr rfl)) (dgs_cons (dg_name (i := 6) sc__law_falling.nd rfl (by first | exact Or.inl rfl | exact Or.inr rfl)) (dgs_nil))) (aCons_len (aCons_len aNil_len))) (in_tup (in_cons (in_name (by decide)) (in_cons (in_name (by decide)) (in_nil)))) (fun _ _ _ _ _ => dts_nil) (fun _ _ _ _ _ => de_tup (da_cons (de_un un_neg v_neg (de_var (pv 5))) (da_cons (de_var (pv 6)) (da_nil)))))))))
theorem ok__law_paired (T : Txt P w K mg cl) {a__law_paired : Addr} {fd__law_paired : FuncData} (G__law_paired : Fun K "_law_paired" "_law_paired" s__law_paired a__law_paired fd__law_paired)
     : FnOk P w K mg base (L2.CX P w) 1 a__law_paired fd__law_paired ["_law_one", "_law_other"] (spD K cl (MemS K cl) 2 m__law_paired) := by
  refine FnOk.mono (fn_ok (k := 0) G__law_paired sc__law_paired rfl fun cdv A outer s H E hr => ?_) (by omega)
  exact dss_cons (ds_set (i := 2) sc__law_paired.nd rfl (by first | exact Or.inl rfl | exact Or.inr rfl) (de_int)) (dss_cons (ds_set (i := 3) sc__law_paired.nd rfl (by first | exact Or.inl rfl | exact Or.inr rfl) (de_int)) (dss_cons (ds_set (i := 4) sc__law_paired.nd rfl (by first | exact Or.inl rfl | exact Or.inr rfl) (de_int)) (dss_cons (ds_set (i := 5) sc__law_paired.nd rfl (by first | exact Or.inl rfl | exact Or.inr rfl) (de_ifExp (dt_cmp (op_neD (hu64 (hu65 hr))) v_ne (by with_unfolding_all rfl) (de_var (pv 0)) (de_lst (da_nil))) (de_ix ⟨T.wp, T.ww⟩ (hu65 hr) (de_ix ⟨T.wp, T.ww⟩ (hu65 hr) (de_var (pv 0)) (de_int)) (de_int)) (de_int))) (dss_cons (ds_set (i := 6) sc__law_paired.nd rfl (by first | exact Or.inl rfl | exact Or.inr rfl) (de_ifExp (dt_cmp (op_neD (hu64 (hu65 hr))) v_ne (by with_unfolding_all rfl) (de_var (pv 1)) (de_lst (da_nil))) (de_ix ⟨T.wp, T.ww⟩ (hu65 hr) (de_ix ⟨T.wp, T.ww⟩ (hu65 hr) (de_var (pv 1)) (de_int)) (de_int)) (de_int))) (dss_cons (ds_for passesD rfl (di_range1 (by rfl) T.b_range (de_op op_addA v_add (de_callB (c_len ⟨T.wp, T.ww⟩) v_len (by rfl) T.b_len PySem.boot_len (da_cons (de_var (pv 0)) (da_nil))) (de_callB (c_len ⟨T.wp, T.ww⟩) v_len (by rfl) T.b_len PySem.boot_len (da_cons (de_var (pv 1)) (da_nil))))) (dg_name (i := 7) sc__law_paired.nd rfl (by first | exact Or.inl rfl | exact Or.inr rfl)) (dss_cons (ds_if seeHide (dt_of_dw (dw_or (dt_cmp op_ge v_ge (by with_unfolding_all rfl) (de_var (pv 3)) (de_callB (c_len ⟨T.wp, T.ww⟩) v_len (by rfl) T.b_len PySem.boot_len (da_cons (de_var (pv 0)) (da_nil)))) (dw_or1 (dt_cmp op_ge v_ge (by with_unfolding_all rfl) (de_var (pv 4)) (de_callB (c_len ⟨T.wp, T.ww⟩) v_len (by rfl) T.b_len PySem.boot_len (da_cons (de_var (pv 1)) (da_nil))))))) (dss_one (ds_break)) (dss_nil)) (dss_cons (ds_set (i := 8) sc__law_paired.nd rfl (by first | exact Or.inl rfl | exact Or.inr rfl) (de_callB (call_min2 rfl) v_min2 (by rfl) T.b_min PyProof.Rows.boot_min (da_cons (de_var (pv 5)) (da_cons (de_var (pv 6)) (da_nil))))) (dss_cons (ds_set (i := 2) sc__law_paired.nd rfl (by first | exact Or.inl rfl | exact Or.inr rfl) (de_op op_addA v_add (de_var (pv 2)) (de_op op_mulA v_mul (de_var (pv 8)) (de_callB (call_min2 rfl) v_min2 (by rfl) T.b_min PyProof.Rows.boot_min (da_cons (de_ix ⟨T.wp, T.ww⟩ (hu65 hr) (de_ix ⟨T.wp, T.ww⟩ (hu65 hr) (de_var (pv 0)) (de_var (pv 3))) (de_int)) (da_cons (de_ix ⟨T.wp, T.ww⟩ (hu65 hr) (de_ix ⟨T.wp, T.ww⟩ (hu65 hr) (de_var (pv 1)) (de_var (pv 4))) (de_int)) (da_nil))))))) (dss_cons (ds_set (i := 5) sc__law_paired.nd rfl (by first | exact Or.inl rfl | exact Or.inr rfl) (de_op op_sub v_sub (de_var (pv 5)) (de_var (pv 8)))) (dss_cons (ds_set (i := 6) sc__law_paired.nd rfl (by first | exact Or.inl rfl | exact Or.inr rfl) (de_op op_sub v_sub (de_var (pv 6)) (de_var (pv 8)))) (dss_cons (ds_if seeHide (dt_cmp (op_eqD (hu64 (hu65 hr))) v_eq (by with_unfolding_all rfl) (de_var (pv 5)) (de_int)) (dss_cons (ds_set (i := 3) sc__law_paired.nd rfl (by first | exact Or.inl rfl | exact Or.inr rfl) (de_op op_addA v_add (de_var (pv 3)) (de_int))) (dss_one (ds_set (i := 5) sc__law_paired.nd rfl (by first | exact Or.inl rfl | exact Or.inr rfl) (de_ifExp (dt_cmp op_lt v_lt (by with_unfolding_all rfl) (de_var (pv 3)) (de_callB (c_len ⟨T.wp, T.ww⟩) v_len (by rfl) T.b_len PySem.boot_len (da_cons (de_var (pv 0)) (da_nil)))) (de_ix ⟨T.wp, T.ww⟩ (hu65 hr) (de_ix ⟨T.wp, T.ww⟩ (hu65 hr) (de_var (pv 0)) (de_var (pv 3))) (de_int)) (de_int))))) (dss_nil)) (dss_one (ds_if seeHide (dt_cmp (op_eqD (hu64 (hu65 hr))) v_eq (by with_unfolding_all rfl) (de_var (pv 6)) (de_int)) (dss_cons (ds_set (i := 4) sc__law_paired.nd rfl (by first | exact Or.inl rfl | exact Or.inr rfl) (de_op op_addA v_add (de_var (pv 4)) (de_int))) (dss_one (ds_set (i := 6) sc__law_paired.nd rfl (by first | exact Or.inl rfl | exact Or.inr rfl) (de_ifExp (dt_cmp op_lt v_lt (by with_unfolding_all rfl) (de_var (pv 4)) (de_callB (c_len ⟨T.wp, T.ww⟩) v_len (by rfl) T.b_len PySem.boot_len (da_cons (de_var (pv 1)) (da_nil)))) (de_ix ⟨T.wp, T.ww⟩ (hu65 hr) (de_ix ⟨T.wp, T.ww⟩ (hu65 hr) (de_var (pv 1)) (de_var (pv 4))) (de_int)) (de_int))))) (dss_nil)))))))))) (dss_one (ds_ret seeHide (de_var (pv 2)))))))))
theorem ok__law_dues (T : Txt P w K mg cl) {a__law_dues : Addr} {fd__law_dues : FuncData} (G__law_dues : Fun K "_law_dues" "_law_dues" s__law_dues a__law_dues fd__law_dues)
    {a__law_falling : Addr} {fd__law_falling : FuncData} (c__law_falling : Cal K mg "_law_falling" a__law_falling fd__law_falling ["_law_rows", "_law_name", "_law_side"]) (F__law_falling : FnOk P w K mg base (L2.CX P w) 1 a__law_falling fd__law_falling ["_law_rows", "_law_name", "_law_side"] (spD K cl (MemS K cl) 3 m__law_falling))
    {a__law_paired : Addr} {fd__law_paired : FuncData} (c__law_paired : Cal K mg "_law_paired" a__law_paired fd__law_paired ["_law_one", "_law_other"]) (F__law_paired : FnOk P w K mg base (L2.CX P w) 1 a__law_paired fd__law_paired ["_law_one", "_law_other"] (spD K cl (MemS K cl) 2 m__law_paired)) : FnOk P w K mg base (L2.CX P w) 2 a__law_dues fd__law_dues ["_law_rows"] (spD K cl (MemS K cl) 1 m__law_dues) := by
  refine FnOk.mono (fn_ok (k := 1) G__law_dues sc__law_dues rfl fun cdv A outer s H E hr => ?_) (by omega)
  exact dss_cons (ds_set (i := 1) sc__law_dues.nd rfl (by first | exact Or.inl rfl | exact Or.inr rfl) (de_int)) (dss_cons (ds_set (i := 2) sc__law_dues.nd rfl (by first | exact Or.inl rfl | exact Or.inr rfl) (de_int)) (dss_cons (ds_for passesD rfl (di_any (de_sortSet (dx_sortSet rfl (by rfl) T.b_sorted (by rfl) T.b_set (de_comp (own := [("_law_row_here", 6)]) rfl sc__law_dues.nd (di_any (de_var (pv 0))) (blkOk_by (own := [("_law_row_here", 6)]) (N := N__law_dues) (sc := defScope s__law_dues) (by decide +kernel)) (fun _ _ _ _ _ => dg_name (i := 6) sc__law_dues.nd rfl (by first | exact Or.inl rfl | exact Or.inr rfl)) (in_name (by decide)) (fun _ _ _ _ _ => dts_nil) (fun _ _ _ _ _ => de_ix ⟨T.wp, T.ww⟩ (hu65 hr) (de_var (pv 6)) (de_int)))))) (dg_name (i := 3) sc__law_dues.nd rfl (by first | exact Or.inl rfl | exact Or.inr rfl)) (dss_cons (ds_set (i := 4) sc__law_dues.nd rfl (by first | exact Or.inl rfl | exact Or.inr rfl) (de_call F__law_falling (hr.mono (by first | decide | omega)) (by rfl) c__law_falling.mg c__law_falling.kp c__law_falling.b takesD (da_cons (de_var (pv 0)) (da_cons (de_var (pv 3)) (da_cons (de_int) (da_nil)))) rfl)) (dss_cons (ds_set (i := 5) sc__law_dues.nd rfl (by first | exact Or.inl rfl | exact Or.inr rfl) (de_call F__law_falling (hr.mono (by first | decide | omega)) (by rfl) c__law_falling.mg c__law_falling.kp c__law_falling.b takesD (da_cons (de_var (pv 0)) (da_cons (de_var (pv 3)) (da_cons (de_int) (da_nil)))) rfl)) (dss_cons (ds_set (i := 1) sc__law_dues.nd rfl (by first | exact Or.inl rfl | exact Or.inr rfl) (de_op op_addA v_add (de_var (pv 1)) (de_call F__law_paired (hr.mono (by first | decide | omega)) (by rfl) c__law_paired.mg c__law_paired.kp c__law_paired.b takesD (da_cons (de_var (pv 4)) (da_cons (de_var (pv 5)) (da_nil))) rfl))) (dss_one (ds_set (i := 2) sc__law_dues.nd rfl (by first | exact Or.inl rfl | exact Or.inr rfl) (de_op op_addA v_add (de_var (pv 2)) (de_callB (call_min2 rfl) v_min2 (by rfl) T.b_min PyProof.Rows.boot_min (da_cons (de_callB (cr_sum rfl) v_sum (by rfl) T.b_sum boot_sum (da_cons (de_comp (own := [("_law_points", 7), ("_law_many", 8)]) rfl sc__law_dues.nd (di_any (de_var (pv 4))) (blkOk_by (own := [("_law_points", 7), ("_law_many", 8)]) (N := N__law_dues) (sc := defScope s__law_dues) (by decide +kernel)) (fun _ _ _ _ _ => dg_tup rfl (dgs_cons (dg_name (i := 7) sc__law_dues.nd rfl (by first | exact Or.inl rfl | exact Or.inr rfl)) (dgs_cons (dg_name (i := 8) sc__law_dues.nd rfl (by first | exact Or.inl rfl | exact Or.inr rfl)) (dgs_nil))) (aCons_len (aCons_len aNil_len))) (in_tup (in_cons (in_name (by decide)) (in_cons (in_name (by decide)) (in_nil)))) (fun _ _ _ _ _ => dts_nil) (fun _ _ _ _ _ => de_op op_mulA v_mul (de_var (pv 7)) (de_var (pv 8)))) (da_nil))) (da_cons (de_callB (cr_sum rfl) v_sum (by rfl) T.b_sum boot_sum (da_cons (de_comp (own := [("_law_points", 7), ("_law_many", 8)]) rfl sc__law_dues.nd (di_any (de_var (pv 5))) (blkOk_by (own := [("_law_points", 7), ("_law_many", 8)]) (N := N__law_dues) (sc := defScope s__law_dues) (by decide +kernel)) (fun _ _ _ _ _ => dg_tup rfl (dgs_cons (dg_name (i := 7) sc__law_dues.nd rfl (by first | exact Or.inl rfl | exact Or.inr rfl)) (dgs_cons (dg_name (i := 8) sc__law_dues.nd rfl (by first | exact Or.inl rfl | exact Or.inr rfl)) (dgs_nil))) (aCons_len (aCons_len aNil_len))) (in_tup (in_cons (in_name (by decide)) (in_cons (in_name (by decide)) (in_nil)))) (fun _ _ _ _ _ => dts_nil) (fun _ _ _ _ _ => de_op op_mulA v_mul (de_var (pv 7)) (de_var (pv 8)))) (da_nil))) (da_nil))))))))))) (dss_one (ds_ret seeHide (de_tup (da_cons (de_var (pv 1)) (da_cons (de_var (pv 2)) (da_nil))))))))
theorem ok__law_number (T : Txt P w K mg cl) {a__law_number : Addr} {fd__law_number : FuncData} (G__law_number : Fun K "_law_number" "_law_number" s__law_number a__law_number fd__law_number)
    {a__law_take : Addr} {fd__law_take : FuncData} (c__law_take : Cal K mg "_law_take" a__law_take fd__law_take ["_law_source_here", "_law_many"]) (F__law_take : FnOk P w K mg base (L2.CX P w) 1 a__law_take fd__law_take ["_law_source_here", "_law_many"] (spD K cl (MemS K cl) 2 m__law_take)) : FnOk P w K mg base (L2.CX P w) 2 a__law_number fd__law_number ["_law_source_here", "_law_most"] (spD K cl (MemS K cl) 2 m__law_number) := by
  refine FnOk.mono (fn_ok (k := 1) G__law_number sc__law_number rfl fun cdv A outer s H E hr => ?_) (by omega)
  exact dss_cons (ds_set (i := 2) sc__law_number.nd rfl (by first | exact Or.inl rfl | exact Or.inr rfl) (de_call F__law_take (hr.mono (by first | decide | omega)) (by rfl) c__law_take.mg c__law_take.kp c__law_take.b takesD (da_cons (de_var (pv 0)) (da_cons (de_int) (da_nil))) rfl)) (dss_cons (ds_if seeHide (dt_cmp (op_eqD (hu64 (hu65 hr))) v_eq (by with_unfolding_all rfl) (de_var (pv 2)) (de_int)) (dss_one (ds_ret seeHide (de_call F__law_take (hr.mono (by first | decide | omega)) (by rfl) c__law_take.mg c__law_take.kp c__law_take.b takesD (da_cons (de_var (pv 0)) (da_cons (de_int) (da_nil))) rfl))) (dss_nil)) (dss_cons (ds_if seeHide (dt_cmp (op_eqD (hu64 (hu65 hr))) v_eq (by with_unfolding_all rfl) (de_var (pv 2)) (de_int)) (dss_one (ds_ret seeHide (de_op op_fdivW v_fdiv (de_callB (call_min2 rfl) v_min2 (by rfl) T.b_min PyProof.Rows.boot_min (da_cons (de_var (pv 1)) (da_cons (de_op op_pow v_pow (de_int) (de_int)) (da_nil)))) (de_int)))) (dss_nil)) (dss_one (ds_ret seeHide (de_call F__law_take (hr.mono (by first | decide | omega)) (by rfl) c__law_take.mg c__law_take.kp c__law_take.b takesD (da_cons (de_var (pv 0)) (da_cons (de_op op_addA v_add (de_var (pv 1)) (de_int)) (da_nil))) rfl)))))
theorem ok__law_row (T : Txt P w K mg cl) {a__law_row : Addr} {fd__law_row : FuncData} (G__law_row : Fun K "_law_row" "_law_row" s__law_row a__law_row fd__law_row)
    {a__law_number : Addr} {fd__law_number : FuncData} (c__law_number : Cal K mg "_law_number" a__law_number fd__law_number ["_law_source_here", "_law_most"]) (F__law_number : FnOk P w K mg base (L2.CX P w) 2 a__law_number fd__law_number ["_law_source_here", "_law_most"] (spD K cl (MemS K cl) 2 m__law_number))
    {a__law_take : Addr} {fd__law_take : FuncData} (c__law_take : Cal K mg "_law_take" a__law_take fd__law_take ["_law_source_here", "_law_many"]) (F__law_take : FnOk P w K mg base (L2.CX P w) 1 a__law_take fd__law_take ["_law_source_here", "_law_many"] (spD K cl (MemS K cl) 2 m__law_take)) : FnOk P w K mg base (L2.CX P w) 3 a__law_row fd__law_row ["_law_source_here", "_law_names_here"] (spD K cl (MemS K cl) 2 m__law_row) := by
  refine FnOk.mono (fn_ok (k := 2) G__law_row sc__law_row rfl fun cdv A outer s H E hr => ?_) (by omega)
  exact dss_cons (ds_set (i := 2) sc__law_row.nd rfl (by first | exact Or.inl rfl | exact Or.inr rfl) (de_ix ⟨T.wp, T.ww⟩ (hu65 hr) (de_var (pv 1)) (de_call F__law_take (hr.mono (by first | decide | omega)) (by rfl) c__law_take.mg c__law_take.kp c__law_take.b takesD (da_cons (de_var (pv 0)) (da_cons (de_callB (c_len ⟨T.wp, T.ww⟩) v_len (by rfl) T.b_len PySem.boot_len (da_cons (de_var (pv 1)) (da_nil))) (da_nil))) rfl))) (dss_one (ds_ret seeHide (de_tup (da_cons (de_var (pv 2)) (da_cons (de_call F__law_take (hr.mono (by first | decide | omega)) (by rfl) c__law_take.mg c__law_take.kp c__law_take.b takesD (da_cons (de_var (pv 0)) (da_cons (de_int) (da_nil))) rfl) (da_cons (de_call F__law_number (hr.mono (by first | decide | omega)) (by rfl) c__law_number.mg c__law_number.kp c__law_number.b takesD (da_cons (de_var (pv 0)) (da_cons (de_op op_pow v_pow (de_int) (de_int)) (da_nil))) rfl) (da_cons (de_call F__law_number (hr.mono (by first | decide | omega)) (by rfl) c__law_number.mg c__law_number.kp c__law_number.b takesD (da_cons (de_var (pv 0)) (da_cons (de_op op_pow v_pow (de_int) (de_int)) (da_nil))) rfl) (da_nil))))))))
theorem ok__law_is_int (T : Txt P w K mg cl) {a__law_is_int : Addr} {fd__law_is_int : FuncData} (G__law_is_int : Fun K "_law_is_int" "_law_is_int" s__law_is_int a__law_is_int fd__law_is_int)
     : FnOk P w K mg base (L2.CX P w) 1 a__law_is_int fd__law_is_int ["_law_thing"] (spD K cl (MemS K cl) 1 m__law_is_int) := by
  refine FnOk.mono (fn_ok (k := 0) G__law_is_int sc__law_is_int rfl fun cdv A outer s H E hr => ?_) (by omega)
  exact dss_one (ds_ret seeHide (de_and (de_isi (de_var (pv 0)) (by rfl) T.b_isinstance (by rfl) T.b_int PyProof.Rows.boot_int) (de_one (de_not (de_isi (de_var (pv 0)) (by rfl) T.b_isinstance (by rfl) T.b_bool PyProof.Rows.boot_bool)))))
theorem ok__law_same (T : Txt P w K mg cl) {a__law_same : Addr} {fd__law_same : FuncData} (G__law_same : Fun K "_law_same" "_law_same" s__law_same a__law_same fd__law_same) (c__law_same : Cal K mg "_law_same" a__law_same fd__law_same ["_law_found", "_law_due"])
    {a__law_is_int : Addr} {fd__law_is_int : FuncData} (c__law_is_int : Cal K mg "_law_is_int" a__law_is_int fd__law_is_int ["_law_thing"]) (F__law_is_int : FnOk P w K mg base (L2.CX P w) 1 a__law_is_int fd__law_is_int ["_law_thing"] (spD K cl (MemS K cl) 1 m__law_is_int)) : ∀ n : Nat, FnOk P w K mg base (L2.CX P w) (1 + n) a__law_same fd__law_same ["_law_found", "_law_due"] (spD K cl (MemS K cl) 2 (m__law_same_v2 n))
  | 0 => fn_stuck rfl
  | n + 1 => by
    have F__law_same := ok__law_same T G__law_same c__law_same  c__law_is_int F__law_is_int n
    exact fn_ok (k := 1 + n) G__law_same sc__law_same rfl fun cdv A outer s H E hr => by
      exact dss_cons (ds_if seeHide (dt_cmp op_isN v_isN (by with_unfolding_all rfl) (de_var (pv 1)) (de_non)) (dss_one (ds_ret seeHide (de_cmp op_isN v_isN (by with_unfolding_all rfl) (de_var (pv 0)) (de_non)))) (dss_nil)) (dss_cons (ds_if seeHide (dt_truth (de_isi (de_var (pv 1)) (by rfl) T.b_isinstance (by rfl) T.b_bool PyProof.Rows.boot_bool)) (dss_one (ds_ret seeHide (de_and (de_isi (de_var (pv 0)) (by rfl) T.b_isinstance (by rfl) T.b_bool PyProof.Rows.boot_bool) (de_one (de_cmp (op_eqD (hu64 (hu65 hr))) v_eq (by with_unfolding_all rfl) (de_var (pv 0)) (de_var (pv 1))))))) (dss_nil)) (dss_cons (ds_if seeHide (dt_truth (de_isi (de_var (pv 1)) (by rfl) T.b_isinstance (by rfl) T.b_int PyProof.Rows.boot_int)) (dss_one (ds_ret seeHide (de_and (de_call F__law_is_int (hr.mono (by first | decide | omega)) (by rfl) c__law_is_int.mg c__law_is_int.kp c__law_is_int.b takesD (da_cons (de_var (pv 0)) (da_nil)) rfl) (de_one (de_cmp (op_eqD (hu64 (hu65 hr))) v_eq (by with_unfolding_all rfl) (de_var (pv 0)) (de_var (pv 1))))))) (dss_nil)) (dss_cons (ds_if seeHide (dt_truth (de_isi (de_var (pv 1)) (by rfl) T.b_isinstance (by rfl) T.b_str PyProof.Rows.boot_str)) (dss_one (ds_ret seeHide (de_and (de_isi (de_var (pv 0)) (by rfl) T.b_isinstance (by rfl) T.b_str PyProof.Rows.boot_str) (de_one (de_cmp (op_eqD (hu64 (hu65 hr))) v_eq (by with_unfolding_all rfl) (de_var (pv 0)) (de_var (pv 1))))))) (dss_nil)) (dss_cons (ds_if seeHide (dt_of_dw (dw_or (dt_cmp (op_neD (hu64 (hu65 hr))) v_ne (by with_unfolding_all rfl) (de_isi (de_var (pv 1)) (by rfl) T.b_isinstance (by rfl) T.b_tuple PyProof.Rows.boot_tuple) (de_isi (de_var (pv 0)) (by rfl) T.b_isinstance (by rfl) T.b_tuple PyProof.Rows.boot_tuple)) (dw_or1 (dt_cmp (op_neD (hu64 (hu65 hr))) v_ne (by with_unfolding_all rfl) (de_isi (de_var (pv 1)) (by rfl) T.b_isinstance (by rfl) T.b_list PyProof.Rows.boot_list) (de_isi (de_var (pv 0)) (by rfl) T.b_isinstance (by rfl) T.b_list PyProof.Rows.boot_list))))) (dss_one (ds_ret seeHide (de_bl))) (dss_nil)) (dss_cons (ds_if seeHide (dt_cmp (op_neD (hu64 (hu65 hr))) v_ne (by with_unfolding_all rfl) (de_callB (c_len ⟨T.wp, T.ww⟩) v_len (by rfl) T.b_len PySem.boot_len (da_cons (de_var (pv 0)) (da_nil))) (de_callB (c_len ⟨T.wp, T.ww⟩) v_len (by rfl) T.b_len PySem.boot_len (da_cons (de_var (pv 1)) (da_nil)))) (dss_one (ds_ret seeHide (de_bl))) (dss_nil)) (dss_cons (ds_for passesD rfl (di_range1 (by rfl) T.b_range (de_callB (c_len ⟨T.wp, T.ww⟩) v_len (by rfl) T.b_len PySem.boot_len (da_cons (de_var (pv 1)) (da_nil)))) (dg_name (i := 2) sc__law_same.nd rfl (by first | exact Or.inl rfl | exact Or.inr rfl)) (dss_one (ds_if seeHide (dt_not (dt_truth (de_call F__law_same (hr.mono (by first | decide | omega)) (by rfl) c__law_same.mg c__law_same.kp c__law_same.b takesD (da_cons (de_ix ⟨T.wp, T.ww⟩ (hu65 hr) (de_var (pv 0)) (de_var (pv 2))) (da_cons (de_ix ⟨T.wp, T.ww⟩ (hu65 hr) (de_var (pv 1)) (de_var (pv 2))) (da_nil))) rfl))) (dss_one (ds_ret seeHide (de_bl))) (dss_nil)))) (dss_one (ds_ret seeHide (de_bl)))))))))
theorem ok_is_listed (T : Txt P w K mg cl) {a_is_listed : Addr} {fd_is_listed : FuncData} (G_is_listed : Fun K "is_listed" "is_listed" s_is_listed a_is_listed fd_is_listed)
     : FnOk P w K mg base (L2.CX P w) 1 a_is_listed fd_is_listed ["thing"] (spD K cl (MemS K cl) 1 m_is_listed) := by
  refine FnOk.mono (fn_ok (k := 0) G_is_listed sc_is_listed rfl fun cdv A outer s H E hr => ?_) (by omega)
  exact dss_one (ds_ret seeHide (de_isi2 (de_var (pv 0)) (by rfl) T.b_isinstance (by rfl) T.b_list PyProof.Rows.boot_list (by rfl) T.b_tuple PyProof.Rows.boot_tuple))
theorem ok_is_integer (T : Txt P w K mg cl) {a_is_integer : Addr} {fd_is_integer : FuncData} (G_is_integer : Fun K "is_integer" "is_integer" s_is_integer a_is_integer fd_is_integer)
     : FnOk P w K mg base (L2.CX P w) 1 a_is_integer fd_is_integer ["thing"] (spD K cl (MemS K cl) 1 m_is_integer) := by
  refine FnOk.mono (fn_ok (k := 0) G_is_integer sc_is_integer rfl fun cdv A outer s H E hr => ?_) (by omega)
  exact dss_one (ds_ret seeHide (de_and (de_isi (de_var (pv 0)) (by rfl) T.b_isinstance (by rfl) T.b_int PyProof.Rows.boot_int) (de_one (de_not (de_isi (de_var (pv 0)) (by rfl) T.b_isinstance (by rfl) T.b_bool PyProof.Rows.boot_bool)))))
theorem ok_is_within (T : Txt P w K mg cl) {a_is_within : Addr} {fd_is_within : FuncData} (G_is_within : Fun K "is_within" "is_within" s_is_within a_is_within fd_is_within)
    {a_is_integer : Addr} {fd_is_integer : FuncData} (c_is_integer : Cal K mg "is_integer" a_is_integer fd_is_integer ["thing"]) (F_is_integer : FnOk P w K mg base (L2.CX P w) 1 a_is_integer fd_is_integer ["thing"] (spD K cl (MemS K cl) 1 m_is_integer)) : FnOk P w K mg base (L2.CX P w) 2 a_is_within fd_is_within ["thing", "least", "most"] (spD K cl (MemS K cl) 3 m_is_within) := by
  refine FnOk.mono (fn_ok (k := 1) G_is_within sc_is_within rfl fun cdv A outer s H E hr => ?_) (by omega)
  exact dss_one (ds_ret seeHide (de_and (de_call F_is_integer (hr.mono (by first | decide | omega)) (by rfl) c_is_integer.mg c_is_integer.kp c_is_integer.b takesD (da_cons (de_var (pv 0)) (da_nil)) rfl) (de_one (de_chain op_le v_le op_le v_le (de_var (pv 1)) (de_var (pv 0)) (de_var (pv 2))))))
theorem ok_is_letters (T : Txt P w K mg cl) {a_is_letters : Addr} {fd_is_letters : FuncData} (G_is_letters : Fun K "is_letters" "is_letters" s_is_letters a_is_letters fd_is_letters)
     : FnOk P w K mg base (L2.CX P w) 1 a_is_letters fd_is_letters ["thing", "most"] (spD K cl (MemS K cl) 2 m_is_letters) := by
  refine FnOk.mono (fn_ok (k := 0) G_is_letters sc_is_letters rfl fun cdv A outer s H E hr => ?_) (by omega)
  exact dss_cons (ds_if seeHide (dt_of_dw (dw_or (dt_not (dt_truth (de_isi (de_var (pv 0)) (by rfl) T.b_isinstance (by rfl) T.b_str PyProof.Rows.boot_str))) (dw_or1 (dt_not (dt_chain op_le v_le op_le v_le (de_int) (de_callB (c_len ⟨T.wp, T.ww⟩) v_len (by rfl) T.b_len PySem.boot_len (da_cons (de_var (pv 0)) (da_nil))) (de_var (pv 1))))))) (dss_one (ds_ret seeHide (de_bl))) (dss_nil)) (dss_one (ds_ret seeHide (de_callB (cr_all rfl) v_all (by rfl) T.b_all boot_all (da_cons (de_comp (own := [("sign", 2)]) rfl sc_is_letters.nd (di_any (de_var (pv 0))) (blkOk_by (own := [("sign", 2)]) (N := N_is_letters) (sc := defScope s_is_letters) (by decide +kernel)) (fun _ _ _ _ _ => dg_name (i := 2) sc_is_letters.nd rfl (by first | exact Or.inl rfl | exact Or.inr rfl)) (in_name (by decide)) (fun _ _ _ _ _ => dts_nil) (fun _ _ _ _ _ => de_cmp (op_inK ⟨T.wp, T.ww⟩ (hu65 hr)) v_inK (by with_unfolding_all rfl) (de_var (pv 2)) (de_gl T.g_LETTERS (by rfl)))) (da_nil)))))
theorem ok_is_name (T : Txt P w K mg cl) {a_is_name : Addr} {fd_is_name : FuncData} (G_is_name : Fun K "is_name" "is_name" s_is_name a_is_name fd_is_name)
    {a_is_letters : Addr} {fd_is_letters : FuncData} (c_is_letters : Cal K mg "is_letters" a_is_letters fd_is_letters ["thing", "most"]) (F_is_letters : FnOk P w K mg base (L2.CX P w) 1 a_is_letters fd_is_letters ["thing", "most"] (spD K cl (MemS K cl) 2 m_is_letters)) : FnOk P w K mg base (L2.CX P w) 2 a_is_name fd_is_name ["thing"] (spD K cl (MemS K cl) 1 m_is_name) := by
  refine FnOk.mono (fn_ok (k := 1) G_is_name sc_is_name rfl fun cdv A outer s H E hr => ?_) (by omega)
  exact dss_one (ds_ret seeHide (de_call F_is_letters (hr.mono (by first | decide | omega)) (by rfl) c_is_letters.mg c_is_letters.kp c_is_letters.b takesD (da_cons (de_var (pv 0)) (da_cons (de_gl T.g_MOST_NAME (by rfl)) (da_nil))) rfl))
theorem ok_is_stock (T : Txt P w K mg cl) {a_is_stock : Addr} {fd_is_stock : FuncData} (G_is_stock : Fun K "is_stock" "is_stock" s_is_stock a_is_stock fd_is_stock)
    {a_is_name : Addr} {fd_is_name : FuncData} (c_is_name : Cal K mg "is_name" a_is_name fd_is_name ["thing"]) (F_is_name : FnOk P w K mg base (L2.CX P w) 2 a_is_name fd_is_name ["thing"] (spD K cl (MemS K cl) 1 m_is_name))
    {a_is_within : Addr} {fd_is_within : FuncData} (c_is_within : Cal K mg "is_within" a_is_within fd_is_within ["thing", "least", "most"]) (F_is_within : FnOk P w K mg base (L2.CX P w) 2 a_is_within fd_is_within ["thing", "least", "most"] (spD K cl (MemS K cl) 3 m_is_within)) : FnOk P w K mg base (L2.CX P w) 3 a_is_stock fd_is_stock ["thing"] (spD K cl (MemS K cl) 1 m_is_stock) := by
  refine FnOk.mono (fn_ok (k := 2) G_is_stock sc_is_stock rfl fun cdv A outer s H E hr => ?_) (by omega)
  exact dss_cons (ds_if seeHide (dt_of_dw (dw_or (dt_not (dt_truth (de_isi (de_var (pv 0)) (by rfl) T.b_isinstance (by rfl) T.b_tuple PyProof.Rows.boot_tuple))) (dw_or1 (dt_cmp (op_neD (hu64 (hu65 hr))) v_ne (by with_unfolding_all rfl) (de_callB (c_len ⟨T.wp, T.ww⟩) v_len (by rfl) T.b_len PySem.boot_len (da_cons (de_var (pv 0)) (da_nil))) (de_int))))) (dss_one (ds_ret seeHide (de_bl))) (dss_nil)) (dss_cons (ds_asg (de_var (pv 0)) (dg_tup rfl (dgs_cons (dg_name (i := 1) sc_is_stock.nd rfl (by first | exact Or.inl rfl | exact Or.inr rfl)) (dgs_cons (dg_name (i := 2) sc_is_stock.nd rfl (by first | exact Or.inl rfl | exact Or.inr rfl)) (dgs_cons (dg_name (i := 3) sc_is_stock.nd rfl (by first | exact Or.inl rfl | exact Or.inr rfl)) (dgs_cons (dg_name (i := 4) sc_is_stock.nd rfl (by first | exact Or.inl rfl | exact Or.inr rfl)) (dgs_nil))))) (aCons_len (aCons_len (aCons_len (aCons_len aNil_len)))))) (dss_cons (ds_if seeHide (dt_of_dw (dw_or (dt_not (dt_truth (de_call F_is_name (hr.mono (by first | decide | omega)) (by rfl) c_is_name.mg c_is_name.kp c_is_name.b takesD (da_cons (de_var (pv 1)) (da_nil)) rfl))) (dw_or1 (dt_not (dt_truth (de_call F_is_within (hr.mono (by first | decide | omega)) (by rfl) c_is_within.mg c_is_within.kp c_is_within.b takesD (da_cons (de_var (pv 2)) (da_cons (de_int) (da_cons (de_int) (da_nil)))) rfl)))))) (dss_one (ds_ret seeHide (de_bl))) (dss_nil)) (dss_one (ds_ret seeHide (de_and (de_call F_is_within (hr.mono (by first | decide | omega)) (by rfl) c_is_within.mg c_is_within.kp c_is_within.b takesD (da_cons (de_var (pv 3)) (da_cons (de_int) (da_cons (de_gl T.g_MOST_POINTS (by rfl)) (da_nil)))) rfl) (de_one (de_call F_is_within (hr.mono (by first | decide | omega)) (by rfl) c_is_within.mg c_is_within.kp c_is_within.b takesD (da_cons (de_var (pv 4)) (da_cons (de_int) (da_cons (de_gl T.g_MOST_ALIKE (by rfl)) (da_nil)))) rfl)))))))
theorem ok_check_stocks (T : Txt P w K mg cl) {a_check_stocks : Addr} {fd_check_stocks : FuncData} (G_check_stocks : Fun K "check_stocks" "check_stocks" s_check_stocks a_check_stocks fd_check_stocks)
    {a_is_listed : Addr} {fd_is_listed : FuncData} (c_is_listed : Cal K mg "is_listed" a_is_listed fd_is_listed ["thing"]) (F_is_listed : FnOk P w K mg base (L2.CX P w) 1 a_is_listed fd_is_listed ["thing"] (spD K cl (MemS K cl) 1 m_is_listed))
    {a_is_stock : Addr} {fd_is_stock : FuncData} (c_is_stock : Cal K mg "is_stock" a_is_stock fd_is_stock ["thing"]) (F_is_stock : FnOk P w K mg base (L2.CX P w) 3 a_is_stock fd_is_stock ["thing"] (spD K cl (MemS K cl) 1 m_is_stock)) : FnOk P w K mg base (L2.CX P w) 4 a_check_stocks fd_check_stocks ["stocks"] (spD K cl (MemS K cl) 1 m_check_stocks) := by
  refine FnOk.mono (fn_ok (k := 3) G_check_stocks sc_check_stocks rfl fun cdv A outer s H E hr => ?_) (by omega)
  exact dss_one (ds_if seeHide (dt_of_dw (dw_or (dt_not (dt_truth (de_call F_is_listed (hr.mono (by first | decide | omega)) (by rfl) c_is_listed.mg c_is_listed.kp c_is_listed.b takesD (da_cons (de_var (pv 0)) (da_nil)) rfl))) (dw_or (dt_cmp op_gt v_gt (by with_unfolding_all rfl) (de_callB (c_len ⟨T.wp, T.ww⟩) v_len (by rfl) T.b_len PySem.boot_len (da_cons (de_var (pv 0)) (da_nil))) (de_gl T.g_MOST_STOCKS (by rfl))) (dw_or1 (dt_not (dt_truth (de_callB (cr_all rfl) v_all (by rfl) T.b_all boot_all (da_cons (de_comp (own := [("stock", 1)]) rfl sc_check_stocks.nd (di_any (de_var (pv 0))) (blkOk_by (own := [("stock", 1)]) (N := N_check_stocks) (sc := defScope s_check_stocks) (by decide +kernel)) (fun _ _ _ _ _ => dg_name (i := 1) sc_check_stocks.nd rfl (by first | exact Or.inl rfl | exact Or.inr rfl)) (in_name (by decide)) (fun _ _ _ _ _ => dts_nil) (fun _ _ _ _ _ => de_call F_is_stock (hr.mono (by first | decide | omega)) (by rfl) c_is_stock.mg c_is_stock.kp c_is_stock.b takes0 (da_cons (de_var (pv 1)) (da_nil)) rfl)) (da_nil))))))))) (dss_one (ds_raise0 T.r_NoStocks.choose_spec rfl takesD (by rfl))) (dss_nil))
theorem ok_names_of (T : Txt P w K mg cl) {a_names_of : Addr} {fd_names_of : FuncData} (G_names_of : Fun K "names_of" "names_of" s_names_of a_names_of fd_names_of)
     : FnOk P w K mg base (L2.CX P w) 1 a_names_of fd_names_of ["stocks"] (spD K cl (MemS K cl) 1 m_names_of) := by
  refine FnOk.mono (fn_ok (k := 0) G_names_of sc_names_of rfl fun cdv A outer s H E hr => ?_) (by omega)
  exact dss_one (ds_ret seeHide (de_sortSet (dx_sortSc (own := [("name", 1), ("side", 2), ("points", 3), ("number", 4)]) rfl (by rfl) T.b_sorted sc_names_of.nd (di_any (de_var (pv 0))) (blkOk_by (own := [("name", 1), ("side", 2), ("points", 3), ("number", 4)]) (N := N_names_of) (sc := defScope s_names_of) (by decide +kernel)) (fun _ _ _ _ _ => dg_tup rfl (dgs_cons (dg_name (i := 1) sc_names_of.nd rfl (by first | exact Or.inl rfl | exact Or.inr rfl)) (dgs_cons (dg_name (i := 2) sc_names_of.nd rfl (by first | exact Or.inl rfl | exact Or.inr rfl)) (dgs_cons (dg_name (i := 3) sc_names_of.nd rfl (by first | exact Or.inl rfl | exact Or.inr rfl)) (dgs_cons (dg_name (i := 4) sc_names_of.nd rfl (by first | exact Or.inl rfl | exact Or.inr rfl)) (dgs_nil))))) (aCons_len (aCons_len (aCons_len (aCons_len aNil_len))))) (in_tup (in_cons (in_name (by decide)) (in_cons (in_name (by decide)) (in_cons (in_name (by decide)) (in_cons (in_name (by decide)) (in_nil)))))) (fun _ _ _ _ _ => dts_nil) (fun _ _ _ _ _ => de_var (pv 1)) (by intro _; rfl))))
theorem ok_points_by_levels (T : Txt P w K mg cl) {a_points_by_levels : Addr} {fd_points_by_levels : FuncData} (G_points_by_levels : Fun K "points_by_levels" "points_by_levels" s_points_by_levels a_points_by_levels fd_points_by_levels)
     : FnOk P w K mg base (L2.CX P w) 1 a_points_by_levels fd_points_by_levels ["rows"] (spD K cl (MemS K cl) 1 m_points_by_levels) := by
  refine FnOk.mono (fn_ok (k := 0) G_points_by_levels sc_points_by_levels rfl fun cdv A outer s H E hr => ?_) (by omega)
  exact dss_cons (ds_set (i := 1) sc_points_by_levels.nd rfl (by first | exact Or.inl rfl | exact Or.inr rfl) (de_int)) (dss_cons (ds_set (i := 2) sc_points_by_levels.nd rfl (by first | exact Or.inl rfl | exact Or.inr rfl) (de_int)) (dss_cons (ds_for passesD rfl (di_any (de_sortSetI (dx_sortSci (own := [("side", 5), ("points", 6), ("number", 7)]) rfl (by rfl) T.b_sorted sc_points_by_levels.nd (di_any (de_var (pv 0))) (blkOk_by (own := [("side", 5), ("points", 6), ("number", 7)]) (N := N_points_by_levels) (sc := defScope s_points_by_levels) (by decide +kernel)) (fun _ _ _ _ _ => dg_tup rfl (dgs_cons (dg_name (i := 5) sc_points_by_levels.nd rfl (by first | exact Or.inl rfl | exact Or.inr rfl)) (dgs_cons (dg_name (i := 6) sc_points_by_levels.nd rfl (by first | exact Or.inl rfl | exact Or.inr rfl)) (dgs_cons (dg_name (i := 7) sc_points_by_levels.nd rfl (by first | exact Or.inl rfl | exact Or.inr rfl)) (dgs_nil)))) (aCons_len (aCons_len (aCons_len aNil_len)))) (in_tup (in_cons (in_name (by decide)) (in_cons (in_name (by decide)) (in_cons (in_name (by decide)) (in_nil))))) (fun _ _ _ _ _ => dts_nil) (fun _ _ _ _ _ => de_var (pv 6)) (by intro _; rfl)))) (dg_name (i := 3) sc_points_by_levels.nd rfl (by first | exact Or.inl rfl | exact Or.inr rfl)) (dss_cons (ds_own (i := 4) sc_points_by_levels.nd rfl (by first | exact Or.inl rfl | exact Or.inr rfl) (dm_of_dx (dx_lst (da_cons (de_int) (da_cons (de_int) (da_nil)))))) (dss_cons (ds_for passesD rfl (di_any (de_var (pv 0))) (dg_tup rfl (dgs_cons (dg_name (i := 5) sc_points_by_levels.nd rfl (by first | exact Or.inl rfl | exact Or.inr rfl)) (dgs_cons (dg_name (i := 6) sc_points_by_levels.nd rfl (by first | exact Or.inl rfl | exact Or.inr rfl)) (dgs_cons (dg_name (i := 7) sc_points_by_levels.nd rfl (by first | exact Or.inl rfl | exact Or.inr rfl)) (dgs_nil)))) (aCons_len (aCons_len (aCons_len aNil_len)))) (dss_one (ds_if seeHide (dt_cmp op_ge v_ge (by with_unfolding_all rfl) (de_var (pv 6)) (de_var (pv 3))) (dss_one (ds_augI (i := 4) (pv 4) (de_var (pv 5)) (de_var (pv 7)))) (dss_nil)))) (dss_frz (i := 4) (dss_cons (ds_aug (i := 1) seeHide yes kpHide sc_points_by_levels.nd rfl (by first | exact Or.inl rfl | exact Or.inr rfl) (de_op op_mulA v_mul (de_op op_sub v_sub (de_var (pv 3)) (de_var (pv 2))) (de_callB (cr_min rfl) v_minL (by rfl) T.b_min PyProof.Rows.boot_min (da_cons (de_var (pv 4)) (da_nil)))) ip_add v_ipadd) (dss_one (ds_set (i := 2) sc_points_by_levels.nd rfl (by first | exact Or.inl rfl | exact Or.inr rfl) (de_var (pv 3))))))))) (dss_one (ds_ret seeHide (de_var (pv 1))))))
theorem ok_stock_points (T : Txt P w K mg cl) {a_stock_points : Addr} {fd_stock_points : FuncData} (G_stock_points : Fun K "stock_points" "stock_points" s_stock_points a_stock_points fd_stock_points)
    {a_check_stocks : Addr} {fd_check_stocks : FuncData} (c_check_stocks : Cal K mg "check_stocks" a_check_stocks fd_check_stocks ["stocks"]) (F_check_stocks : FnOk P w K mg base (L2.CX P w) 4 a_check_stocks fd_check_stocks ["stocks"] (spD K cl (MemS K cl) 1 m_check_stocks))
    {a_names_of : Addr} {fd_names_of : FuncData} (c_names_of : Cal K mg "names_of" a_names_of fd_names_of ["stocks"]) (F_names_of : FnOk P w K mg base (L2.CX P w) 1 a_names_of fd_names_of ["stocks"] (spD K cl (MemS K cl) 1 m_names_of))
    {a_points_by_levels : Addr} {fd_points_by_levels : FuncData} (c_points_by_levels : Cal K mg "points_by_levels" a_points_by_levels fd_points_by_levels ["rows"]) (F_points_by_levels : FnOk P w K mg base (L2.CX P w) 1 a_points_by_levels fd_points_by_levels ["rows"] (spD K cl (MemS K cl) 1 m_points_by_levels)) : FnOk P w K mg base (L2.CX P w) 5 a_stock_points fd_stock_points ["stocks"] (spD K cl (MemS K cl) 1 m_stock_points) := by
  refine FnOk.mono (fn_ok (k := 4) G_stock_points sc_stock_points rfl fun cdv A outer s H E hr => ?_) (by omega)
  exact dss_cons (ds_expr seeHide (de_call F_check_stocks (hr.mono (by first | decide | omega)) (by rfl) c_check_stocks.mg c_check_stocks.kp c_check_stocks.b takesD (da_cons (de_var (pv 0)) (da_nil)) rfl)) (dss_cons (ds_set (i := 1) sc_stock_points.nd rfl (by first | exact Or.inl rfl | exact Or.inr rfl) (de_int)) (dss_cons (ds_for passesD rfl (di_any (de_call F_names_of (hr.mono (by first | decide | omega)) (by rfl) c_names_of.mg c_names_of.kp c_names_of.b takesD (da_cons (de_var (pv 0)) (da_nil)) rfl)) (dg_name (i := 2) sc_stock_points.nd rfl (by first | exact Or.inl rfl | exact Or.inr rfl)) (dss_one (ds_aug (i := 1) seeHide yes kpHide sc_stock_points.nd rfl (by first | exact Or.inl rfl | exact Or.inr rfl) (de_call F_points_by_levels (hr.mono (by first | decide | omega)) (by rfl) c_points_by_levels.mg c_points_by_levels.kp c_points_by_levels.b takesD (da_cons (de_comp (own := [("stock", 3)]) rfl sc_stock_points.nd (di_any (de_var (pv 0))) (blkOk_by (own := [("stock", 3)]) (N := N_stock_points) (sc := defScope s_stock_points) (by decide +kernel)) (fun _ _ _ _ _ => dg_name (i := 3) sc_stock_points.nd rfl (by first | exact Or.inl rfl | exact Or.inr rfl)) (in_name (by decide)) (fun _ _ _ _ _ => dts_one (dt_cmp (op_eqD (hu64 (hu65 hr))) v_eq (by with_unfolding_all rfl) (de_ix ⟨T.wp, T.ww⟩ (hu65 hr) (de_var (pv 3)) (de_int)) (de_var (pv 2)))) (fun _ _ _ _ _ => de_slice (de_var (pv 3)) (do_some (de_int)) (do_none))) (da_nil)) rfl) ip_add v_ipadd))) (dss_one (ds_ret seeHide (de_var (pv 1))))))
theorem ok_met_of (T : Txt P w K mg cl) {a_met_of : Addr} {fd_met_of : FuncData} (G_met_of : Fun K "met_of" "met_of" s_met_of a_met_of fd_met_of)
    {a_names_of : Addr} {fd_names_of : FuncData} (c_names_of : Cal K mg "names_of" a_names_of fd_names_of ["stocks"]) (F_names_of : FnOk P w K mg base (L2.CX P w) 1 a_names_of fd_names_of ["stocks"] (spD K cl (MemS K cl) 1 m_names_of)) : FnOk P w K mg base (L2.CX P w) 2 a_met_of fd_met_of ["stocks"] (spD K cl (MemS K cl) 1 m_met_of) := by
  refine FnOk.mono (fn_ok (k := 1) G_met_of sc_met_of rfl fun cdv A outer s H E hr => ?_) (by omega)
  exact dss_cons (ds_set (i := 1) sc_met_of.nd rfl (by first | exact Or.inl rfl | exact Or.inr rfl) (de_int)) (dss_cons (ds_for passesD rfl (di_any (de_call F_names_of (hr.mono (by first | decide | omega)) (by rfl) c_names_of.mg c_names_of.kp c_names_of.b takesD (da_cons (de_var (pv 0)) (da_nil)) rfl)) (dg_name (i := 2) sc_met_of.nd rfl (by first | exact Or.inl rfl | exact Or.inr rfl)) (dss_cons (ds_own (i := 3) sc_met_of.nd rfl (by first | exact Or.inl rfl | exact Or.inr rfl) (dm_of_dx (dx_lst (da_cons (de_int) (da_cons (de_int) (da_nil)))))) (dss_cons (ds_for passesD rfl (di_any (de_var (pv 0))) (dg_tup rfl (dgs_cons (dg_name (i := 4) sc_met_of.nd rfl (by first | exact Or.inl rfl | exact Or.inr rfl)) (dgs_cons (dg_name (i := 5) sc_met_of.nd rfl (by first | exact Or.inl rfl | exact Or.inr rfl)) (dgs_cons (dg_name (i := 6) sc_met_of.nd rfl (by first | exact Or.inl rfl | exact Or.inr rfl)) (dgs_cons (dg_name (i := 7) sc_met_of.nd rfl (by first | exact Or.inl rfl | exact Or.inr rfl)) (dgs_nil))))) (aCons_len (aCons_len (aCons_len (aCons_len aNil_len))))) (dss_one (ds_if seeHide (dt_cmp (op_eqD (hu64 (hu65 hr))) v_eq (by with_unfolding_all rfl) (de_var (pv 4)) (de_var (pv 2))) (dss_one (ds_augI (i := 3) (pv 3) (de_var (pv 5)) (de_op op_mulA v_mul (de_var (pv 6)) (de_var (pv 7))))) (dss_nil)))) (dss_frz (i := 3) (dss_one (ds_aug (i := 1) seeHide yes kpHide sc_met_of.nd rfl (by first | exact Or.inl rfl | exact Or.inr rfl) (de_callB (cr_min rfl) v_minL (by rfl) T.b_min PyProof.Rows.boot_min (da_cons (de_var (pv 3)) (da_nil))) ip_add v_ipadd)))))) (dss_one (ds_ret seeHide (de_var (pv 1)))))
theorem ok_stock_met (T : Txt P w K mg cl) {a_stock_met : Addr} {fd_stock_met : FuncData} (G_stock_met : Fun K "stock_met" "stock_met" s_stock_met a_stock_met fd_stock_met)
    {a_check_stocks : Addr} {fd_check_stocks : FuncData} (c_check_stocks : Cal K mg "check_stocks" a_check_stocks fd_check_stocks ["stocks"]) (F_check_stocks : FnOk P w K mg base (L2.CX P w) 4 a_check_stocks fd_check_stocks ["stocks"] (spD K cl (MemS K cl) 1 m_check_stocks))
    {a_met_of : Addr} {fd_met_of : FuncData} (c_met_of : Cal K mg "met_of" a_met_of fd_met_of ["stocks"]) (F_met_of : FnOk P w K mg base (L2.CX P w) 2 a_met_of fd_met_of ["stocks"] (spD K cl (MemS K cl) 1 m_met_of)) : FnOk P w K mg base (L2.CX P w) 5 a_stock_met fd_stock_met ["stocks"] (spD K cl (MemS K cl) 1 m_stock_met) := by
  refine FnOk.mono (fn_ok (k := 4) G_stock_met sc_stock_met rfl fun cdv A outer s H E hr => ?_) (by omega)
  exact dss_cons (ds_expr seeHide (de_call F_check_stocks (hr.mono (by first | decide | omega)) (by rfl) c_check_stocks.mg c_check_stocks.kp c_check_stocks.b takesD (da_cons (de_var (pv 0)) (da_nil)) rfl)) (dss_one (ds_ret seeHide (de_call F_met_of (hr.mono (by first | decide | omega)) (by rfl) c_met_of.mg c_met_of.kp c_met_of.b takesD (da_cons (de_var (pv 0)) (da_nil)) rfl)))
theorem ok__law_is_told (T : Txt P w K mg cl) {a__law_is_told : Addr} {fd__law_is_told : FuncData} (G__law_is_told : Fun K "_law_is_told" "_law_is_told" s__law_is_told a__law_is_told fd__law_is_told)
    {a__law_same : Addr} {fd__law_same : FuncData} (c__law_same : Cal K mg "_law_same" a__law_same fd__law_same ["_law_found", "_law_due"]) (F__law_same : FnOk P w K mg base (L2.CX P w) 13 a__law_same fd__law_same ["_law_found", "_law_due"] (spD K cl (MemS K cl) 2 (m__law_same_v2 12)))
    {a_stock_met : Addr} {fd_stock_met : FuncData} (c_stock_met : Cal K mg "stock_met" a_stock_met fd_stock_met ["stocks"]) (F_stock_met : FnOk P w K mg base (L2.CX P w) 5 a_stock_met fd_stock_met ["stocks"] (spD K cl (MemS K cl) 1 m_stock_met))
    {a_stock_points : Addr} {fd_stock_points : FuncData} (c_stock_points : Cal K mg "stock_points" a_stock_points fd_stock_points ["stocks"]) (F_stock_points : FnOk P w K mg base (L2.CX P w) 5 a_stock_points fd_stock_points ["stocks"] (spD K cl (MemS K cl) 1 m_stock_points)) : FnOk P w K mg base (L2.CX P w) 14 a__law_is_told fd__law_is_told ["_law_rows", "_law_due"] (spD K cl (MemS K cl) 2 m__law_is_told) := by
  refine FnOk.mono (fn_ok (k := 13) G__law_is_told sc__law_is_told rfl fun cdv A outer s H E hr => ?_) (by omega)
  exact dss_one (ds_ret seeHide (de_call F__law_same (hr.mono (by first | decide | omega)) (by rfl) c__law_same.mg c__law_same.kp c__law_same.b takesD (da_cons (de_tup (da_cons (de_call F_stock_points (hr.mono (by first | decide | omega)) (by rfl) c_stock_points.mg c_stock_points.kp c_stock_points.b takesD (da_cons (de_var (pv 0)) (da_nil)) rfl) (da_cons (de_call F_stock_met (hr.mono (by first | decide | omega)) (by rfl) c_stock_met.mg c_stock_met.kp c_stock_met.b takesD (da_cons (de_var (pv 0)) (da_nil)) rfl) (da_nil)))) (da_cons (de_var (pv 1)) (da_nil))) rfl))
theorem law_body (T : Txt P w K mg cl) {a_law : Addr} {cdv : Value} {A : Around} {outer : List PySem.Env} {s : Shared} {H : Hp} {E : XK} (hr : Room 14 (A.deeper (envOfC "law" (defScope s_law) s.heap.objs.size a_law cdv)))
    {a__law_dues : Addr} {fd__law_dues : FuncData} (c__law_dues : Cal K mg "_law_dues" a__law_dues fd__law_dues ["_law_rows"]) (F__law_dues : FnOk P w K mg base (L2.CX P w) 2 a__law_dues fd__law_dues ["_law_rows"] (spD K cl (MemS K cl) 1 m__law_dues))
    {a__law_is_told : Addr} {fd__law_is_told : FuncData} (c__law_is_told : Cal K mg "_law_is_told" a__law_is_told fd__law_is_told ["_law_rows", "_law_due"]) (F__law_is_told : FnOk P w K mg base (L2.CX P w) 14 a__law_is_told fd__law_is_told ["_law_rows", "_law_due"] (spD K cl (MemS K cl) 2 m__law_is_told))
    {a__law_names : Addr} {fd__law_names : FuncData} (c__law_names : Cal K mg "_law_names" a__law_names fd__law_names ["_law_source_here", "_law_many"]) (F__law_names : FnOk P w K mg base (L2.CX P w) 2 a__law_names fd__law_names ["_law_source_here", "_law_many"] (spD K cl (MemS K cl) 2 m__law_names))
    {a__law_row : Addr} {fd__law_row : FuncData} (c__law_row : Cal K mg "_law_row" a__law_row fd__law_row ["_law_source_here", "_law_names_here"]) (F__law_row : FnOk P w K mg base (L2.CX P w) 3 a__law_row fd__law_row ["_law_source_here", "_law_names_here"] (spD K cl (MemS K cl) 2 m__law_row))
    {a__law_same : Addr} {fd__law_same : FuncData} (c__law_same : Cal K mg "_law_same" a__law_same fd__law_same ["_law_found", "_law_due"]) (F__law_same : FnOk P w K mg base (L2.CX P w) 13 a__law_same fd__law_same ["_law_found", "_law_due"] (spD K cl (MemS K cl) 2 (m__law_same_v2 12)))
    {a__law_source : Addr} {fd__law_source : FuncData} (c__law_source : Cal K mg "_law_source" a__law_source fd__law_source ["_law_script", "_law_at"]) (F__law_source : FnOk P w K mg base (L2.CX P w) 1 a__law_source fd__law_source ["_law_script", "_law_at"] (spD K cl (MemS K cl) 2 m__law_source))
    {a__law_take : Addr} {fd__law_take : FuncData} (c__law_take : Cal K mg "_law_take" a__law_take fd__law_take ["_law_source_here", "_law_many"]) (F__law_take : FnOk P w K mg base (L2.CX P w) 1 a__law_take fd__law_take ["_law_source_here", "_law_many"] (spD K cl (MemS K cl) 2 m__law_take))
    {a_stock_met : Addr} {fd_stock_met : FuncData} (c_stock_met : Cal K mg "stock_met" a_stock_met fd_stock_met ["stocks"]) (F_stock_met : FnOk P w K mg base (L2.CX P w) 5 a_stock_met fd_stock_met ["stocks"] (spD K cl (MemS K cl) 1 m_stock_met))
    {a_stock_points : Addr} {fd_stock_points : FuncData} (c_stock_points : Cal K mg "stock_points" a_stock_points fd_stock_points ["stocks"]) (F_stock_points : FnOk P w K mg base (L2.CX P w) 5 a_stock_points fd_stock_points ["stocks"] (spD K cl (MemS K cl) 1 m_stock_points)) :
    DSs cl (MemS K cl) (WD E) (CXD P w K mg base N_law "law" s_law a_law cdv A outer s H E) (defBody s_law) b_L74_law := dss_cons (ds_set (i := 1) sc_law.nd rfl (by first | exact Or.inl rfl | exact Or.inr rfl) (de_call F__law_source (hr.mono (by first | decide | omega)) (by rfl) c__law_source.mg c__law_source.kp c__law_source.b takesD (da_cons (de_var (pv 0)) (da_cons (de_int) (da_nil))) rfl)) (dss_cons (ds_set (i := 2) sc_law.nd rfl (by first | exact Or.inl rfl | exact Or.inr rfl) (de_call F__law_names (hr.mono (by first | decide | omega)) (by rfl) c__law_names.mg c__law_names.kp c__law_names.b takesD (da_cons (de_var (pv 1)) (da_cons (de_op op_addA v_add (de_int) (de_call F__law_take (hr.mono (by first | decide | omega)) (by rfl) c__law_take.mg c__law_take.kp c__law_take.b takesD (da_cons (de_var (pv 1)) (da_cons (de_int) (da_nil))) rfl)) (da_nil))) rfl)) (dss_cons (ds_setLc (i := 3) (own := [("_law_k", 13)]) rfl sc_law.nd rfl rfl (sw_true rfl rfl rfl (by decide +kernel)) (di_range1 (by rfl) T.b_range (de_op op_addA v_add (de_int) (de_call F__law_take (hr.mono (by first | decide | omega)) (by rfl) c__law_take.mg c__law_take.kp c__law_take.b takesD (da_cons (de_var (pv 1)) (da_cons (de_int) (da_nil))) rfl))) (blkOk_by (own := [("_law_k", 13)]) (N := N_law) (sc := defScope s_law) (by decide +kernel)) (fun _ _ _ _ _ => dg_name (i := 13) sc_law.nd rfl (by first | exact Or.inl rfl | exact Or.inr rfl)) (in_name (by decide)) (fun _ _ _ _ _ => dts_nil) (fun _ _ _ _ _ => de_call F__law_row (hr.mono (by first | decide | omega)) (by rfl) c__law_row.mg c__law_row.kp c__law_row.b takes0 (da_cons (de_var (pv 1)) (da_cons (de_var (pv 2)) (da_nil))) rfl)) (dss_cons (ds_for passesD rfl (di_range2 (by rfl) T.b_range (de_int) (de_callB (call_min2 rfl) v_min2 (by rfl) T.b_min PyProof.Rows.boot_min (da_cons (de_int) (da_cons (de_callB (c_len ⟨T.wp, T.ww⟩) v_len (by rfl) T.b_len PySem.boot_len (da_cons (de_var (pv 0)) (da_nil))) (da_nil))))) (dg_name (i := 4) sc_law.nd rfl (by first | exact Or.inl rfl | exact Or.inr rfl)) (dss_one (ds_set (i := 3) sc_law.nd rfl (by first | exact Or.inl rfl | exact Or.inr rfl) (de_slice (de_op op_addA v_add (de_var (pv 3)) (de_lst (da_cons (de_call F__law_row (hr.mono (by first | decide | omega)) (by rfl) c__law_row.mg c__law_row.kp c__law_row.b takesD (da_cons (de_call F__law_source (hr.mono (by first | decide | omega)) (by rfl) c__law_source.mg c__law_source.kp c__law_source.b takesD (da_cons (de_var (pv 0)) (da_cons (de_var (pv 4)) (da_nil))) rfl) (da_cons (de_var (pv 2)) (da_nil))) rfl) (da_nil)))) (do_some (de_un un_neg v_neg (de_int))) (do_none))))) (dss_cons (ds_if seeHide (dt_cmp (op_eqD (hu64 (hu65 hr))) v_eq (by with_unfolding_all rfl) (de_call F__law_take (hr.mono (by first | decide | omega)) (by rfl) c__law_take.mg c__law_take.kp c__law_take.b takesD (da_cons (de_var (pv 1)) (da_cons (de_int) (da_nil))) rfl) (de_int)) (dss_one (ds_set (i := 3) sc_law.nd rfl (by first | exact Or.inl rfl | exact Or.inr rfl) (de_slice (de_op op_mulA v_mul (de_var (pv 3)) (de_int)) (do_none) (do_some (de_int))))) (dss_nil)) (dss_cons (ds_asg (de_call F__law_dues (hr.mono (by first | decide | omega)) (by rfl) c__law_dues.mg c__law_dues.kp c__law_dues.b takesD (da_cons (de_var (pv 3)) (da_nil)) rfl) (dg_tup rfl (dgs_cons (dg_name (i := 10) sc_law.nd rfl (by first | exact Or.inl rfl | exact Or.inr rfl)) (dgs_cons (dg_name (i := 11) sc_law.nd rfl (by first | exact Or.inl rfl | exact Or.inr rfl)) (dgs_nil))) (aCons_len (aCons_len aNil_len)))) (dss_cons (ds_if seeHide (dt_of_dw (dw_or (dt_cmp op_gt v_gt (by with_unfolding_all rfl) (de_var (pv 10)) (de_var (pv 11))) (dw_or (dt_not (dt_truth (de_call F__law_is_told (hr.mono (by first | decide | omega)) (by rfl) c__law_is_told.mg c__law_is_told.kp c__law_is_told.b takesD (da_cons (de_var (pv 3)) (da_cons (de_tup (da_cons (de_var (pv 10)) (da_cons (de_var (pv 11)) (da_nil)))) (da_nil))) rfl))) (dw_or1 (dt_not (dt_truth (de_call F__law_is_told (hr.mono (by first | decide | omega)) (by rfl) c__law_is_told.mg c__law_is_told.kp c__law_is_told.b takesD (da_cons (de_callTy call_tuple_of v_tuple (by rfl) T.b_tuple PyProof.Rows.boot_tuple (da_cons (de_rev (de_var (pv 3)) pe_m1) (da_nil))) (da_cons (de_tup (da_cons (de_var (pv 10)) (da_cons (de_var (pv 11)) (da_nil)))) (da_nil))) rfl))))))) (dss_one (ds_ret seeHide (de_bl))) (dss_nil)) (dss_cons (ds_set (i := 5) sc_law.nd rfl (by first | exact Or.inl rfl | exact Or.inr rfl) (de_op op_addA v_add (de_int) (de_call F__law_take (hr.mono (by first | decide | omega)) (by rfl) c__law_take.mg c__law_take.kp c__law_take.b takesD (da_cons (de_var (pv 1)) (da_cons (de_int) (da_nil))) rfl))) (dss_cons (ds_set (i := 6) sc_law.nd rfl (by first | exact Or.inl rfl | exact Or.inr rfl) (de_tup (da_cons (de_op op_mulA v_mul (de_var (pv 5)) (de_var (pv 10))) (da_cons (de_op op_mulA v_mul (de_var (pv 5)) (de_var (pv 11))) (da_nil))))) (dss_cons (ds_if seeHide (dt_not (dt_truth (de_call F__law_is_told (hr.mono (by first | decide | omega)) (by rfl) c__law_is_told.mg c__law_is_told.kp c__law_is_told.b takesD (da_cons (de_comp (own := [("_law_name", 8), ("_law_side", 15), ("_law_points", 16), ("_law_many", 17)]) rfl sc_law.nd (di_any (de_var (pv 3))) (blkOk_by (own := [("_law_name", 8), ("_law_side", 15), ("_law_points", 16), ("_law_many", 17)]) (N := N_law) (sc := defScope s_law) (by decide +kernel)) (fun _ _ _ _ _ => dg_tup rfl (dgs_cons (dg_name (i := 8) sc_law.nd rfl (by first | exact Or.inl rfl | exact Or.inr rfl)) (dgs_cons (dg_name (i := 15) sc_law.nd rfl (by first | exact Or.inl rfl | exact Or.inr rfl)) (dgs_cons (dg_name (i := 16) sc_law.nd rfl (by first | exact Or.inl rfl | exact Or.inr rfl)) (dgs_cons (dg_name (i := 17) sc_law.nd rfl (by first | exact Or.inl rfl | exact Or.inr rfl)) (dgs_nil))))) (aCons_len (aCons_len (aCons_len (aCons_len aNil_len))))) (in_tup (in_cons (in_name (by decide)) (in_cons (in_name (by decide)) (in_cons (in_name (by decide)) (in_cons (in_name (by decide)) (in_nil)))))) (fun _ _ _ _ _ => dts_nil) (fun _ _ _ _ _ => de_tup (da_cons (de_var (pv 8)) (da_cons (de_var (pv 15)) (da_cons (de_var (pv 16)) (da_cons (de_op op_mulA v_mul (de_var (pv 17)) (de_var (pv 5))) (da_nil))))))) (da_cons (de_var (pv 6)) (da_nil))) rfl))) (dss_one (ds_ret seeHide (de_bl))) (dss_nil)) (dss_cons (ds_if seeHide (dt_not (dt_truth (de_call F__law_is_told (hr.mono (by first | decide | omega)) (by rfl) c__law_is_told.mg c__law_is_told.kp c__law_is_told.b takesD (da_cons (de_comp (own := [("_law_name", 8), ("_law_side", 15), ("_law_points", 16), ("_law_many", 17)]) rfl sc_law.nd (di_any (de_var (pv 3))) (blkOk_by (own := [("_law_name", 8), ("_law_side", 15), ("_law_points", 16), ("_law_many", 17)]) (N := N_law) (sc := defScope s_law) (by decide +kernel)) (fun _ _ _ _ _ => dg_tup rfl (dgs_cons (dg_name (i := 8) sc_law.nd rfl (by first | exact Or.inl rfl | exact Or.inr rfl)) (dgs_cons (dg_name (i := 15) sc_law.nd rfl (by first | exact Or.inl rfl | exact Or.inr rfl)) (dgs_cons (dg_name (i := 16) sc_law.nd rfl (by first | exact Or.inl rfl | exact Or.inr rfl)) (dgs_cons (dg_name (i := 17) sc_law.nd rfl (by first | exact Or.inl rfl | exact Or.inr rfl)) (dgs_nil))))) (aCons_len (aCons_len (aCons_len (aCons_len aNil_len))))) (in_tup (in_cons (in_name (by decide)) (in_cons (in_name (by decide)) (in_cons (in_name (by decide)) (in_cons (in_name (by decide)) (in_nil)))))) (fun _ _ _ _ _ => dts_nil) (fun _ _ _ _ _ => de_tup (da_cons (de_var (pv 8)) (da_cons (de_var (pv 15)) (da_cons (de_op op_mulA v_mul (de_var (pv 16)) (de_var (pv 5))) (da_cons (de_var (pv 17)) (da_nil))))))) (da_cons (de_var (pv 6)) (da_nil))) rfl))) (dss_one (ds_ret seeHide (de_bl))) (dss_nil)) (dss_cons (ds_own (i := 7) sc_law.nd rfl (by first | exact Or.inl rfl | exact Or.inr rfl) (dm_of_dx (dx_lst (da_cons (de_int) (da_cons (de_int) (da_nil)))))) (dss_cons (ds_for passesD rfl (di_any (de_sortSet (dx_sortSet rfl (by rfl) T.b_sorted (by rfl) T.b_set (de_comp (own := [("_law_row_here", 14)]) rfl sc_law.nd (di_any (de_var (pv 3))) (blkOk_by (own := [("_law_row_here", 14)]) (N := N_law) (sc := defScope s_law) (by decide +kernel)) (fun _ _ _ _ _ => dg_name (i := 14) sc_law.nd rfl (by first | exact Or.inl rfl | exact Or.inr rfl)) (in_name (by decide)) (fun _ _ _ _ _ => dts_nil) (fun _ _ _ _ _ => de_ix ⟨T.wp, T.ww⟩ (hu65 hr) (de_var (pv 14)) (de_int)))))) (dg_name (i := 8) sc_law.nd rfl (by first | exact Or.inl rfl | exact Or.inr rfl)) (dss_cons (ds_setLc (i := 12) (own := [("_law_row_here", 14)]) rfl sc_law.nd rfl rfl (sw_true rfl rfl rfl (by decide +kernel)) (di_any (de_var (pv 3))) (blkOk_by (own := [("_law_row_here", 14)]) (N := N_law) (sc := defScope s_law) (by decide +kernel)) (fun _ _ _ _ _ => dg_name (i := 14) sc_law.nd rfl (by first | exact Or.inl rfl | exact Or.inr rfl)) (in_name (by decide)) (fun _ _ _ _ _ => dts_one (dt_cmp (op_eqD (hu64 (hu65 hr))) v_eq (by with_unfolding_all rfl) (de_ix ⟨T.wp, T.ww⟩ (hu65 hr) (de_var (pv 14)) (de_int)) (de_var (pv 8)))) (fun _ _ _ _ _ => de_var (pv 14))) (dss_cons (ds_putL (i := 7) seeAll kpImm (pv 7) (de_int) (de_op op_addA v_add (de_ix ⟨T.wp, T.ww⟩ (hu65 hr) (de_var (pv 7)) (de_int)) (de_call F_stock_points (hr.mono (by first | decide | omega)) (by rfl) c_stock_points.mg c_stock_points.kp c_stock_points.b takesD (da_cons (de_var (pv 12)) (da_nil)) rfl))) (dss_one (ds_putL (i := 7) seeAll kpImm (pv 7) (de_int) (de_op op_addA v_add (de_ix ⟨T.wp, T.ww⟩ (hu65 hr) (de_var (pv 7)) (de_int)) (de_call F_stock_met (hr.mono (by first | decide | omega)) (by rfl) c_stock_met.mg c_stock_met.kp c_stock_met.b takesD (da_cons (de_var (pv 12)) (da_nil)) rfl))))))) (dss_frz (i := 7) (dss_cons (ds_if seeHide (dt_not (dt_truth (de_call F__law_same (hr.mono (by first | decide | omega)) (by rfl) c__law_same.mg c__law_same.kp c__law_same.b takesD (da_cons (de_callTy call_tuple_of v_tuple (by rfl) T.b_tuple PyProof.Rows.boot_tuple (da_cons (de_var (pv 7)) (da_nil))) (da_cons (de_tup (da_cons (de_var (pv 10)) (da_cons (de_var (pv 11)) (da_nil)))) (da_nil))) rfl))) (dss_one (ds_ret seeHide (de_bl))) (dss_nil)) (dss_cons (ds_set (i := 9) sc_law.nd rfl (by first | exact Or.inl rfl | exact Or.inr rfl) (de_op op_addA v_add (de_slice (de_var (pv 3)) (do_none) (do_some (de_int))) (de_lst (da_cons (de_call F__law_row (hr.mono (by first | decide | omega)) (by rfl) c__law_row.mg c__law_row.kp c__law_row.b takesD (da_cons (de_var (pv 1)) (da_cons (de_var (pv 2)) (da_nil))) rfl) (da_nil))))) (dss_cons (ds_if seeHide (dt_cmp (op_eqD (hu64 (hu65 hr))) v_eq (by with_unfolding_all rfl) (de_callB (c_len ⟨T.wp, T.ww⟩) v_len (by rfl) T.b_len PySem.boot_len (da_cons (de_var (pv 3)) (da_nil))) (de_int)) (dss_one (ds_set (i := 3) sc_law.nd rfl (by first | exact Or.inl rfl | exact Or.inr rfl) (de_slice (de_var (pv 3)) (do_none) (do_some (de_int))))) (dss_nil)) (dss_one (ds_ret seeHide (de_and (de_call F__law_is_told (hr.mono (by first | decide | omega)) (by rfl) c__law_is_told.mg c__law_is_told.kp c__law_is_told.b takesD (da_cons (de_var (pv 9)) (da_cons (de_call F__law_dues (hr.mono (by first | decide | omega)) (by rfl) c__law_dues.mg c__law_dues.kp c__law_dues.b takesD (da_cons (de_var (pv 9)) (da_nil)) rfl) (da_nil))) rfl) (de_and (de_cmp op_ge v_ge (by with_unfolding_all rfl) (de_call F_stock_points (hr.mono (by first | decide | omega)) (by rfl) c_stock_points.mg c_stock_points.kp c_stock_points.b takesD (da_cons (de_var (pv 9)) (da_nil)) rfl) (de_call F_stock_points (hr.mono (by first | decide | omega)) (by rfl) c_stock_points.mg c_stock_points.kp c_stock_points.b takesD (da_cons (de_var (pv 3)) (da_nil)) rfl)) (de_one (de_cmp op_ge v_ge (by with_unfolding_all rfl) (de_call F_stock_met (hr.mono (by first | decide | omega)) (by rfl) c_stock_met.mg c_stock_met.kp c_stock_met.b takesD (da_cons (de_var (pv 9)) (da_nil)) rfl) (de_call F_stock_met (hr.mono (by first | decide | omega)) (by rfl) c_stock_met.mg c_stock_met.kp c_stock_met.b takesD (da_cons (de_var (pv 3)) (da_nil)) rfl)))))))))))))))))))))))
end
end LW
namespace LW
open PySem PySem.Spec PyProof.Rows L2 RZ DN
section
variable {P : Program} {w : World} {K : PySem.W.Frag} {mg : Str → Option Value} {base : Heap} {cl : CTab}
theorem ok_law (T : Txt P w K mg cl) (nl : noLists K = true)
    {a_law : Addr} {fd_law : FuncData} (G_law : Fun K "law" "law" s_law a_law fd_law)
    {a__law_dues : Addr} {fd__law_dues : FuncData} (c__law_dues : Cal K mg "_law_dues" a__law_dues fd__law_dues ["_law_rows"]) (F__law_dues : FnOk P w K mg base (L2.CX P w) 2 a__law_dues fd__law_dues ["_law_rows"] (spD K cl (MemS K cl) 1 m__law_dues))
    {a__law_is_told : Addr} {fd__law_is_told : FuncData} (c__law_is_told : Cal K mg "_law_is_told" a__law_is_told fd__law_is_told ["_law_rows", "_law_due"]) (F__law_is_told : FnOk P w K mg base (L2.CX P w) 14 a__law_is_told fd__law_is_told ["_law_rows", "_law_due"] (spD K cl (MemS K cl) 2 m__law_is_told))
    {a__law_names : Addr} {fd__law_names : FuncData} (c__law_names : Cal K mg "_law_names" a__law_names fd__law_names ["_law_source_here", "_law_many"]) (F__law_names : FnOk P w K mg base (L2.CX P w) 2 a__law_names fd__law_names ["_law_source_here", "_law_many"] (spD K cl (MemS K cl) 2 m__law_names))
    {a__law_row : Addr} {fd__law_row : FuncData} (c__law_row : Cal K mg "_law_row" a__law_row fd__law_row ["_law_source_here", "_law_names_here"]) (F__law_row : FnOk P w K mg base (L2.CX P w) 3 a__law_row fd__law_row ["_law_source_here", "_law_names_here"] (spD K cl (MemS K cl) 2 m__law_row))
    {a__law_same : Addr} {fd__law_same : FuncData} (c__law_same : Cal K mg "_law_same" a__law_same fd__law_same ["_law_found", "_law_due"]) (F__law_same : FnOk P w K mg base (L2.CX P w) 13 a__law_same fd__law_same ["_law_found", "_law_due"] (spD K cl (MemS K cl) 2 (m__law_same_v2 12)))
    {a__law_source : Addr} {fd__law_source : FuncData} (c__law_source : Cal K mg "_law_source" a__law_source fd__law_source ["_law_script", "_law_at"]) (F__law_source : FnOk P w K mg base (L2.CX P w) 1 a__law_source fd__law_source ["_law_script", "_law_at"] (spD K cl (MemS K cl) 2 m__law_source))
    {a__law_take : Addr} {fd__law_take : FuncData} (c__law_take : Cal K mg "_law_take" a__law_take fd__law_take ["_law_source_here", "_law_many"]) (F__law_take : FnOk P w K mg base (L2.CX P w) 1 a__law_take fd__law_take ["_law_source_here", "_law_many"] (spD K cl (MemS K cl) 2 m__law_take))
    {a_stock_met : Addr} {fd_stock_met : FuncData} (c_stock_met : Cal K mg "stock_met" a_stock_met fd_stock_met ["stocks"]) (F_stock_met : FnOk P w K mg base (L2.CX P w) 5 a_stock_met fd_stock_met ["stocks"] (spD K cl (MemS K cl) 1 m_stock_met))
    {a_stock_points : Addr} {fd_stock_points : FuncData} (c_stock_points : Cal K mg "stock_points" a_stock_points fd_stock_points ["stocks"]) (F_stock_points : FnOk P w K mg base (L2.CX P w) 5 a_stock_points fd_stock_points ["stocks"] (spD K cl (MemS K cl) 1 m_stock_points)) : FnOk P w K mg base (L2.CX P w) 15 a_law fd_law ["_law_script"] (spLaw K) := by
  refine G_law.okX sc_law (fun vs H Q E h => spLaw_len vs H Q E h) fun cdv A outer s H vs Q E hr h => ?_
  refine ⟨_, law_body T (hr.mono (by decide)) c__law_dues F__law_dues c__law_is_told F__law_is_told c__law_names F__law_names c__law_row F__law_row c__law_same F__law_same c__law_source F__law_source c__law_take F__law_take c_stock_met F_stock_met c_stock_points F_stock_points, ?_⟩
  obtain ⟨a, ns, rfl, hS, hl, k⟩ := h
  exact law_startV (m := 18) (a := a) (by rfl) (sqR_of nl hS) hl (law_true hl) k
end
theorem all_mk {l : PySem.W.OpenLaw} {w : World} {K : PySem.W.Frag} {h : Heap} {mg : Str → Option Value} {fa : Addr} {C_NoStocks : Addr} {f__law_source : Addr} {f__law_take : Addr} {f__law_names : Addr} {f__law_falling : Addr} {f__law_paired : Addr} {f__law_dues : Addr} {f__law_number : Addr} {f__law_row : Addr} {f__law_is_int : Addr} {f__law_same : Addr} {f_is_listed : Addr} {f_is_integer : Addr} {f_is_within : Addr} {f_is_letters : Addr} {f_is_name : Addr} {f_is_stock : Addr} {f_check_stocks : Addr} {f_names_of : Addr} {f_points_by_levels : Addr} {f_stock_points : Addr} {f_met_of : Addr} {f_stock_met : Addr} {f__law_is_told : Addr} {f_law : Addr} (X : K.In h) (G : h.Ns mainGlobals mg) (hfa : mg "law" = some (.ref fa))
    {od__law_source an__law_source : Option Addr} {sl__law_source : Array (Option Value)} {oc__law_source kV__law_source dc__law_source pm__law_source cd__law_source ct__law_source : Value} {od__law_take an__law_take : Option Addr} {sl__law_take : Array (Option Value)} {oc__law_take kV__law_take dc__law_take pm__law_take cd__law_take ct__law_take : Value} {od__law_names an__law_names : Option Addr} {sl__law_names : Array (Option Value)} {oc__law_names kV__law_names dc__law_names pm__law_names cd__law_names ct__law_names : Value} {od__law_falling an__law_falling : Option Addr} {sl__law_falling : Array (Option Value)} {oc__law_falling kV__law_falling dc__law_falling pm__law_falling cd__law_falling ct__law_falling : Value} {od__law_paired an__law_paired : Option Addr} {sl__law_paired : Array (Option Value)} {oc__law_paired kV__law_paired dc__law_paired pm__law_paired cd__law_paired ct__law_paired : Value} {od__law_dues an__law_dues : Option Addr} {sl__law_dues : Array (Option Value)} {oc__law_dues kV__law_dues dc__law_dues pm__law_dues cd__law_dues ct__law_dues : Value} {od__law_number an__law_number : Option Addr} {sl__law_number : Array (Option Value)} {oc__law_number kV__law_number dc__law_number pm__law_number cd__law_number ct__law_number : Value} {od__law_row an__law_row : Option Addr} {sl__law_row : Array (Option Value)} {oc__law_row kV__law_row dc__law_row pm__law_row cd__law_row ct__law_row : Value} {od__law_is_int an__law_is_int : Option Addr} {sl__law_is_int : Array (Option Value)} {oc__law_is_int kV__law_is_int dc__law_is_int pm__law_is_int cd__law_is_int ct__law_is_int : Value} {od__law_same an__law_same : Option Addr} {sl__law_same : Array (Option Value)} {oc__law_same kV__law_same dc__law_same pm__law_same cd__law_same ct__law_same : Value} {od_is_listed an_is_listed : Option Addr} {sl_is_listed : Array (Option Value)} {oc_is_listed kV_is_listed dc_is_listed pm_is_listed cd_is_listed ct_is_listed : Value} {od_is_integer an_is_integer : Option Addr} {sl_is_integer : Array (Option Value)} {oc_is_integer kV_is_integer dc_is_integer pm_is_integer cd_is_integer ct_is_integer : Value} {od_is_within an_is_within : Option Addr} {sl_is_within : Array (Option Value)} {oc_is_within kV_is_within dc_is_within pm_is_within cd_is_within ct_is_within : Value} {od_is_letters an_is_letters : Option Addr} {sl_is_letters : Array (Option Value)} {oc_is_letters kV_is_letters dc_is_letters pm_is_letters cd_is_letters ct_is_letters : Value} {od_is_name an_is_name : Option Addr} {sl_is_name : Array (Option Value)} {oc_is_name kV_is_name dc_is_name pm_is_name cd_is_name ct_is_name : Value} {od_is_stock an_is_stock : Option Addr} {sl_is_stock : Array (Option Value)} {oc_is_stock kV_is_stock dc_is_stock pm_is_stock cd_is_stock ct_is_stock : Value} {od_check_stocks an_check_stocks : Option Addr} {sl_check_stocks : Array (Option Value)} {oc_check_stocks kV_check_stocks dc_check_stocks pm_check_stocks cd_check_stocks ct_check_stocks : Value} {od_names_of an_names_of : Option Addr} {sl_names_of : Array (Option Value)} {oc_names_of kV_names_of dc_names_of pm_names_of cd_names_of ct_names_of : Value} {od_points_by_levels an_points_by_levels : Option Addr} {sl_points_by_levels : Array (Option Value)} {oc_points_by_levels kV_points_by_levels dc_points_by_levels pm_points_by_levels cd_points_by_levels ct_points_by_levels : Value} {od_stock_points an_stock_points : Option Addr} {sl_stock_points : Array (Option Value)} {oc_stock_points kV_stock_points dc_stock_points pm_stock_points cd_stock_points ct_stock_points : Value} {od_met_of an_met_of : Option Addr} {sl_met_of : Array (Option Value)} {oc_met_of kV_met_of dc_met_of pm_met_of cd_met_of ct_met_of : Value} {od_stock_met an_stock_met : Option Addr} {sl_stock_met : Array (Option Value)} {oc_stock_met kV_stock_met dc_stock_met pm_stock_met cd_stock_met ct_stock_met : Value} {od__law_is_told an__law_is_told : Option Addr} {sl__law_is_told : Array (Option Value)} {oc__law_is_told kV__law_is_told dc__law_is_told pm__law_is_told cd__law_is_told ct__law_is_told : Value} {od_law an_law : Option Addr} {sl_law : Array (Option Value)} {oc_law kV_law dc_law pm_law cd_law ct_law : Value} {tk_LETTERS : Tok} {tk_MOST_ALIKE : Tok} {tk_MOST_NAME : Tok} {tk_MOST_POINTS : Tok} {tk_MOST_STOCKS : Tok}
    (nl : noLists K = true)
    (aC_NoStocks : PySem.W.nsIn K mainGlobals "NoStocks" = some (some (.ref C_NoStocks)))
    (bf_NoStocks : PySem.W.subIn K (.ref C_NoStocks) (.type "BaseException") = some true)
    (tf_NoStocks : PySem.W.typeIn K (.ref C_NoStocks) = some (.type "type"))
    (kc_NoStocks : PySem.W.keepIn K (.ref C_NoStocks) = true)
    (xf_NoStocks : PySem.W.excIn K C_NoStocks [.type "ValueError", .type "Exception", .type "BaseException", .type "object"] "ValueError.__new__" = true)
    (a__law_source : PySem.W.nsIn K mainGlobals "_law_source" = some (some (.ref f__law_source)))
    (l__law_source : K.lookup f__law_source = some ⟨oc__law_source, od__law_source, .func (PySem.W.fnOf "_law_source" "_law_source" (defArgs s__law_source) (defBody s__law_source) (defScope s__law_source) .none kV__law_source dc__law_source pm__law_source an__law_source cd__law_source ct__law_source), sl__law_source⟩)
    (c__law_source : PySem.W.codeIn K cd__law_source "_law_source" = true)
    (k__law_source : PySem.W.keepIn K (.ref f__law_source) = true)
    (a__law_take : PySem.W.nsIn K mainGlobals "_law_take" = some (some (.ref f__law_take)))
    (l__law_take : K.lookup f__law_take = some ⟨oc__law_take, od__law_take, .func (PySem.W.fnOf "_law_take" "_law_take" (defArgs s__law_take) (defBody s__law_take) (defScope s__law_take) .none kV__law_take dc__law_take pm__law_take an__law_take cd__law_take ct__law_take), sl__law_take⟩)
    (c__law_take : PySem.W.codeIn K cd__law_take "_law_take" = true)
    (k__law_take : PySem.W.keepIn K (.ref f__law_take) = true)
    (a__law_names : PySem.W.nsIn K mainGlobals "_law_names" = some (some (.ref f__law_names)))
    (l__law_names : K.lookup f__law_names = some ⟨oc__law_names, od__law_names, .func (PySem.W.fnOf "_law_names" "_law_names" (defArgs s__law_names) (defBody s__law_names) (defScope s__law_names) .none kV__law_names dc__law_names pm__law_names an__law_names cd__law_names ct__law_names), sl__law_names⟩)
    (c__law_names : PySem.W.codeIn K cd__law_names "_law_names" = true)
    (k__law_names : PySem.W.keepIn K (.ref f__law_names) = true)
    (a__law_falling : PySem.W.nsIn K mainGlobals "_law_falling" = some (some (.ref f__law_falling)))
    (l__law_falling : K.lookup f__law_falling = some ⟨oc__law_falling, od__law_falling, .func (PySem.W.fnOf "_law_falling" "_law_falling" (defArgs s__law_falling) (defBody s__law_falling) (defScope s__law_falling) .none kV__law_falling dc__law_falling pm__law_falling an__law_falling cd__law_falling ct__law_falling), sl__law_falling⟩)
    (c__law_falling : PySem.W.codeIn K cd__law_falling "_law_falling" = true)
    (k__law_falling : PySem.W.keepIn K (.ref f__law_falling) = true)
    (a__law_paired : PySem.W.nsIn K mainGlobals "_law_paired" = some (some (.ref f__law_paired)))
    (l__law_paired : K.lookup f__law_paired = some ⟨oc__law_paired, od__law_paired, .func (PySem.W.fnOf "_law_paired" "_law_paired" (defArgs s__law_paired) (defBody s__law_paired) (defScope s__law_paired) .none kV__law_paired dc__law_paired pm__law_paired an__law_paired cd__law_paired ct__law_paired), sl__law_paired⟩)
    (c__law_paired : PySem.W.codeIn K cd__law_paired "_law_paired" = true)
    (k__law_paired : PySem.W.keepIn K (.ref f__law_paired) = true)
    (a__law_dues : PySem.W.nsIn K mainGlobals "_law_dues" = some (some (.ref f__law_dues)))
    (l__law_dues : K.lookup f__law_dues = some ⟨oc__law_dues, od__law_dues, .func (PySem.W.fnOf "_law_dues" "_law_dues" (defArgs s__law_dues) (defBody s__law_dues) (defScope s__law_dues) .none kV__law_dues dc__law_dues pm__law_dues an__law_dues cd__law_dues ct__law_dues), sl__law_dues⟩)
    (c__law_dues : PySem.W.codeIn K cd__law_dues "_law_dues" = true)
    (k__law_dues : PySem.W.keepIn K (.ref f__law_dues) = true)
    (a__law_number : PySem.W.nsIn K mainGlobals "_law_number" = some (some (.ref f__law_number)))
    (l__law_number : K.lookup f__law_number = some ⟨oc__law_number, od__law_number, .func (PySem.W.fnOf "_law_number" "_law_number" (defArgs s__law_number) (defBody s__law_number) (defScope s__law_number) .none kV__law_number dc__law_number pm__law_number an__law_number cd__law_number ct__law_number), sl__law_number⟩)
    (c__law_number : PySem.W.codeIn K cd__law_number "_law_number" = true)
    (k__law_number : PySem.W.keepIn K (.ref f__law_number) = true)
    (a__law_row : PySem.W.nsIn K mainGlobals "_law_row" = some (some (.ref f__law_row)))
    (l__law_row : K.lookup f__law_row = some ⟨oc__law_row, od__law_row, .func (PySem.W.fnOf "_law_row" "_law_row" (defArgs s__law_row) (defBody s__law_row) (defScope s__law_row) .none kV__law_row dc__law_row pm__law_row an__law_row cd__law_row ct__law_row), sl__law_row⟩)
    (c__law_row : PySem.W.codeIn K cd__law_row "_law_row" = true)
    (k__law_row : PySem.W.keepIn K (.ref f__law_row) = true)
    (a__law_is_int : PySem.W.nsIn K mainGlobals "_law_is_int" = some (some (.ref f__law_is_int)))
    (l__law_is_int : K.lookup f__law_is_int = some ⟨oc__law_is_int, od__law_is_int, .func (PySem.W.fnOf "_law_is_int" "_law_is_int" (defArgs s__law_is_int) (defBody s__law_is_int) (defScope s__law_is_int) .none kV__law_is_int dc__law_is_int pm__law_is_int an__law_is_int cd__law_is_int ct__law_is_int), sl__law_is_int⟩)
    (c__law_is_int : PySem.W.codeIn K cd__law_is_int "_law_is_int" = true)
    (k__law_is_int : PySem.W.keepIn K (.ref f__law_is_int) = true)
    (a__law_same : PySem.W.nsIn K mainGlobals "_law_same" = some (some (.ref f__law_same)))
    (l__law_same : K.lookup f__law_same = some ⟨oc__law_same, od__law_same, .func (PySem.W.fnOf "_law_same" "_law_same" (defArgs s__law_same) (defBody s__law_same) (defScope s__law_same) .none kV__law_same dc__law_same pm__law_same an__law_same cd__law_same ct__law_same), sl__law_same⟩)
    (c__law_same : PySem.W.codeIn K cd__law_same "_law_same" = true)
    (k__law_same : PySem.W.keepIn K (.ref f__law_same) = true)
    (a_is_listed : PySem.W.nsIn K mainGlobals "is_listed" = some (some (.ref f_is_listed)))
    (l_is_listed : K.lookup f_is_listed = some ⟨oc_is_listed, od_is_listed, .func (PySem.W.fnOf "is_listed" "is_listed" (defArgs s_is_listed) (defBody s_is_listed) (defScope s_is_listed) .none kV_is_listed dc_is_listed pm_is_listed an_is_listed cd_is_listed ct_is_listed), sl_is_listed⟩)
    (c_is_listed : PySem.W.codeIn K cd_is_listed "is_listed" = true)
    (k_is_listed : PySem.W.keepIn K (.ref f_is_listed) = true)
    (a_is_integer : PySem.W.nsIn K mainGlobals "is_integer" = some (some (.ref f_is_integer)))
    (l_is_integer : K.lookup f_is_integer = some ⟨oc_is_integer, od_is_integer, .func (PySem.W.fnOf "is_integer" "is_integer" (defArgs s_is_integer) (defBody s_is_integer) (defScope s_is_integer) .none kV_is_integer dc_is_integer pm_is_integer an_is_integer cd_is_integer ct_is_integer), sl_is_integer⟩)
    (c_is_integer : PySem.W.codeIn K cd_is_integer "is_integer" = true)
    (k_is_integer : PySem.W.keepIn K (.ref f_is_integer) = true)
    (a_is_within : PySem.W.nsIn K mainGlobals "is_within" = some (some (.ref f_is_within)))
    (l_is_within : K.lookup f_is_within = some ⟨oc_is_within, od_is_within, .func (PySem.W.fnOf "is_within" "is_within" (defArgs s_is_within) (defBody s_is_within) (defScope s_is_within) .none kV_is_within dc_is_within pm_is_within an_is_within cd_is_within ct_is_within), sl_is_within⟩)
    (c_is_within : PySem.W.codeIn K cd_is_within "is_within" = true)
    (k_is_within : PySem.W.keepIn K (.ref f_is_within) = true)
    (a_is_letters : PySem.W.nsIn K mainGlobals "is_letters" = some (some (.ref f_is_letters)))
    (l_is_letters : K.lookup f_is_letters = some ⟨oc_is_letters, od_is_letters, .func (PySem.W.fnOf "is_letters" "is_letters" (defArgs s_is_letters) (defBody s_is_letters) (defScope s_is_letters) .none kV_is_letters dc_is_letters pm_is_letters an_is_letters cd_is_letters ct_is_letters), sl_is_letters⟩)
    (c_is_letters : PySem.W.codeIn K cd_is_letters "is_letters" = true)
    (k_is_letters : PySem.W.keepIn K (.ref f_is_letters) = true)
    (a_is_name : PySem.W.nsIn K mainGlobals "is_name" = some (some (.ref f_is_name)))
    (l_is_name : K.lookup f_is_name = some ⟨oc_is_name, od_is_name, .func (PySem.W.fnOf "is_name" "is_name" (defArgs s_is_name) (defBody s_is_name) (defScope s_is_name) .none kV_is_name dc_is_name pm_is_name an_is_name cd_is_name ct_is_name), sl_is_name⟩)
    (c_is_name : PySem.W.codeIn K cd_is_name "is_name" = true)
    (k_is_name : PySem.W.keepIn K (.ref f_is_name) = true)
    (a_is_stock : PySem.W.nsIn K mainGlobals "is_stock" = some (some (.ref f_is_stock)))
    (l_is_stock : K.lookup f_is_stock = some ⟨oc_is_stock, od_is_stock, .func (PySem.W.fnOf "is_stock" "is_stock" (defArgs s_is_stock) (defBody s_is_stock) (defScope s_is_stock) .none kV_is_stock dc_is_stock pm_is_stock an_is_stock cd_is_stock ct_is_stock), sl_is_stock⟩)
    (c_is_stock : PySem.W.codeIn K cd_is_stock "is_stock" = true)
    (k_is_stock : PySem.W.keepIn K (.ref f_is_stock) = true)
    (a_check_stocks : PySem.W.nsIn K mainGlobals "check_stocks" = some (some (.ref f_check_stocks)))
    (l_check_stocks : K.lookup f_check_stocks = some ⟨oc_check_stocks, od_check_stocks, .func (PySem.W.fnOf "check_stocks" "check_stocks" (defArgs s_check_stocks) (defBody s_check_stocks) (defScope s_check_stocks) .none kV_check_stocks dc_check_stocks pm_check_stocks an_check_stocks cd_check_stocks ct_check_stocks), sl_check_stocks⟩)
    (c_check_stocks : PySem.W.codeIn K cd_check_stocks "check_stocks" = true)
    (k_check_stocks : PySem.W.keepIn K (.ref f_check_stocks) = true)
    (a_names_of : PySem.W.nsIn K mainGlobals "names_of" = some (some (.ref f_names_of)))
    (l_names_of : K.lookup f_names_of = some ⟨oc_names_of, od_names_of, .func (PySem.W.fnOf "names_of" "names_of" (defArgs s_names_of) (defBody s_names_of) (defScope s_names_of) .none kV_names_of dc_names_of pm_names_of an_names_of cd_names_of ct_names_of), sl_names_of⟩)
    (c_names_of : PySem.W.codeIn K cd_names_of "names_of" = true)
    (k_names_of : PySem.W.keepIn K (.ref f_names_of) = true)
    (a_points_by_levels : PySem.W.nsIn K mainGlobals "points_by_levels" = some (some (.ref f_points_by_levels)))
    (l_points_by_levels : K.lookup f_points_by_levels = some ⟨oc_points_by_levels, od_points_by_levels, .func (PySem.W.fnOf "points_by_levels" "points_by_levels" (defArgs s_points_by_levels) (defBody s_points_by_levels) (defScope s_points_by_levels) .none kV_points_by_levels dc_points_by_levels pm_points_by_levels an_points_by_levels cd_points_by_levels ct_points_by_levels), sl_points_by_levels⟩)
    (c_points_by_levels : PySem.W.codeIn K cd_points_by_levels "points_by_levels" = true)
    (k_points_by_levels : PySem.W.keepIn K (.ref f_points_by_levels) = true)
    (a_stock_points : PySem.W.nsIn K mainGlobals "stock_points" = some (some (.ref f_stock_points)))
    (l_stock_points : K.lookup f_stock_points = some ⟨oc_stock_points, od_stock_points, .func (PySem.W.fnOf "stock_points" "stock_points" (defArgs s_stock_points) (defBody s_stock_points) (defScope s_stock_points) .none kV_stock_points dc_stock_points pm_stock_points an_stock_points cd_stock_points ct_stock_points), sl_stock_points⟩)
    (c_stock_points : PySem.W.codeIn K cd_stock_points "stock_points" = true)
    (k_stock_points : PySem.W.keepIn K (.ref f_stock_points) = true)
    (a_met_of : PySem.W.nsIn K mainGlobals "met_of" = some (some (.ref f_met_of)))
    (l_met_of : K.lookup f_met_of = some ⟨oc_met_of, od_met_of, .func (PySem.W.fnOf "met_of" "met_of" (defArgs s_met_of) (defBody s_met_of) (defScope s_met_of) .none kV_met_of dc_met_of pm_met_of an_met_of cd_met_of ct_met_of), sl_met_of⟩)
    (c_met_of : PySem.W.codeIn K cd_met_of "met_of" = true)
    (k_met_of : PySem.W.keepIn K (.ref f_met_of) = true)
    (a_stock_met : PySem.W.nsIn K mainGlobals "stock_met" = some (some (.ref f_stock_met)))
    (l_stock_met : K.lookup f_stock_met = some ⟨oc_stock_met, od_stock_met, .func (PySem.W.fnOf "stock_met" "stock_met" (defArgs s_stock_met) (defBody s_stock_met) (defScope s_stock_met) .none kV_stock_met dc_stock_met pm_stock_met an_stock_met cd_stock_met ct_stock_met), sl_stock_met⟩)
    (c_stock_met : PySem.W.codeIn K cd_stock_met "stock_met" = true)
    (k_stock_met : PySem.W.keepIn K (.ref f_stock_met) = true)
    (a__law_is_told : PySem.W.nsIn K mainGlobals "_law_is_told" = some (some (.ref f__law_is_told)))
    (l__law_is_told : K.lookup f__law_is_told = some ⟨oc__law_is_told, od__law_is_told, .func (PySem.W.fnOf "_law_is_told" "_law_is_told" (defArgs s__law_is_told) (defBody s__law_is_told) (defScope s__law_is_told) .none kV__law_is_told dc__law_is_told pm__law_is_told an__law_is_told cd__law_is_told ct__law_is_told), sl__law_is_told⟩)
    (c__law_is_told : PySem.W.codeIn K cd__law_is_told "_law_is_told" = true)
    (k__law_is_told : PySem.W.keepIn K (.ref f__law_is_told) = true)
    (a_law : PySem.W.nsIn K mainGlobals "law" = some (some (.ref f_law)))
    (l_law : K.lookup f_law = some ⟨oc_law, od_law, .func (PySem.W.fnOf "law" "law" (defArgs s_law) (defBody s_law) (defScope s_law) .none kV_law dc_law pm_law an_law cd_law ct_law), sl_law⟩)
    (c_law : PySem.W.codeIn K cd_law "law" = true)
    (k_law : PySem.W.keepIn K (.ref f_law) = true)
    (z_all : PySem.W.nsIn K mainGlobals "all" = some none)
    (z_bool : PySem.W.nsIn K mainGlobals "bool" = some none)
    (z_int : PySem.W.nsIn K mainGlobals "int" = some none)
    (z_isinstance : PySem.W.nsIn K mainGlobals "isinstance" = some none)
    (z_len : PySem.W.nsIn K mainGlobals "len" = some none)
    (z_list : PySem.W.nsIn K mainGlobals "list" = some none)
    (z_min : PySem.W.nsIn K mainGlobals "min" = some none)
    (z_range : PySem.W.nsIn K mainGlobals "range" = some none)
    (z_set : PySem.W.nsIn K mainGlobals "set" = some none)
    (z_sorted : PySem.W.nsIn K mainGlobals "sorted" = some none)
    (z_str : PySem.W.nsIn K mainGlobals "str" = some none)
    (z_sum : PySem.W.nsIn K mainGlobals "sum" = some none)
    (z_tuple : PySem.W.nsIn K mainGlobals "tuple" = some none)
    (gv_LETTERS : PySem.W.nsIn K mainGlobals "LETTERS" = some (some (.str "abcdefghijklmnopqrstuvwxyz" tk_LETTERS)))
    (gv_MOST_ALIKE : PySem.W.nsIn K mainGlobals "MOST_ALIKE" = some (some (.int 1000000000000000000000000000000 tk_MOST_ALIKE)))
    (gv_MOST_NAME : PySem.W.nsIn K mainGlobals "MOST_NAME" = some (some (.int 8 tk_MOST_NAME)))
    (gv_MOST_POINTS : PySem.W.nsIn K mainGlobals "MOST_POINTS" = some (some (.int 1000000000 tk_MOST_POINTS)))
    (gv_MOST_STOCKS : PySem.W.nsIn K mainGlobals "MOST_STOCKS" = some (some (.int 200 tk_MOST_STOCKS))) :
    ∃ fd : FuncData, (∀ (s : Shared) (v : Value), BindsTo s fd ⟨[v], []⟩ [("_law_script", v)]) ∧ ∀ base : Heap, K.In base → base.Ns mainGlobals mg → FnOk l.prog w K mg base (L2.CX l.prog w) 15 fa fd ["_law_script"] (spLaw K) := by
  have e := hfa.symm.trans (PySem.W.mg_of X G a_law)
  cases e
  let cl : CTab := ⟨fun c => if c = "NoStocks" then some (C_NoStocks, []) else none, l.prog, w⟩
  have T : Txt l.prog w K mg cl := { wp := rfl, ww := rfl, b_all := PySem.W.mg_none_of X G z_all, b_bool := PySem.W.mg_none_of X G z_bool, b_int := PySem.W.mg_none_of X G z_int, b_isinstance := PySem.W.mg_none_of X G z_isinstance, b_len := PySem.W.mg_none_of X G z_len, b_list := PySem.W.mg_none_of X G z_list, b_min := PySem.W.mg_none_of X G z_min, b_range := PySem.W.mg_none_of X G z_range, b_set := PySem.W.mg_none_of X G z_set, b_sorted := PySem.W.mg_none_of X G z_sorted, b_str := PySem.W.mg_none_of X G z_str, b_sum := PySem.W.mg_none_of X G z_sum, b_tuple := PySem.W.mg_none_of X G z_tuple, g_LETTERS := glStr (PySem.W.mg_of X G gv_LETTERS), g_MOST_ALIKE := glInt (PySem.W.mg_of X G gv_MOST_ALIKE), g_MOST_NAME := glInt (PySem.W.mg_of X G gv_MOST_NAME), g_MOST_POINTS := glInt (PySem.W.mg_of X G gv_MOST_POINTS), g_MOST_STOCKS := glInt (PySem.W.mg_of X G gv_MOST_STOCKS), r_NoStocks := ⟨C_NoStocks, ⟨by rfl, PySem.W.mg_of X G aC_NoStocks, xf_NoStocks, kc_NoStocks, bf_NoStocks, tf_NoStocks⟩⟩ }
  have G__law_source := fun_mk (st := s__law_source) l__law_source c__law_source k__law_source
  have b__law_source := G__law_source.binds (ps := ["_law_script", "_law_at"]) fun _ _ _ _ _ _ us hl => match us, hl with | [_, _], _ => rfl
  have cc__law_source : Cal K mg "_law_source" f__law_source _ ["_law_script", "_law_at"] := ⟨PySem.W.mg_of X G a__law_source, k__law_source, b__law_source⟩
  have G__law_take := fun_mk (st := s__law_take) l__law_take c__law_take k__law_take
  have b__law_take := G__law_take.binds (ps := ["_law_source_here", "_law_many"]) fun _ _ _ _ _ _ us hl => match us, hl with | [_, _], _ => rfl
  have cc__law_take : Cal K mg "_law_take" f__law_take _ ["_law_source_here", "_law_many"] := ⟨PySem.W.mg_of X G a__law_take, k__law_take, b__law_take⟩
  have G__law_names := fun_mk (st := s__law_names) l__law_names c__law_names k__law_names
  have b__law_names := G__law_names.binds (ps := ["_law_source_here", "_law_many"]) fun _ _ _ _ _ _ us hl => match us, hl with | [_, _], _ => rfl
  have cc__law_names : Cal K mg "_law_names" f__law_names _ ["_law_source_here", "_law_many"] := ⟨PySem.W.mg_of X G a__law_names, k__law_names, b__law_names⟩
  have G__law_falling := fun_mk (st := s__law_falling) l__law_falling c__law_falling k__law_falling
  have b__law_falling := G__law_falling.binds (ps := ["_law_rows", "_law_name", "_law_side"]) fun _ _ _ _ _ _ us hl => match us, hl with | [_, _, _], _ => rfl
  have cc__law_falling : Cal K mg "_law_falling" f__law_falling _ ["_law_rows", "_law_name", "_law_side"] := ⟨PySem.W.mg_of X G a__law_falling, k__law_falling, b__law_falling⟩
  have G__law_paired := fun_mk (st := s__law_paired) l__law_paired c__law_paired k__law_paired
  have b__law_paired := G__law_paired.binds (ps := ["_law_one", "_law_other"]) fun _ _ _ _ _ _ us hl => match us, hl with | [_, _], _ => rfl
  have cc__law_paired : Cal K mg "_law_paired" f__law_paired _ ["_law_one", "_law_other"] := ⟨PySem.W.mg_of X G a__law_paired, k__law_paired, b__law_paired⟩
  have G__law_dues := fun_mk (st := s__law_dues) l__law_dues c__law_dues k__law_dues
  have b__law_dues := G__law_dues.binds (ps := ["_law_rows"]) fun _ _ _ _ _ _ us hl => match us, hl with | [_], _ => rfl
  have cc__law_dues : Cal K mg "_law_dues" f__law_dues _ ["_law_rows"] := ⟨PySem.W.mg_of X G a__law_dues, k__law_dues, b__law_dues⟩
  have G__law_number := fun_mk (st := s__law_number) l__law_number c__law_number k__law_number
  have b__law_number := G__law_number.binds (ps := ["_law_source_here", "_law_most"]) fun _ _ _ _ _ _ us hl => match us, hl with | [_, _], _ => rfl
  have cc__law_number : Cal K mg "_law_number" f__law_number _ ["_law_source_here", "_law_most"] := ⟨PySem.W.mg_of X G a__law_number, k__law_number, b__law_number⟩
  have G__law_row := fun_mk (st := s__law_row) l__law_row c__law_row k__law_row
  have b__law_row := G__law_row.binds (ps := ["_law_source_here", "_law_names_here"]) fun _ _ _ _ _ _ us hl => match us, hl with | [_, _], _ => rfl
  have cc__law_row : Cal K mg "_law_row" f__law_row _ ["_law_source_here", "_law_names_here"] := ⟨PySem.W.mg_of X G a__law_row, k__law_row, b__law_row⟩
  have G__law_is_int := fun_mk (st := s__law_is_int) l__law_is_int c__law_is_int k__law_is_int
  have b__law_is_int := G__law_is_int.binds (ps := ["_law_thing"]) fun _ _ _ _ _ _ us hl => match us, hl with | [_], _ => rfl
  have cc__law_is_int : Cal K mg "_law_is_int" f__law_is_int _ ["_law_thing"] := ⟨PySem.W.mg_of X G a__law_is_int, k__law_is_int, b__law_is_int⟩
  have G__law_same := fun_mk (st := s__law_same) l__law_same c__law_same k__law_same
  have b__law_same := G__law_same.binds (ps := ["_law_found", "_law_due"]) fun _ _ _ _ _ _ us hl => match us, hl with | [_, _], _ => rfl
  have cc__law_same : Cal K mg "_law_same" f__law_same _ ["_law_found", "_law_due"] := ⟨PySem.W.mg_of X G a__law_same, k__law_same, b__law_same⟩
  have G_is_listed := fun_mk (st := s_is_listed) l_is_listed c_is_listed k_is_listed
  have b_is_listed := G_is_listed.binds (ps := ["thing"]) fun _ _ _ _ _ _ us hl => match us, hl with | [_], _ => rfl
  have cc_is_listed : Cal K mg "is_listed" f_is_listed _ ["thing"] := ⟨PySem.W.mg_of X G a_is_listed, k_is_listed, b_is_listed⟩
  have G_is_integer := fun_mk (st := s_is_integer) l_is_integer c_is_integer k_is_integer
  have b_is_integer := G_is_integer.binds (ps := ["thing"]) fun _ _ _ _ _ _ us hl => match us, hl with | [_], _ => rfl
  have cc_is_integer : Cal K mg "is_integer" f_is_integer _ ["thing"] := ⟨PySem.W.mg_of X G a_is_integer, k_is_integer, b_is_integer⟩
  have G_is_within := fun_mk (st := s_is_within) l_is_within c_is_within k_is_within
  have b_is_within := G_is_within.binds (ps := ["thing", "least", "most"]) fun _ _ _ _ _ _ us hl => match us, hl with | [_, _, _], _ => rfl
  have cc_is_within : Cal K mg "is_within" f_is_within _ ["thing", "least", "most"] := ⟨PySem.W.mg_of X G a_is_within, k_is_within, b_is_within⟩
  have G_is_letters := fun_mk (st := s_is_letters) l_is_letters c_is_letters k_is_letters
  have b_is_letters := G_is_letters.binds (ps := ["thing", "most"]) fun _ _ _ _ _ _ us hl => match us, hl with | [_, _], _ => rfl
  have cc_is_letters : Cal K mg "is_letters" f_is_letters _ ["thing", "most"] := ⟨PySem.W.mg_of X G a_is_letters, k_is_letters, b_is_letters⟩
  have G_is_name := fun_mk (st := s_is_name) l_is_name c_is_name k_is_name
  have b_is_name := G_is_name.binds (ps := ["thing"]) fun _ _ _ _ _ _ us hl => match us, hl with | [_], _ => rfl
  have cc_is_name : Cal K mg "is_name" f_is_name _ ["thing"] := ⟨PySem.W.mg_of X G a_is_name, k_is_name, b_is_name⟩
  have G_is_stock := fun_mk (st := s_is_stock) l_is_stock c_is_stock k_is_stock
  have b_is_stock := G_is_stock.binds (ps := ["thing"]) fun _ _ _ _ _ _ us hl => match us, hl with | [_], _ => rfl
  have cc_is_stock : Cal K mg "is_stock" f_is_stock _ ["thing"] := ⟨PySem.W.mg_of X G a_is_stock, k_is_stock, b_is_stock⟩
  have G_check_stocks := fun_mk (st := s_check_stocks) l_check_stocks c_check_stocks k_check_stocks
  have b_check_stocks := G_check_stocks.binds (ps := ["stocks"]) fun _ _ _ _ _ _ us hl => match us, hl with | [_], _ => rfl
  have cc_check_stocks : Cal K mg "check_stocks" f_check_stocks _ ["stocks"] := ⟨PySem.W.mg_of X G a_check_stocks, k_check_stocks, b_check_stocks⟩
  have G_names_of := fun_mk (st := s_names_of) l_names_of c_names_of k_names_of
  have b_names_of := G_names_of.binds (ps := ["stocks"]) fun _ _ _ _ _ _ us hl => match us, hl with | [_], _ => rfl
  have cc_names_of : Cal K mg "names_of" f_names_of _ ["stocks"] := ⟨PySem.W.mg_of X G a_names_of, k_names_of, b_names_of⟩
  have G_points_by_levels := fun_mk (st := s_points_by_levels) l_points_by_levels c_points_by_levels k_points_by_levels
  have b_points_by_levels := G_points_by_levels.binds (ps := ["rows"]) fun _ _ _ _ _ _ us hl => match us, hl with | [_], _ => rfl
  have cc_points_by_levels : Cal K mg "points_by_levels" f_points_by_levels _ ["rows"] := ⟨PySem.W.mg_of X G a_points_by_levels, k_points_by_levels, b_points_by_levels⟩
  have G_stock_points := fun_mk (st := s_stock_points) l_stock_points c_stock_points k_stock_points
  have b_stock_points := G_stock_points.binds (ps := ["stocks"]) fun _ _ _ _ _ _ us hl => match us, hl with | [_], _ => rfl
  have cc_stock_points : Cal K mg "stock_points" f_stock_points _ ["stocks"] := ⟨PySem.W.mg_of X G a_stock_points, k_stock_points, b_stock_points⟩
  have G_met_of := fun_mk (st := s_met_of) l_met_of c_met_of k_met_of
  have b_met_of := G_met_of.binds (ps := ["stocks"]) fun _ _ _ _ _ _ us hl => match us, hl with | [_], _ => rfl
  have cc_met_of : Cal K mg "met_of" f_met_of _ ["stocks"] := ⟨PySem.W.mg_of X G a_met_of, k_met_of, b_met_of⟩
  have G_stock_met := fun_mk (st := s_stock_met) l_stock_met c_stock_met k_stock_met
  have b_stock_met := G_stock_met.binds (ps := ["stocks"]) fun _ _ _ _ _ _ us hl => match us, hl with | [_], _ => rfl
  have cc_stock_met : Cal K mg "stock_met" f_stock_met _ ["stocks"] := ⟨PySem.W.mg_of X G a_stock_met, k_stock_met, b_stock_met⟩
  have G__law_is_told := fun_mk (st := s__law_is_told) l__law_is_told c__law_is_told k__law_is_told
  have b__law_is_told := G__law_is_told.binds (ps := ["_law_rows", "_law_due"]) fun _ _ _ _ _ _ us hl => match us, hl with | [_, _], _ => rfl
  have cc__law_is_told : Cal K mg "_law_is_told" f__law_is_told _ ["_law_rows", "_law_due"] := ⟨PySem.W.mg_of X G a__law_is_told, k__law_is_told, b__law_is_told⟩
  have G_law := fun_mk (st := s_law) l_law c_law k_law
  refine ⟨PySem.W.fnOf "law" "law" (defArgs s_law) (defBody s_law) (defScope s_law) .none kV_law dc_law pm_law an_law cd_law ct_law, fun s v => .of_eq rfl, fun base _ _ => ?_⟩
  have F__law_source := ok__law_source (P := l.prog) (w := w) (base := base) T G__law_source 
  have F__law_take := ok__law_take (P := l.prog) (w := w) (base := base) T G__law_take 
  have F__law_names := ok__law_names (P := l.prog) (w := w) (base := base) T G__law_names cc__law_take F__law_take
  have F__law_falling := ok__law_falling (P := l.prog) (w := w) (base := base) T G__law_falling 
  have F__law_paired := ok__law_paired (P := l.prog) (w := w) (base := base) T G__law_paired 
  have F__law_dues := ok__law_dues (P := l.prog) (w := w) (base := base) T G__law_dues cc__law_falling F__law_falling cc__law_paired F__law_paired
  have F__law_number := ok__law_number (P := l.prog) (w := w) (base := base) T G__law_number cc__law_take F__law_take
  have F__law_row := ok__law_row (P := l.prog) (w := w) (base := base) T G__law_row cc__law_number F__law_number cc__law_take F__law_take
  have F__law_is_int := ok__law_is_int (P := l.prog) (w := w) (base := base) T G__law_is_int 
  have F__law_same := ok__law_same (P := l.prog) (w := w) (base := base) T G__law_same cc__law_same  cc__law_is_int F__law_is_int 12
  have F_is_listed := ok_is_listed (P := l.prog) (w := w) (base := base) T G_is_listed 
  have F_is_integer := ok_is_integer (P := l.prog) (w := w) (base := base) T G_is_integer 
  have F_is_within := ok_is_within (P := l.prog) (w := w) (base := base) T G_is_within cc_is_integer F_is_integer
  have F_is_letters := ok_is_letters (P := l.prog) (w := w) (base := base) T G_is_letters 
  have F_is_name := ok_is_name (P := l.prog) (w := w) (base := base) T G_is_name cc_is_letters F_is_letters
  have F_is_stock := ok_is_stock (P := l.prog) (w := w) (base := base) T G_is_stock cc_is_name F_is_name cc_is_within F_is_within
  have F_check_stocks := ok_check_stocks (P := l.prog) (w := w) (base := base) T G_check_stocks cc_is_listed F_is_listed cc_is_stock F_is_stock
  have F_names_of := ok_names_of (P := l.prog) (w := w) (base := base) T G_names_of 
  have F_points_by_levels := ok_points_by_levels (P := l.prog) (w := w) (base := base) T G_points_by_levels 
  have F_stock_points := ok_stock_points (P := l.prog) (w := w) (base := base) T G_stock_points cc_check_stocks F_check_stocks cc_names_of F_names_of cc_points_by_levels F_points_by_levels
  have F_met_of := ok_met_of (P := l.prog) (w := w) (base := base) T G_met_of cc_names_of F_names_of
  have F_stock_met := ok_stock_met (P := l.prog) (w := w) (base := base) T G_stock_met cc_check_stocks F_check_stocks cc_met_of F_met_of
  have F__law_is_told := ok__law_is_told (P := l.prog) (w := w) (base := base) T G__law_is_told cc__law_same F__law_same cc_stock_met F_stock_met cc_stock_points F_stock_points
  exact ok_law T nl G_law cc__law_dues F__law_dues cc__law_is_told F__law_is_told cc__law_names F__law_names cc__law_row F__law_row cc__law_same F__law_same cc__law_source F__law_source cc__law_take F__law_take cc_stock_met F_stock_met cc_stock_points F_stock_points
theorem walk {l : PySem.W.OpenLaw} {q : Program} {loose : List Str} {XP : (Str → Option Value) → Heap → Prop} {YP : World → Heap → Prop} {d : DefRec} {K : Params → PySem.W.Frag} (hn : l.most = some 63) (hdf : d.params.defaults = [])
    (hY : ∀ (w : World) (h : Heap), YP w h → (K w.params).In h)
    (F : ∀ (w : World) (mg : Str → Option Value) (fa : Addr) (h : Heap), (K w.params).In h → h.Ns mainGlobals mg → mg d.name = some (.ref fa) →
      ∃ fd : FuncData, (∀ (s : Shared) (u : Value), BindsTo s fd ⟨[u], []⟩ [("_law_script", u)]) ∧ ∀ base : Heap, (K w.params).In base → base.Ns mainGlobals mg → FnOk l.prog w (K w.params) mg base (L2.CX l.prog w) 15 fa fd ["_law_script"] (spLaw (K w.params))) :
    PySem.W.WalkO q loose XP YP l.row.toRowW d [] (fun f vs => PySem.call f vs) :=
  L2.walk_of (n := 63) (k := 15) (x := "_law_script") (CX := fun w => L2.CX l.prog w) (sp := fun w => spLaw (K w.params)) hn (by decide) hdf ⟨rfl, by decide, by decide⟩ hY F (fun _ _ a ns hl _ hS => ⟨a, ns, rfl, hS, hl, fun _ => rfl⟩) fun _ _ _ _ _ z => by first | exact z | (obtain ⟨_, _, _, _, _, z⟩ := z; exact z) | simpa [L2.CX] using z
end LW
open PySem PySem.W PyProof.Rows
set_option maxRecDepth 100000 in
set_option maxHeartbeats 0 in
theorem PySem.Challenge.cw_untoldgames_k74_whole_stocks_in_great_nu_holds : PySem.Challenge.rw_untoldgames_k74_whole_stocks_in_great_nu.Holds := by
  w_on; o_law; k_head; (case hw => w_witness2)
  k_fill
  refine LW.walk (l := PySem.Challenge.rw_untoldgames_k74_whole_stocks_in_great_nu) rfl rfl (fun w h Y => PySem.W.kIn_of Y) ?F
  case F =>
    intro w mg fa h KX G hmg
    refine' LW.all_mk KX G hmg ?nl ?aC_NoStocks ?bf_NoStocks ?tf_NoStocks ?kc_NoStocks ?xf_NoStocks ?a__law_source ?l__law_source ?c__law_source ?k__law_source ?a__law_take ?l__law_take ?c__law_take ?k__law_take ?a__law_names ?l__law_names ?c__law_names ?k__law_names ?a__law_falling ?l__law_falling ?c__law_falling ?k__law_falling ?a__law_paired ?l__law_paired ?c__law_paired ?k__law_paired ?a__law_dues ?l__law_dues ?c__law_dues ?k__law_dues ?a__law_number ?l__law_number ?c__law_number ?k__law_number ?a__law_row ?l__law_row ?c__law_row ?k__law_row ?a__law_is_int ?l__law_is_int ?c__law_is_int ?k__law_is_int ?a__law_same ?l__law_same ?c__law_same ?k__law_same ?a_is_listed ?l_is_listed ?c_is_listed ?k_is_listed ?a_is_integer ?l_is_integer ?c_is_integer ?k_is_integer ?a_is_within ?l_is_within ?c_is_within ?k_is_within ?a_is_letters ?l_is_letters ?c_is_letters ?k_is_letters ?a_is_name ?l_is_name ?c_is_name ?k_is_name ?a_is_stock ?l_is_stock ?c_is_stock ?k_is_stock ?a_check_stocks ?l_check_stocks ?c_check_stocks ?k_check_stocks ?a_names_of ?l_names_of ?c_names_of ?k_names_of ?a_points_by_levels ?l_points_by_levels ?c_points_by_levels ?k_points_by_levels ?a_stock_points ?l_stock_points ?c_stock_points ?k_stock_points ?a_met_of ?l_met_of ?c_met_of ?k_met_of ?a_stock_met ?l_stock_met ?c_stock_met ?k_stock_met ?a__law_is_told ?l__law_is_told ?c__law_is_told ?k__law_is_told ?a_law ?l_law ?c_law ?k_law ?z_all ?z_bool ?z_int ?z_isinstance ?z_len ?z_list ?z_min ?z_range ?z_set ?z_sorted ?z_str ?z_sum ?z_tuple ?gv_LETTERS ?gv_MOST_ALIKE ?gv_MOST_NAME ?gv_MOST_POINTS ?gv_MOST_STOCKS
    (case nl => kernel_rfl)
    (case aC_NoStocks => k_is)
    (case bf_NoStocks => k_is)
    (case tf_NoStocks => k_is)
    (case kc_NoStocks => k_is)
    (case xf_NoStocks => k_exc)
    (case a__law_source => k_is)
    (case l__law_source => k_is)
    (case c__law_source => k_is)
    (case k__law_source => k_is)
    (case a__law_take => k_is)
    (case l__law_take => k_is)
    (case c__law_take => k_is)
    (case k__law_take => k_is)
    (case a__law_names => k_is)
    (case l__law_names => k_is)
    (case c__law_names => k_is)
    (case k__law_names => k_is)
    (case a__law_falling => k_is)
    (case l__law_falling => k_is)
    (case c__law_falling => k_is)
    (case k__law_falling => k_is)
    (case a__law_paired => k_is)
    (case l__law_paired => k_is)
    (case c__law_paired => k_is)
    (case k__law_paired => k_is)
    (case a__law_dues => k_is)
    (case l__law_dues => k_is)
    (case c__law_dues => k_is)
    (case k__law_dues => k_is)
    (case a__law_number => k_is)
    (case l__law_number => k_is)
    (case c__law_number => k_is)
    (case k__law_number => k_is)
    (case a__law_row => k_is)
    (case l__law_row => k_is)
    (case c__law_row => k_is)
    (case k__law_row => k_is)
    (case a__law_is_int => k_is)
    (case l__law_is_int => k_is)
    (case c__law_is_int => k_is)
    (case k__law_is_int => k_is)
    (case a__law_same => k_is)
    (case l__law_same => k_is)
    (case c__law_same => k_is)
    (case k__law_same => k_is)
    (case a_is_listed => k_is)
    (case l_is_listed => k_is)
    (case c_is_listed => k_is)
    (case k_is_listed => k_is)
    (case a_is_integer => k_is)
    (case l_is_integer => k_is)
    (case c_is_integer => k_is)
    (case k_is_integer => k_is)
    (case a_is_within => k_is)
    (case l_is_within => k_is)
    (case c_is_within => k_is)
    (case k_is_within => k_is)
    (case a_is_letters => k_is)
    (case l_is_letters => k_is)
    (case c_is_letters => k_is)
    (case k_is_letters => k_is)
    (case a_is_name => k_is)
    (case l_is_name => k_is)
    (case c_is_name => k_is)
    (case k_is_name => k_is)
    (case a_is_stock => k_is)
    (case l_is_stock => k_is)
    (case c_is_stock => k_is)
    (case k_is_stock => k_is)
    (case a_check_stocks => k_is)
    (case l_check_stocks => k_is)
    (case c_check_stocks => k_is)
    (case k_check_stocks => k_is)
    (case a_names_of => k_is)
    (case l_names_of => k_is)
    (case c_names_of => k_is)
    (case k_names_of => k_is)
    (case a_points_by_levels => k_is)
    (case l_points_by_levels => k_is)
    (case c_points_by_levels => k_is)
    (case k_points_by_levels => k_is)
    (case a_stock_points => k_is)
    (case l_stock_points => k_is)
    (case c_stock_points => k_is)
    (case k_stock_points => k_is)
    (case a_met_of => k_is)
    (case l_met_of => k_is)
    (case c_met_of => k_is)
    (case k_met_of => k_is)
    (case a_stock_met => k_is)
    (case l_stock_met => k_is)
    (case c_stock_met => k_is)
    (case k_stock_met => k_is)
    (case a__law_is_told => k_is)
    (case l__law_is_told => k_is)
    (case c__law_is_told => k_is)
    (case k__law_is_told => k_is)
    (case a_law => k_is)
    (case l_law => k_is)
    (case c_law => k_is)
    (case k_law => k_is)
    (case z_all => k_is)
    (case z_bool => k_is)
    (case z_int => k_is)
    (case z_isinstance => k_is)
    (case z_len => k_is)
    (case z_list => k_is)
    (case z_min => k_is)
    (case z_range => k_is)
    (case z_set => k_is)
    (case z_sorted => k_is)
    (case z_str => k_is)
    (case z_sum => k_is)
    (case z_tuple => k_is)
    (case gv_LETTERS => k_is)
    (case gv_MOST_ALIKE => k_is)
    (case gv_MOST_NAME => k_is)
    (case gv_MOST_POINTS => k_is)
    (case gv_MOST_STOCKS => k_is)
